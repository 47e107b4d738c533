import PyProof.Rows.All
import HandS.ForMost
import HandS.Walk
import HandS.Deep
import HandS.Wide
import HandS.FStr
import HandS.Style
import HandS.TupAny
import HandS.IsInst
import HandS.Conv
import HandS.SortInts
import HandS.Star
import KE.GoesMore
import HandS.Iter
import KE.KxField
import PyProof.ListIndex
import PyProof.CollectStr
import PyProof.Rows.SortShellAny
import PyProof.Rows.SortStr
import PyProof.Rows.StrMeet
import HandS.Text
import PySem.Challenge.RW_nextboards_k02_whole_boards
set_option Elab.async false
set_option linter.all false
set_option maxRecDepth 100000
set_option autoImplicit false
set_option maxHeartbeats 0
namespace Mn
open PySem
abbrev D := PyData

/-! ## slots, values -/
inductive Slot where
  | d (x : D)
  | own (xs : List D)
  | io (xs : List D)
  | scr (ns : List Int)
  | dct (kvs : List (Int × D))
  | dtt (kvs : List (List Int × D))
abbrev Env := List (Option Slot)
inductive Val where
  | d (x : D)
  | own (xs : List D)
  | dct (kvs : List (Int × D))
  | dtt (kvs : List (List Int × D))

/-! ## the mini syntax -/
inductive TyN where
  | int | bool | str | list | tuple
  deriving DecidableEq
inductive BI where
  | len | min1 | max1 | sum | all | any | sorted | list | tuple | int | str
  | min2 | max2
  deriving DecidableEq
inductive Tg where
  | nm (i : Nat)
  | nil
  | cons (a b : Tg)
inductive Ex where
  | var (i : Nat)
  | cst (x : D)
  | glb (x : Str) (v : D)
  | bin (op : Operator) (a b : Ex)
  | neg (a : Ex)
  | cmp (op : CmpOp) (a b : Ex)
  | cmp2 (o1 o2 : CmpOp) (a b c : Ex)
  | and (a b : Ex)
  | or (a b : Ex)
  | not (a : Ex)
  | ife (t a b : Ex)
  | ix (a i : Ex)
  | slc (a lo hi : Ex)
  | rev (a : Ex)
  | tup (args : Ex)
  | lst (args : Ex)
  | emp
  | con (e rest : Ex)
  | str (e rest : Ex)
  | call (f : Nat) (args : Ex)
  | callo (f : Nat) (k : Nat) (args : Ex)
  | bi1 (b : BI) (a : Ex)
  | bi2 (b : BI) (a c : Ex)
  | isT (a : Ex) (ts : List TyN) (tup : Bool)
  | lscr (k : Nat)
  | lrng (args : Ex)
  | join (sep : Ex) (a : Ex)
  | split (a sep : Ex)
  | index (k : Nat) (x : Ex)
  | popAt (k : Nat) (i : Ex)
  | pop (k : Nat)
  | dnew
  | dnewT
  | dkT (k j : Nat)
  | sset (a : Ex)
  | srts (a : Ex)
  | dget (k : Nat) (i : Ex)
  | din (neg : Bool) (i : Ex) (k : Nat)
  | ddef (k : Nat) (i dflt : Ex)
  | dvals (k a b : Nat)
  | fst (args : Ex)
  | fmt (e : Ex)
  | fmt2 (e : Ex)
  | comp (own : List Nat) (tg : Tg) (it cond elt : Ex)
  | one (e : Ex)
  | rng (args : Ex)
  | enu (a : Ex)
  | zip (a b : Ex)
inductive Sx where
  | skip
  | seq (a b : Sx)
  | set (i : Nat) (e : Ex)
  | tset (tg : Tg) (e : Ex)
  | par2 (i j : Nat) (a b : Ex)
  | par3 (i j l : Nat) (a b c : Ex)
  | aug (i : Nat) (op : Operator) (e : Ex)
  | sti (k : Nat) (i e : Ex)
  | augi (k : Nat) (i : Ex) (op : Operator) (e : Ex)
  | dset (k : Nat) (i e : Ex)
  | dsetT (k : Nat) (i e : Ex)
  | app (k : Nat) (e : Ex)
  | ext (k : Nat) (e : Ex)
  | ins (k : Nat) (i e : Ex)
  | drp (e : Ex)
  | ife (t : Ex) (a b : Sx)
  | for (tg : Tg) (it : Ex) (body : Sx)
  | whl (t : Ex) (body : Sx)
  | ret (e : Ex)

/-! ## operations on data -/
def Val.dat : Val → D
  | .d x => x
  | .own xs => .list xs
  | .dct _ => .none
  | .dtt _ => .none
def Val.frz : Val → Option D
  | .d x => some x
  | .own xs => some (.list xs)
  | .dct _ => none
  | .dtt _ => none
def Val.slot : Val → Slot
  | .d x => .d x
  | .own xs => .own xs
  | .dct k => .dct k
  | .dtt k => .dtt k
def Val.scalar : Val → Bool
  | .d .none => true
  | .d (.bool _) => true
  | .d (.int _) => true
  | .d (.str _) => true
  | _ => false
def dInts : List D → Option (List Int)
  | [] => some []
  | .int i :: r => (dInts r).map (i :: ·)
  | _ :: _ => none
def dBools : List D → Option (List Bool)
  | [] => some []
  | .bool i :: r => (dBools r).map (i :: ·)
  | _ :: _ => none
def dStrs : List D → Option (List Str)
  | [] => some []
  | .str i :: r => (dStrs r).map (i :: ·)
  | _ :: _ => none
def cutA {α : Type} (xs : List α) (lo hi : Option Int) : List α := (xs.drop (HT.sIx xs.length 0 lo)).take (HT.sIx xs.length xs.length hi - HT.sIx xs.length 0 lo)
/-- less than: stuck at once where a number is not known -/
def ltI : Int → Int → Bool
  | .ofNat m, .ofNat n => Nat.blt m n
  | .ofNat _, .negSucc _ => false
  | .negSucc _, .ofNat _ => true
  | .negSucc m, .negSucc n => Nat.blt n m
@[simp] theorem ltI_eq (a b : Int) : ltI a b = decide (a < b) := by
  rw [Bool.eq_iff_iff, decide_eq_true_eq]
  cases a with
  | ofNat m =>
    cases b with
    | ofNat n => simp only [ltI, Nat.blt_eq]; exact Int.ofNat_lt.symm
    | negSucc n => simp only [ltI, Bool.false_eq_true, false_iff]; show ¬ (m : Int) < _; omega
  | negSucc m =>
    cases b with
    | ofNat n => simp only [ltI, true_iff]; show _ < (n : Int); omega
    | negSucc n => simp only [ltI, Nat.blt_eq]; omega
def inW (i : Int) : Bool := ltI (-18446744073709551616) i && ltI i 18446744073709551616
def binD (op : Operator) (a b : D) : Option Val :=
  match op, a, b with
  | .Add, .int i, .int j => some (.d (.int (i + j)))
  | .Add, .str x, .str y => if x.length + y.length ≤ 16777216 then some (.d (.str (x ++ y))) else none
  | .Add, .list xs, .list ys => if xs.length + ys.length ≤ 16777216 then some (.own (xs ++ ys)) else none
  | .Add, .tuple xs, .tuple ys => if xs.length + ys.length ≤ 16777216 then some (.d (.tuple (xs ++ ys))) else none
  | .Sub, .int i, .int j => some (.d (.int (i - j)))
  | .Mult, .int i, .int j => if inW i || inW j then some (.d (.int (i * j))) else none
  | .Mult, .list xs, .int k => if 0 ≤ k ∧ k < 1000000 ∧ xs.length * k.toNat ≤ 16777216 then some (.own (List.replicate k.toNat xs).flatten) else none
  | .FloorDiv, .int i, .int j => if 0 < j ∧ j < 18446744073709551616 then some (.d (.int (i / j))) else none
  | .Mod, .int i, .int j => if 0 < j then some (.d (.int (i % j))) else none
  | .Pow, .int i, .int j => if 0 ≤ j ∧ j ≤ 1000000 ∧ i.natAbs < 18446744073709551616 then some (.d (.int (i ^ j.toNat))) else none
  | .LShift, .int i, .int j => if 0 ≤ j ∧ j ≤ 1000000 ∧ i.natAbs < 18446744073709551616 then some (.d (.int (i * 2 ^ j.toNat))) else none
  | _, _, _ => none
def eqD (a b : D) : Option Bool := if a.depth ≤ 64 ∧ b.depth ≤ 64 then some (PyData.eqv a b) else none
def inD (x c : D) : Option Bool :=
  match c with
  | .str z => (match x with
    | .str y => (match y.cps.toList with
      | [s] => some (decide (s ∈ z.cps.toList))
      | _ => none)
    | _ => none)
  | .list ds => if x.depth ≤ 64 ∧ (PyData.list ds).depth ≤ 64 then some (ds.any fun z => PyData.eqv z x) else none
  | .tuple ds => if x.depth ≤ 64 ∧ (PyData.tuple ds).depth ≤ 64 then some (ds.any fun z => PyData.eqv z x) else none
  | _ => none
def isNon : D → Bool
  | .none => true
  | _ => false
def isD (a b : D) : Option Bool :=
  match b with
  | .none => some (isNon a)
  | .bool y => (match a with | .bool x => some (decide (x = y)) | _ => none)
  | _ => none
def cmpD (op : CmpOp) (a b : D) : Option Bool :=
  match op with
  | .Eq => eqD a b
  | .NotEq => (eqD a b).map (!·)
  | .Lt => (match a, b with | .int i, .int j => some (decide (i < j)) | _, _ => none)
  | .LtE => (match a, b with | .int i, .int j => some (decide (i ≤ j)) | _, _ => none)
  | .Gt => (match a, b with | .int i, .int j => some (decide (j < i)) | _, _ => none)
  | .GtE => (match a, b with | .int i, .int j => some (decide (j ≤ i)) | _, _ => none)
  | .In => inD a b
  | .NotIn => (inD a b).map (!·)
  | .Is => isD a b
  | .IsNot => (isD a b).map (!·)
def ixD (a i : D) : Option D :=
  match i with
  | .int k => (match a with
    | .list xs => L2.atI xs k
    | .tuple xs => L2.atI xs k
    | .str z => (L2.atI z.cps.toList k).map fun c => .str ⟨#[c]⟩
    | _ => none)
  | _ => none
def optI : Option D → Option (Option Int)
  | none => some none
  | some (.int i) => some (some i)
  | _ => none
def slD (a : D) (lo hi : Option Int) : Option Val :=
  match a with
  | .list xs => some (.own (cutA xs lo hi))
  | .tuple xs => some (.d (.tuple (cutA xs lo hi)))
  | .str z => some (.d (.str (L2.cutS z lo hi)))
  | _ => none
def revD (a : D) : Option Val :=
  match a with
  | .list xs => some (.own xs.reverse)
  | .tuple xs => some (.d (.tuple xs.reverse))
  | _ => none
def minL : List Int → Option Int
  | [] => none
  | x :: r => some (r.foldl min x)
def maxL : List Int → Option Int
  | [] => none
  | x :: r => some (r.foldl max x)

/-- order: ints, texts, tuples of such -/
def kindD : D → Nat
  | .int _ => 1
  | .str _ => 2
  | _ => 0
mutual
def ltB : D → D → Bool
  | .int i, .int j => decide (i < j)
  | .str x, .str y => decide (x.cps.toList < y.cps.toList)
  | .tuple xs, .tuple ys => ltBs xs ys
  | _, _ => false
def ltBs : List D → List D → Bool
  | [], [] => false
  | [], _ :: _ => true
  | _ :: _, [] => false
  | x :: xs, y :: ys => if PyData.eqv x y then ltBs xs ys else ltB x y
end
/-- the kinds of the places -/
def sigOk : List Nat → List D → Bool
  | _, [] => true
  | [], _ :: _ => false
  | k :: ks, x :: xs => (k != 0 && kindD x == k) && sigOk ks xs
def sigOf : D → List Nat
  | .tuple xs => xs.map kindD
  | _ => []
def tupSig (sg : List Nat) : D → Bool
  | .tuple (x :: xs) => sigOk sg (x :: xs)
  | _ => false
def longest : List (List Nat) → List Nat
  | [] => []
  | x :: r => if (longest r).length < x.length then x else longest r
def sortOk (ds : List D) : Bool :=
  ds.all (fun d => kindD d == 1) || ds.all (tupSig (longest (ds.map sigOf)))
def insD (x : D) : List D → List D
  | [] => [x]
  | y :: ys => if ltB y x then y :: insD x ys else x :: y :: ys
def isortD : List D → List D
  | [] => []
  | x :: xs => insD x (isortD xs)
def sortD (ds : List D) : Option (List D) := if sortOk ds then some (isortD ds) else none
def signs (z : Str) : List D := z.cps.toList.map fun c => .str ⟨#[c]⟩

def intStr (i : Int) : Str := toString i
def bi1D (b : BI) (x : D) : Option Val :=
  match b with
  | .len => (match x with
    | .list xs => some (.d (.int xs.length))
    | .tuple xs => some (.d (.int xs.length))
    | .str z => some (.d (.int z.length))
    | _ => none)
  | .min1 => (match x with | .list xs => (dInts xs).bind fun ns => (minL ns).map fun m => .d (.int m) | _ => none)
  | .max1 => (match x with | .list xs => (dInts xs).bind fun ns => (maxL ns).map fun m => .d (.int m) | _ => none)
  | .sum => (match x with | .list xs => (dInts xs).map fun ns => .d (.int ns.sum) | _ => none)
  | .all => (match x with | .list xs => (dBools xs).map fun bs => .d (.bool (bs.all id)) | _ => none)
  | .any => (match x with | .list xs => (dBools xs).map fun bs => .d (.bool (bs.any id)) | _ => none)
  | .sorted => (match x with
    | .list xs => (sortD xs).map .own
    | _ => none)
  | .list => (match x with | .list xs => some (.own xs) | .tuple xs => some (.own xs) | _ => none)
  | .tuple => (match x with | .list xs => some (.d (.tuple xs)) | .tuple xs => some (.d (.tuple xs)) | _ => none)
  | .int => (match x with
    | .int i => some (.d (.int i))
    | .bool b => some (.d (.int (if b then 1 else 0)))
    | .str z => if z.length ≤ 640 then (intText? z).map fun n => .d (.int n) else none
    | _ => none)
  | .str => (match x with | .int i => if i.natAbs.log2 < 1920 then some (.d (.str (intStr i))) else none | _ => none)
  | .min2 => none
  | .max2 => none
def bi2D (b : BI) (x y : D) : Option Val :=
  match b, x, y with
  | .min2, .int i, .int j => some (.d (.int (if j < i then j else i)))
  | .max2, .int i, .int j => some (.d (.int (if j > i then j else i)))
  | _, _, _ => none
def tyOf : D → Option TyN
  | .bool _ => some .bool
  | .int _ => some .int
  | .str _ => some .str
  | .list _ => some .list
  | .tuple _ => some .tuple
  | _ => none
def isTD (x : D) (ts : List TyN) : Bool :=
  match tyOf x with
  | none => false
  | some t => ts.any fun u => decide (u = t) || (decide (u = .int) && decide (t = .bool))
def rangeI (lo hi c : Int) : List D := if 0 < c then (List.range ((hi - lo + c - 1) / c).toNat).map fun i => .int (lo + (i : Nat) * c) else []
def inR (i : Int) : Bool := ltI (-1152921504606846976) i && ltI i 1152921504606846976
def rngD : List D → Option (List D)
  | [.int j] => if inR j && decide (j < 16777216) then some (rangeI 0 j 1) else none
  | [.int i, .int j] => if inR i && inR j && decide (j - i < 16777216) then some (rangeI i j 1) else none
  | [.int i, .int j, .int c] => if inR i && inR j && decide (j - i < 16777216) && decide (0 < c) && decide (c < 16777216) then some (rangeI i j c) else none
  | _ => none
def joinD (sep : Str) (xs : List Str) : Option Str := if (xs.map (·.length)).sum + xs.length * sep.length ≤ 16777216 then some (Str.join sep xs) else none
def enuD (xs : List D) : List D := xs.zipIdx.map fun p => .tuple [.int (p.2 : Nat), p.1]
def zipD (xs ys : List D) : List D := (xs.zip ys).map fun p => .tuple [p.1, p.2]
def iterD : D → Option (List D)
  | .list xs => some xs
  | .tuple xs => some xs
  | .str z => some (signs z)
  | _ => none
def enuOk : D → Option (List D)
  | .list xs => some (enuD xs)
  | .tuple xs => some (enuD xs)
  | _ => none
def dPut (kvs : List (Int × D)) (k : Int) (v : D) : List (Int × D) :=
  if (kvs.any fun p => decide (p.1 = k)) = true then kvs.map (fun p => if p.1 = k then (p.1, v) else p) else kvs ++ [(k, v)]
def tPut (kvs : List (List Int × D)) (k : List Int) (v : D) : List (List Int × D) :=
  if (kvs.any fun p => decide (p.1 = k)) = true then kvs.map (fun p => if p.1 = k then (p.1, v) else p) else kvs ++ [(k, v)]
def dedupS : List Str → List Str
  | [] => []
  | x :: r => if x ∈ dedupS r then dedupS r else x :: dedupS r
def ssD (ws : List Str) : List D := isortD ((dedupS ws).map .str)
def dLook (kvs : List (Int × D)) (k : Int) : Option D := (kvs.find? fun p => decide (p.1 = k)).map (·.2)
def fmtD : D → Option Str
  | .str z => some z
  | .int i => if i.natAbs.log2 < 1920 then some (intStr i) else none
  | _ => none
/-- {i:02} of 0 .. 99 -/
def fmt2D : D → Option Str
  | .int i => if 0 ≤ i ∧ i < 100 then some (if i < 10 then ("0" : Str) ++ intStr i else intStr i) else none
  | _ => none
def catAll : List D → Option Str
  | [] => some Str.empty
  | x :: r => match x with
    | .str z => (catAll r).map fun t => z ++ t
    | _ => none

/-! ## the evaluator -/
def Env.at (ρ : Env) (i : Nat) : Option Slot := (ρ[i]?).join
def Env.put (ρ : Env) (i : Nat) (s : Slot) : Env := List.set ρ i (some s)
def wipeE (ρ : Env) : List Nat → Env
  | [] => ρ
  | v :: vs => (wipeE ρ vs).set v none
def restE (ρ₀ ρ : Env) : List Nat → Env
  | [] => ρ
  | v :: vs => (restE ρ₀ ρ vs).set v (ρ₀.at v)
/-- what a slot holds, as data; nothing is frozen -/
def peek (ρ : Env) (k : Nat) : Option D :=
  match ρ.at k with
  | some (.d x) => some x
  | some (.own xs) => some (.list xs)
  | some (.io xs) => some (.list xs)
  | _ => none
/-- what may be handed to a def as data -/
def peekA (ρ : Env) (k : Nat) : Option D :=
  match ρ.at k with
  | some (.d x) => some x
  | some (.own xs) => some (.list xs)
  | _ => none
def dctAt (ρ : Env) (k : Nat) : Option (List (Int × D)) :=
  match ρ.at k with
  | some (.dct kvs) => some kvs
  | _ => none
def dttAt (ρ : Env) (k : Nat) : Option (List (List Int × D)) :=
  match ρ.at k with
  | some (.dtt kvs) => some kvs
  | _ => none
def listAt (ρ : Env) (k : Nat) : Option (List D) :=
  match peek ρ k with
  | some (.list xs) => some xs
  | _ => none
def mutAt (ρ : Env) (k : Nat) : Option (List D) :=
  match ρ.at k with
  | some (.own xs) => some xs
  | some (.io xs) => some xs
  | _ => none
def mutPut (ρ : Env) (k : Nat) (xs : List D) : Env :=
  match ρ.at k with
  | some (.io _) => ρ.put k (.io xs)
  | _ => ρ.put k (.own xs)
/-- the slot's value, frozen -/
def rdVar (ρ : Env) (k : Nat) : Option (Val × Env) :=
  match ρ.at k with
  | some (.d x) => some (.d x, ρ)
  | some (.own xs) => some (.d (.list xs), ρ.put k (.d (.list xs)))
  | _ => none
def frzAll (ρ : Env) : List Nat → Env
  | [] => ρ
  | k :: ks => match ρ.at k with
    | some (.own xs) => frzAll (ρ.put k (.d (.list xs))) ks
    | _ => frzAll ρ ks
mutual
def bindT : Tg → D → Env → Option Env
  | .nm i, x, ρ => if i < ρ.length then some (ρ.put i (.d x)) else none
  | .nil, .tuple [], ρ => some ρ
  | .cons a b, .tuple (x :: xs), ρ => (bindT a x ρ).bind fun ρ1 => bindL b xs ρ1
  | _, _, _ => none
def bindL : Tg → List D → Env → Option Env
  | .nil, [], ρ => some ρ
  | .cons a b, x :: xs, ρ => (bindT a x ρ).bind fun ρ1 => bindL b xs ρ1
  | _, _, _ => none
end
abbrev CallF := Nat → Option (List D) → List D → Option (Val × Option (List D))
/-- a comprehension's turns -/
def compL (own : List Nat) (bd : D → Env → Option Env) (cd : Env → Option (Bool × Env)) (el : Env → Option (D × Env)) : List D → List D → Env → Option (List D × Env)
  | [], acc, ρ => some (acc, ρ)
  | x :: xs, acc, ρ => (bd x ρ).bind fun ρ1 => (cd ρ1).bind fun r => if r.1 then (el r.2).bind fun q => compL own bd cd el xs (acc ++ [q.1]) (wipeE q.2 own) else compL own bd cd el xs acc (wipeE r.2 own)
def frzV : Option (Val × Env) → Option (D × Env)
  | some (v, ρ) => v.frz.map fun x => (x, ρ)
  | none => none
def toB : Option (Val × Env) → Option (Bool × Env)
  | some (.d (.bool b), ρ) => some (b, ρ)
  | _ => none
def isVar : Ex → Option Nat
  | .var k => some k
  | _ => none
/-- an operand that is only looked at: g its evaluation -/
def look (a : Ex) (g : Env → Option (Val × Env)) (ρ : Env) : Option (D × Env) :=
  match isVar a with
  | some k => (peek ρ k).map fun x => (x, ρ)
  | none => frzV (g ρ)
/-- two of them: a name on the left is looked up behind the right one -/
def look2 (a b : Ex) (ga gb : Env → Option (Val × Env)) (ρ : Env) : Option ((D × D) × Env) :=
  match isVar a with
  | some k => (peek ρ k).bind fun _ => (look b gb ρ).bind fun r => (peek r.2 k).map fun x => ((x, r.1), r.2)
  | none => (frzV (ga ρ)).bind fun q => (look b gb q.2).map fun r => ((q.1, r.1), r.2)
def indexL (x : D) : List D → Nat → Option Nat
  | [], _ => none
  | y :: ys, n => if PyData.eqv y x then some n else indexL x ys (n + 1)
def indexD (a x : D) : Option Nat :=
  match a with
  | .list xs => if x.depth ≤ 64 ∧ (PyData.list xs).depth ≤ 64 then indexL x xs 0 else none
  | _ => none
inductive Arg where
  | v (k : Nat)
  | d (x : D)
def argD (ρ : Env) : List Arg → Option (List D)
  | [] => some []
  | .v k :: r => (peekA ρ k).bind fun x => (argD ρ r).map (x :: ·)
  | .d x :: r => (argD ρ r).map (x :: ·)
def argK : List Arg → List Nat
  | [] => []
  | .v k :: r => k :: argK r
  | .d _ :: r => argK r
mutual
def ev (C : CallF) : Ex → Env → Option (Val × Env)
  | .var k, ρ => rdVar ρ k
  | .cst x, ρ => some (.d x, ρ)
  | .glb _ v, ρ => some (.d v, ρ)
  | .bin op a b, ρ => (look2 a b (ev C a) (ev C b) ρ).bind fun r => (binD op r.1.1 r.1.2).map fun v => (v, r.2)
  | .neg a, ρ => (frzV (ev C a ρ)).bind fun r => match r.1 with
    | .int i => some (.d (.int (-i)), r.2)
    | _ => none
  | .cmp op a b, ρ => (look2 a b (ev C a) (ev C b) ρ).bind fun r => (cmpD op r.1.1 r.1.2).map fun v => (.d (.bool v), r.2)
  | .cmp2 o1 o2 a b c, ρ => (frzV (ev C a ρ)).bind fun x => (frzV (ev C b x.2)).bind fun y => (cmpD o1 x.1 y.1).bind fun v =>
      if v then (frzV (ev C c y.2)).bind fun z => (cmpD o2 y.1 z.1).map fun v => (.d (.bool v), z.2) else some (.d (.bool false), y.2)
  | .and a b, ρ => (toB (ev C a ρ)).bind fun r => if r.1 then (toB (ev C b r.2)).map fun q => (.d (.bool q.1), q.2) else some (.d (.bool false), r.2)
  | .or a b, ρ => (toB (ev C a ρ)).bind fun r => if r.1 then some (.d (.bool true), r.2) else (toB (ev C b r.2)).map fun q => (.d (.bool q.1), q.2)
  | .not a, ρ => (toB (ev C a ρ)).map fun r => (.d (.bool (!r.1)), r.2)
  | .ife t a b, ρ => (toB (ev C t ρ)).bind fun r => if r.1 then ev C a r.2 else ev C b r.2
  | .ix a i, ρ => (look2 a i (ev C a) (ev C i) ρ).bind fun r => (ixD r.1.1 r.1.2).map fun v => (.d v, r.2)
  | .slc a lo hi, ρ => (match isVar a with
    | some k => (peek ρ k).bind fun _ => (evO C lo ρ).bind fun l => (evO C hi l.2).bind fun h => (peek h.2 k).bind fun x => (slD x l.1 h.1).map fun v => (v, h.2)
    | none => (frzV (ev C a ρ)).bind fun x => (evO C lo x.2).bind fun l => (evO C hi l.2).bind fun h => (slD x.1 l.1 h.1).map fun v => (v, h.2))
  | .rev a, ρ => (look a (ev C a) ρ).bind fun r => (revD r.1).map fun v => (v, r.2)
  | .tup args, ρ => (evD C args ρ).bind fun r => if r.1.length ≤ 16777216 then some (.d (.tuple r.1), r.2) else none
  | .lst args, ρ => (evD C args ρ).bind fun r => if r.1.length ≤ 16777216 then some (.own r.1, r.2) else none
  | .call f args, ρ => (evA C args ρ).bind fun r => (argD r.2 r.1).bind fun ds => match C f none ds with
    | some (v, none) => some (v, if v.scalar then r.2 else frzAll r.2 (argK r.1))
    | _ => none
  | .callo f k args, ρ => (mutAt ρ k).bind fun _ => (evA C args ρ).bind fun r => (argD r.2 r.1).bind fun ds => (mutAt (frzAll r.2 (argK r.1)) k).bind fun xs => match C f (some xs) ds with
    | some (v, some ys) => some (v, mutPut (frzAll r.2 (argK r.1)) k ys)
    | _ => none
  | .bi1 b a, ρ => (look a (ev C a) ρ).bind fun r => (bi1D b r.1).map fun v => (v, r.2)
  | .bi2 b a c, ρ => (frzV (ev C a ρ)).bind fun x => (frzV (ev C c x.2)).bind fun y => (bi2D b x.1 y.1).map fun v => (v, y.2)
  | .isT a ts _, ρ => (frzV (ev C a ρ)).map fun r => (.d (.bool (isTD r.1 ts)), r.2)
  | .lscr k, ρ => (match ρ.at k with
    | some (.scr ns) => some (.own (ns.map .int), ρ)
    | _ => none)
  | .lrng args, ρ => (evD C args ρ).bind fun r => (rngD r.1).map fun xs => (.own xs, r.2)
  | .join sep a, ρ => (frzV (ev C sep ρ)).bind fun z => (frzV (ev C a z.2)).bind fun r => (match z.1, r.1 with
    | .str y, .list xs => (dStrs xs).bind fun ws => (joinD y ws).map fun t => (.d (.str t), r.2)
    | _, _ => none)
  | .split a sep, ρ => (frzV (ev C a ρ)).bind fun z => (frzV (ev C sep z.2)).bind fun r => (match z.1, r.1 with
    | .str x, .str y => if 0 < y.length ∧ x.length ≤ 16777000 ∧ (Txt.split x y).all (fun w => PyData.strOk w && decide (w.length ≤ 16777216)) = true then some (.own ((Txt.split x y).map .str), r.2) else none
    | _, _ => none)
  | .index k x, ρ => (listAt ρ k).bind fun _ => (frzV (ev C x ρ)).bind fun r => (listAt r.2 k).bind fun xs => (indexD (.list xs) r.1).map fun j => (.d (.int (j : Nat)), r.2)
  | .popAt k i, ρ => (mutAt ρ k).bind fun _ => (frzV (ev C i ρ)).bind fun r => (mutAt r.2 k).bind fun xs => (match r.1 with
    | .int j => if 0 ≤ j ∧ j < 1000000000 then (xs[j.toNat]?).map fun x => (.d x, mutPut r.2 k (xs.eraseIdx j.toNat)) else none
    | _ => none)
  | .pop k, ρ => (mutAt ρ k).bind fun xs => (xs[xs.length - 1]?).map fun x => (.d x, mutPut ρ k xs.dropLast)
  | .dnew, ρ => some (.dct [], ρ)
  | .dget k i, ρ => (dctAt ρ k).bind fun _ => (frzV (ev C i ρ)).bind fun r => (dctAt r.2 k).bind fun kvs => (match r.1 with
    | .int j => (dLook kvs j).map fun v => (.d v, r.2)
    | _ => none)
  | .din neg i k, ρ => (frzV (ev C i ρ)).bind fun r => (dctAt r.2 k).bind fun kvs => (match r.1 with
    | .int j => some (.d (.bool (if neg then !(dLook kvs j).isSome else (dLook kvs j).isSome)), r.2)
    | _ => none)
  | .ddef k i dflt, ρ => (dctAt ρ k).bind fun _ => (frzV (ev C i ρ)).bind fun r => (frzV (ev C dflt r.2)).bind fun q => (dctAt q.2 k).bind fun kvs => (match r.1 with
    | .int j => some (.d ((dLook kvs j).getD q.1), q.2)
    | _ => none)
  | .dvals k a b, ρ => (dctAt ρ k).bind fun kvs => if a < ρ.length ∧ b < ρ.length ∧ kvs.length < 16777216 then some (.own (kvs.map (·.2)), ρ) else none
  | .dnewT, ρ => some (.dtt [], ρ)
  | .dkT k j, ρ => (dttAt ρ k).bind fun kvs => if j < ρ.length ∧ kvs.length < 16777216 then some (.own ((kvs.filter fun p => !p.1.isEmpty).map fun p => .tuple (p.1.map .int)), ρ) else none
  | .sset a, ρ => (frzV (ev C a ρ)).bind fun r => (match r.1 with
    | .list xs => (dStrs xs).bind fun ws => if ws.length < 64 ∧ ws.all (fun w => decide (w.length = 1)) = true then some (.own (ssD ws), r.2) else none
    | _ => none)
  | .srts a, ρ => (frzV (ev C a ρ)).bind fun r => (match r.1 with
    | .str z => if z.length < 1000000 then some (.own (isortD (signs z)), r.2) else none
    | _ => none)
  | .fst args, ρ => (evD C args ρ).bind fun r => (catAll r.1).bind fun t => if t.length ≤ 16777216 then some (.d (.str t), r.2) else none
  | .fmt e, ρ => (frzV (ev C e ρ)).bind fun r => (fmtD r.1).map fun t => (.d (.str t), r.2)
  | .fmt2 e, ρ => (frzV (ev C e ρ)).bind fun r => (fmt2D r.1).map fun t => (.d (.str t), r.2)
  | .comp own tg it cond elt, ρ => (evI C it ρ).bind fun r => if r.1.length < 16777216 then
      (compL own (bindT tg) (evQ C cond) (fun ρ => frzV (ev C elt ρ)) r.1 [] (wipeE r.2 own)).map fun q => (.own q.1, restE r.2 q.2 own)
    else none
  | _, _ => none
/-- a comprehension's test -/
def evQ (C : CallF) : Ex → Env → Option (Bool × Env)
  | .emp, ρ => some (true, ρ)
  | .one e, ρ => toB (ev C e ρ)
  | _, _ => none
/-- the parts of a slice -/
def evO (C : CallF) : Ex → Env → Option (Option Int × Env)
  | .emp, ρ => some (none, ρ)
  | .one e, ρ => (frzV (ev C e ρ)).bind fun r => match r.1 with
    | .int i => some (some i, r.2)
    | _ => none
  | _, _ => none
/-- items, with stars -/
def evD (C : CallF) : Ex → Env → Option (List D × Env)
  | .emp, ρ => some ([], ρ)
  | .con e r, ρ => (frzV (ev C e ρ)).bind fun x => (evD C r x.2).map fun y => (x.1 :: y.1, y.2)
  | .str e r, ρ => (look e (ev C e) ρ).bind fun x => (match x.1 with
    | .list xs => (evD C r x.2).map fun y => (xs ++ y.1, y.2)
    | .tuple xs => (evD C r x.2).map fun y => (xs ++ y.1, y.2)
    | _ => none)
  | _, _ => none
/-- arguments; a name is looked up later -/
def evA (C : CallF) : Ex → Env → Option (List Arg × Env)
  | .emp, ρ => some ([], ρ)
  | .con e r, ρ => (match isVar e with
    | some k => (peekA ρ k).bind fun _ => (evA C r ρ).map fun y => (.v k :: y.1, y.2)
    | none => (frzV (ev C e ρ)).bind fun x => (evA C r x.2).map fun y => (.d x.1 :: y.1, y.2))
  | _, _ => none
/-- what a for walks -/
def evI (C : CallF) : Ex → Env → Option (List D × Env)
  | .rng args, ρ => (evD C args ρ).bind fun r => (rngD r.1).map fun xs => (xs, r.2)
  | .enu a, ρ => (frzV (ev C a ρ)).bind fun r => (enuOk r.1).map fun xs => (xs, r.2)
  | .zip a b, ρ => (frzV (ev C a ρ)).bind fun x => (frzV (ev C b x.2)).bind fun y => (match x.1, y.1 with
    | .list xs, .list ys => some (zipD xs ys, y.2)
    | _, _ => none)
  | .one e, ρ => (frzV (ev C e ρ)).bind fun r => (iterD r.1).map fun xs => (xs, r.2)
  | _, _ => none
end

inductive Res where
  | nx (ρ : Env)
  | rt (v : Val) (ρ : Env)
def forL (bd : D → Env → Option Env) (g : Env → Option Res) : List D → Env → Option Res
  | [], ρ => some (.nx ρ)
  | x :: xs, ρ => (bd x ρ).bind fun ρ1 => match g ρ1 with
    | some (.nx ρ2) => forL bd g xs ρ2
    | some (.rt v ρ2) => some (.rt v ρ2)
    | none => none
def whlL (t : Env → Option (Bool × Env)) (g : Env → Option Res) : Nat → Env → Option Res
  | 0, _ => none
  | n + 1, ρ => (t ρ).bind fun r => if r.1 then (match g r.2 with
    | some (.nx ρ2) => whlL t g n ρ2
    | some (.rt v ρ2) => some (.rt v ρ2)
    | none => none) else some (.nx r.2)
/-- a name bound: a slot within the frame -/
def setV (i : Nat) (v : Val) (ρ : Env) : Option Env := if i < ρ.length then some (ρ.put i v.slot) else none
/-- a returned value: a list of one's own moves -/
def retV (C : CallF) (e : Ex) (ρ : Env) : Option (Val × Env) :=
  match isVar e with
  | some k => (match ρ.at k with
    | some (.own xs) => some (.own xs, ρ)
    | _ => rdVar ρ k)
  | none => ev C e ρ
def evS (C : CallF) : Sx → Env → Option Res
  | .skip, ρ => some (.nx ρ)
  | .seq a b, ρ => match evS C a ρ with
    | some (.nx ρ1) => evS C b ρ1
    | some (.rt v ρ1) => some (.rt v ρ1)
    | none => none
  | .set i e, ρ => (ev C e ρ).bind fun r => (setV i r.1 r.2).map .nx
  | .tset tg e, ρ => (frzV (ev C e ρ)).bind fun r => (bindT tg r.1 r.2).map .nx
  | .par2 i j a b, ρ => (ev C a ρ).bind fun x => (ev C b x.2).bind fun y => (setV i x.1 y.2).bind fun ρ1 => (setV j y.1 ρ1).map .nx
  | .par3 i j l a b c, ρ => (ev C a ρ).bind fun x => (ev C b x.2).bind fun y => (ev C c y.2).bind fun z => (setV i x.1 z.2).bind fun ρ1 => (setV j y.1 ρ1).bind fun ρ2 => (setV l z.1 ρ2).map .nx
  | .aug i op e, ρ => (match ρ.at i with
    | some (.d x) => (frzV (ev C e ρ)).bind fun r => (match op, x, r.1 with
      | .Add, .int a, .int b => some (.nx (r.2.put i (.d (.int (a + b)))))
      | _, _, _ => none)
    | _ => none)
  | .sti k i e, ρ => (frzV (ev C e ρ)).bind fun x => (mutAt x.2 k).bind fun _ => (frzV (ev C i x.2)).bind fun r => (mutAt r.2 k).bind fun xs => (match r.1 with
    | .int j => if 0 ≤ j ∧ j.toNat < xs.length then some (.nx (mutPut r.2 k (xs.set j.toNat x.1))) else none
    | _ => none)
  | .augi k i op e, ρ => (mutAt ρ k).bind fun _ => (frzV (ev C i ρ)).bind fun r => (mutAt r.2 k).bind fun xs => (match r.1 with
    | .int j => if 0 ≤ j ∧ j < 1000000000 then (match xs[j.toNat]? with
      | some (.int a) => (frzV (ev C e r.2)).bind fun x => (mutAt x.2 k).bind fun ys => (match op, x.1 with
        | .Sub, .int b => if j.toNat < ys.length then some (.nx (mutPut x.2 k (ys.set j.toNat (.int (a - b))))) else none
        | _, _ => none)
      | _ => none) else none
    | _ => none)
  | .dset k i e, ρ => (frzV (ev C e ρ)).bind fun x => (dctAt x.2 k).bind fun _ => (frzV (ev C i x.2)).bind fun r => (dctAt r.2 k).bind fun kvs => (match r.1 with
    | .int j => if kvs.length < 100000 then some (.nx (r.2.put k (.dct (dPut kvs j x.1)))) else none
    | _ => none)
  | .dsetT k i e, ρ => (frzV (ev C e ρ)).bind fun x => (dttAt x.2 k).bind fun _ => (frzV (ev C i x.2)).bind fun r => (dttAt r.2 k).bind fun kvs => (match r.1 with
    | .tuple ds => (dInts ds).bind fun ns => if kvs.length < 100000 ∧ ns.length < 1000 then some (.nx (r.2.put k (.dtt (tPut kvs ns x.1)))) else none
    | _ => none)
  | .app k e, ρ => (mutAt ρ k).bind fun _ => (frzV (ev C e ρ)).bind fun x => (mutAt x.2 k).bind fun xs => if xs.length < 16777216 then some (.nx (mutPut x.2 k (xs ++ [x.1]))) else none
  | .ext k e, ρ => (mutAt ρ k).bind fun _ => (frzV (ev C e ρ)).bind fun x => (mutAt x.2 k).bind fun xs => (match x.1 with
    | .list ys => if xs.length + ys.length ≤ 16777216 then some (.nx (mutPut x.2 k (xs ++ ys))) else none
    | _ => none)
  | .ins k i e, ρ => (mutAt ρ k).bind fun _ => (frzV (ev C i ρ)).bind fun r => (frzV (ev C e r.2)).bind fun x => (mutAt x.2 k).bind fun xs => (match r.1 with
    | .int j => if 0 ≤ j ∧ j < 1000000000 ∧ xs.length < 16777216 then some (.nx (mutPut x.2 k (xs.take j.toNat ++ [x.1] ++ xs.drop j.toNat))) else none
    | _ => none)
  | .drp e, ρ => (ev C e ρ).map fun r => .nx r.2
  | .ife t a b, ρ => (toB (ev C t ρ)).bind fun r => if r.1 then evS C a r.2 else evS C b r.2
  | .for tg it body, ρ => (evI C it ρ).bind fun r => forL (bindT tg) (evS C body) r.1 r.2
  | .whl t body, ρ => whlL (fun ρ => toB (ev C t ρ)) (evS C body) 100000 ρ
  | .ret e, ρ => (retV C e ρ).map fun r => .rt r.1 r.2

/-! ## functions -/
structure FnD where
  np : Nat
  n : Nat
  io : Bool
  scr : Bool
  body : Sx
def startE (n : Nat) (ss : List Slot) : Env := ss.map some ++ List.replicate (n - ss.length) none
def ioAt (ρ : Env) : Option (List D) :=
  match ρ.at 0 with
  | some (.io xs) => some xs
  | _ => none
def outE (io : Bool) (v : Val) (ρ : Env) : Option (Val × Option (List D)) :=
  if io then (ioAt ρ).map fun xs => (v, some xs) else some (v, none)
def runFn (C : CallF) (fd : FnD) (ss : List Slot) : Option (Val × Option (List D)) :=
  match evS C fd.body (startE fd.n ss) with
  | some (.nx ρ) => outE fd.io (.d .none) ρ
  | some (.rt v ρ) => outE fd.io v ρ
  | none => none
def evFn (C : CallF) (fd : FnD) (io : Option (List D)) (args : List D) : Option (Val × Option (List D)) :=
  match fd.io, io with
  | true, some xs => if args.length + 1 = fd.np then runFn C fd (.io xs :: args.map .d) else none
  | false, none => if args.length = fd.np then runFn C fd (args.map .d) else none
  | _, _ => none
def callN (T : Nat → Option FnD) : Nat → CallF
  | 0 => fun _ _ _ => none
  | n + 1 => fun f io args => (T f).bind fun fd => evFn (callN T n) fd io args
/-- the law's own def -/
def lawN (T : Nat → Option FnD) (n : Nat) (fd : FnD) (ns : List Int) : Option (Val × Option (List D)) := runFn (callN T n) fd [.scr ns]
end Mn

namespace Mn
open PySem PySem.Spec PyProof.Rows L2

/-! ## data in a frozen heap -/
mutual
inductive R (F : Hp) : V → D → Prop
  | non : R F .non .none
  | bl (b : Bool) : R F (.bl b) (.bool b)
  | int (i : Int) : R F (.int i) (.int i)
  | str (x : Str) (h : PyData.strOk x = true) (l : x.length ≤ 16777216) : R F (.str x) (.str x)
  | lst {a : Addr} {vs : List V} {ds : List D} : F a = some (.lst vs) → RL F vs ds → R F (.ref a) (.list ds)
  | tup {a : Addr} {vs : List V} {ds : List D} : F a = some (.tup vs) → RL F vs ds → R F (.ref a) (.tuple ds)
inductive RL (F : Hp) : List V → List D → Prop
  | nil : RL F [] []
  | cons {v : V} {vs : List V} {d : D} {ds : List D} : R F v d → RL F vs ds → RL F (v :: vs) (d :: ds)
end
def Sub (F H : Hp) : Prop := ∀ b o, F b = some o → H b = some o
theorem Sub.refl (F : Hp) : Sub F F := fun _ _ h => h
theorem Sub.trans {F G H : Hp} (a : Sub F G) (b : Sub G H) : Sub F H := fun x o h => b x o (a x o h)
theorem Sub.new {F : Hp} {p : Addr} {o : HO} (h : F p = none) : Sub F (upd F p o) := fun b u e => by
  rw [upd_ne (ne_of_none e h)]; exact e
theorem Sub.none {F H : Hp} (s : Sub F H) {p : Addr} (h : H p = none) : F p = none := by
  cases q : F p with
  | none => rfl
  | some o => rw [s p o q] at h; cases h
mutual
theorem R.mono {F G : Hp} (s : Sub F G) : ∀ {d : D} {v : V}, R F v d → R G v d
  | .none, _, .non => .non
  | .bool _, _, .bl b => .bl b
  | .int _, _, .int i => .int i
  | .str _, _, .str x h l => .str x h l
  | .list _, _, .lst e r => .lst (s _ _ e) (RL.mono s r)
  | .tuple _, _, .tup e r => .tup (s _ _ e) (RL.mono s r)
theorem RL.mono {F G : Hp} (s : Sub F G) : ∀ {ds : List D} {vs : List V}, RL F vs ds → RL G vs ds
  | [], _, .nil => .nil
  | _ :: _, _, .cons a b => .cons (R.mono s a) (RL.mono s b)
end
mutual
theorem R.dp {K : PySem.W.Frag} {F H : Hp} (s : Sub F H) : ∀ {d : D} {v : V}, R F v d → Dp K H v d
  | .none, _, .non => .non
  | .bool _, _, .bl b => .bl b
  | .int _, _, .int i => .int i
  | .str _, _, .str x h l => .str x
  | .list _, _, .lst e r => .lst (.inl (.inl (s _ _ e))) (RL.dp s r)
  | .tuple _, _, .tup e r => .tup (.inl (.inl (s _ _ e))) (RL.dp s r)
theorem RL.dp {K : PySem.W.Frag} {F H : Hp} (s : Sub F H) : ∀ {ds : List D} {vs : List V}, RL F vs ds → DpAll K H vs ds
  | [], _, .nil => .nil
  | _ :: _, _, .cons a b => .cons (R.dp s a) (RL.dp s b)
end
mutual
theorem R.lay {F : Hp} : ∀ {d : D} {v : V}, R F v d → d.canLay0 = true
  | .none, _, .non => rfl
  | .bool _, _, .bl b => rfl
  | .int _, _, .int i => rfl
  | .str _, _, .str x h l => h
  | .list _, _, .lst e r => RL.lay r
  | .tuple _, _, .tup e r => RL.lay r
theorem RL.lay {F : Hp} : ∀ {ds : List D} {vs : List V}, RL F vs ds → PyData.canLayAll0 ds = true
  | [], _, .nil => rfl
  | d :: ds, _, .cons a b => by
    show (d.canLay0 && PyData.canLayAll0 ds) = true
    rw [R.lay a, RL.lay b]; rfl
end
theorem R.shaped {F : Hp} {d : D} {v : V} (r : R F v d) (h : d.depth ≤ 64) : SeqAt.shaped d = true := by
  show (d.canLay0 && decide (d.depth ≤ 64)) = true
  rw [r.lay, decide_eq_true h]; rfl
theorem RL.length {F : Hp} : ∀ {ds : List D} {vs : List V}, RL F vs ds → vs.length = ds.length
  | [], _, .nil => rfl
  | _ :: _, _, .cons _ b => by rw [List.length_cons, List.length_cons, RL.length b]
theorem RL.get {F : Hp} : ∀ {ds : List D} {vs : List V} {i : Nat} {d : D}, RL F vs ds → ds[i]? = some d → ∃ v, vs[i]? = some v ∧ R F v d
  | [], _, _, _, .nil, h => by simp at h
  | _ :: _, _, 0, _, .cons a _, h => ⟨_, rfl, by simp at h; rw [← h]; exact a⟩
  | _ :: _, _, i + 1, _, .cons _ b, h => by
    obtain ⟨v, h1, h2⟩ := RL.get (i := i) b (by simpa using h)
    exact ⟨v, by simpa using h1, h2⟩
theorem RL.getV {F : Hp} {ds : List D} {vs : List V} {i : Nat} {v : V} (r : RL F vs ds) (h : vs[i]? = some v) : ∃ d, ds[i]? = some d ∧ R F v d := by
  obtain ⟨hi, _⟩ := List.getElem?_eq_some_iff.mp h
  have hd : i < ds.length := by rw [← r.length]; exact hi
  obtain ⟨w, h1, h2⟩ := r.get (List.getElem?_eq_getElem hd)
  rw [h] at h1; cases h1
  exact ⟨_, List.getElem?_eq_getElem hd, h2⟩
theorem RL.append {F : Hp} : ∀ {ds : List D} {vs : List V} {es : List D} {us : List V}, RL F vs ds → RL F us es → RL F (vs ++ us) (ds ++ es)
  | [], _, _, _, .nil, s => s
  | _ :: _, _, _, _, .cons a b, s => .cons a (RL.append b s)
theorem RL.take {F : Hp} : ∀ {ds : List D} {vs : List V} (n : Nat), RL F vs ds → RL F (vs.take n) (ds.take n)
  | _, _, 0, _ => .nil
  | [], _, _ + 1, .nil => .nil
  | _ :: _, _, n + 1, .cons a b => .cons a (RL.take n b)
theorem RL.drop {F : Hp} : ∀ {ds : List D} {vs : List V} (n : Nat), RL F vs ds → RL F (vs.drop n) (ds.drop n)
  | _, _, 0, r => r
  | [], _, _ + 1, .nil => .nil
  | _ :: _, _, n + 1, .cons _ b => RL.drop n b
theorem RL.set {F : Hp} {v : V} {d : D} (h : R F v d) : ∀ {ds : List D} {vs : List V} (i : Nat), RL F vs ds → RL F (vs.set i v) (ds.set i d)
  | [], _, _, .nil => .nil
  | _ :: _, _, 0, .cons _ b => .cons h b
  | _ :: _, _, i + 1, .cons a b => .cons a (RL.set h i b)
theorem RL.eraseIdx {F : Hp} : ∀ {ds : List D} {vs : List V} (i : Nat), RL F vs ds → RL F (vs.eraseIdx i) (ds.eraseIdx i)
  | [], _, _, .nil => .nil
  | _ :: _, _, 0, .cons _ b => b
  | _ :: _, _, i + 1, .cons a b => .cons a (RL.eraseIdx i b)
theorem RL.reverse {F : Hp} : ∀ {ds : List D} {vs : List V}, RL F vs ds → RL F vs.reverse ds.reverse
  | [], _, .nil => .nil
  | d :: ds, v :: vs, .cons a b => by
    rw [List.reverse_cons, List.reverse_cons]
    exact (RL.reverse b).append (.cons a .nil)
theorem RL.cut {F : Hp} {ds : List D} {vs : List V} (r : RL F vs ds) (lo hi : Option Int) : RL F (cutV vs lo hi) (cutA ds lo hi) := by
  unfold cutV cutA
  rw [r.length]
  exact (r.drop _).take _
theorem RL.ints {F : Hp} : ∀ {ds : List D} {vs : List V} {ns : List Int}, RL F vs ds → dInts ds = some ns → vs = ns.map V.int
  | [], _, ns, .nil, h => by cases h; rfl
  | .int i :: ds, _, ns, .cons a b, h => by
    cases a
    cases q : dInts ds with
    | none => simp [dInts, q] at h
    | some ms =>
      simp [dInts, q] at h
      subst h
      rw [List.map_cons, ← RL.ints b q]
  | .none :: _, _, _, _, h => by simp [dInts] at h
  | .bool _ :: _, _, _, _, h => by simp [dInts] at h
  | .str _ :: _, _, _, _, h => by simp [dInts] at h
  | .list _ :: _, _, _, _, h => by simp [dInts] at h
  | .tuple _ :: _, _, _, _, h => by simp [dInts] at h
  | .dict _ :: _, _, _, _, h => by simp [dInts] at h
theorem RL.bools {F : Hp} : ∀ {ds : List D} {vs : List V} {ns : List Bool}, RL F vs ds → dBools ds = some ns → vs = ns.map V.bl
  | [], _, ns, .nil, h => by cases h; rfl
  | .bool i :: ds, _, ns, .cons a b, h => by
    cases a
    cases q : dBools ds with
    | none => simp [dBools, q] at h
    | some ms =>
      simp [dBools, q] at h
      subst h
      rw [List.map_cons, ← RL.bools b q]
  | .none :: _, _, _, _, h => by simp [dBools] at h
  | .int _ :: _, _, _, _, h => by simp [dBools] at h
  | .str _ :: _, _, _, _, h => by simp [dBools] at h
  | .list _ :: _, _, _, _, h => by simp [dBools] at h
  | .tuple _ :: _, _, _, _, h => by simp [dBools] at h
  | .dict _ :: _, _, _, _, h => by simp [dBools] at h
theorem RL.strs {F : Hp} : ∀ {ds : List D} {vs : List V} {ns : List Str}, RL F vs ds → dStrs ds = some ns → vs = ns.map V.str ∧ (∀ x ∈ ns, PyData.strOk x = true ∧ x.length ≤ 16777216)
  | [], _, ns, .nil, h => by cases h; exact ⟨rfl, fun x hx => by cases hx⟩
  | .str i :: ds, _, ns, .cons a b, h => by
    cases a with
    | str x ho hl =>
    cases q : dStrs ds with
    | none => simp [dStrs, q] at h
    | some ms =>
      simp [dStrs, q] at h
      subst h
      obtain ⟨h1, h2⟩ := RL.strs b q
      refine ⟨by rw [List.map_cons, ← h1], fun x hx => ?_⟩
      rcases List.mem_cons.mp hx with e | e
      · rw [e]; exact ⟨ho, hl⟩
      · exact h2 x e
  | .none :: _, _, _, _, h => by simp [dStrs] at h
  | .int _ :: _, _, _, _, h => by simp [dStrs] at h
  | .bool _ :: _, _, _, _, h => by simp [dStrs] at h
  | .list _ :: _, _, _, _, h => by simp [dStrs] at h
  | .tuple _ :: _, _, _, _, h => by simp [dStrs] at h
  | .dict _ :: _, _, _, _, h => by simp [dStrs] at h
theorem RL.ofInts {F : Hp} : ∀ (ns : List Int), RL F (ns.map V.int) (ns.map PyData.int)
  | [] => .nil
  | n :: ns => .cons (.int n) (RL.ofInts ns)

/-! ## slots -/
def Slot.isMut : Slot → Bool
  | .own _ => true
  | .io _ => true
  | .dct _ => true
  | .dtt _ => true
  | _ => false
def Slot.isIo : Slot → Bool
  | .io _ => true
  | _ => false
def MutOk (F H : Hp) (p : Addr) : Slot → Prop
  | .own xs => ∃ vs, H p = some (.lst vs) ∧ RL F vs xs
  | .io xs => ∃ vs, H p = some (.lst vs) ∧ RL F vs xs
  | .dtt kvs => ∃ kv, H p = some (.dT kv) ∧ Paired (fun (p : List Key × V) (q : List Int × D) => p.1 = q.1.map .inl ∧ R F p.2 q.2) kv kvs
  | .dct kvs => ∃ kv, H p = some (.dK kv) ∧ Paired (fun (p : Key × V) (q : Int × D) => p.1 = .inl q.1 ∧ R F p.2 q.2) kv kvs
  | _ => False
def SlotOk (K : PySem.W.Frag) (F H : Hp) (v : V) (s : Slot) : Prop :=
  match s with
  | .d x => R F v x
  | .scr ns => ∃ a, v = .ref a ∧ SqL K F a (ns.map V.int)
  | s => ∃ p, v = .ref p ∧ F p = none ∧ MutOk F H p s
def OwnA (ρ : Env) (σ : L2.St) (b : Addr) : Prop := ∃ i s, ρ.at i = some s ∧ s.isMut = true ∧ σ[i]? = some (some (.ref b))
structure Rel (K : PySem.W.Frag) (ρ : Env) (σ : L2.St) (F H : Hp) : Prop where
  len : ρ.length = σ.length
  sub : Sub F H
  ok : ∀ i s, ρ.at i = some s → ∃ v, σ[i]? = some (some v) ∧ SlotOk K F H v s
  dis : ∀ i j s t b, ρ.at i = some s → ρ.at j = some t → s.isMut = true → t.isMut = true → σ[i]? = some (some (.ref b)) → σ[j]? = some (some (.ref b)) → i = j
structure Ext (W : Addr → Prop) (F H F' H' : Hp) : Prop where
  fs : Sub F F'
  hs : ∀ b o, H b = some o → ¬ W b → H' b = some o
  nf : ∀ b, F' b ≠ none → F b ≠ none ∨ H b = none ∨ W b ∨ ∃ xs, H b = some (.tup xs)
  th : ∀ b, H b ≠ none → H' b ≠ none
theorem Ext.refl (W : Addr → Prop) (F H : Hp) : Ext W F H F H := ⟨Sub.refl _, fun _ _ h _ => h, fun _ h => .inl h, fun _ h => h⟩
theorem Ext.trans {W W1 : Addr → Prop} {F H F1 H1 F2 H2 : Hp} (a : Ext W F H F1 H1) (b : Ext W1 F1 H1 F2 H2) (w : ∀ x, W1 x → W x ∨ H x = none) : Ext W F H F2 H2 := by
  refine ⟨a.fs.trans b.fs, fun x o h n => ?_, fun x h => ?_, fun x h => b.th x (a.th x h)⟩
  · refine b.hs x o (a.hs x o h n) fun z => ?_
    rcases w x z with q | q
    · exact n q
    · rw [q] at h; cases h
  · rcases b.nf x h with q | q | q | ⟨xs, q⟩
    · exact a.nf x q
    · refine .inr (.inl ?_)
      cases e : H x with
      | none => rfl
      | some o => exact absurd q (a.th x (by rw [e]; simp))
    · rcases w x q with q | q
      · exact .inr (.inr (.inl q))
      · exact .inr (.inl q)
    · cases e : H x with
      | none => exact .inr (.inl rfl)
      | some o =>
        rcases Classical.em (W x) with c | c
        · exact .inr (.inr (.inl c))
        · have := a.hs x o e c
          rw [q] at this
          cases this
          exact .inr (.inr (.inr ⟨xs, rfl⟩))
theorem Ext.mono {W W1 : Addr → Prop} {F H F1 H1 : Hp} (a : Ext W F H F1 H1) (w : ∀ x, W x → W1 x ∨ H x = none) : Ext W1 F H F1 H1 := by
  refine ⟨a.fs, fun x o h n => a.hs x o h fun z => ?_, fun x h => ?_, a.th⟩
  · rcases w x z with q | q
    · exact n q
    · rw [q] at h; cases h
  · rcases a.nf x h with q | q | q | q
    · exact .inl q
    · exact .inr (.inl q)
    · rcases w x q with q | q
      · exact .inr (.inr (.inl q))
      · exact .inr (.inl q)
    · exact .inr (.inr (.inr q))
section
variable {K : PySem.W.Frag} {ρ ρ' : Env} {σ : L2.St} {F H F' H' : Hp} {W : Addr → Prop}
theorem MutOk.mono {p : Addr} {s : Slot} (m : MutOk F H p s) (f : Sub F F') (h : H' p = H p) : MutOk F' H' p s := by
  cases s with
  | own xs => obtain ⟨vs, a, b⟩ := m; exact ⟨vs, by rw [h]; exact a, b.mono f⟩
  | io xs => obtain ⟨vs, a, b⟩ := m; exact ⟨vs, by rw [h]; exact a, b.mono f⟩
  | dct xs => obtain ⟨vs, a, b⟩ := m; exact ⟨vs, by rw [h]; exact a, L2.Paired.mapP b fun _ _ z => ⟨z.1, z.2.mono f⟩⟩
  | dtt xs => obtain ⟨vs, a, b⟩ := m; exact ⟨vs, by rw [h]; exact a, L2.Paired.mapP b fun _ _ z => ⟨z.1, z.2.mono f⟩⟩
  | d _ => exact m
  | scr _ => exact m
theorem MutOk.here {p : Addr} {s : Slot} (m : MutOk F H p s) : ∃ o, H p = some o := by
  cases s with
  | own xs => obtain ⟨vs, a, b⟩ := m; exact ⟨_, a⟩
  | io xs => obtain ⟨vs, a, b⟩ := m; exact ⟨_, a⟩
  | dct xs => obtain ⟨vs, a, b⟩ := m; exact ⟨_, a⟩
  | dtt xs => obtain ⟨vs, a, b⟩ := m; exact ⟨_, a⟩
  | d _ => exact m.elim
  | scr _ => exact m.elim
theorem SqL.monoF {a : Addr} {xs : List V} (f : Sub F F') (h : SqL K F a xs) : SqL K F' a xs := by
  rcases h with (h | ⟨o, h⟩) | h
  · exact .inl (.inl (f _ _ h))
  · exact .inl (.inr ⟨o, f _ _ h⟩)
  · exact .inr h
theorem SlotOk.mut {v : V} {s : Slot} (m : SlotOk K F H v s) (h : s.isMut = true) : ∃ p, v = .ref p ∧ F p = none ∧ MutOk F H p s := by
  cases s with
  | d _ => cases h
  | scr _ => cases h
  | own _ => exact m
  | io _ => exact m
  | dct _ => exact m
  | dtt _ => exact m
theorem SlotOk.ofMut {p : Addr} {s : Slot} (h : s.isMut = true) (f : F p = none) (m : MutOk F H p s) : SlotOk K F H (.ref p) s := by
  cases s with
  | d _ => cases h
  | scr _ => cases h
  | own _ => exact ⟨p, rfl, f, m⟩
  | io _ => exact ⟨p, rfl, f, m⟩
  | dct _ => exact ⟨p, rfl, f, m⟩
  | dtt _ => exact ⟨p, rfl, f, m⟩
theorem SlotOk.fix {v : V} {s : Slot} (m : SlotOk K F H v s) (h : s.isMut = false) (f : Sub F F') : SlotOk K F' H' v s := by
  cases s with
  | d _ => exact R.mono f m
  | scr _ => obtain ⟨a, e, q⟩ := m; exact ⟨a, e, SqL.monoF f q⟩
  | own _ => cases h
  | io _ => cases h
  | dct _ => cases h
  | dtt _ => cases h
theorem Rel.own_at (r : Rel K ρ σ F H) {b : Addr} (h : OwnA ρ σ b) : ∃ o, H b = some o ∧ F b = none := by
  obtain ⟨i, s, h1, h2, h3⟩ := h
  obtain ⟨v, e, q⟩ := r.ok i s h1
  rw [h3] at e; cases e
  obtain ⟨p, e, f, m⟩ := q.mut h2
  cases e
  obtain ⟨o, ho⟩ := m.here
  exact ⟨o, ho, f⟩
theorem MutOk.nt {p : Addr} {s : Slot} (m : MutOk F H p s) (xs : List V) : H p ≠ some (.tup xs) := fun e => by
  cases s with
  | own _ => obtain ⟨vs, a, b⟩ := m; rw [e] at a; cases a
  | io _ => obtain ⟨vs, a, b⟩ := m; rw [e] at a; cases a
  | dct _ => obtain ⟨vs, a, b⟩ := m; rw [e] at a; cases a
  | dtt _ => obtain ⟨vs, a, b⟩ := m; rw [e] at a; cases a
  | d _ => exact m.elim
  | scr _ => exact m.elim
theorem Rel.own_nt (r : Rel K ρ σ F H) {b : Addr} (h : OwnA ρ σ b) (xs : List V) : H b ≠ some (.tup xs) := by
  obtain ⟨i, s, h1, h2, h3⟩ := h
  obtain ⟨v, e, q⟩ := r.ok i s h1
  rw [h3] at e; cases e
  obtain ⟨p, e, f, m⟩ := q.mut h2
  cases e
  exact m.nt xs
theorem Rel.not_own (r : Rel K ρ σ F H) {b : Addr} (h : H b = none) : ¬ OwnA ρ σ b := fun z => by
  obtain ⟨o, e, _⟩ := r.own_at z
  rw [h] at e; cases e
/-- the heaps grow; what is one's own stays -/
theorem Rel.grow (r : Rel K ρ σ F H) (f : Sub F F') (s : Sub F' H') (own : ∀ b, OwnA ρ σ b → H' b = H b ∧ F' b = none) : Rel K ρ σ F' H' := by
  refine ⟨r.len, s, fun i t h => ?_, r.dis⟩
  obtain ⟨v, e, q⟩ := r.ok i t h
  refine ⟨v, e, ?_⟩
  cases hm : t.isMut with
  | true =>
    obtain ⟨p, e2, _, m⟩ := q.mut hm
    subst e2
    obtain ⟨h1, h2⟩ := own p ⟨i, t, h, hm, e⟩
    exact .ofMut hm h2 (m.mono f h1)
  | false => exact q.fix hm f
theorem Rel.laid (r : Rel K ρ σ F H) {p : Addr} {o : HO} (h : H p = none) : Rel K ρ σ F (upd H p o) :=
  r.grow (Sub.refl F) (r.sub.trans (Sub.new h)) fun b hb => by
    obtain ⟨u, e, f⟩ := r.own_at hb
    exact ⟨upd_ne (ne_of_none e h), f⟩
theorem Rel.laidF (r : Rel K ρ σ F H) {p : Addr} {o : HO} (h : H p = none) : Rel K ρ σ (upd F p o) (upd H p o) :=
  r.grow (Sub.new (r.sub.none h)) (fun b u e => by
    by_cases hb : b = p
    · subst hb; rw [upd_same] at e ⊢; exact e
    · rw [upd_ne hb] at e ⊢; exact r.sub b u e) fun b hb => by
    obtain ⟨u, e, f⟩ := r.own_at hb
    have := ne_of_none e h
    exact ⟨upd_ne this, by rw [upd_ne this]; exact f⟩
theorem Ext.laid (W : Addr → Prop) {p : Addr} {o : HO} (h : H p = none) : Ext W F H F (upd H p o) :=
  ⟨Sub.refl _, fun b u e _ => by rw [upd_ne (ne_of_none e h)]; exact e, fun b q => .inl q, fun b q => by
    by_cases hb : b = p
    · subst hb; exact absurd h q
    · rw [upd_ne hb]; exact q⟩
theorem Ext.laidF (W : Addr → Prop) {p : Addr} {o : HO} (f : F p = none) (h : H p = none) : Ext W F H (upd F p o) (upd H p o) :=
  ⟨Sub.new f, fun b u e _ => by rw [upd_ne (ne_of_none e h)]; exact e, fun b q => by
    by_cases hb : b = p
    · subst hb; exact .inr (.inl h)
    · rw [upd_ne hb] at q; exact .inl q, fun b q => by
    by_cases hb : b = p
    · subst hb; exact absurd h q
    · rw [upd_ne hb]; exact q⟩
/-- a list of nobody's is frozen -/
theorem Rel.frz (r : Rel K ρ σ F H) {p : Addr} {o : HO} (h : H p = some o) (f : F p = none) (n : ¬ OwnA ρ σ p) : Rel K ρ σ (upd F p o) H :=
  r.grow (Sub.new f) (fun b u e => by
    by_cases hb : b = p
    · subst hb; rw [upd_same] at e; cases e; exact h
    · rw [upd_ne hb] at e; exact r.sub b u e) fun b hb => by
    have : b ≠ p := fun e => n (e ▸ hb)
    obtain ⟨_, _, q⟩ := r.own_at hb
    exact ⟨rfl, by rw [upd_ne this]; exact q⟩
end
end Mn

namespace Mn
open PySem PySem.Spec PyProof.Rows L2

/-! ## readings -/
def IoA (ρ : Env) (σ : L2.St) (b : Addr) : Prop := ∃ i s, ρ.at i = some s ∧ s.isIo = true ∧ σ[i]? = some (some (.ref b))
structure Step (K : PySem.W.Frag) (ρ : Env) (σ : L2.St) (F H : Hp) (ρ' : Env) (F' H' : Hp) : Prop where
  rel : Rel K ρ' σ F' H'
  ext : Ext (OwnA ρ σ) F H F' H'
  own : ∀ b, OwnA ρ' σ b → OwnA ρ σ b
  io : ∀ b, IoA ρ' σ b → IoA ρ σ b
def VOk (H F' H' : Hp) (v : V) : Val → Prop
  | .d x => R F' v x
  | .own xs => ∃ p, v = .ref p ∧ F' p = none ∧ H p = none ∧ MutOk F' H' p (.own xs)
  | .dct xs => ∃ p, v = .ref p ∧ F' p = none ∧ H p = none ∧ MutOk F' H' p (.dct xs)
  | .dtt xs => ∃ p, v = .ref p ∧ F' p = none ∧ H p = none ∧ MutOk F' H' p (.dtt xs)
section
variable {K : PySem.W.Frag} {ρ ρ1 ρ2 ρ' : Env} {σ : L2.St} {F H F1 H1 F2 H2 F' H' : Hp}
theorem Step.refl (r : Rel K ρ σ F H) : Step K ρ σ F H ρ F H := ⟨r, Ext.refl _ _ _, fun _ h => h, fun _ h => h⟩
theorem Step.trans (a : Step K ρ σ F H ρ1 F1 H1) (b : Step K ρ1 σ F1 H1 ρ2 F2 H2) : Step K ρ σ F H ρ2 F2 H2 :=
  ⟨b.rel, a.ext.trans b.ext fun x h => .inl (a.own x h), fun x h => a.own x (b.own x h), fun x h => a.io x (b.io x h)⟩
theorem Step.fs (a : Step K ρ σ F H ρ1 F1 H1) : Sub F F1 := a.ext.fs
/-- what was not there ahead is not there behind, where it is new behind -/
theorem Step.back (a : Step K ρ σ F H ρ1 F1 H1) {p : Addr} (h : H1 p = none) : H p = none := by
  cases e : H p with
  | none => rfl
  | some o => exact absurd h (a.ext.th p (by rw [e]; simp))
theorem Step.laid (r : Rel K ρ σ F H) {p : Addr} {o : HO} (h : H p = none) : Step K ρ σ F H ρ F (upd H p o) := ⟨r.laid h, Ext.laid _ h, fun _ h => h, fun _ h => h⟩
theorem Step.laidF (r : Rel K ρ σ F H) {p : Addr} {o : HO} (h : H p = none) : Step K ρ σ F H ρ (upd F p o) (upd H p o) := ⟨r.laidF h, Ext.laidF _ (r.sub.none h) h, fun _ h => h, fun _ h => h⟩
theorem VOk.back {v : V} {x : Val} (a : Step K ρ σ F H ρ1 F1 H1) (h : VOk H1 F' H' v x) : VOk H F' H' v x := by
  cases x with
  | d _ => exact h
  | own _ => obtain ⟨p, h1, h2, h3, h4⟩ := h; exact ⟨p, h1, h2, a.back h3, h4⟩
  | dct _ => obtain ⟨p, h1, h2, h3, h4⟩ := h; exact ⟨p, h1, h2, a.back h3, h4⟩
  | dtt _ => obtain ⟨p, h1, h2, h3, h4⟩ := h; exact ⟨p, h1, h2, a.back h3, h4⟩
/-- a value is frozen -/
theorem Step.frz (a : Step K ρ σ F H ρ1 F1 H1) {v : V} {x : Val} {y : D} (h : VOk H F1 H1 v x) (e : x.frz = some y) (r0 : Rel K ρ σ F H) : ∃ F2, Step K ρ σ F H ρ1 F2 H1 ∧ R F2 v y := by
  cases x with
  | d _ => cases e; exact ⟨F1, a, h⟩
  | dct _ => cases e
  | dtt _ => cases e
  | own xs =>
    cases e
    obtain ⟨p, rfl, hF, hH, vs, hl, hr⟩ := h
    have no : ¬ OwnA ρ1 σ p := fun z => by
      obtain ⟨o, e1, _⟩ := r0.own_at (a.own p z)
      rw [hH] at e1; cases e1
    refine ⟨upd F1 p (.lst vs), ⟨a.rel.frz hl hF no, ⟨a.ext.fs.trans (Sub.new hF), a.ext.hs, fun b q => ?_, a.ext.th⟩, a.own, a.io⟩, .lst upd_same (hr.mono (Sub.new hF))⟩
    by_cases hb : b = p
    · subst hb; exact .inr (.inl hH)
    · rw [upd_ne hb] at q; exact a.ext.nf b q
end
def tEv (K : PySem.W.Frag) (f : Env → Option (Val × Env)) : TE := fun σ H Q => ∃ ρ F r, Rel K ρ σ F H ∧ f ρ = some r ∧ ∀ v F' H', Step K ρ σ F H r.2 F' H' → VOk H F' H' v r.1 → Q v H'
def tEd (K : PySem.W.Frag) (f : Env → Option (D × Env)) : TE := fun σ H Q => ∃ ρ F r, Rel K ρ σ F H ∧ f ρ = some r ∧ ∀ v F' H', Step K ρ σ F H r.2 F' H' → R F' v r.1 → Q v H'
def tEb (K : PySem.W.Frag) (f : Env → Option (Bool × Env)) : TT := fun σ H Q => ∃ ρ F r, Rel K ρ σ F H ∧ f ρ = some r ∧ ∀ F' H', Step K ρ σ F H r.2 F' H' → Q r.1 H'
def tEs (K : PySem.W.Frag) (f : Env → Option (List D × Env)) : TA := fun σ H Q => ∃ ρ F r, Rel K ρ σ F H ∧ f ρ = some r ∧ ∀ vs F' H', Step K ρ σ F H r.2 F' H' → RL F' vs r.1 → Q vs H'
theorem _root_.L2.PE.weak {X : Cx} {e : Expr} {t t' : TE} (h : PE X e t) (w : ∀ σ H Q, t' σ H Q → t σ H Q) : PE X e t' := ⟨fun pins s σ H Q I q => h.run pins s σ H Q I (w σ H Q q)⟩
theorem _root_.L2.PT.weak {X : Cx} {e : Expr} {t t' : TT} (h : PT X e t) (w : ∀ σ H Q, t' σ H Q → t σ H Q) : PT X e t' := ⟨fun pins s σ H Q I q => h.run pins s σ H Q I (w σ H Q q)⟩
theorem _root_.L2.PW.weak {X : Cx} {e : Expr} {t t' : TT} (h : PW X e t) (w : ∀ σ H Q, t' σ H Q → t σ H Q) : PW X e t' := ⟨fun wh pins s σ H Q I q => h.run wh pins s σ H Q I (w σ H Q q)⟩
theorem _root_.L2.PA.weak {X : Cx} {e : List Expr} {t t' : TA} (h : PA X e t) (w : ∀ σ H Q, t' σ H Q → t σ H Q) : PA X e t' := ⟨fun pos pins s σ H Q I q => h.run pos pins s σ H Q I (w σ H Q q)⟩
theorem _root_.L2.PS.weak {X : Cx} {e : Stmt} {t t' : TS} (h : PS X e t) (w : ∀ D σ H, t' D σ H → t D σ H) : PS X e t' := ⟨fun pins s σ H D I q => h.run pins s σ H D I (w D σ H q)⟩
theorem _root_.L2.PSs.weak {X : Cx} {e : List Stmt} {t t' : TS} (h : PSs X e t) (w : ∀ D σ H, t' D σ H → t D σ H) : PSs X e t' := ⟨fun pins s σ H D I q => h.run pins s σ H D I (w D σ H q)⟩
section
variable {K : PySem.W.Frag} {σ : L2.St} {H : Hp}
theorem frzV_eq {f : Option (Val × Env)} {r : D × Env} (h : frzV f = some r) : ∃ v, f = some (v, r.2) ∧ v.frz = some r.1 := by
  cases f with
  | none => cases h
  | some q =>
    obtain ⟨v, ρ⟩ := q
    simp only [frzV] at h
    cases e : v.frz with
    | none => rw [e] at h; cases h
    | some x =>
      rw [e] at h
      cases h
      exact ⟨v, rfl, e⟩
theorem tEd_of {f : Env → Option (Val × Env)} {Q : VK} (h : tEd K (fun ρ => frzV (f ρ)) σ H Q) : tEv K f σ H Q := by
  obtain ⟨ρ, F, r, rel, e, k⟩ := h
  obtain ⟨v, ev, ef⟩ := frzV_eq e
  refine ⟨ρ, F, _, rel, ev, fun w F' H' st ok => ?_⟩
  obtain ⟨F2, st2, r2⟩ := st.frz ok ef rel
  exact k w F2 H' st2 r2
end

/-! ## an operand that is looked at -/
def Bor (F H : Hp) (v : V) (x : D) : Prop := R F v x ∨ ∃ p vs xs, v = .ref p ∧ x = .list xs ∧ H p = some (.lst vs) ∧ F p = none ∧ RL F vs xs
section
variable {K : PySem.W.Frag} {ρ : Env} {σ : L2.St} {F H F' H' : Hp} {v : V}
theorem Bor.dp {x : D} (s : Sub F H) (b : Bor F H v x) : Dp K H v x := by
  rcases b with b | ⟨p, vs, xs, rfl, rfl, h, _, r⟩
  · exact b.dp s
  · exact .lst (.inl (.inl h)) (r.dp s)
theorem Bor.shaped {x : D} (b : Bor F H v x) (h : x.depth ≤ 64) : SeqAt.shaped x = true := by
  rcases b with b | ⟨p, vs, xs, rfl, rfl, _, _, r⟩
  · exact b.shaped h
  · show (PyData.canLayAll0 xs && decide ((PyData.list xs).depth ≤ 64)) = true
    rw [r.lay, decide_eq_true h]; rfl
theorem Bor.list {xs : List D} (s : Sub F H) (b : Bor F H v (.list xs)) : ∃ p vs, v = .ref p ∧ H p = some (.lst vs) ∧ RL F vs xs := by
  rcases b with b | ⟨p, vs, ys, rfl, e, h, _, r⟩
  · cases b with
    | lst e r => exact ⟨_, _, rfl, s _ _ e, r⟩
  · cases e; exact ⟨p, vs, rfl, h, r⟩
theorem Bor.tup {xs : List D} (s : Sub F H) (b : Bor F H v (.tuple xs)) : ∃ p vs, v = .ref p ∧ H p = some (.tup vs) ∧ F p = some (.tup vs) ∧ RL F vs xs := by
  rcases b with b | ⟨p, vs, ys, rfl, e, h, _, r⟩
  · cases b with
    | tup e r => exact ⟨_, _, rfl, s _ _ e, e, r⟩
  · cases e
theorem Bor.int {i : Int} (b : Bor F H v (.int i)) : v = .int i := by
  rcases b with b | ⟨p, vs, ys, rfl, e, h, _, r⟩
  · cases b; rfl
  · cases e
theorem Bor.bl {i : Bool} (b : Bor F H v (.bool i)) : v = .bl i := by
  rcases b with b | ⟨p, vs, ys, rfl, e, h, _, r⟩
  · cases b; rfl
  · cases e
theorem Bor.non (b : Bor F H v .none) : v = .non := by
  rcases b with b | ⟨p, vs, ys, rfl, e, h, _, r⟩
  · cases b; rfl
  · cases e
theorem Bor.str {x : Str} (b : Bor F H v (.str x)) : v = .str x ∧ PyData.strOk x = true ∧ x.length ≤ 16777216 := by
  rcases b with b | ⟨p, vs, ys, rfl, e, h, _, r⟩
  · cases b with
    | str _ h l => exact ⟨rfl, h, l⟩
  · cases e
theorem Rel.peek (r : Rel K ρ σ F H) {k : Nat} {x : D} (h : peek ρ k = some x) : ∃ v, σ[k]? = some (some v) ∧ Bor F H v x := by
  unfold Mn.peek at h
  cases e : ρ.at k with
  | none => rw [e] at h; cases h
  | some s =>
    rw [e] at h
    obtain ⟨v, hv, ok⟩ := r.ok k s e
    refine ⟨v, hv, ?_⟩
    cases s with
    | d y => cases h; exact .inl ok
    | own xs =>
      cases h
      obtain ⟨p, rfl, f, vs, h1, h2⟩ := ok
      exact .inr ⟨p, vs, xs, rfl, rfl, h1, f, h2⟩
    | io xs =>
      cases h
      obtain ⟨p, rfl, f, vs, h1, h2⟩ := ok
      exact .inr ⟨p, vs, xs, rfl, rfl, h1, f, h2⟩
    | scr _ => cases h
    | dct _ => cases h
    | dtt _ => cases h
end
/-- the reading of an operand that is looked at -/
def tL (K : PySem.W.Frag) (a : Ex) (g : Env → Option (Val × Env)) : TE := match isVar a with
  | some k => tVar k
  | none => tEd K fun ρ => frzV (g ρ)
section
variable {K : PySem.W.Frag} {ρ : Env} {σ : L2.St} {F H : Hp}
theorem tL_run {a : Ex} {g : Env → Option (Val × Env)} {r : D × Env} {P : VK} (rel : Rel K ρ σ F H) (h : look a g ρ = some r) (k : ∀ v F' H', Step K ρ σ F H r.2 F' H' → Bor F' H' v r.1 → P v H') : tL K a g σ H P := by
  unfold look at h
  unfold tL
  cases e : isVar a with
  | some j =>
    rw [e] at h
    simp only at h ⊢
    cases e2 : peek ρ j with
    | none => rw [e2] at h; cases h
    | some x =>
      rw [e2] at h
      cases h
      obtain ⟨v, hv, b⟩ := rel.peek e2
      exact ⟨v, hv, k v F H (Step.refl rel) b⟩
  | none =>
    rw [e] at h
    simp only at h ⊢
    exact ⟨ρ, F, r, rel, h, fun v F' H' st x => k v F' H' st (.inl x)⟩
theorem tL2_run {a b : Ex} {ga gb : Env → Option (Val × Env)} {r : (D × D) × Env} {P : V → V → Hp → Prop} (rel : Rel K ρ σ F H) (h : look2 a b ga gb ρ = some r)
    (k : ∀ v u F' H', Step K ρ σ F H r.2 F' H' → Bor F' H' v r.1.1 → Bor F' H' u r.1.2 → P v u H') : tL K a ga σ H fun v H1 => tL K b gb σ H1 fun u H2 => P v u H2 := by
  unfold look2 at h
  unfold tL
  cases e : isVar a with
  | some j =>
    rw [e] at h
    simp only at h ⊢
    cases e2 : peek ρ j with
    | none => rw [e2] at h; cases h
    | some x0 =>
      rw [e2] at h
      simp only [Option.bind_some] at h
      obtain ⟨v, hv, _⟩ := rel.peek e2
      refine ⟨v, hv, ?_⟩
      cases e3 : look b gb ρ with
      | none => rw [e3] at h; cases h
      | some q =>
        rw [e3] at h
        simp only [Option.bind_some] at h
        cases e4 : peek q.2 j with
        | none => rw [e4] at h; cases h
        | some x =>
          rw [e4] at h
          cases h
          refine tL_run rel e3 fun u F' H' st bu => ?_
          obtain ⟨w, hw, bw⟩ := st.rel.peek e4
          rw [hv] at hw; cases hw
          exact k v u F' H' st bw bu
  | none =>
    rw [e] at h
    simp only at h ⊢
    cases e2 : frzV (ga ρ) with
    | none => rw [e2] at h; cases h
    | some q =>
      rw [e2] at h
      simp only [Option.bind_some] at h
      cases e3 : look b gb q.2 with
      | none => rw [e3] at h; cases h
      | some w =>
        rw [e3] at h
        cases h
        refine ⟨ρ, F, q, rel, e2, fun v F1 H1 st1 x => ?_⟩
        exact tL_run st1.rel e3 fun u F' H' st2 bu => k v u F' H' (st1.trans st2) (.inl (x.mono st2.fs)) bu
end
end Mn

namespace Mn
open PySem PySem.Spec PyProof.Rows L2

/-! ## operations on values -/
theorem sl24 : sizeLine = 16777216 := by decide
section
variable {K : PySem.W.Frag} {ρ : Env} {σ : L2.St} {F H : Hp} {Q : VK}
theorem new_own {vs : List V} {xs : List D} {p : Addr} (rel : Rel K ρ σ F H) (r : RL F vs xs) (hp : H p = none) (k : ∀ v F' H', Step K ρ σ F H ρ F' H' → VOk H F' H' v (.own xs) → Q v H') : Q (.ref p) (upd H p (.lst vs)) :=
  k _ F _ (Step.laid rel hp) ⟨p, rfl, rel.sub.none hp, hp, vs, upd_same, r⟩
theorem new_tup {vs : List V} {xs : List D} {p : Addr} (rel : Rel K ρ σ F H) (r : RL F vs xs) (hp : H p = none) (k : ∀ v F' H', Step K ρ σ F H ρ F' H' → VOk H F' H' v (.d (.tuple xs)) → Q v H') : Q (.ref p) (upd H p (.tup vs)) :=
  k _ _ _ (Step.laidF rel hp) (.tup upd_same (r.mono (Sub.new (rel.sub.none hp))))
theorem same_val {v : V} {x : D} (rel : Rel K ρ σ F H) (r : R F v x) (k : ∀ v F' H', Step K ρ σ F H ρ F' H' → VOk H F' H' v (.d x) → Q v H') : Q v H := k _ _ _ (Step.refl rel) r
theorem strOk_append {x y : Str} (a : PyData.strOk x = true) (b : PyData.strOk y = true) : PyData.strOk (x ++ y) = true := by
  unfold PyData.strOk at *
  rw [Array.all_eq_true'] at *
  rw [Str.cps_append]
  intro i hi
  rcases Array.mem_append.mp hi with h | h
  · exact a i h
  · exact b i h
theorem inW_of {i : Int} (h : inW i = true) : -(2 ^ 64) < i ∧ i < 2 ^ 64 := by
  unfold inW at h
  simp only [ltI_eq, Bool.and_eq_true, decide_eq_true_eq] at h
  omega
end
def rBin (K : PySem.W.Frag) (op : Operator) : R2 := match op with
  | .Add => fun x y H Q => rI0 (fun i j => .int (i + j)) x y H Q ∨ (∃ i j, x = .str i ∧ y = .str j ∧ i.length + j.length ≤ sizeLine ∧ Q (.str (i ++ j)) H) ∨ rCat x y H Q ∨ rCatA K x y H Q
  | .Sub => rI0 (fun i j => .int (i - j))
  | .Mult => fun x y H Q => rI CMul (fun i j => .int (i * j)) x y H Q ∨ rRep x y H Q
  | .FloorDiv => rI CDivW fun i j => .int (i / j)
  | .Mod => rI (fun _ j => 0 < j) fun i j => .int (i % j)
  | .Pow => rI CPow fun i j => .int (i ^ j.toNat)
  | .LShift => rI CPow fun i j => .int (i * 2 ^ j.toNat)
  | _ => fun _ _ _ _ => False
theorem op_none {X : Cx} {f : Value → Value → Sem Value} : OpR X f (fun _ _ _ _ => False) := fun _ _ _ _ _ _ _ _ _ _ _ _ h => h.elim
theorem op_bin {X : Cx} : ∀ op : Operator, OpR X (binaryOp op) (rBin X.K op) := fun op => by
  cases op with
  | Add => exact op_add.or (op_add_str.or (op_cat.or op_catA))
  | Sub => exact op_sub
  | Mult => exact op_mul.or op_rep
  | FloorDiv => exact op_fdivW
  | Mod => exact op_mod
  | Pow => exact op_pow
  | LShift => exact op_shl
  | _ => exact op_none
theorem rep_nil (k : Nat) : (List.replicate k ([] : List D)).flatten = [] := by
  induction k with
  | zero => rfl
  | succ n ih => rw [List.replicate_succ, List.flatten_cons, ih]; rfl
theorem RL.rep {F : Hp} {vs : List V} {xs : List D} (r : RL F vs xs) : ∀ k : Nat, RL F (List.replicate k vs).flatten (List.replicate k xs).flatten
  | 0 => .nil
  | k + 1 => by
    rw [List.replicate_succ, List.replicate_succ, List.flatten_cons, List.flatten_cons]
    exact r.append (RL.rep r k)
section
variable {K : PySem.W.Frag} {ρ : Env} {σ : L2.St} {F H : Hp} {Q : VK}
theorem r_bin {op : Operator} {v u : V} {x y : D} {z : Val} (rel : Rel K ρ σ F H) (bx : Bor F H v x) (by_ : Bor F H u y) (h : binD op x y = some z)
    (k : ∀ w F' H', Step K ρ σ F H ρ F' H' → VOk H F' H' w z → Q w H') : rBin K op v u H Q := by
  unfold binD at h
  split at h
  · cases h
    rw [bx.int, by_.int]
    exact .inl ⟨_, _, rfl, rfl, k _ _ _ (Step.refl rel) (.int _)⟩
  · split at h
    · rename_i hl
      cases h
      obtain ⟨rfl, o1, l1⟩ := bx.str
      obtain ⟨rfl, o2, l2⟩ := by_.str
      exact .inr (.inl ⟨_, _, rfl, rfl, by rw [sl24]; exact hl, k _ _ _ (Step.refl rel) (.str _ (strOk_append o1 o2) (by rw [Str.length_append]; exact hl))⟩)
    · cases h
  · split at h
    · rename_i xs ys hl
      cases h
      obtain ⟨p, vs, rfl, h1, r1⟩ := bx.list rel.sub
      obtain ⟨q, us, rfl, h2, r2⟩ := by_.list rel.sub
      exact .inr (.inr (.inl ⟨p, q, vs, us, rfl, rfl, h1, h2, by rw [sl24, r1.length, r2.length]; exact hl, fun n hn => new_own rel (r1.append r2) hn k⟩))
    · cases h
  · split at h
    · rename_i xs ys hl
      cases h
      obtain ⟨p, vs, rfl, h1, f1, r1⟩ := bx.tup rel.sub
      obtain ⟨q, us, rfl, h2, f2, r2⟩ := by_.tup rel.sub
      refine .inr (.inr (.inr ⟨p, q, vs, us, rfl, rfl, .inl (.inl h1), .inl (.inl h2), by rw [sl24, r1.length, r2.length]; exact hl, fun e => ?_, fun _ e => ?_, fun _ _ n hn => new_tup rel (r1.append r2) hn k⟩))
      · subst e
        cases r1
        exact same_val rel (.tup f2 r2) k
      · subst e
        cases r2
        rw [List.append_nil] at k
        exact same_val rel (.tup f1 r1) k
    · cases h
  · cases h
    rw [bx.int, by_.int]
    exact ⟨_, _, rfl, rfl, k _ _ _ (Step.refl rel) (.int _)⟩
  · split at h
    · rename_i i j hc
      cases h
      rw [bx.int, by_.int]
      refine .inl ⟨_, _, rfl, rfl, ?_, k _ _ _ (Step.refl rel) (.int _)⟩
      rcases (Bool.or_eq_true _ _).mp hc with hc | hc
      · exact .inl (inW_of hc)
      · exact .inr (inW_of hc)
    · cases h
  · split at h
    · rename_i xs j hc
      cases h
      obtain ⟨p, vs, rfl, h1, r1⟩ := bx.list rel.sub
      rw [by_.int]
      exact .inr ⟨p, j, vs, rfl, rfl, h1, by omega, by omega, by rw [sl24, r1.length]; exact hc.2.2, fun n hn => new_own rel (r1.rep _) hn k⟩
    · cases h
  · split at h
    · rename_i i j hc
      cases h
      rw [bx.int, by_.int]
      exact ⟨_, _, rfl, rfl, wide_div (b := 64) hc.1 (by omega) (by decide) (by decide), k _ _ _ (Step.refl rel) (.int _)⟩
    · cases h
  · split at h
    · rename_i i j hc
      cases h
      rw [bx.int, by_.int]
      exact ⟨_, _, rfl, rfl, hc, k _ _ _ (Step.refl rel) (.int _)⟩
    · cases h
  · split at h
    · rename_i i j hc
      cases h
      rw [bx.int, by_.int]
      exact ⟨_, _, rfl, rfl, ⟨hc.1, hc.2.1, hc.2.2⟩, k _ _ _ (Step.refl rel) (.int _)⟩
    · cases h
  · split at h
    · rename_i i j hc
      cases h
      rw [bx.int, by_.int]
      exact ⟨_, _, rfl, rfl, ⟨hc.1, hc.2.1, hc.2.2⟩, k _ _ _ (Step.refl rel) (.int _)⟩
    · cases h
  · cases h
end

/-! ### comparisons -/
def rInT (K : PySem.W.Frag) (neg : Bool) : R2 := fun x y H Q => ∃ d ds, Dp K H x d ∧ Dp K H y (.tuple ds) ∧ SeqAt.shaped d = true ∧ SeqAt.shaped (.tuple ds) = true ∧ Q (.bl (if neg then !(ds.any fun z => PyData.eqv z d) else ds.any fun z => PyData.eqv z d)) H
theorem op_inT {X : Cx} (hu : X.A.units + 65 < cLine) : OpR X (compareOp .In) (rInT X.K false) := by
  intro pins s σ H x y v u Q I rx ry h
  obtain ⟨d, ds, hd, he, sd, se, q⟩ := h
  obtain ⟨as, r1⟩ := Dp.reads I d x v hd rx
  obtain ⟨bs, r2⟩ := Dp.reads I (.tuple ds) y u he ry
  exact SeqAt.in_tuple_reads r2 r1 (SeqAt.canLay_of_shaped se) (SeqAt.canLay_of_shaped sd) (room_in_shaped sd hu) ⟨.bl _, H, I, rfl, q⟩
theorem op_notInT {X : Cx} (hu : X.A.units + 65 < cLine) : OpR X (compareOp .NotIn) (rInT X.K true) := by
  intro pins s σ H x y v u Q I rx ry h
  obtain ⟨d, ds, hd, he, sd, se, q⟩ := h
  obtain ⟨as, r1⟩ := Dp.reads I d x v hd rx
  obtain ⟨bs, r2⟩ := Dp.reads I (.tuple ds) y u he ry
  exact SeqAt.notIn_tuple_reads r2 r1 (SeqAt.canLay_of_shaped se) (SeqAt.canLay_of_shaped sd) (room_in_shaped sd hu) ⟨.bl _, H, I, rfl, q⟩
def rCmp (K : PySem.W.Frag) (op : CmpOp) : R2 := match op with
  | .Eq => rEqD K
  | .NotEq => rNeD K
  | .Lt => rI0 (fun i j => .bl (decide (i < j)))
  | .LtE => rI0 (fun i j => .bl (decide (i ≤ j)))
  | .Gt => rI0 (fun i j => .bl (decide (j < i)))
  | .GtE => rI0 (fun i j => .bl (decide (j ≤ i)))
  | .Is => fun x y H Q => (y = .non ∧ Q (.bl (decide (x = .non))) H) ∨ rIsB x y H Q
  | .IsNot => fun x y H Q => (y = .non ∧ Q (.bl (!decide (x = .non))) H) ∨ rNotB x y H Q
  | .In => fun x y H Q => (∃ (c : Nat) (z : Str), x = .str ⟨#[c]⟩ ∧ y = .str z ∧ Q (.bl (decide (c ∈ z.cps.toList))) H) ∨ rInD K x y H Q ∨ rInT K false x y H Q
  | .NotIn => fun x y H Q => (∃ (c : Nat) (z : Str), x = .str ⟨#[c]⟩ ∧ y = .str z ∧ Q (.bl (!decide (c ∈ z.cps.toList))) H) ∨ rNotInD K x y H Q ∨ rInT K true x y H Q
theorem op_cmpR {X : Cx} (hu : X.A.units + 65 < cLine) : ∀ op : CmpOp, OpR X (compareOp op) (rCmp X.K op) := fun op => by
  have hu2 : X.A.units + 64 < cLine := by omega
  cases op with
  | Eq => exact op_eqD hu2
  | NotEq => exact op_neD hu2
  | Lt => exact op_lt
  | LtE => exact op_le
  | Gt => exact op_gt
  | GtE => exact op_ge
  | Is => exact op_isN.or op_isBl
  | IsNot => exact op_notN.or op_notBl
  | In => exact op_in_sign.or ((op_inD hu).or (op_inT hu))
  | NotIn => exact op_notIn_sign.or ((op_notInD hu).or (op_notInT hu))
section
variable {K : PySem.W.Frag} {F H : Hp} {Q : VK}
theorem str_one {y : Str} {c : Nat} (h : y.cps.toList = [c]) : y = ⟨#[c]⟩ := by
  obtain ⟨a⟩ := y
  have : a = #[c] := by
    apply Array.toList_inj.mp
    simpa using h
  rw [this]
theorem Bor.nonIff {v : V} {x : D} (b : Bor F H v x) : decide (v = V.non) = isNon x := by
  rcases b with b | ⟨p, vs, ys, rfl, rfl, h, _, r⟩
  · cases b <;> simp [isNon]
  · simp [isNon]
theorem r_cmp {op : CmpOp} {v u : V} {x y : D} {z : Bool} (s : Sub F H) (bx : Bor F H v x) (by_ : Bor F H u y) (h : cmpD op x y = some z) (k : Q (.bl z) H) : rCmp K op v u H Q := by
  have eq2 : ∀ {z}, eqD x y = some z → z = PyData.eqv x y ∧ x.depth ≤ 64 ∧ y.depth ≤ 64 := fun {z} e => by
    unfold eqD at e
    split at e
    · rename_i c; cases e; exact ⟨rfl, c.1, c.2⟩
    · cases e
  have in2 : ∀ {z}, inD x y = some z → (∃ c w, x = .str ⟨#[c]⟩ ∧ y = .str w ∧ z = decide (c ∈ w.cps.toList)) ∨ (∃ ds, y = .list ds ∧ x.depth ≤ 64 ∧ y.depth ≤ 64 ∧ z = ds.any fun w => PyData.eqv w x) ∨
      (∃ ds, y = .tuple ds ∧ x.depth ≤ 64 ∧ y.depth ≤ 64 ∧ z = ds.any fun w => PyData.eqv w x) := fun {z} e => by
    unfold inD at e
    split at e
    · split at e
      · split at e
        · rename_i c hc
          cases e
          exact .inl ⟨c, _, by rw [str_one hc], rfl, rfl⟩
        · cases e
      · cases e
    · split at e
      · rename_i c; cases e; exact .inr (.inl ⟨_, rfl, c.1, c.2, rfl⟩)
      · cases e
    · split at e
      · rename_i c; cases e; exact .inr (.inr ⟨_, rfl, c.1, c.2, rfl⟩)
      · cases e
    · cases e
  have is2 : ∀ {z}, isD x y = some z → (y = .none ∧ z = isNon x) ∨ (∃ a b, x = .bool a ∧ y = .bool b ∧ z = decide (a = b)) := fun {z} e => by
    unfold isD at e
    split at e
    · cases e; exact .inl ⟨rfl, rfl⟩
    · split at e
      · cases e; exact .inr ⟨_, _, rfl, rfl, rfl⟩
      · cases e
    · cases e
  cases op with
  | Eq =>
    obtain ⟨rfl, d1, d2⟩ := eq2 h
    exact ⟨x, y, bx.dp s, by_.dp s, bx.shaped d1, by_.shaped d2, k⟩
  | NotEq =>
    simp only [cmpD, Option.map_eq_some_iff] at h
    obtain ⟨w, h, rfl⟩ := h
    obtain ⟨rfl, d1, d2⟩ := eq2 h
    exact ⟨x, y, bx.dp s, by_.dp s, bx.shaped d1, by_.shaped d2, k⟩
  | Lt =>
    simp only [cmpD] at h
    split at h
    · cases h; rw [bx.int, by_.int]; exact ⟨_, _, rfl, rfl, k⟩
    · cases h
  | LtE =>
    simp only [cmpD] at h
    split at h
    · cases h; rw [bx.int, by_.int]; exact ⟨_, _, rfl, rfl, k⟩
    · cases h
  | Gt =>
    simp only [cmpD] at h
    split at h
    · cases h; rw [bx.int, by_.int]; exact ⟨_, _, rfl, rfl, k⟩
    · cases h
  | GtE =>
    simp only [cmpD] at h
    split at h
    · cases h; rw [bx.int, by_.int]; exact ⟨_, _, rfl, rfl, k⟩
    · cases h
  | Is =>
    rcases is2 h with ⟨rfl, rfl⟩ | ⟨a, b, rfl, rfl, rfl⟩
    · exact .inl ⟨by_.non, by rw [bx.nonIff]; exact k⟩
    · exact .inr ⟨a, b, bx.bl, by_.bl, k⟩
  | IsNot =>
    simp only [cmpD, Option.map_eq_some_iff] at h
    obtain ⟨w, h, rfl⟩ := h
    rcases is2 h with ⟨rfl, rfl⟩ | ⟨a, b, rfl, rfl, rfl⟩
    · exact .inl ⟨by_.non, by rw [bx.nonIff]; exact k⟩
    · exact .inr ⟨a, b, bx.bl, by_.bl, k⟩
  | In =>
    rcases in2 h with ⟨c, w, rfl, rfl, rfl⟩ | ⟨ds, rfl, d1, d2, rfl⟩ | ⟨ds, rfl, d1, d2, rfl⟩
    · exact .inl ⟨c, w, bx.str.1, by_.str.1, k⟩
    · exact .inr (.inl ⟨x, ds, bx.dp s, by_.dp s, bx.shaped d1, by_.shaped d2, k⟩)
    · exact .inr (.inr ⟨x, ds, bx.dp s, by_.dp s, bx.shaped d1, by_.shaped d2, k⟩)
  | NotIn =>
    simp only [cmpD, Option.map_eq_some_iff] at h
    obtain ⟨w, h, rfl⟩ := h
    rcases in2 h with ⟨c, w, rfl, rfl, rfl⟩ | ⟨ds, rfl, d1, d2, rfl⟩ | ⟨ds, rfl, d1, d2, rfl⟩
    · exact .inl ⟨c, w, bx.str.1, by_.str.1, k⟩
    · exact .inr (.inl ⟨x, ds, bx.dp s, by_.dp s, bx.shaped d1, by_.shaped d2, k⟩)
    · exact .inr (.inr ⟨x, ds, bx.dp s, by_.dp s, bx.shaped d1, by_.shaped d2, k⟩)
end

/-! ### subscripts, slices -/
theorem RL.at {F : Hp} {vs : List V} {xs : List D} {i : Int} {d : D} (r : RL F vs xs) (h : atI xs i = some d) : ∃ v, atI vs i = some v ∧ R F v d := by
  unfold atI at *
  rw [r.length]
  cases e : ixN xs.length i with
  | none => rw [e] at h; cases h
  | some j =>
    rw [e] at h
    simp only [Option.bind_some] at h ⊢
    exact r.get h
theorem strOk_sub {x : Str} {l : List Nat} (h : PyData.strOk x = true) (s : ∀ c ∈ l, c ∈ x.cps.toList) : PyData.strOk ⟨l.toArray⟩ = true := by
  unfold PyData.strOk at *
  rw [Array.all_eq_true'] at *
  intro i hi
  exact h i (by
    have := s i (by simpa using hi)
    simpa using this)
theorem atI_mem {α : Type} {xs : List α} {i : Int} {x : α} (h : atI xs i = some x) : x ∈ xs := by
  unfold atI at h
  cases e : ixN xs.length i with
  | none => rw [e] at h; cases h
  | some j => rw [e] at h; exact List.mem_of_getElem? h
section
variable {K : PySem.W.Frag} {ρ : Env} {σ : L2.St} {F H : Hp} {Q : VK}
theorem r_ix {v u : V} {x y z : D} (s : Sub F H) (bx : Bor F H v x) (by_ : Bor F H u y) (h : ixD x y = some z) (k : ∀ w, R F w z → Q w H) : rIx K v u H Q := by
  unfold ixD at h
  split at h
  · rename_i i
    rw [by_.int]
    split at h
    · obtain ⟨p, vs, rfl, h1, r1⟩ := bx.list s
      obtain ⟨w, hw, rw_⟩ := r1.at h
      exact .inl ⟨p, vs, i, w, rfl, rfl, .inl (.inl h1), hw, k w rw_⟩
    · obtain ⟨p, vs, rfl, h1, _, r1⟩ := bx.tup s
      obtain ⟨w, hw, rw_⟩ := r1.at h
      exact .inr (.inl ⟨p, vs, i, w, rfl, rfl, .inl (.inl h1), hw, k w rw_⟩)
    · rename_i zz
      simp only [Option.map_eq_some_iff] at h
      obtain ⟨c, hc, rfl⟩ := h
      obtain ⟨rfl, o1, l1⟩ := bx.str
      refine .inr (.inr ⟨zz, i, c, rfl, rfl, by rw [sl24]; exact l1, hc, k _ (.str _ (strOk_sub (l := [c]) o1 fun d hd => ?_) (by show 1 ≤ _; decide))⟩)
      cases List.mem_singleton.mp hd
      exact atI_mem hc
    · cases h
  · cases h
def rSl (K : PySem.W.Frag) : V → Option Int → Option Int → Hp → VK → Prop := fun x lo hi H Q => rSlL K x lo hi H Q ∨ rSlA K x lo hi H Q ∨ rSlS x lo hi H Q
theorem SlR.or {X : Cx} {r r' : V → Option Int → Option Int → Hp → VK → Prop} (h : SlR X r) (h' : SlR X r') : SlR X (fun x lo hi H Q => r x lo hi H Q ∨ r' x lo hi H Q) := by
  intro pins s σ H x v vl vu lo hi sl Q I rx hs pl pu q
  rcases q with q | q
  · exact h pins s σ H x v vl vu lo hi sl Q I rx hs pl pu q
  · exact h' pins s σ H x v vl vu lo hi sl Q I rx hs pl pu q
theorem sl_all {X : Cx} : SlR X (rSl X.K) := SlR.or sl_list (SlR.or sl_tupA sl_str)
theorem cutA_all {α : Type} (xs : List α) (lo hi : Option Int) (h : HT.sIx xs.length 0 lo = 0 ∧ HT.sIx xs.length xs.length hi = xs.length) : cutA xs lo hi = xs := by
  unfold cutA
  rw [h.1, h.2, List.drop_zero, Nat.sub_zero, List.take_length]
theorem cutS_ok {x : Str} {lo hi : Option Int} (h : PyData.strOk x = true) : PyData.strOk (cutS x lo hi) = true := by
  unfold cutS
  exact strOk_sub h fun c hc => List.mem_of_mem_drop (List.mem_of_mem_take hc)
theorem r_sl {v : V} {x : D} {lo hi : Option Int} {z : Val} (rel : Rel K ρ σ F H) (bx : Bor F H v x) (h : slD x lo hi = some z)
    (k : ∀ w F' H', Step K ρ σ F H ρ F' H' → VOk H F' H' w z → Q w H') : rSl K v lo hi H Q := by
  unfold slD at h
  split at h
  · cases h
    obtain ⟨p, vs, rfl, h1, r1⟩ := bx.list rel.sub
    exact .inl ⟨p, vs, rfl, .inl (.inl h1), fun n hn => new_own rel (r1.cut lo hi) hn k⟩
  · cases h
    obtain ⟨p, vs, rfl, h1, f1, r1⟩ := bx.tup rel.sub
    refine .inr (.inl ⟨p, vs, rfl, .inl (.inl h1), fun c => ?_, fun c n hn => new_tup rel (r1.cut lo hi) hn k⟩)
    rw [r1.length] at c
    rw [cutA_all _ _ _ c] at k
    exact same_val rel (.tup f1 r1) k
  · cases h
    obtain ⟨rfl, o1, l1⟩ := bx.str
    exact .inr (.inr ⟨_, rfl, by rw [sl24]; exact l1, k _ _ _ (Step.refl rel) (.str _ (cutS_ok o1) (Nat.le_trans (cutS_length _ _ _) l1))⟩)
  · cases h
end
end Mn

namespace Mn
open PySem PySem.Spec PyProof.Rows L2

/-! ## built-ins of one value -/
def rB1 (K : PySem.W.Frag) (b : BI) : List V → Hp → VK → Prop := fun vs H Q => ∃ ρ σ F v x z, vs = [v] ∧ Rel K ρ σ F H ∧ Bor F H v x ∧ bi1D b x = some z ∧ ∀ w F' H', Step K ρ σ F H ρ F' H' → VOk H F' H' w z → Q w H'
def biFn : BI → Option String
  | .len => some "len"
  | .min1 => some "min"
  | .max1 => some "max"
  | .sum => some "sum"
  | .all => some "all"
  | .any => some "any"
  | .sorted => some "sorted"
  | .min2 => some "min"
  | .max2 => some "max"
  | _ => none
def biTy : BI → Option String
  | .list => some "list"
  | .tuple => some "tuple"
  | .int => some "int"
  | .str => some "str"
  | _ => none
theorem min_uniq {ns : List Int} {m : Int} (h : minL ns = some m) : 0 < ns.length ∧ ∀ k, k ∈ ns → (∀ y, y ∈ ns → k ≤ y) → k = m := by
  have key : ∀ (l : List Int) (a : Int), (l.foldl min a) ≤ a ∧ (∀ y ∈ l, l.foldl min a ≤ y) ∧ (l.foldl min a = a ∨ l.foldl min a ∈ l) := by
    intro l
    induction l with
    | nil => intro a; exact ⟨Int.le_refl _, (fun _ h => nomatch h), .inl rfl⟩
    | cons b r ih =>
      intro a
      rw [List.foldl_cons]
      obtain ⟨h1, h2, h3⟩ := ih (min a b)
      refine ⟨by omega, fun y hy => ?_, ?_⟩
      · rcases List.mem_cons.mp hy with e | e
        · subst e; omega
        · exact h2 y e
      · rcases h3 with e | e
        · rw [e]
          by_cases c : a ≤ b
          · exact .inl (by omega)
          · right
            rw [show min a b = b by omega]
            exact List.mem_cons_self
        · exact .inr (List.mem_cons_of_mem _ e)
  cases ns with
  | nil => cases h
  | cons a r =>
    cases h
    obtain ⟨h1, h2, h3⟩ := key r a
    refine ⟨by simp, fun k hk hle => ?_⟩
    have u1 : k ≤ r.foldl min a := by
      rcases h3 with e | e
      · rw [e]; exact hle a List.mem_cons_self
      · exact hle _ (List.mem_cons_of_mem _ e)
    have u2 : r.foldl min a ≤ k := by
      rcases List.mem_cons.mp hk with e | e
      · rw [e]; exact h1
      · exact h2 k e
    omega
theorem max_uniq {ns : List Int} {m : Int} (h : maxL ns = some m) : 0 < ns.length ∧ ∀ k, k ∈ ns → (∀ y, y ∈ ns → y ≤ k) → k = m := by
  have key : ∀ (l : List Int) (a : Int), a ≤ (l.foldl max a) ∧ (∀ y ∈ l, y ≤ l.foldl max a) ∧ (l.foldl max a = a ∨ l.foldl max a ∈ l) := by
    intro l
    induction l with
    | nil => intro a; exact ⟨Int.le_refl _, (fun _ h => nomatch h), .inl rfl⟩
    | cons b r ih =>
      intro a
      rw [List.foldl_cons]
      obtain ⟨h1, h2, h3⟩ := ih (max a b)
      refine ⟨by omega, fun y hy => ?_, ?_⟩
      · rcases List.mem_cons.mp hy with e | e
        · subst e; omega
        · exact h2 y e
      · rcases h3 with e | e
        · rw [e]
          by_cases c : b ≤ a
          · exact .inl (by omega)
          · right
            rw [show max a b = b by omega]
            exact List.mem_cons_self
        · exact .inr (List.mem_cons_of_mem _ e)
  cases ns with
  | nil => cases h
  | cons a r =>
    cases h
    obtain ⟨h1, h2, h3⟩ := key r a
    refine ⟨by simp, fun k hk hle => ?_⟩
    have u1 : r.foldl max a ≤ k := by
      rcases h3 with e | e
      · rw [e]; exact hle a List.mem_cons_self
      · exact hle _ (List.mem_cons_of_mem _ e)
    have u2 : k ≤ r.foldl max a := by
      rcases List.mem_cons.mp hk with e | e
      · rw [e]; exact h1
      · exact h2 k e
    omega
section
variable {X : Cx}
theorem b_len : CallR X (.builtin "len") (rB1 X.K .len) := by
  intro pins s σ H vs us Q I r h
  obtain ⟨ρ, σ', F, v, x, z, rfl, rel, b, e, k⟩ := h
  unfold bi1D at e
  simp only at e
  split at e
  · cases e
    obtain ⟨p, ws, rfl, h1, r1⟩ := b.list rel.sub
    exact call_len_seq pins s σ H _ us Q I r ⟨p, ws, rfl, .inl (.inl (.inl h1)), by rw [r1.length]; exact k _ _ _ (Step.refl rel) (.int _)⟩
  · cases e
    obtain ⟨p, ws, rfl, h1, _, r1⟩ := b.tup rel.sub
    exact call_len_seq pins s σ H _ us Q I r ⟨p, ws, rfl, .inr (.inl (.inl h1)), by rw [r1.length]; exact k _ _ _ (Step.refl rel) (.int _)⟩
  · cases e
    obtain ⟨rfl, o1, l1⟩ := b.str
    exact call_len_str pins s σ H _ us Q I r ⟨_, rfl, by rw [sl24]; exact l1, k _ _ _ (Step.refl rel) (.int _)⟩
  · cases e
theorem b_min1 (hc : X.calm = true) : CallR X (.builtin "min") (rB1 X.K .min1) := by
  intro pins s σ H vs us Q I r h
  obtain ⟨ρ, σ', F, v, x, z, rfl, rel, b, e, k⟩ := h
  unfold bi1D at e
  simp only at e
  split at e
  · rename_i xs
    cases e1 : dInts xs with
    | none => rw [e1] at e; cases e
    | some ns =>
      rw [e1] at e
      simp only [Option.bind_some, Option.map_eq_some_iff] at e
      obtain ⟨m, hm, rfl⟩ := e
      obtain ⟨p, ws, rfl, h1, r1⟩ := b.list rel.sub
      obtain ⟨u1, u2⟩ := min_uniq hm
      refine cr_min hc pins s σ H _ us Q I r ⟨p, ns, rfl, .inl (.inl (by rw [← r1.ints e1]; exact h1)), u1, fun j hj hle => ?_⟩
      rw [u2 j hj hle]
      exact k _ _ _ (Step.refl rel) (.int _)
  · cases e
theorem b_max1 (hc : X.calm = true) : CallR X (.builtin "max") (rB1 X.K .max1) := by
  intro pins s σ H vs us Q I r h
  obtain ⟨ρ, σ', F, v, x, z, rfl, rel, b, e, k⟩ := h
  unfold bi1D at e
  simp only at e
  split at e
  · rename_i xs
    cases e1 : dInts xs with
    | none => rw [e1] at e; cases e
    | some ns =>
      rw [e1] at e
      simp only [Option.bind_some, Option.map_eq_some_iff] at e
      obtain ⟨m, hm, rfl⟩ := e
      obtain ⟨p, ws, rfl, h1, r1⟩ := b.list rel.sub
      obtain ⟨u1, u2⟩ := max_uniq hm
      refine cr_max hc pins s σ H _ us Q I r ⟨p, ns, rfl, .inl (.inl (by rw [← r1.ints e1]; exact h1)), u1, fun j hj hle => ?_⟩
      rw [u2 j hj hle]
      exact k _ _ _ (Step.refl rel) (.int _)
  · cases e
theorem b_sum (hc : X.calm = true) : CallR X (.builtin "sum") (rB1 X.K .sum) := by
  intro pins s σ H vs us Q I r h
  obtain ⟨ρ, σ', F, v, x, z, rfl, rel, b, e, k⟩ := h
  unfold bi1D at e
  simp only at e
  split at e
  · simp only [Option.map_eq_some_iff] at e
    obtain ⟨ns, hn, rfl⟩ := e
    obtain ⟨p, ws, rfl, h1, r1⟩ := b.list rel.sub
    exact cr_sum hc pins s σ H _ us Q I r ⟨p, ns, rfl, .inl (.inl (by rw [← r1.ints hn]; exact h1)), k _ _ _ (Step.refl rel) (.int _)⟩
  · cases e
theorem b_all (hc : X.calm = true) : CallR X (.builtin "all") (rB1 X.K .all) := by
  intro pins s σ H vs us Q I r h
  obtain ⟨ρ, σ', F, v, x, z, rfl, rel, b, e, k⟩ := h
  unfold bi1D at e
  simp only at e
  split at e
  · simp only [Option.map_eq_some_iff] at e
    obtain ⟨ns, hn, rfl⟩ := e
    obtain ⟨p, ws, rfl, h1, r1⟩ := b.list rel.sub
    exact cr_all hc pins s σ H _ us Q I r ⟨p, ns, rfl, .inl (.inl (by rw [← r1.bools hn]; exact h1)), k _ _ _ (Step.refl rel) (.bl _)⟩
  · cases e
theorem b_any (hc : X.calm = true) : CallR X (.builtin "any") (rB1 X.K .any) := by
  intro pins s σ H vs us Q I r h
  obtain ⟨ρ, σ', F, v, x, z, rfl, rel, b, e, k⟩ := h
  unfold bi1D at e
  simp only at e
  split at e
  · simp only [Option.map_eq_some_iff] at e
    obtain ⟨ns, hn, rfl⟩ := e
    obtain ⟨p, ws, rfl, h1, r1⟩ := b.list rel.sub
    exact cr_any hc pins s σ H _ us Q I r ⟨p, ns, rfl, .inl (.inl (by rw [← r1.bools hn]; exact h1)), k _ _ _ (Step.refl rel) (.bl _)⟩
  · cases e
theorem b_list : CallR X (.type "list") (rB1 X.K .list) := by
  intro pins s σ H vs us Q I r h
  obtain ⟨ρ, σ', F, v, x, z, rfl, rel, b, e, k⟩ := h
  unfold bi1D at e
  simp only at e
  split at e
  · cases e
    obtain ⟨p, ws, rfl, h1, r1⟩ := b.list rel.sub
    exact call_list_of pins s σ H _ us Q I r ⟨p, ws, rfl, .inl (.inl (.inl h1)), fun n hn => new_own rel r1 hn k⟩
  · cases e
    obtain ⟨p, ws, rfl, h1, _, r1⟩ := b.tup rel.sub
    exact call_list_of pins s σ H _ us Q I r ⟨p, ws, rfl, .inr (.inl (.inl h1)), fun n hn => new_own rel r1 hn k⟩
  · cases e
theorem b_tuple : CallR X (.type "tuple") (rB1 X.K .tuple) := by
  intro pins s σ H vs us Q I r h
  obtain ⟨ρ, σ', F, v, x, z, rfl, rel, b, e, k⟩ := h
  unfold bi1D at e
  simp only at e
  split at e
  · cases e
    obtain ⟨p, ws, rfl, h1, r1⟩ := b.list rel.sub
    exact call_tuple_of pins s σ H _ us Q I r ⟨p, ws, rfl, .inl ⟨.inl (.inl h1), fun n hn => new_tup rel r1 hn k⟩⟩
  · cases e
    obtain ⟨p, ws, rfl, h1, f1, r1⟩ := b.tup rel.sub
    exact call_tuple_of pins s σ H _ us Q I r ⟨p, ws, rfl, .inr ⟨.inl (.inl h1), same_val rel (.tup f1 r1) k⟩⟩
  · cases e
theorem b_int : CallR X (.type "int") (rB1 X.K .int) := by
  intro pins s σ H vs us Q I r h
  obtain ⟨ρ, σ', F, v, x, z, rfl, rel, b, e, k⟩ := h
  obtain ⟨u, rfl, ru⟩ := vals1 r
  unfold bi1D at e
  simp only at e
  split at e
  · cases e
    rw [b.int] at ru
    obtain ⟨t, rfl⟩ := ru
    exact call_int_int ⟨.int _, H, I, ⟨_, rfl⟩, k _ _ _ (Step.refl rel) (.int _)⟩
  · cases e
    rw [b.bl] at ru
    cases ru
    exact call_int_bool ⟨.int _, H, I.tok _, ⟨_, rfl⟩, k _ _ _ (Step.refl rel) (.int _)⟩
  · split at e
    · rename_i hl
      simp only [Option.map_eq_some_iff] at e
      obtain ⟨n, hn, rfl⟩ := e
      obtain ⟨rfl, o1, l1⟩ := b.str
      exact call_int_str pins s σ H _ _ Q I (.cons ru .nil) ⟨_, n, rfl, hn, hl, k _ _ _ (Step.refl rel) (.int _)⟩
    · cases e
  · cases e
theorem strOk_of (s : String) : PyData.strOk (Str.ofString s) = true := by
  rw [Str.ofString_eq_toList]
  unfold PyData.strOk
  rw [Array.all_eq_true']
  intro i hi
  simp only [List.mem_toArray, List.mem_map] at hi
  obtain ⟨c, _, rfl⟩ := hi
  have := c.valid
  have h2 : c.toNat = c.val.toNat := rfl
  rcases this with h | ⟨_, h⟩
  · simp only [decide_eq_true_eq]
    rw [h2]
    have := h
    omega
  · simp only [decide_eq_true_eq]
    rw [h2]
    have := h
    omega
theorem strOk_str {i : Int} (h : i.natAbs.log2 < 1920) : PyData.strOk (intStr i) = true ∧ (intStr i).length ≤ 16777216 :=
  ⟨strOk_of _, by rw [← sl24]; exact PySem.int_text_fits h⟩
theorem b_str : CallR X (.type "str") (rB1 X.K .str) := by
  intro pins s σ H vs us Q I r h
  obtain ⟨ρ, σ', F, v, x, z, rfl, rel, b, e, k⟩ := h
  obtain ⟨u, rfl, ru⟩ := vals1 r
  unfold bi1D at e
  simp only at e
  split at e
  · split at e
    · rename_i hl
      cases e
      rw [b.int] at ru
      obtain ⟨t, rfl⟩ := ru
      exact P.str_of_int hl ⟨.str _, H, I.tok _, ⟨_, rfl⟩, k _ _ _ (Step.refl rel) (.str _ (strOk_str hl).1 (strOk_str hl).2)⟩
    · cases e
  · cases e
end
end Mn

namespace Mn
open PySem PySem.Spec PyProof.Rows L2

/-! ## promises -/
def spEv (C : CallF) (f : Nat) : Sp := fun vs H Q _ =>
  (∃ F ds v, Sub F H ∧ RL F vs ds ∧ C f none ds = some (v, none) ∧ ∀ w F' H', Sub F' H' → Ext (fun _ => False) F H F' H' → VOk H F' H' w v → Q w H') ∨
  (∃ F ds p xs v ys vs', vs = .ref p :: vs' ∧ Sub F H ∧ RL F vs' ds ∧ F p = none ∧ MutOk F H p (.io xs) ∧ C f (some xs) ds = some (v, some ys) ∧
    ∀ w F' H', Sub F' H' → Ext (· = p) F H F' H' → F' p = none → MutOk F' H' p (.io ys) → VOk H F' H' w v → Q w H')
/-- the text's names, the modules' constants -/
structure Cfg where
  nm : Nat → Str
  cs : List (Str × D)
  bn : List Str
  srt : Bool
  f2 : Bool := false
/-- what stands around a piece of code -/
structure Gd (G : Cfg) (C : CallF) (n : Nat) (N : List Str) (sc : Scope) (X : Cx) : Prop where
  calm : X.calm = true
  nd : N.Nodup
  xn : X.N = N
  hr : Room n X.A
  sco : ∀ x k, sc.names.lookup x = some k → X.env.scope.names.lookup x = some k ∨ (k = .free ∧ X.env.scope.names.lookup x = some .cell)
  fnc : ∀ x, sc.names.lookup x = some .cell → X.fn x = true
  kind : X.env.scope.kind = .function
  xe : X.xe = fun _ _ => False
  fns : ∀ f io ds r, C f io ds = some r → ∃ k addr data ps, k ≤ n ∧ FnOk X.prog X.w X.K X.mg X.base CX0 k addr data ps (spEv C f) ∧ X.mg (G.nm f) = some (.ref addr) ∧ PySem.W.keepIn X.K (.ref addr) = true ∧ Binds X.K data ps []
  bl : ∀ x ∈ G.bn, X.mg x = none
  gl : ∀ x v, (x, v) ∈ G.cs → ∃ u w, X.mg x = some u ∧ RelV w u ∧ ∀ F, R F w v

/-! ## an expression kept -/
structure SE (X : Cx) (C : CallF) (e : Expr) (a : Ex) : Prop where
  v : PE X e (tEv X.K (ev C a))
  l : PE X e (tL X.K a (ev C a))
section
variable {G : Cfg} {C : CallF} {n : Nat} {N : List Str} {sc : Scope} {X : Cx}
theorem _root_.L2.PE.frz {e : Expr} {f : Env → Option (Val × Env)} (h : PE X e (tEv X.K f)) : PE X e (tEd X.K fun ρ => frzV (f ρ)) := h.weak fun _ _ _ => tEd_of
theorem SE.of {e : Expr} {a : Ex} (h : PE X e (tEv X.K (ev C a))) (nv : isVar a = none) : SE X C e a := ⟨h, by
  unfold tL
  rw [nv]
  exact h.frz⟩
theorem SE.d {e : Expr} {a : Ex} (h : SE X C e a) : PE X e (tEd X.K fun ρ => frzV (ev C a ρ)) := h.v.frz

/-! ### names -/
def visB (sc : Scope) (x : Str) : Bool := match sc.names.lookup x with
  | some .local => true
  | some .cell => true
  | some .free => true
  | _ => false
def glB (sc : Scope) (x : Str) : Bool := match sc.names.lookup x with
  | some .globalImplicit => true
  | _ => false
def locB (sc : Scope) (x : Str) : Bool := match sc.names.lookup x with
  | some .local => true
  | some .cell => true
  | _ => false
theorem Gd.vis (g : Gd G C n N sc X) {x : Str} (h : visB sc x = true) : Vis X.env.scope x := by
  unfold visB at h
  split at h
  · rename_i e
    rcases g.sco _ _ e with q | ⟨q, _⟩
    · exact .inl q
    · cases q
  · rename_i e
    rcases g.sco _ _ e with q | ⟨q, _⟩
    · exact .inr (.inl q)
    · cases q
  · rename_i e
    rcases g.sco _ _ e with q | ⟨_, q⟩
    · exact .inr (.inr q)
    · exact .inr (.inl q)
  · cases h
theorem Gd.glob (g : Gd G C n N sc X) {x : Str} (h : glB sc x = true) : Gl X x := by
  unfold glB at h
  split at h
  · rename_i e
    rcases g.sco _ _ e with q | ⟨q, _⟩
    · exact q
    · cases q
  · cases h
theorem Gd.loc (g : Gd G C n N sc X) {x : Str} (h : locB sc x = true) : Loc X.env.scope x ∧ (X.fn x = true ∨ X.env.scope.names.lookup x = some .local) := by
  unfold locB at h
  split at h
  · rename_i e
    rcases g.sco _ _ e with q | ⟨q, _⟩
    · exact ⟨.inl q, .inr q⟩
    · cases q
  · rename_i e
    rcases g.sco _ _ e with q | ⟨q, _⟩
    · exact ⟨.inr q, .inl (g.fnc _ e)⟩
    · cases q
  · cases h
theorem Gd.units (g : Gd G C n N sc X) : X.A.units + 65 < cLine := by have := g.hr.un; omega

/-- a name's list frozen -/
theorem Rel.frzSlot {K : PySem.W.Frag} {ρ : Env} {σ : L2.St} {F H : Hp} {k : Nat} {xs : List D} (rel : Rel K ρ σ F H) (e : ρ.at k = some (.own xs)) :
    ∃ p vs, σ[k]? = some (some (.ref p)) ∧ F p = none ∧ H p = some (.lst vs) ∧ RL F vs xs ∧ Step K ρ σ F H (ρ.put k (.d (.list xs))) (upd F p (.lst vs)) H := by
  obtain ⟨v, hv, ok⟩ := rel.ok k _ e
  obtain ⟨p, rfl, f, vs, h1, h2⟩ := ok
  have hk : k < ρ.length := by
    have := (List.getElem?_eq_some_iff.mp hv).1
    rw [rel.len]; exact this
  have oth : ∀ i s, (ρ.put k (.d (.list xs))).at i = some s → (i = k ∧ s = .d (.list xs)) ∨ (i ≠ k ∧ ρ.at i = some s) := fun i s hs => by
    unfold Env.at Env.put at *
    by_cases c : i = k
    · subst c
      rw [List.getElem?_set_self hk] at hs
      cases hs; exact .inl ⟨rfl, rfl⟩
    · rw [List.getElem?_set_ne (Ne.symm c)] at hs
      exact .inr ⟨c, hs⟩
  have ownA : ∀ b, OwnA (ρ.put k (.d (.list xs))) σ b → OwnA ρ σ b ∧ b ≠ p := fun b ⟨i, s, h3, h4, h5⟩ => by
    rcases oth i s h3 with ⟨_, rfl⟩ | ⟨c, h6⟩
    · cases h4
    · refine ⟨⟨i, s, h6, h4, h5⟩, fun z => ?_⟩
      subst z
      exact c (rel.dis i k s _ b h6 e h4 rfl h5 hv)
  have sub2 : Sub (upd F p (.lst vs)) H := fun b o hb => by
    by_cases c : b = p
    · subst c; rw [upd_same] at hb; cases hb; exact h1
    · rw [upd_ne c] at hb; exact rel.sub b o hb
  refine ⟨p, vs, hv, f, h1, h2, ⟨by show List.length (List.set _ _ _) = _; rw [List.length_set]; exact rel.len, sub2, fun i s hs => ?_, fun i j s t b h3 h4 h5 h6 h7 h8 => ?_⟩, ⟨Sub.new f, fun _ _ z _ => z, fun b z => ?_, fun _ z => z⟩, fun b z => (ownA b z).1, fun b ⟨i, s, h3, h4, h5⟩ => ?_⟩
  · rcases oth i s hs with ⟨rfl, rfl⟩ | ⟨c, h3⟩
    · exact ⟨_, hv, .lst upd_same (h2.mono (Sub.new f))⟩
    · obtain ⟨w, hw, okw⟩ := rel.ok i s h3
      refine ⟨w, hw, ?_⟩
      cases hm : s.isMut with
      | true =>
        obtain ⟨p2, rfl, f2, m2⟩ := okw.mut hm
        have ne : p2 ≠ p := fun z => by
          subst z
          exact c (rel.dis i k s _ p2 h3 e hm rfl hw hv)
        exact .ofMut hm (by rw [upd_ne ne]; exact f2) (m2.mono (Sub.new f) rfl)
      | false => exact okw.fix hm (Sub.new f)
  · rcases oth i s h3 with ⟨_, rfl⟩ | ⟨_, h3⟩
    · cases h5
    · rcases oth j t h4 with ⟨_, rfl⟩ | ⟨_, h4⟩
      · cases h6
      · exact rel.dis i j s t b h3 h4 h5 h6 h7 h8
  · by_cases c : b = p
    · subst c; exact .inr (.inr (.inl ⟨k, _, e, rfl, hv⟩))
    · rw [upd_ne c] at z; exact .inl z
  · rcases oth i s h3 with ⟨_, rfl⟩ | ⟨c, h6⟩
    · cases h4
    · exact ⟨i, s, h6, h4, h5⟩
theorem rdVar_run {K : PySem.W.Frag} {ρ : Env} {σ : L2.St} {F H : Hp} {k : Nat} {r : Val × Env} {Q : VK} (rel : Rel K ρ σ F H) (h : rdVar ρ k = some r)
    (q : ∀ v F' H', Step K ρ σ F H r.2 F' H' → VOk H F' H' v r.1 → Q v H') : tVar k σ H Q := by
  unfold rdVar at h
  cases e : ρ.at k with
  | none => rw [e] at h; cases h
  | some s =>
    rw [e] at h
    obtain ⟨v, hv, ok⟩ := rel.ok k s e
    cases s with
    | d x => cases h; exact ⟨v, hv, q v F H (Step.refl rel) ok⟩
    | own xs =>
      cases h
      obtain ⟨p, vs, h1, h2, h3, h4, st⟩ := rel.frzSlot e
      exact ⟨_, h1, q _ _ H st (.lst upd_same (h4.mono st.fs))⟩
    | io _ => cases h
    | scr _ => cases h
    | dct _ => cases h
    | dtt _ => cases h
theorem se_var (g : Gd G C n N sc X) {k : Nat} {x : Str} {pos : Pos} (hN : N[k]? = some x) (hv : visB sc x = true) (hd : (x == ("__debug__" : Str)) = false) (hcd : (x == ("__classdict__" : Str)) = false) : SE X C (.Name x pos) (.var k) := by
  have h : PE X (.Name x pos) (tVar k) := pe_var (by rw [g.xn]; exact hN) (g.vis hv) hd hcd
  refine ⟨h.weak fun σ H Q ⟨ρ, F, r, rel, e, q⟩ => ?_, h⟩
  rw [ev] at e
  exact rdVar_run rel e q
/-- a constant value -/
theorem se_c {e : Expr} {a : Ex} {v : V} {x : D} (h : PE X e (tC v)) (ha : ∀ ρ, ev C a ρ = some (.d x, ρ)) (hr : ∀ F, R F v x) (nv : isVar a = none) : SE X C e a :=
  .of (h.weak fun σ H Q ⟨ρ, F, r, rel, e, q⟩ => by
    rw [ha] at e
    cases e
    exact q v F H (Step.refl rel) (hr F)) nv
/-- freezing what a rule gives -/
theorem tEv_of_d {f : Env → Option (Val × Env)} : True := trivial

/-! ### two operands -/
theorem se_bin (g : Gd G C n N sc X) {op : Operator} {e1 e2 : Expr} {a b : Ex} {pos : Pos} (ha : SE X C e1 a) (hb : SE X C e2 b) : SE X C (.BinOp e1 op e2 pos) (.bin op a b) :=
  .of ((pe_op (op_bin op) ha.l hb.l).weak fun σ H Q ⟨ρ, F, r, rel, e, q⟩ => by
    rw [ev] at e
    cases e1 : look2 a b (ev C a) (ev C b) ρ with
    | none => rw [e1] at e; cases e
    | some w =>
      rw [e1] at e
      simp only [Option.bind_some, Option.map_eq_some_iff] at e
      obtain ⟨z, hz, rfl⟩ := e
      exact tL2_run rel e1 fun v u F1 H1 st b1 b2 => r_bin st.rel b1 b2 hz fun w F' H' st2 ok => q w F' H' (st.trans st2) (ok.back st)) rfl
theorem se_neg (g : Gd G C n N sc X) {e1 : Expr} {a : Ex} {pos : Pos} (ha : SE X C e1 a) : SE X C (.UnaryOp .USub e1 pos) (.neg a) :=
  .of ((pe_un un_neg ha.d).weak fun σ H Q ⟨ρ, F, r, rel, e, q⟩ => by
    rw [ev] at e
    cases e1 : frzV (ev C a ρ) with
    | none => rw [e1] at e; cases e
    | some w =>
      rw [e1] at e
      simp only [Option.bind_some] at e
      refine ⟨ρ, F, w, rel, e1, fun v F1 H1 st r1 => ?_⟩
      split at e
      · rename_i i hi
        cases e
        rw [hi] at r1
        cases r1
        exact ⟨i, rfl, q _ F1 H1 st (.int _)⟩
      · cases e) rfl
theorem se_cmp (g : Gd G C n N sc X) {op : CmpOp} {e1 e2 : Expr} {a b : Ex} {pos : Pos} (ha : SE X C e1 a) (hb : SE X C e2 b) (hm : behindInMarks op e2 = false) : SE X C (.Compare e1 [op] [e2] pos) (.cmp op a b) :=
  .of ((pe_cmpR (op_cmpR g.units op) ha.l hb.l hm).weak fun σ H Q ⟨ρ, F, r, rel, e, q⟩ => by
    rw [ev] at e
    cases e1 : look2 a b (ev C a) (ev C b) ρ with
    | none => rw [e1] at e; cases e
    | some w =>
      rw [e1] at e
      simp only [Option.bind_some, Option.map_eq_some_iff] at e
      obtain ⟨z, hz, rfl⟩ := e
      exact tL2_run rel e1 fun v u F1 H1 st b1 b2 => r_cmp st.rel.sub b1 b2 hz (q _ F1 H1 st (.bl _))) rfl
theorem toB_eq {f : Option (Val × Env)} {r : Bool × Env} (h : toB f = some r) : f = some (.d (.bool r.1), r.2) := by
  unfold toB at h
  split at h
  · cases h; rfl
  · cases h
theorem pt_of {e : Expr} {f : Env → Option (Val × Env)} {t : TT} (h : PT X e t) (w : ∀ σ H (Q : Bool → Hp → Prop), tEb X.K (fun ρ => toB (f ρ)) σ H Q → t σ H Q) : PT X e (tEb X.K fun ρ => toB (f ρ)) := h.weak w
theorem pt_cmpS (g : Gd G C n N sc X) {op : CmpOp} {e1 e2 : Expr} {a b : Ex} {pos : Pos} (ha : SE X C e1 a) (hb : SE X C e2 b) (hm : behindInMarks op e2 = false) : PT X (.Compare e1 [op] [e2] pos) (tEb X.K fun ρ => toB (ev C (.cmp op a b) ρ)) :=
  (pt_cmpR (op_cmpR g.units op) ha.l hb.l hm).weak fun σ H Q ⟨ρ, F, r, rel, e, q⟩ => by
    have e := toB_eq e
    rw [ev] at e
    cases e1 : look2 a b (ev C a) (ev C b) ρ with
    | none => rw [e1] at e; cases e
    | some w =>
      rw [e1] at e
      simp only [Option.bind_some, Option.map_eq_some_iff, Prod.mk.injEq, Val.d.injEq, PyData.bool.injEq] at e
      obtain ⟨z, hz, rfl, e3⟩ := e
      exact tL2_run rel e1 fun v u F1 H1 st b1 b2 => r_cmp st.rel.sub b1 b2 hz ⟨_, rfl, q F1 H1 (by rw [← e3]; exact st)⟩
/-- a test of a value -/
theorem pt_plain {e : Expr} {a : Ex} (h : SE X C e a) (he : ∀ whole, isTrue e X.env whole = (do let v ← whole; standAt e.pos; holding [v] (truthy v))) : PT X e (tEb X.K fun ρ => toB (ev C a ρ)) :=
  (pt_val h.v he).weak fun σ H Q ⟨ρ, F, r, rel, e, q⟩ => ⟨ρ, F, _, rel, toB_eq e, fun v F' H' st ok => by
    cases ok
    exact ⟨_, rfl, q F' H' st⟩⟩
theorem chain_cmp2 {K : PySem.W.Frag} {o1 o2 : CmpOp} {a b c : Ex} {ρ : Env} {σ : L2.St} {F H : Hp} {r : Val × Env} {Q : VK} (rel : Rel K ρ σ F H) (e : ev C (.cmp2 o1 o2 a b c) ρ = some r)
    (q : ∀ v F' H', Step K ρ σ F H r.2 F' H' → VOk H F' H' v r.1 → Q v H') :
    tChain (rCmp K o1) (rCmp K o2) (tEd K fun ρ => frzV (ev C a ρ)) (tEd K fun ρ => frzV (ev C b ρ)) (tEd K fun ρ => frzV (ev C c ρ)) σ H Q := by
  rw [ev] at e
  cases e1 : frzV (ev C a ρ) with
  | none => rw [e1] at e; cases e
  | some x =>
    rw [e1] at e
    simp only [Option.bind_some] at e
    cases e2 : frzV (ev C b x.2) with
    | none => rw [e2] at e; cases e
    | some y =>
      rw [e2] at e
      simp only [Option.bind_some] at e
      cases e3 : cmpD o1 x.1 y.1 with
      | none => rw [e3] at e; cases e
      | some z =>
        rw [e3] at e
        simp only [Option.bind_some] at e
        refine ⟨ρ, F, x, rel, e1, fun v F1 H1 st1 r1 => ⟨x.2, F1, y, st1.rel, e2, fun u F2 H2 st2 r2 => r_cmp st2.rel.sub (.inl (r1.mono st2.fs)) (.inl r2) e3 ⟨z, rfl, ?_⟩⟩⟩
        cases z with
        | true =>
          simp only [if_true] at e ⊢
          cases e4 : frzV (ev C c y.2) with
          | none => rw [e4] at e; cases e
          | some w =>
            rw [e4] at e
            simp only [Option.bind_some, Option.map_eq_some_iff] at e
            obtain ⟨z2, hz, rfl⟩ := e
            exact ⟨y.2, F2, w, st2.rel, e4, fun u3 F3 H3 st3 r3 => r_cmp st3.rel.sub (.inl (r2.mono st3.fs)) (.inl r3) hz (q _ F3 H3 ((st1.trans st2).trans st3) (.bl _))⟩
        | false =>
          simp only [Bool.false_eq_true, if_false] at e ⊢
          cases e
          exact q _ F2 H2 (st1.trans st2) (.bl _)
theorem se_cmp2 (g : Gd G C n N sc X) {o1 o2 : CmpOp} {e1 e2 e3 : Expr} {a b c : Ex} {pos : Pos} (ha : SE X C e1 a) (hb : SE X C e2 b) (hc : SE X C e3 c) (hm : lastMarks [o1, o2] [e2, e3] = false) :
    SE X C (.Compare e1 [o1, o2] [e2, e3] pos) (.cmp2 o1 o2 a b c) :=
  .of ((pe_chain (op_cmpR g.units o1) (op_cmpR g.units o2) ha.d hb.d hc.d hm).weak fun σ H Q ⟨ρ, F, r, rel, e, q⟩ => chain_cmp2 rel e q) rfl
theorem pt_cmp2 (g : Gd G C n N sc X) {o1 o2 : CmpOp} {e1 e2 e3 : Expr} {a b c : Ex} {pos : Pos} (ha : SE X C e1 a) (hb : SE X C e2 b) (hc : SE X C e3 c) (hm : lastMarks [o1, o2] [e2, e3] = false) :
    PT X (.Compare e1 [o1, o2] [e2, e3] pos) (tEb X.K fun ρ => toB (ev C (.cmp2 o1 o2 a b c) ρ)) :=
  (pt_chain (op_cmpR g.units o1) (op_cmpR g.units o2) ha.d hb.d hc.d hm).weak fun σ H Q ⟨ρ, F, r, rel, e, q⟩ =>
    chain_cmp2 (Q := fun x H' => ∃ k, x = .bl k ∧ Q k H') rel (toB_eq e) fun v F' H' st ok => by
      cases ok
      exact ⟨_, rfl, q F' H' st⟩

/-! ### and, or, not, if -/
theorem se_and {e1 : Expr} {es : List Expr} {a b : Ex} {pos : Pos} (ha : SE X C e1 a) {e2 : Expr} (hb : PE X (.BoolOp .And (e2 :: es) pos) (tEv X.K (ev C b))) : SE X C (.BoolOp .And (e1 :: e2 :: es) pos) (.and a b) :=
  .of ((pe_and ha.v hb).weak fun σ H Q ⟨ρ, F, r, rel, e, q⟩ => by
    rw [ev] at e
    cases e1 : toB (ev C a ρ) with
    | none => rw [e1] at e; cases e
    | some w =>
      rw [e1] at e
      simp only [Option.bind_some] at e
      refine ⟨ρ, F, _, rel, toB_eq e1, fun v F1 H1 st ok => ?_⟩
      cases ok
      refine ⟨w.1, rfl, ?_⟩
      cases hw : w.1 with
      | true =>
        rw [hw] at e
        simp only [if_true, Option.map_eq_some_iff] at e ⊢
        obtain ⟨z, hz, rfl⟩ := e
        exact ⟨w.2, F1, _, st.rel, toB_eq hz, fun u F2 H2 st2 ok2 => q u F2 H2 (st.trans st2) (ok2.back st)⟩
      | false =>
        rw [hw] at e
        simp only [Bool.false_eq_true, if_false] at e ⊢
        cases e
        exact q _ F1 H1 st (.bl _)) rfl
theorem se_or {e1 : Expr} {es : List Expr} {a b : Ex} {pos : Pos} (ha : SE X C e1 a) {e2 : Expr} (hb : PE X (.BoolOp .Or (e2 :: es) pos) (tEv X.K (ev C b))) : SE X C (.BoolOp .Or (e1 :: e2 :: es) pos) (.or a b) :=
  .of ((pe_or ha.v hb).weak fun σ H Q ⟨ρ, F, r, rel, e, q⟩ => by
    rw [ev] at e
    cases e1 : toB (ev C a ρ) with
    | none => rw [e1] at e; cases e
    | some w =>
      rw [e1] at e
      simp only [Option.bind_some] at e
      refine ⟨ρ, F, _, rel, toB_eq e1, fun v F1 H1 st ok => ?_⟩
      cases ok
      refine ⟨w.1, rfl, ?_⟩
      cases hw : w.1 with
      | false =>
        rw [hw] at e
        simp only [Bool.false_eq_true, if_false, Option.map_eq_some_iff] at e ⊢
        obtain ⟨z, hz, rfl⟩ := e
        exact ⟨w.2, F1, _, st.rel, toB_eq hz, fun u F2 H2 st2 ok2 => q u F2 H2 (st.trans st2) (ok2.back st)⟩
      | true =>
        rw [hw] at e
        simp only [if_true] at e ⊢
        cases e
        exact q _ F1 H1 st (.bl _)) rfl
theorem se_not {e1 : Expr} {a : Ex} {pos : Pos} (ha : SE X C e1 a) : SE X C (.UnaryOp .Not e1 pos) (.not a) :=
  .of ((pe_not ha.v).weak fun σ H Q ⟨ρ, F, r, rel, e, q⟩ => by
    rw [ev] at e
    simp only [Option.map_eq_some_iff] at e
    obtain ⟨z, hz, rfl⟩ := e
    refine ⟨ρ, F, _, rel, toB_eq hz, fun v F1 H1 st ok => ?_⟩
    cases ok
    exact ⟨z.1, rfl, q _ F1 H1 st (.bl _)⟩) rfl
theorem pw_andS {e1 : Expr} {es : List Expr} {a b : Ex} {pos : Pos} {e2 : Expr} (ha : PT X e1 (tEb X.K fun ρ => toB (ev C a ρ))) (hb : PW X (.BoolOp .And (e2 :: es) pos) (tEb X.K fun ρ => toB (ev C b ρ))) :
    PW X (.BoolOp .And (e1 :: e2 :: es) pos) (tEb X.K fun ρ => toB (ev C (.and a b) ρ)) :=
  (pw_and ha hb).weak fun σ H Q ⟨ρ, F, r, rel, e, q⟩ => by
    have e := toB_eq e
    rw [ev] at e
    cases e1 : toB (ev C a ρ) with
    | none => rw [e1] at e; cases e
    | some w =>
      rw [e1] at e
      simp only [Option.bind_some] at e
      refine ⟨ρ, F, w, rel, e1, fun F1 H1 st => ?_⟩
      cases hw : w.1 with
      | true =>
        rw [hw] at e
        simp only [if_true, Option.map_eq_some_iff, Prod.mk.injEq, Val.d.injEq, PyData.bool.injEq] at e ⊢
        obtain ⟨z, hz, h1, h2⟩ := e
        exact ⟨w.2, F1, z, st.rel, hz, fun F2 H2 st2 => by rw [h1]; exact q F2 H2 (by rw [← h2]; exact st.trans st2)⟩
      | false =>
        rw [hw] at e
        simp only [Bool.false_eq_true, if_false, Option.some.injEq, Prod.mk.injEq, Val.d.injEq, PyData.bool.injEq] at e ⊢
        rw [e.1]
        exact q F1 H1 (by rw [← e.2]; exact st)
theorem pw_orS {e1 : Expr} {es : List Expr} {a b : Ex} {pos : Pos} {e2 : Expr} (ha : PT X e1 (tEb X.K fun ρ => toB (ev C a ρ))) (hb : PW X (.BoolOp .Or (e2 :: es) pos) (tEb X.K fun ρ => toB (ev C b ρ))) :
    PW X (.BoolOp .Or (e1 :: e2 :: es) pos) (tEb X.K fun ρ => toB (ev C (.or a b) ρ)) :=
  (pw_or ha hb).weak fun σ H Q ⟨ρ, F, r, rel, e, q⟩ => by
    have e := toB_eq e
    rw [ev] at e
    cases e1 : toB (ev C a ρ) with
    | none => rw [e1] at e; cases e
    | some w =>
      rw [e1] at e
      simp only [Option.bind_some] at e
      refine ⟨ρ, F, w, rel, e1, fun F1 H1 st => ?_⟩
      cases hw : w.1 with
      | false =>
        rw [hw] at e
        simp only [Bool.false_eq_true, if_false, Option.map_eq_some_iff, Prod.mk.injEq, Val.d.injEq, PyData.bool.injEq] at e ⊢
        obtain ⟨z, hz, h1, h2⟩ := e
        exact ⟨w.2, F1, z, st.rel, hz, fun F2 H2 st2 => by rw [h1]; exact q F2 H2 (by rw [← h2]; exact st.trans st2)⟩
      | true =>
        rw [hw] at e
        simp only [if_true, Option.some.injEq, Prod.mk.injEq, Val.d.injEq, PyData.bool.injEq] at e ⊢
        rw [e.1]
        exact q F1 H1 (by rw [← e.2]; exact st)
theorem pt_notS {e1 : Expr} {a : Ex} {pos : Pos} (ha : PT X e1 (tEb X.K fun ρ => toB (ev C a ρ))) : PT X (.UnaryOp .Not e1 pos) (tEb X.K fun ρ => toB (ev C (.not a) ρ)) :=
  (pt_not ha).weak fun σ H Q ⟨ρ, F, r, rel, e, q⟩ => by
    have e := toB_eq e
    rw [ev] at e
    simp only [Option.map_eq_some_iff, Prod.mk.injEq, Val.d.injEq, PyData.bool.injEq] at e
    obtain ⟨z, hz, h1, h2⟩ := e
    exact ⟨ρ, F, z, rel, hz, fun F1 H1 st => by
      show Q (!z.1) H1
      rw [h1]; exact q F1 H1 (by rw [← h2]; exact st)⟩
theorem se_ife {c e1 e2 : Expr} {t a b : Ex} {pos : Pos} (hc : PT X c (tEb X.K fun ρ => toB (ev C t ρ))) (ha : SE X C e1 a) (hb : SE X C e2 b) : SE X C (.IfExp c e1 e2 pos) (.ife t a b) :=
  .of ((pe_ifExp hc ha.v hb.v).weak fun σ H Q ⟨ρ, F, r, rel, e, q⟩ => by
    rw [ev] at e
    cases e1 : toB (ev C t ρ) with
    | none => rw [e1] at e; cases e
    | some w =>
      rw [e1] at e
      simp only [Option.bind_some] at e
      refine ⟨ρ, F, w, rel, e1, fun F1 H1 st => ?_⟩
      cases hw : w.1 with
      | true =>
        rw [hw] at e
        simp only [if_true] at e ⊢
        exact ⟨w.2, F1, r, st.rel, e, fun u F2 H2 st2 ok2 => q u F2 H2 (st.trans st2) (ok2.back st)⟩
      | false =>
        rw [hw] at e
        simp only [Bool.false_eq_true, if_false] at e ⊢
        exact ⟨w.2, F1, r, st.rel, e, fun u F2 H2 st2 ok2 => q u F2 H2 (st.trans st2) (ok2.back st)⟩) rfl

/-! ### subscripts -/
theorem se_ix (g : Gd G C n N sc X) {e1 e2 : Expr} {a b : Ex} {pos : Pos} (ha : SE X C e1 a) (hb : SE X C e2 b) (hp : PlainIx e2) : SE X C (.Subscript e1 e2 pos) (.ix a b) :=
  .of ((pe_ix ix_seq ha.l hb.l hp).weak fun σ H Q ⟨ρ, F, r, rel, e, q⟩ => by
    rw [ev] at e
    cases e1 : look2 a b (ev C a) (ev C b) ρ with
    | none => rw [e1] at e; cases e
    | some w =>
      rw [e1] at e
      simp only [Option.bind_some, Option.map_eq_some_iff] at e
      obtain ⟨z, hz, rfl⟩ := e
      exact tL2_run rel e1 fun v u F1 H1 st b1 b2 => r_ix st.rel.sub b1 b2 hz fun w rw_ => q w F1 H1 st rw_) rfl
def tEo (K : PySem.W.Frag) (f : Env → Option (Option Int × Env)) : TO := fun σ H Q => ∃ ρ F r, Rel K ρ σ F H ∧ f ρ = some r ∧ ∀ F' H', Step K ρ σ F H r.2 F' H' → Q r.1 H'
theorem _root_.L2.PO.weak {e : Option Expr} {t t' : TO} (h : PO X e t) (w : ∀ σ H Q, t' σ H Q → t σ H Q) : PO X e t' := ⟨fun pins s σ H Q I q => h.run pins s σ H Q I (w σ H Q q)⟩
theorem po_noneS : PO X none (tEo X.K (evO C .emp)) := po_none.weak fun σ H Q ⟨ρ, F, r, rel, e, q⟩ => by
  rw [evO] at e
  cases e
  exact q F H (Step.refl rel)
theorem po_someS {e1 : Expr} {a : Ex} (ha : SE X C e1 a) : PO X (some e1) (tEo X.K (evO C (.one a))) := (po_some ha.d).weak fun σ H Q ⟨ρ, F, r, rel, e, q⟩ => by
  rw [evO] at e
  cases e1 : frzV (ev C a ρ) with
  | none => rw [e1] at e; cases e
  | some w =>
    rw [e1] at e
    simp only [Option.bind_some] at e
    refine ⟨ρ, F, w, rel, e1, fun v F1 H1 st r1 => ?_⟩
    split at e
    · rename_i i hi
      cases e
      rw [hi] at r1
      cases r1
      exact ⟨i, rfl, q F1 H1 st⟩
    · cases e
theorem se_slc (g : Gd G C n N sc X) {e1 : Expr} {lo hi : Option Expr} {a l h : Ex} {p2 pos : Pos} (ha : SE X C e1 a) (hl : PO X lo (tEo X.K (evO C l))) (hh : PO X hi (tEo X.K (evO C h))) : SE X C (.Subscript e1 (.Slice lo hi none p2) pos) (.slc a l h) :=
  .of ((pe_slice sl_all ha.l hl hh).weak fun σ H Q ⟨ρ, F, r, rel, e, q⟩ => by
    rw [ev] at e
    unfold tSl tL
    cases ev_ : isVar a with
    | some k =>
      rw [ev_] at e
      simp only at e ⊢
      cases e0 : peek ρ k with
      | none => rw [e0] at e; cases e
      | some x0 =>
        rw [e0] at e
        simp only [Option.bind_some] at e
        obtain ⟨v, hv, _⟩ := rel.peek e0
        refine ⟨v, hv, ?_⟩
        cases e1 : evO C l ρ with
        | none => rw [e1] at e; cases e
        | some w1 =>
          rw [e1] at e
          simp only [Option.bind_some] at e
          cases e2 : evO C h w1.2 with
          | none => rw [e2] at e; cases e
          | some w2 =>
            rw [e2] at e
            simp only [Option.bind_some] at e
            cases e3 : peek w2.2 k with
            | none => rw [e3] at e; cases e
            | some x =>
              rw [e3] at e
              simp only [Option.bind_some, Option.map_eq_some_iff] at e
              obtain ⟨z, hz, rfl⟩ := e
              refine ⟨ρ, F, w1, rel, e1, fun F1 H1 st1 => ⟨w1.2, F1, w2, st1.rel, e2, fun F2 H2 st2 => ?_⟩⟩
              obtain ⟨u, hu, bu⟩ := st2.rel.peek e3
              rw [hv] at hu; cases hu
              exact r_sl st2.rel bu hz fun w F' H' st3 ok => q w F' H' ((st1.trans st2).trans st3) (ok.back (st1.trans st2))
    | none =>
      rw [ev_] at e
      simp only at e ⊢
      cases e0 : frzV (ev C a ρ) with
      | none => rw [e0] at e; cases e
      | some x =>
        rw [e0] at e
        simp only [Option.bind_some] at e
        cases e1 : evO C l x.2 with
        | none => rw [e1] at e; cases e
        | some w1 =>
          rw [e1] at e
          simp only [Option.bind_some] at e
          cases e2 : evO C h w1.2 with
          | none => rw [e2] at e; cases e
          | some w2 =>
            rw [e2] at e
            simp only [Option.bind_some, Option.map_eq_some_iff] at e
            obtain ⟨z, hz, rfl⟩ := e
            refine ⟨ρ, F, x, rel, e0, fun v F0 H0 st0 r0 => ⟨x.2, F0, w1, st0.rel, e1, fun F1 H1 st1 => ⟨w1.2, F1, w2, st1.rel, e2, fun F2 H2 st2 => ?_⟩⟩⟩
            exact r_sl st2.rel (.inl (r0.mono (st1.trans st2).fs)) hz fun w F' H' st3 ok => q w F' H' (((st0.trans st1).trans st2).trans st3) (ok.back ((st0.trans st1).trans st2))) rfl
end
end Mn

namespace Mn
open PySem PySem.Spec PyProof.Rows L2

/-! ## displays -/
def notStar : Expr → Bool
  | .Starred _ _ => false
  | _ => true
theorem star_cons {e : Expr} {es : List Expr} {env : PySem.Env} (h : notStar e = true) : starEach (e :: es) env = (false, eval e env) :: starEach es env := by
  cases e <;> first | rfl | cases h
theorem any_star {pos : Pos} {es : List Expr} {env : PySem.Env} (h : ∀ e ∈ es, notStar e = true) : (backTo pos (starEach es env)).any (·.1) = false := by
  induction es with
  | nil => rfl
  | cons e r ih =>
    rw [star_cons (h e List.mem_cons_self)]
    show (false || (backTo pos (starEach r env)).any (·.1)) = false
    rw [ih fun x hx => h x (List.mem_cons_of_mem _ hx)]; rfl
section
variable {G : Cfg} {C : CallF} {n : Nat} {N : List Str} {sc : Scope} {X : Cx}
theorem pa_emp : PA X [] (tEs X.K (evD C .emp)) := pa_nil.weak fun σ H Q ⟨ρ, F, r, rel, e, q⟩ => by
  rw [evD] at e
  cases e
  exact q [] F H (Step.refl rel) .nil
theorem pa_con {e1 : Expr} {es : List Expr} {a r : Ex} (ha : SE X C e1 a) (hr : PA X es (tEs X.K (evD C r))) (ns : notStar e1 = true) : PA X (e1 :: es) (tEs X.K (evD C (.con a r))) :=
  (pa_cons ha.d hr (star_cons ns)).weak fun σ H Q ⟨ρ, F, w, rel, e, q⟩ => by
    rw [evD] at e
    cases e1 : frzV (ev C a ρ) with
    | none => rw [e1] at e; cases e
    | some x =>
      rw [e1] at e
      simp only [Option.bind_some, Option.map_eq_some_iff] at e
      obtain ⟨y, hy, rfl⟩ := e
      exact ⟨ρ, F, x, rel, e1, fun v F1 H1 st1 r1 => ⟨x.2, F1, y, st1.rel, hy, fun vs F2 H2 st2 r2 => q _ F2 H2 (st1.trans st2) (.cons (r1.mono st2.fs) r2)⟩⟩
theorem pa_str {e1 : Expr} {es : List Expr} {a r : Ex} {p : Pos} (ha : SE X C e1 a) (hr : PA X es (tEs X.K (evD C r))) : PA X (.Starred e1 p :: es) (tEs X.K (evD C (.str a r))) :=
  (StX.pa_star ha.l hr).weak fun σ H Q ⟨ρ, F, w, rel, e, q⟩ => by
    rw [evD] at e
    cases e1 : look a (ev C a) ρ with
    | none => rw [e1] at e; cases e
    | some x =>
      rw [e1] at e
      simp only [Option.bind_some] at e
      refine tL_run rel e1 fun v F1 H1 st1 b1 => ?_
      split at e
      · rename_i xs hx
        simp only [Option.map_eq_some_iff] at e
        obtain ⟨y, hy, rfl⟩ := e
        rw [hx] at b1
        obtain ⟨p, vs, rfl, h1, r1⟩ := b1.list st1.rel.sub
        exact ⟨p, vs, rfl, .inr (.inl (.inl h1)), x.2, F1, y, st1.rel, hy, fun us F2 H2 st2 r2 => q _ F2 H2 (st1.trans st2) ((r1.mono st2.fs).append r2)⟩
      · rename_i xs hx
        simp only [Option.map_eq_some_iff] at e
        obtain ⟨y, hy, rfl⟩ := e
        rw [hx] at b1
        obtain ⟨p, vs, rfl, h1, _, r1⟩ := b1.tup st1.rel.sub
        exact ⟨p, vs, rfl, .inl (.inl (.inl h1)), x.2, F1, y, st1.rel, hy, fun us F2 H2 st2 r2 => q _ F2 H2 (st1.trans st2) ((r1.mono st2.fs).append r2)⟩
      · cases e
theorem se_tup {es : List Expr} {k : Nat} {pos : Pos} {args : Ex} (h : PA X es (tEs X.K (evD C args))) : SE X C (.Tuple es k pos) (.tup args) :=
  .of ((pe_tup h).weak fun σ H Q ⟨ρ, F, r, rel, e, q⟩ => by
    rw [ev] at e
    cases e1 : evD C args ρ with
    | none => rw [e1] at e; cases e
    | some x =>
      rw [e1] at e
      simp only [Option.bind_some] at e
      split at e
      · rename_i hl
        cases e
        refine ⟨ρ, F, x, rel, e1, fun vs F1 H1 st1 r1 => ⟨by rw [sl24, r1.length]; exact hl, fun p hp => ?_⟩⟩
        exact new_tup st1.rel r1 hp fun v F' H' st ok => q v F' H' (st1.trans st) (ok.back st1)
      · cases e) rfl
theorem se_lst {es : List Expr} {pos : Pos} {args : Ex} (h : PA X es (tEs X.K (evD C args))) : SE X C (.List es pos) (.lst args) :=
  .of ((pe_lst h).weak fun σ H Q ⟨ρ, F, r, rel, e, q⟩ => by
    rw [ev] at e
    cases e1 : evD C args ρ with
    | none => rw [e1] at e; cases e
    | some x =>
      rw [e1] at e
      simp only [Option.bind_some] at e
      split at e
      · rename_i hl
        cases e
        refine ⟨ρ, F, x, rel, e1, fun vs F1 H1 st1 r1 => ⟨by rw [sl24, r1.length]; exact hl, fun p hp => ?_⟩⟩
        exact new_own st1.rel r1 hp fun v F' H' st ok => q v F' H' (st1.trans st) (ok.back st1)
      · cases e) rfl

/-! ## slots that change -/
theorem at_put {ρ : Env} {k i : Nat} {s : Slot} (hk : k < ρ.length) : (ρ.put k s).at i = if i = k then some s else ρ.at i := by
  unfold Env.at Env.put
  by_cases c : i = k
  · subst c
    rw [List.getElem?_set_self hk, if_pos rfl]; rfl
  · rw [List.getElem?_set_ne (Ne.symm c), if_neg c]
theorem put_len {ρ : Env} {k : Nat} {s : Slot} : (ρ.put k s).length = ρ.length := by unfold Env.put; rw [List.length_set]
variable {K : PySem.W.Frag} {ρ : Env} {σ : L2.St} {F H F' H' : Hp}
theorem Rel.lt (r : Rel K ρ σ F H) {k : Nat} {s : Slot} (h : ρ.at k = some s) : k < ρ.length := by
  obtain ⟨v, e, _⟩ := r.ok k s h
  rw [r.len]
  exact (List.getElem?_eq_some_iff.mp e).1
/-- a slot that holds something of one's own gets another such, at the same place -/
theorem Rel.mput (r : Rel K ρ σ F H) {k : Nat} {s t : Slot} {p : Addr} (hs : ρ.at k = some s) (ms : s.isMut = true) (mt : t.isMut = true) (mio : t.isIo = true → s.isIo = true) (hp : σ[k]? = some (some (.ref p))) (f : Sub F F') (sub : Sub F' H') (fp : F' p = none) (m : MutOk F' H' p t)
    (oth : ∀ b, b ≠ p → OwnA ρ σ b → H' b = H b ∧ F' b = none) : Rel K (ρ.put k t) σ F' H' ∧ (∀ b, OwnA (ρ.put k t) σ b → OwnA ρ σ b) ∧ ∀ b, IoA (ρ.put k t) σ b → IoA ρ σ b := by
  have hk := r.lt hs
  refine ⟨⟨by rw [put_len]; exact r.len, sub, fun i u hi => ?_, fun i j u w b h3 h4 h5 h6 h7 h8 => ?_⟩, fun b ⟨i, u, h1, h2, h3⟩ => ?_, fun b ⟨i, u, h1, h2, h3⟩ => ?_⟩
  · rw [at_put hk] at hi
    by_cases c : i = k
    · subst c
      rw [if_pos rfl] at hi
      cases hi
      exact ⟨_, hp, .ofMut mt fp m⟩
    · rw [if_neg c] at hi
      obtain ⟨v, hv, ok⟩ := r.ok i u hi
      refine ⟨v, hv, ?_⟩
      cases hm : u.isMut with
      | true =>
        obtain ⟨p2, rfl, f2, m2⟩ := ok.mut hm
        have ne : p2 ≠ p := fun z => by subst z; exact c (r.dis i k u s p2 hi hs hm ms hv hp)
        obtain ⟨q1, q2⟩ := oth p2 ne ⟨i, u, hi, hm, hv⟩
        exact .ofMut hm q2 (m2.mono f q1)
      | false => exact ok.fix hm f
  · rw [at_put hk] at h3 h4
    by_cases c : i = k
    · by_cases d : j = k
      · rw [c, d]
      · rw [if_neg d] at h4
        subst c
        exact r.dis i j s w b hs h4 ms h6 h7 h8
    · rw [if_neg c] at h3
      by_cases d : j = k
      · subst d
        exact r.dis i j u s b h3 hs h5 ms h7 h8
      · rw [if_neg d] at h4
        exact r.dis i j u w b h3 h4 h5 h6 h7 h8
  · rw [at_put hk] at h1
    by_cases c : i = k
    · subst c; exact ⟨i, s, hs, ms, h3⟩
    · rw [if_neg c] at h1; exact ⟨i, u, h1, h2, h3⟩
  · rw [at_put hk] at h1
    by_cases c : i = k
    · subst c; rw [if_pos rfl] at h1; cases h1; exact ⟨i, s, hs, mio h2, h3⟩
    · rw [if_neg c] at h1; exact ⟨i, u, h1, h2, h3⟩
/-- the list of a slot is written -/
theorem Rel.mutAt (r : Rel K ρ σ F H) {k : Nat} {xs : List D} (h : mutAt ρ k = some xs) : ∃ p vs s, σ[k]? = some (some (.ref p)) ∧ H p = some (.lst vs) ∧ F p = none ∧ RL F vs xs ∧ ρ.at k = some s ∧ s.isMut = true ∧
    ∀ ys, ∃ t, mutPut ρ k ys = ρ.put k t ∧ t.isMut = true ∧ (t.isIo = true → s.isIo = true) ∧ (∀ F' H', MutOk F' H' p t ↔ MutOk F' H' p (.own ys)) := by
  unfold Mn.mutAt at h
  cases e : ρ.at k with
  | none => rw [e] at h; cases h
  | some s =>
    rw [e] at h
    obtain ⟨v, hv, ok⟩ := r.ok k s e
    cases s with
    | own ys =>
      cases h
      obtain ⟨p, rfl, f, vs, h1, h2⟩ := ok
      exact ⟨p, vs, _, hv, h1, f, h2, rfl, rfl, fun ys => ⟨.own ys, by unfold mutPut; rw [e], rfl, (fun z => by cases z), fun _ _ => Iff.rfl⟩⟩
    | io ys =>
      cases h
      obtain ⟨p, rfl, f, vs, h1, h2⟩ := ok
      exact ⟨p, vs, _, hv, h1, f, h2, rfl, rfl, fun ys => ⟨.io ys, by unfold mutPut; rw [e], rfl, fun _ => rfl, fun _ _ => Iff.rfl⟩⟩
    | d _ => cases h
    | scr _ => cases h
    | dct _ => cases h
    | dtt _ => cases h
theorem Step.write (r : Rel K ρ σ F H) {k : Nat} {xs ys : List D} {p : Addr} {us : List V} (h : Mn.mutAt ρ k = some xs) (hp : σ[k]? = some (some (.ref p))) (ru : RL F us ys) : Step K ρ σ F H (mutPut ρ k ys) F (upd H p (.lst us)) := by
  obtain ⟨p2, vs, s, h1, h2, h3, h4, h5, h6, h7⟩ := r.mutAt h
  rw [hp] at h1; cases h1
  obtain ⟨t, e, mt, mi, mo⟩ := h7 ys
  rw [e]
  have sub : Sub F (upd H p (.lst us)) := fun b o hb => by
    have : b ≠ p := fun z => by subst z; rw [h3] at hb; cases hb
    rw [upd_ne this]; exact r.sub b o hb
  obtain ⟨r1, r2, r3⟩ := r.mput (t := t) h5 h6 mt mi hp (Sub.refl F) sub h3 ((mo _ _).mpr ⟨us, upd_same, ru⟩) fun b hb ho => by
    obtain ⟨_, _, q⟩ := r.own_at ho
    exact ⟨upd_ne hb, q⟩
  refine ⟨r1, ⟨Sub.refl F, fun b o hb n => ?_, fun b z => .inl z, fun b z => ?_⟩, r2, r3⟩
  · have : b ≠ p := fun z => by subst z; exact n ⟨k, s, h5, h6, hp⟩
    rw [upd_ne this]; exact hb
  · by_cases c : b = p
    · subst c; rw [upd_same]; simp
    · rw [upd_ne c]; exact z

/-! ## arguments -/
theorem frzAll_run : ∀ (ks : List Nat) {ρ : Env} {F : Hp}, Rel K ρ σ F H → ∃ F2, Step K ρ σ F H (frzAll ρ ks) F2 H ∧ (∀ i x, ρ.at i = some (.d x) → (frzAll ρ ks).at i = some (.d x)) ∧ (∀ k ∈ ks, ∀ xs, ρ.at k = some (.own xs) → (frzAll ρ ks).at k = some (.d (.list xs)))
  | [], ρ, F, r => ⟨F, Step.refl r, fun _ _ h => h, fun _ h => absurd h (by simp)⟩
  | k :: ks, ρ, F, r => by
    unfold frzAll
    cases e : ρ.at k with
    | none =>
      obtain ⟨F2, st, h1, h2⟩ := frzAll_run ks r
      refine ⟨F2, st, h1, fun j hj xs hx => ?_⟩
      rcases List.mem_cons.mp hj with z | z
      · subst z; rw [e] at hx; cases hx
      · exact h2 j z xs hx
    | some s =>
      have skip : (∀ xs, s ≠ .own xs) → ∃ F2, Step K ρ σ F H (frzAll ρ ks) F2 H ∧ (∀ i x, ρ.at i = some (.d x) → (frzAll ρ ks).at i = some (.d x)) ∧ (∀ j ∈ k :: ks, ∀ xs, ρ.at j = some (.own xs) → (frzAll ρ ks).at j = some (.d (.list xs))) := fun hn => by
        obtain ⟨F2, st, h1, h2⟩ := frzAll_run ks r
        refine ⟨F2, st, h1, fun j hj xs hx => ?_⟩
        rcases List.mem_cons.mp hj with z | z
        · subst z; rw [e] at hx; cases hx; exact absurd rfl (hn xs)
        · exact h2 j z xs hx
      cases s with
      | own ys =>
        obtain ⟨p, vs, a1, a2, a3, a4, st1⟩ := r.frzSlot e
        have hk := r.lt e
        obtain ⟨F2, st2, h1, h2⟩ := frzAll_run ks st1.rel
        refine ⟨F2, st1.trans st2, fun i x hx => h1 i x ?_, fun j hj xs hx => ?_⟩
        · rw [at_put hk]
          by_cases c : i = k
          · subst c; rw [e] at hx; cases hx
          · rw [if_neg c]; exact hx
        · by_cases c : j = k
          · subst c
            rw [e] at hx; cases hx
            exact h1 j _ (by rw [at_put hk, if_pos rfl])
          · rcases List.mem_cons.mp hj with z | z
            · exact absurd z c
            · exact h2 j z xs (by rw [at_put hk, if_neg c]; exact hx)
      | d _ => exact skip fun _ z => by cases z
      | io _ => exact skip fun _ z => by cases z
      | scr _ => exact skip fun _ z => by cases z
      | dct _ => exact skip fun _ z => by cases z
      | dtt _ => exact skip fun _ z => by cases z
/-- an argument's value: a name's is what stands in its slot -/
def ArgV (F : Hp) (σ : L2.St) (v : V) : Arg → Prop
  | .v k => σ[k]? = some (some v)
  | .d x => R F v x
def tEa (K : PySem.W.Frag) (f : Env → Option (List Arg × Env)) : TA := fun σ H Q => ∃ ρ F r, Rel K ρ σ F H ∧ f ρ = some r ∧ ∀ vs F' H', Step K ρ σ F H r.2 F' H' → Paired (ArgV F' σ) vs r.1 → Q vs H'
theorem args_rl {ρ : Env} {F : Hp} : ∀ {as : List Arg} {ds : List D} {vs : List V} {F2 : Hp}, Rel K ρ σ F H → argD ρ as = some ds → Paired (ArgV F σ) vs as → Rel K (frzAll ρ (argK as)) σ F2 H → Sub F F2 →
    (∀ i x, ρ.at i = some (.d x) → (frzAll ρ (argK as)).at i = some (.d x)) → (∀ k ∈ argK as, ∀ xs, ρ.at k = some (.own xs) → (frzAll ρ (argK as)).at k = some (.d (.list xs))) → RL F2 vs ds := by
  intro as
  generalize hA : argK as = A
  intro ds vs F2 r e p r2 f h1 h2
  have key : ∀ (as : List Arg) (ds : List D) (vs : List V), (∀ k ∈ argK as, k ∈ A) → argD ρ as = some ds → Paired (ArgV F σ) vs as → RL F2 vs ds := by
    intro as
    induction as with
    | nil =>
      intro ds vs _ e p
      cases p
      cases e
      exact .nil
    | cons a as ih =>
      intro ds vs hk e p
      cases p with
      | cons pa pr =>
        cases a with
        | v k =>
          unfold argD at e
          cases e1 : peekA ρ k with
          | none => rw [e1] at e; cases e
          | some x =>
            rw [e1] at e
            simp only [Option.bind_some, Option.map_eq_some_iff] at e
            obtain ⟨ys, hy, rfl⟩ := e
            refine .cons ?_ (ih ys _ (fun j hj => hk j (by unfold argK; exact List.mem_cons_of_mem _ hj)) hy pr)
            have pa : σ[k]? = some (some _) := pa
            unfold peekA at e1
            cases e2 : ρ.at k with
            | none => rw [e2] at e1; cases e1
            | some s =>
              rw [e2] at e1
              cases s with
              | d y =>
                cases e1
                obtain ⟨w, hw, ok⟩ := r2.ok k _ (h1 k x e2)
                rw [pa] at hw; cases hw
                exact ok
              | own ys =>
                cases e1
                obtain ⟨w, hw, ok⟩ := r2.ok k _ (h2 k (hk k (by unfold argK; exact List.mem_cons_self)) ys e2)
                rw [pa] at hw; cases hw
                exact ok
              | io _ => cases e1
              | scr _ => cases e1
              | dct _ => cases e1
              | dtt _ => cases e1
        | d x =>
          unfold argD at e
          simp only [Option.map_eq_some_iff] at e
          obtain ⟨ys, hy, rfl⟩ := e
          exact .cons (R.mono f pa) (ih ys _ (fun j hj => hk j (by unfold argK; exact hj)) hy pr)
  exact key as ds vs (fun k hk => hA ▸ hk) e p
theorem aa_nil : PA X [] (tEa X.K (evA C .emp)) := pa_nil.weak fun σ H Q ⟨ρ, F, r, rel, e, q⟩ => by
  rw [evA] at e
  cases e
  exact q [] F H (Step.refl rel) .nil
theorem paired_mono {F F2 : Hp} {vs : List V} {as : List Arg} (h : Paired (ArgV F σ) vs as) (f : Sub F F2) : Paired (ArgV F2 σ) vs as := L2.Paired.mapP h fun v a z => by
  cases a with
  | v k => exact z
  | d x => exact R.mono f z
theorem aa_con {e1 : Expr} {es : List Expr} {a r : Ex} (ha : SE X C e1 a) (hr : PA X es (tEa X.K (evA C r))) (ns : notStar e1 = true) : PA X (e1 :: es) (tEa X.K (evA C (.con a r))) :=
  (pa_cons ha.l hr (star_cons ns)).weak fun σ H Q ⟨ρ, F, w, rel, e, q⟩ => by
    rw [evA] at e
    unfold tCons tL
    cases e0 : isVar a with
    | some k =>
      rw [e0] at e
      simp only at e ⊢
      cases e1 : peekA ρ k with
      | none => rw [e1] at e; cases e
      | some x0 =>
        rw [e1] at e
        simp only [Option.bind_some, Option.map_eq_some_iff] at e
        obtain ⟨y, hy, rfl⟩ := e
        obtain ⟨s, hs⟩ : ∃ s, ρ.at k = some s := by
          unfold peekA at e1
          cases e2 : ρ.at k with
          | none => rw [e2] at e1; cases e1
          | some s => exact ⟨s, rfl⟩
        obtain ⟨v, hv, _⟩ := rel.ok k s hs
        exact ⟨v, hv, ρ, F, y, rel, hy, fun vs F2 H2 st2 r2 => q _ F2 H2 st2 (.cons hv r2)⟩
    | none =>
      rw [e0] at e
      simp only at e ⊢
      cases e1 : frzV (ev C a ρ) with
      | none => rw [e1] at e; cases e
      | some x =>
        rw [e1] at e
        simp only [Option.bind_some, Option.map_eq_some_iff] at e
        obtain ⟨y, hy, rfl⟩ := e
        exact ⟨ρ, F, x, rel, e1, fun v F1 H1 st1 r1 => ⟨x.2, F1, y, st1.rel, hy, fun vs F2 H2 st2 r2 => q _ F2 H2 (st1.trans st2) (.cons (R.mono st2.fs r1) r2)⟩⟩

/-! ## calls of defs -/
theorem scalar_ok {H F' H' F2 : Hp} {w : V} {v : Val} (s : v.scalar = true) (h : VOk H F' H' w v) : VOk H F2 H' w v := by
  cases v with
  | d x =>
    cases x with
    | none => cases h; exact .non
    | bool b => cases h; exact .bl b
    | int i => cases h; exact .int i
    | str x => cases h with | str _ a b => exact .str x a b
    | list _ => cases s
    | tuple _ => cases s
    | dict _ => cases s
  | own _ => cases s
  | dct _ => cases s
  | dtt _ => cases s
/-- behind a call that writes at W (a place of one's own that k holds, or nothing) -/
theorem se_call (g : Gd G C n N sc X) {e1 : Expr} {es : List Expr} {f : Nat} {args : Ex} {p pos : Pos} (ha : PA X (e1 :: es) (tEa X.K (evA C args))) (hns : ∀ e ∈ e1 :: es, notStar e = true) (hg : glB sc (G.nm f) = true) (hd : (G.nm f == ("__debug__" : Str)) = false) :
    PE X (.Call (.Name (G.nm f) p) (e1 :: es) [] pos) (tEv X.K (ev C (.call f args))) := by
  refine ⟨fun pins s σ H Q I h => ?_⟩
  obtain ⟨ρ, F, r, rel, e, q⟩ := id h
  rw [ev] at e
  cases e1 : evA C args ρ with
  | none => rw [e1] at e; cases e
  | some x =>
    rw [e1] at e
    simp only [Option.bind_some] at e
    cases e2 : argD x.2 x.1 with
    | none => rw [e2] at e; cases e
    | some ds =>
      rw [e2] at e
      simp only [Option.bind_some] at e
      cases e3 : C f none ds with
      | none => rw [e3] at e; cases e
      | some res =>
        obtain ⟨v, o⟩ := res
        rw [e3] at e
        cases o with
        | some ys => cases e
        | none =>
          simp only [Option.some.injEq] at e
          subst e
          obtain ⟨k, addr, data, ps, hk, F0, hm, hkp, hb⟩ := g.fns f none ds _ e3
          refine (pe_call F0 (g.hr.mono hk) (g.glob hg) hm hkp hb .nil pass0 ha hd (star_cons (hns _ List.mem_cons_self)) (any_star fun e he => hns e (List.mem_cons_of_mem _ he))).run pins s σ H Q I ?_
          refine ⟨ρ, F, x, rel, e1, fun vs F1 H1 st1 pa => ?_⟩
          obtain ⟨Fc, stc, h1, h2⟩ := frzAll_run (argK x.1) st1.rel
          rw [List.append_nil]
          refine .inl ⟨Fc, ds, v, stc.rel.sub, args_rl st1.rel e2 pa stc.rel stc.fs h1 h2, e3, fun w F' H' sub ext ok => ?_⟩
          by_cases hs : v.scalar = true
          · simp only [hs, if_true] at q
            have rel2 : Rel X.K x.2 σ F1 H' := st1.rel.grow (Sub.refl _) ((stc.fs.trans ext.fs).trans sub) fun b hb => by
              obtain ⟨o, ho, fo⟩ := st1.rel.own_at hb
              exact ⟨(ext.hs b o ho fun z => z).trans ho.symm, fo⟩
            refine q w F1 H' ⟨rel2, st1.ext.trans ⟨Sub.refl _, fun b o hb _ => ext.hs b o hb fun z => z, fun b z => .inl z, ext.th⟩ (W1 := fun _ => False) fun _ z => z.elim, st1.own, st1.io⟩ (scalar_ok hs (ok.back st1))
          · simp only [hs] at q
            have rel2 : Rel X.K (frzAll x.2 (argK x.1)) σ F' H' := stc.rel.grow ext.fs sub fun b hb => by
              obtain ⟨o, ho, fo⟩ := stc.rel.own_at hb
              refine ⟨(ext.hs b o ho fun z => z).trans ho.symm, ?_⟩
              cases c : F' b with
              | none => rfl
              | some u =>
                rcases ext.nf b (by rw [c]; simp) with z | z | z | ⟨xs, z⟩
                · exact absurd fo z
                · rw [z] at ho; cases ho
                · exact z.elim
                · exact absurd z (stc.rel.own_nt hb xs)
            exact q w F' H' ⟨rel2, (st1.trans stc).ext.trans ext fun _ z => z.elim, fun b z => st1.own b (stc.own b z), fun b z => st1.io b (stc.io b z)⟩ (ok.back st1)
end
end Mn

namespace Mn
open PySem PySem.Spec PyProof.Rows L2
section
variable {G : Cfg} {C : CallF} {n : Nat} {N : List Str} {sc : Scope} {X : Cx}
theorem se_callo (g : Gd G C n N sc X) {e1 : Expr} {es : List Expr} {f k : Nat} {args : Ex} {p pos : Pos} (hv : PE X e1 (tVar k)) (ha : PA X es (tEa X.K (evA C args))) (hns : ∀ e ∈ e1 :: es, notStar e = true) (hg : glB sc (G.nm f) = true) (hd : (G.nm f == ("__debug__" : Str)) = false) :
    PE X (.Call (.Name (G.nm f) p) (e1 :: es) [] pos) (tEv X.K (ev C (.callo f k args))) := by
  refine ⟨fun pins s σ H Q I h => ?_⟩
  obtain ⟨ρ, F, r, rel, e, q⟩ := id h
  rw [ev] at e
  cases e0 : Mn.mutAt ρ k with
  | none => rw [e0] at e; cases e
  | some xs0 =>
    rw [e0] at e
    simp only [Option.bind_some] at e
    cases e1 : evA C args ρ with
    | none => rw [e1] at e; cases e
    | some x =>
      rw [e1] at e
      simp only [Option.bind_some] at e
      cases e2 : argD x.2 x.1 with
      | none => rw [e2] at e; cases e
      | some ds =>
        rw [e2] at e
        simp only [Option.bind_some] at e
        cases e4 : Mn.mutAt (frzAll x.2 (argK x.1)) k with
        | none => rw [e4] at e; cases e
        | some xs =>
          rw [e4] at e
          simp only [Option.bind_some] at e
          cases e3 : C f (some xs) ds with
          | none => rw [e3] at e; cases e
          | some res =>
            obtain ⟨v, o⟩ := res
            rw [e3] at e
            cases o with
            | none => cases e
            | some ys =>
              simp only [Option.some.injEq] at e
              subst e
              obtain ⟨a0, addr, data, ps, hk, F0, hm, hkp, hb⟩ := g.fns f (some xs) ds _ e3
              refine (pe_call F0 (g.hr.mono hk) (g.glob hg) hm hkp hb .nil pass0 (pa_cons hv ha (star_cons (hns _ List.mem_cons_self))) hd (star_cons (hns _ List.mem_cons_self)) (any_star fun e he => hns e (List.mem_cons_of_mem _ he))).run pins s σ H Q I ?_
              obtain ⟨p0, vs0, s0, hp0, _⟩ := rel.mutAt e0
              refine ⟨.ref p0, hp0, ρ, F, x, rel, e1, fun vs F1 H1 st1 pa => ?_⟩
              obtain ⟨Fc, stc, h1, h2⟩ := frzAll_run (argK x.1) st1.rel
              obtain ⟨p1, vs1, s1, hp1, hH1, hF1, hR1, hs1, hm1, hput⟩ := stc.rel.mutAt e4
              rw [hp0] at hp1; cases hp1
              rw [List.append_nil]
              refine .inr ⟨Fc, ds, p0, xs, v, ys, vs, rfl, stc.rel.sub, args_rl st1.rel e2 pa stc.rel stc.fs h1 h2, hF1, ⟨vs1, hH1, hR1⟩, e3, fun w F' H' sub ext fp mo ok => ?_⟩
              obtain ⟨t, et, mt, mi, mot⟩ := hput ys
              rw [et] at q
              obtain ⟨rel2, own2, io2⟩ := stc.rel.mput (t := t) hs1 hm1 mt mi hp0 ext.fs sub fp ((mot _ _).mpr mo) fun b hb ho => by
                obtain ⟨o, ho1, fo⟩ := stc.rel.own_at ho
                refine ⟨(ext.hs b o ho1 hb).trans ho1.symm, ?_⟩
                cases c : F' b with
                | none => rfl
                | some u =>
                  rcases ext.nf b (by rw [c]; simp) with z | z | z | ⟨xs, z⟩
                  · exact absurd fo z
                  · rw [z] at ho1; cases ho1
                  · exact absurd z hb
                  · exact absurd z (stc.rel.own_nt ho xs)
              exact q w F' H' ⟨rel2, (st1.trans stc).ext.trans ext fun b z => .inl (by subst z; exact st1.own _ (stc.own _ ⟨k, s1, hs1, hm1, hp0⟩)), fun b z => st1.own b (stc.own b (own2 b z)), fun b z => st1.io b (stc.io b (io2 b z))⟩ (ok.back st1)

/-! ## built-ins -/
theorem cb1 (g : Gd G C n N sc X) {b : BI} {r : List V → Hp → VK → Prop} {e1 : Expr} {a : Ex} {pos p : Pos} {f : Str} (hr : r = rB1 X.K b) (h : PE X (.Call (.Name f p) [e1] [] pos) (tCB r (tCons (tL X.K a (ev C a)) tNil))) : SE X C (.Call (.Name f p) [e1] [] pos) (.bi1 b a) :=
  .of (h.weak fun σ H Q ⟨ρ, F, w, rel, e, q⟩ => by
    rw [ev] at e
    cases e1 : look a (ev C a) ρ with
    | none => rw [e1] at e; cases e
    | some x =>
      rw [e1] at e
      simp only [Option.bind_some, Option.map_eq_some_iff] at e
      obtain ⟨z, hz, rfl⟩ := e
      rw [hr]
      refine tL_run rel e1 fun v F1 H1 st1 b1 => ⟨x.2, σ, F1, v, x.1, z, rfl, st1.rel, b1, hz, fun w F' H' st2 ok => q w F' H' (st1.trans st2) (ok.back st1)⟩) rfl
/-- sorted, shown in a module of its own -/
def SortedOk (X : Cx) : Prop := CallR X (.builtin "sorted") (rB1 X.K .sorted)
theorem se_bi1 (g : Gd G C n N sc X) {b : BI} (hso : b = .sorted → SortedOk X) {e1 : Expr} {a : Ex} {pos p : Pos} {f : Str} (hf : (match biFn b, biTy b with | some x, _ => some x | none, y => y).map Str.ofString = some f) (ha : SE X C e1 a) (ns : notStar e1 = true) (hg : glB sc f = true) (hb : f ∈ G.bn) (h2 : b ≠ .min2 ∧ b ≠ .max2) :
    SE X C (.Call (.Name f p) [e1] [] pos) (.bi1 b a) := by
  have ar : PA X [e1] (tCons (tL X.K a (ev C a)) tNil) := pa_cons ha.l pa_nil (star_cons ns)
  have gg := g.glob hg
  have gm := g.bl f hb
  have es : starEach [e1] X.env = (false, eval e1 X.env) :: starEach [] X.env := star_cons ns
  cases b with
  | min2 => exact absurd rfl h2.1
  | max2 => exact absurd rfl h2.2
  | len => cases hf; exact cb1 g rfl (pe_callB b_len gg gm (by decide +kernel) ar (he := es))
  | min1 => cases hf; exact cb1 g rfl (pe_callB (b_min1 g.calm) gg gm (by decide +kernel) ar (he := es))
  | max1 => cases hf; exact cb1 g rfl (pe_callB (b_max1 g.calm) gg gm (by decide +kernel) ar (he := es))
  | sum => cases hf; exact cb1 g rfl (pe_callB (b_sum g.calm) gg gm (by decide +kernel) ar (he := es))
  | all => cases hf; exact cb1 g rfl (pe_callB (b_all g.calm) gg gm (by decide +kernel) ar (he := es))
  | any => cases hf; exact cb1 g rfl (pe_callB (b_any g.calm) gg gm (by decide +kernel) ar (he := es))
  | sorted => cases hf; exact cb1 g rfl (pe_callB (hso rfl) gg gm (by decide +kernel) ar (he := es))
  | list => cases hf; exact cb1 g rfl (pe_callTy b_list gg gm (by decide +kernel) ar (he := es))
  | tuple => cases hf; exact cb1 g rfl (pe_callTy b_tuple gg gm (by decide +kernel) ar (he := es))
  | int => cases hf; exact cb1 g rfl (pe_callTy b_int gg gm (by decide +kernel) ar (he := es))
  | str => cases hf; exact cb1 g rfl (pe_callTy b_str gg gm (by decide +kernel) ar (he := es))
theorem bi2_sh {b : BI} {x y : D} {z : Val} (h : bi2D b x y = some z) : ∃ i j m, x = .int i ∧ y = .int j ∧ z = .d (.int m) := by
  unfold bi2D at h
  split at h
  · cases h; exact ⟨_, _, _, rfl, rfl, rfl⟩
  · cases h; exact ⟨_, _, _, rfl, rfl, rfl⟩
  · cases h
theorem se_bi2 (g : Gd G C n N sc X) {b : BI} {e1 e2 : Expr} {a c : Ex} {pos p : Pos} {f : Str} (hf : (b = .min2 ∧ f = "min") ∨ (b = .max2 ∧ f = "max")) (ha : SE X C e1 a) (hc : SE X C e2 c) (ns : notStar e1 = true) (ns2 : notStar e2 = true) (hg : glB sc f = true) (hb : f ∈ G.bn) :
    SE X C (.Call (.Name f p) [e1, e2] [] pos) (.bi2 b a c) := by
  have es2 : starEach [e2] X.env = (false, eval e2 X.env) :: starEach [] X.env := star_cons ns2
  have es : starEach [e1, e2] X.env = (false, eval e1 X.env) :: starEach [e2] X.env := star_cons ns
  have ar : PA X [e1, e2] (tCons (tEd X.K fun ρ => frzV (ev C a ρ)) (tCons (tEd X.K fun ρ => frzV (ev C c ρ)) tNil)) := pa_cons ha.d (pa_cons hc.d pa_nil es2) es
  have hp : (backTo pos (starEach [e2] X.env)).any (·.1) = false := any_star fun e he => by cases List.mem_singleton.mp he; exact ns2
  have gg := g.glob hg
  have gm := g.bl f hb
  have main : ∀ {r : List V → Hp → VK → Prop}, (∀ i j z Q H, bi2D b (.int i) (.int j) = some z → (∀ F, R F (match z with | .d (.int m) => .int m | _ => .non) z.dat) → Q (match z with | .d (.int m) => .int m | _ => .non) H → r [.int i, .int j] H Q) →
      PE X (.Call (.Name f p) [e1, e2] [] pos) (tCB r (tCons (tEd X.K fun ρ => frzV (ev C a ρ)) (tCons (tEd X.K fun ρ => frzV (ev C c ρ)) tNil))) → SE X C (.Call (.Name f p) [e1, e2] [] pos) (.bi2 b a c) := fun {r} hr h => by
    refine .of (h.weak fun σ H Q ⟨ρ, F, w, rel, e, q⟩ => ?_) rfl
    rw [ev] at e
    cases e1 : frzV (ev C a ρ) with
    | none => rw [e1] at e; cases e
    | some x =>
      rw [e1] at e
      simp only [Option.bind_some] at e
      cases e2 : frzV (ev C c x.2) with
      | none => rw [e2] at e; cases e
      | some y =>
        rw [e2] at e
        simp only [Option.bind_some, Option.map_eq_some_iff] at e
        obtain ⟨z, hz, rfl⟩ := e
        refine ⟨ρ, F, x, rel, e1, fun v F1 H1 st1 r1 => ⟨x.2, F1, y, st1.rel, e2, fun u F2 H2 st2 r2 => ?_⟩⟩
        have sh := bi2_sh hz
        obtain ⟨i, j, m, hi, hj, rfl⟩ := sh
        rw [hi] at r1 hz
        rw [hj] at r2 hz
        cases r1
        cases r2
        exact hr i j _ Q H2 hz (fun F => .int m) (q _ F2 H2 (st1.trans st2) (.int m))
  rcases hf with ⟨rfl, rfl⟩ | ⟨rfl, rfl⟩
  · exact main (fun i j z Q H hz _ q => by cases hz; exact ⟨i, j, rfl, q⟩) (pe_callB (call_min2 g.calm) gg gm (by decide +kernel) ar (he := es) (hpl := hp))
  · exact main (fun i j z Q H hz _ q => by cases hz; exact ⟨i, j, rfl, q⟩) (pe_callB (call_max2 g.calm) gg gm (by decide +kernel) ar (he := es) (hpl := hp))
end
end Mn

namespace Mn
open PySem PySem.Spec PyProof.Rows L2

/-! ## isinstance -/
def TyN.nm : TyN → String
  | .int => "int"
  | .bool => "bool"
  | .str => "str"
  | .list => "list"
  | .tuple => "tuple"
def tyNm (x : D) : String := match tyOf x with
  | some t => t.nm
  | none => "NoneType"
theorem R.ty {K : PySem.W.Frag} {F H : Hp} (s : Sub F H) {v : V} {x : D} (r : R F v x) : TyX K H v (.type (tyNm x)) := by
  cases r with
  | non => exact .base .non
  | bl b => exact .base (.bl b)
  | int i => exact .base (.int i)
  | str x _ _ => exact .base (.str x)
  | lst e _ => exact .base (.lst (s _ _ e))
  | tup e _ => exact .base (.tup (s _ _ e))
def isT1 (t : Option TyN) (u : TyN) : Bool := match t with
  | none => false
  | some t => decide (u = t) || (decide (u = .int) && decide (t = .bool))
theorem kit_all {K : PySem.W.Frag} (t : Option TyN) (u : TyN) : PySem.W.kitOne K (.type (match t with | some t => t.nm | none => "NoneType")) (.type u.nm) = some (isT1 t u) := by
  cases t with
  | none => cases u <;> exact kit_ty (by decide +kernel)
  | some t => cases t <;> cases u <;> exact kit_ty (by decide +kernel)
theorem kit_any {K : PySem.W.Frag} (t : Option TyN) : ∀ us : List TyN, PySem.W.kitAny K (.type (match t with | some t => t.nm | none => "NoneType")) (us.map fun u => .type u.nm) = some (us.any (isT1 t))
  | [] => rfl
  | u :: us => by
    rw [List.map_cons]
    unfold PySem.W.kitAny
    rw [kit_all, List.any_cons]
    cases isT1 t u with
    | true => rfl
    | false => exact kit_any t us
theorem isTD_eq (x : D) (ts : List TyN) : isTD x ts = ts.any (isT1 (tyOf x)) := by
  unfold isTD
  cases tyOf x with
  | none =>
    induction ts with
    | nil => rfl
    | cons a r ih => rw [List.any_cons, ← ih]; rfl
  | some t => rfl
section
variable {G : Cfg} {C : CallF} {n : Nat} {N : List Str} {sc : Scope} {X : Cx}
theorem pe_ty (g : Gd G C n N sc X) {t : TyN} {p : Pos} {f : Str} (hf : f = Str.ofString t.nm) (hg : glB sc f = true) (hb : f ∈ G.bn) : PE X (.Name f p) (tC (.ty t.nm)) := by
  have gm := g.bl f hb
  have gg := g.glob hg
  subst hf
  cases t <;> exact pe_bltn gg gm (by decide +kernel) rfl
theorem se_isT1 (g : Gd G C n N sc X) {e1 : Expr} {a : Ex} {t : TyN} {pos p p2 : Pos} {f : Str} (ha : SE X C e1 a) (ns : notStar e1 = true) (hg : glB sc "isinstance" = true) (hb : Str.ofString "isinstance" ∈ G.bn)
    (hf : f = Str.ofString t.nm) (hg2 : glB sc f = true) (hb2 : f ∈ G.bn) : SE X C (.Call (.Name "isinstance" p) [e1, .Name f p2] [] pos) (.isT a [t] false) := by
  have ar : PA X [e1, .Name f p2] (tCons (tEd X.K fun ρ => frzV (ev C a ρ)) (tCons (tC (.ty t.nm)) tNil)) := pa_cons ha.d (pa_cons (pe_ty g hf hg2 hb2) pa_nil) (star_cons ns)
  refine .of ((pe_callB call_isi (g.glob hg) (g.bl _ hb) (by decide +kernel) ar (he := star_cons ns) (hpl := rfl)).weak fun σ H Q ⟨ρ, F, w, rel, e, q⟩ => ?_) rfl
  rw [ev] at e
  simp only [Option.map_eq_some_iff] at e
  obtain ⟨x, hx, rfl⟩ := e
  refine ⟨ρ, F, x, rel, hx, fun v F1 H1 st1 r1 => ⟨v, .ty t.nm, _, _, isTD x.1 [t], rfl, .ty _, r1.ty st1.rel.sub, ?_, q _ F1 H1 st1 (.bl _)⟩⟩
  rw [isTD_eq]
  show PySem.W.kitOne X.K (.type (tyNm x.1)) _ = some (isT1 (tyOf x.1) t || false)
  rw [Bool.or_false]
  exact kit_all (tyOf x.1) t
theorem se_isT2 (g : Gd G C n N sc X) {e1 : Expr} {a : Ex} {t u : TyN} {pos p p2 p3 p4 : Pos} {k : Nat} {f f2 : Str} (ha : SE X C e1 a) (ns : notStar e1 = true) (hg : glB sc "isinstance" = true) (hb : Str.ofString "isinstance" ∈ G.bn)
    (hf : f = Str.ofString t.nm) (hg2 : glB sc f = true) (hb2 : f ∈ G.bn) (hf3 : f2 = Str.ofString u.nm) (hg3 : glB sc f2 = true) (hb3 : f2 ∈ G.bn) :
    SE X C (.Call (.Name "isinstance" p) [e1, .Tuple [.Name f p2, .Name f2 p3] k p4] [] pos) (.isT a [t, u] true) := by
  have ar : PA X [e1, .Tuple [.Name f p2, .Name f2 p3] k p4] (tCons (tEd X.K fun ρ => frzV (ev C a ρ)) (tCons (tTup (tCons (tC (.ty t.nm)) (tCons (tC (.ty u.nm)) tNil))) tNil)) :=
    pa_cons ha.d (pa_cons (pe_tup (pa_cons (pe_ty g hf hg2 hb2) (pa_cons (pe_ty g hf3 hg3 hb3) pa_nil))) pa_nil) (star_cons ns)
  refine .of ((pe_callB call_isiT (g.glob hg) (g.bl _ hb) (by decide +kernel) ar (he := star_cons ns) (hpl := rfl)).weak fun σ H Q ⟨ρ, F, w, rel, e, q⟩ => ?_) rfl
  rw [ev] at e
  simp only [Option.map_eq_some_iff] at e
  obtain ⟨x, hx, rfl⟩ := e
  refine ⟨ρ, F, x, rel, hx, fun v F1 H1 st1 r1 => ⟨by show 2 ≤ sizeLine; decide, fun tp hp => ?_⟩⟩
  have st2 := Step.laid (o := .tup [.ty t.nm, .ty u.nm]) st1.rel hp
  refine ⟨v, tp, _, _, [.type t.nm, .type u.nm], isTD x.1 [t, u], rfl, upd_same, .cons (.ty _) (.cons (.ty _) .nil), r1.ty st2.rel.sub, ?_, q _ _ _ (st1.trans st2) (.bl _)⟩
  rw [isTD_eq]
  exact kit_any (tyOf x.1) [t, u]

/-! ## list(script), list(range(..)) -/
theorem se_lscr (g : Gd G C n N sc X) {k : Nat} {e1 : Expr} {p pos : Pos} (h : PE X e1 (tVar k)) (ns : notStar e1 = true) (hg : glB sc "list" = true) (hb : Str.ofString "list" ∈ G.bn) : SE X C (.Call (.Name "list" p) [e1] [] pos) (.lscr k) := by
  have ar : PA X [e1] (tCons (tVar k) tNil) := pa_cons h pa_nil (star_cons ns)
  refine .of ((pe_callTy call_list_of (g.glob hg) (g.bl _ hb) (by decide +kernel) ar (he := star_cons ns)).weak fun σ H Q ⟨ρ, F, w, rel, e, q⟩ => ?_) rfl
  rw [ev] at e
  split at e
  · rename_i ns e2
    cases e
    obtain ⟨v, hv, a, rfl, sq⟩ := rel.ok k _ e2
    exact ⟨.ref a, hv, a, _, rfl, .inl (SqL.monoF rel.sub sq), fun l hl => new_own rel (RL.ofInts ns) hl q⟩
  · cases e

/-! ## constants of the text, of the modules -/
theorem se_glb (g : Gd G C n N sc X) {x : Str} {v : D} {pos : Pos} (hc : (x, v) ∈ G.cs) (hg : glB sc x = true) (hd : (x == ("__debug__" : Str)) = false) : SE X C (.Name x pos) (.glb x v) := by
  obtain ⟨u, w, hu, ru, rw_⟩ := g.gl x v hc
  exact se_c (pe_glob (g.glob hg) hu ru hd) (fun ρ => by rw [ev]) rw_ rfl

/-! ## methods -/
def notCall : Expr → Bool
  | .Call _ _ _ _ => false
  | _ => true
theorem base_ok {o : Expr} {nm : Str} {env : PySem.Env} (h : notCall o = true) : attributeBase o nm env (eval o env) = eval o env := by
  cases o <;> first | rfl | cases h
theorem few_ok {e : Expr} {env : PySem.Env} {cpos : Pos} (h : notStar e = true) : ((backTo cpos (starEach [e] env)).all (fun x => !x.1) && (backToKw cpos (keywordEach [] env)).all (fun x => x.1.isSome)
      && decide ([e].length + ([] : List Keyword).length + (if ([] : List Keyword).isEmpty then 0 else 1) < 30)) = true := by
  rw [star_cons h]; rfl
theorem few_ok2 {e e2 : Expr} {env : PySem.Env} {cpos : Pos} (h : notStar e = true) (h2 : notStar e2 = true) : ((backTo cpos (starEach [e, e2] env)).all (fun x => !x.1) && (backToKw cpos (keywordEach [] env)).all (fun x => x.1.isSome)
      && decide ([e, e2].length + ([] : List Keyword).length + (if ([] : List Keyword).isEmpty then 0 else 1) < 30)) = true := by
  rw [star_cons h, star_cons h2]; rfl
theorem join_len (sep : Str) : ∀ ws : List Str, (Str.join sep ws).length ≤ (ws.map (·.length)).sum + ws.length * sep.length
  | [] => by simp [Str.join, Str.empty, Str.length]
  | [x] => by simp [Str.join]
  | x :: y :: r => by
    have ih := join_len sep (y :: r)
    show (x ++ sep ++ Str.join sep (y :: r)).length ≤ _
    rw [Str.length_append, Str.length_append, List.map_cons, List.sum_cons, List.length_cons, Nat.add_mul]
    omega
theorem join_ok {sep : Str} (hs : PyData.strOk sep = true) : ∀ {ws : List Str}, (∀ x ∈ ws, PyData.strOk x = true) → PyData.strOk (Str.join sep ws) = true
  | [], _ => by simp [Str.join, Str.empty, PyData.strOk]
  | [x], h => h x List.mem_cons_self
  | x :: y :: r, h => by
    show PyData.strOk (x ++ sep ++ Str.join sep (y :: r)) = true
    exact strOk_append (strOk_append (h x List.mem_cons_self) hs) (join_ok hs fun z hz => h z (List.mem_cons_of_mem _ hz))
theorem se_join (g : Gd G C n N sc X) {o e1 : Expr} {a b : Ex} {apos pos : Pos} (ho : SE X C o a) (he : SE X C e1 b) (ns : notStar e1 = true) (nc : notCall o = true) (hl : (apos.endLine == pos.line) = true) : SE X C (.Call (.Attribute o "join" apos) [e1] [] pos) (.join a b) := by
  refine .of ((L2.pe_join ho.d he.d (star_cons ns) (base_ok nc) hl).weak fun σ H Q ⟨ρ, F, w, rel, e, q⟩ => ?_) rfl
  rw [ev] at e
  cases e1 : frzV (ev C a ρ) with
  | none => rw [e1] at e; cases e
  | some x =>
    rw [e1] at e
    simp only [Option.bind_some] at e
    cases e2 : frzV (ev C b x.2) with
    | none => rw [e2] at e; cases e
    | some y =>
      rw [e2] at e
      simp only [Option.bind_some] at e
      refine ⟨ρ, F, x, rel, e1, fun v F1 H1 st1 r1 => ?_⟩
      split at e
      · rename_i sep xs hs hx
        cases e3 : dStrs xs with
        | none => rw [e3] at e; cases e
        | some ws =>
          rw [e3] at e
          simp only [Option.bind_some, Option.map_eq_some_iff] at e
          obtain ⟨t, ht, rfl⟩ := e
          unfold joinD at ht
          split at ht
          · rename_i hle
            cases ht
            rw [hs] at r1
            cases r1 with
            | str _ o1 l1 =>
            refine ⟨⟨_, rfl⟩, x.2, F1, y, st1.rel, e2, fun u F2 H2 st2 r2 => ?_⟩
            rw [hx] at r2
            cases r2 with
            | @lst p vs _ hp rr =>
            obtain ⟨h1, h2⟩ := rr.strs e3
            refine ⟨sep, p, ws, rfl, rfl, .inl (.inl (.inl (by rw [← h1]; exact st2.rel.sub _ _ hp))), hle, ?_⟩
            have ej : Txt.join sep ws = Str.join sep ws := StrLaws.glued_eq_join sep ws
            rw [ej]
            exact q _ F2 H2 (st1.trans st2) (.str _ (join_ok o1 fun z hz => (h2 z hz).1) (Nat.le_trans (join_len sep ws) hle))
          · cases ht
      · cases e
theorem RL.ofStrs {F : Hp} : ∀ {ws : List Str}, (∀ x ∈ ws, PyData.strOk x = true ∧ x.length ≤ 16777216) → RL F (ws.map V.str) (ws.map PyData.str)
  | [], _ => .nil
  | w :: ws, h => .cons (.str w (h w List.mem_cons_self).1 (h w List.mem_cons_self).2) (RL.ofStrs fun x hx => h x (List.mem_cons_of_mem _ hx))
theorem se_split (g : Gd G C n N sc X) {o e1 : Expr} {a b : Ex} {apos pos : Pos} (ho : SE X C o a) (he : SE X C e1 b) (ns : notStar e1 = true) (nc : notCall o = true) (hl : (apos.endLine == pos.line) = true) : SE X C (.Call (.Attribute o "split" apos) [e1] [] pos) (.split a b) := by
  refine .of ((L2.pe_split ho.d he.d (star_cons ns) (base_ok nc) hl).weak fun σ H Q ⟨ρ, F, w, rel, e, q⟩ => ?_) rfl
  rw [ev] at e
  cases e1 : frzV (ev C a ρ) with
  | none => rw [e1] at e; cases e
  | some x =>
    rw [e1] at e
    simp only [Option.bind_some] at e
    cases e2 : frzV (ev C b x.2) with
    | none => rw [e2] at e; cases e
    | some y =>
      rw [e2] at e
      simp only [Option.bind_some] at e
      refine ⟨ρ, F, x, rel, e1, fun v F1 H1 st1 r1 => ?_⟩
      split at e
      · rename_i xs sep hx hs
        split at e
        · rename_i hc
          cases e
          rw [hx] at r1
          cases r1
          refine ⟨⟨_, rfl⟩, x.2, F1, y, st1.rel, e2, fun u F2 H2 st2 r2 => ?_⟩
          rw [hs] at r2
          cases r2
          refine ⟨xs, sep, rfl, rfl, beq_eq_false_iff_ne.mpr (by omega), by rw [sl24]; omega, fun p hp => ?_⟩
          refine new_own st2.rel (RL.ofStrs fun z hz => ?_) hp fun v F' H' st ok => q v F' H' ((st1.trans st2).trans st) (ok.back (st1.trans st2))
          have := List.all_eq_true.mp hc.2.2 z hz
          simp only [Bool.and_eq_true, decide_eq_true_eq] at this
          exact this
        · cases e
      · cases e
end
end Mn

namespace Mn
open PySem PySem.Spec PyProof.Rows L2

section
variable {G : Cfg} {C : CallF} {n : Nat} {N : List Str} {sc : Scope} {X : Cx}
/-! ## xs.index(x), xs.pop(i), xs.pop() -/
theorem indexL_spec {x : D} : ∀ {ds : List D} {m j : Nat}, indexL x ds m = some j → ∃ i, j = m + i ∧ (∃ z, ds[i]? = some z ∧ PyData.eqv z x = true) ∧ ∀ l z, l < i → ds[l]? = some z → PyData.eqv z x = false
  | [], _, _, h => by cases h
  | y :: ys, m, j, h => by
    unfold indexL at h
    split at h
    · rename_i e
      cases h
      exact ⟨0, rfl, ⟨y, rfl, e⟩, fun l z hl => absurd hl (Nat.not_lt_zero _)⟩
    · rename_i e
      obtain ⟨i, rfl, ⟨z, h1, h2⟩, h3⟩ := indexL_spec h
      refine ⟨i + 1, by omega, ⟨z, by simpa using h1, h2⟩, fun l w hl hw => ?_⟩
      cases l with
      | zero => cases hw; simpa using e
      | succ l => exact h3 l w (by omega) (by simpa using hw)
theorem Rel.listAt {K : PySem.W.Frag} {ρ : Mn.Env} {σ : L2.St} {F H : Hp} (r : Rel K ρ σ F H) {k : Nat} {xs : List D} (h : Mn.listAt ρ k = some xs) : ∃ p vs, σ[k]? = some (some (.ref p)) ∧ H p = some (.lst vs) ∧ RL F vs xs := by
  unfold Mn.listAt at h
  split at h
  · rename_i e
    cases h
    obtain ⟨v, hv, b⟩ := r.peek e
    obtain ⟨p, vs, rfl, h1, h2⟩ := b.list r.sub
    exact ⟨p, vs, hv, h1, h2⟩
  · cases h
theorem se_index (g : Gd G C n N sc X) {k : Nat} {o e1 : Expr} {b : Ex} {apos pos : Pos} (ho : PE X o (tVar k)) (he : SE X C e1 b) (ns : notStar e1 = true) (nc : notCall o = true) (hl : (apos.endLine == pos.line) = true) : SE X C (.Call (.Attribute o "index" apos) [e1] [] pos) (.index k b) := by
  have hu : X.A.units + 65 < cLine := g.units
  refine .of ((pe_bm F.plainAttrs_list F.slot_list_index F.type_list_index (mt_indexD hu) ho (pa_cons he.d pa_nil (star_cons ns)) (base_ok nc) (few_ok ns) hl (star_cons ns) rfl).weak fun σ H Q ⟨ρ, F, w, rel, e, q⟩ => ?_) rfl
  rw [ev] at e
  cases e0 : Mn.listAt ρ k with
  | none => rw [e0] at e; cases e
  | some xs0 =>
    rw [e0] at e
    simp only [Option.bind_some] at e
    cases e1 : frzV (ev C b ρ) with
    | none => rw [e1] at e; cases e
    | some x =>
      rw [e1] at e
      simp only [Option.bind_some] at e
      cases e2 : Mn.listAt x.2 k with
      | none => rw [e2] at e; cases e
      | some xs =>
        rw [e2] at e
        simp only [Option.bind_some, Option.map_eq_some_iff] at e
        obtain ⟨j, hj, rfl⟩ := e
        obtain ⟨p, vs, hp, h1, _⟩ := rel.listAt e0
        refine ⟨.ref p, hp, .inl ⟨rfl, _, .inl (.inl h1)⟩, ρ, F, x, rel, e1, fun v F1 H1 st1 r1 => ?_⟩
        obtain ⟨p2, vs2, hp2, h2, rl⟩ := st1.rel.listAt e2
        rw [hp] at hp2; cases hp2
        unfold indexD at hj
        simp only at hj
        split at hj
        · rename_i hd
          obtain ⟨i, rfl, ⟨z, h3, h4⟩, h5⟩ := indexL_spec hj
          refine ⟨p, v, x.1, xs, i, z, rfl, rfl, .lst (.inl (.inl h2)) (rl.dp st1.rel.sub), r1.dp st1.rel.sub, ?_, r1.shaped hd.1, h3, h4, fun m z' hm hz => h5 m z' hm hz, ?_⟩
          · show (PyData.canLayAll0 xs && decide ((PyData.list xs).depth ≤ 64)) = true
            rw [rl.lay, decide_eq_true hd.2]; rfl
          · rw [Nat.zero_add] at q
            exact q _ F1 H1 st1 (.int _)
        · cases hj
theorem se_popAt (g : Gd G C n N sc X) {k : Nat} {o e1 : Expr} {b : Ex} {apos pos : Pos} (ho : PE X o (tVar k)) (he : SE X C e1 b) (ns : notStar e1 = true) (nc : notCall o = true) (hl : (apos.endLine == pos.line) = true) : SE X C (.Call (.Attribute o "pop" apos) [e1] [] pos) (.popAt k b) := by
  refine .of ((pe_bm F.plainAttrs_list F.slot_list_pop F.type_list_pop mt_popAt ho (pa_cons he.d pa_nil (star_cons ns)) (base_ok nc) (few_ok ns) hl (star_cons ns) rfl).weak fun σ H Q ⟨ρ, F, w, rel, e, q⟩ => ?_) rfl
  rw [ev] at e
  cases e0 : Mn.mutAt ρ k with
  | none => rw [e0] at e; cases e
  | some xs0 =>
    rw [e0] at e
    simp only [Option.bind_some] at e
    cases e1 : frzV (ev C b ρ) with
    | none => rw [e1] at e; cases e
    | some x =>
      rw [e1] at e
      simp only [Option.bind_some] at e
      cases e2 : Mn.mutAt x.2 k with
      | none => rw [e2] at e; cases e
      | some xs =>
        rw [e2] at e
        simp only [Option.bind_some] at e
        split at e
        · rename_i j hj
          split at e
          · rename_i hc
            simp only [Option.map_eq_some_iff] at e
            obtain ⟨y, hy, rfl⟩ := e
            obtain ⟨p, vs, _, hp, h1, _⟩ := rel.mutAt e0
            refine ⟨.ref p, hp, .inl ⟨rfl, _, .inl (.inl h1)⟩, ρ, F, x, rel, e1, fun v F1 H1 st1 r1 => ?_⟩
            rw [hj] at r1
            cases r1
            obtain ⟨p2, vs2, _, hp2, h2, hf2, rl, _⟩ := st1.rel.mutAt e2
            rw [hp] at hp2; cases hp2
            obtain ⟨u, hu, ru⟩ := rl.get hy
            have hlt : j.toNat < vs2.length := (List.getElem?_eq_some_iff.mp hu).1
            refine ⟨p, vs2, j, j.toNat, u, rfl, rfl, h2, by omega, by omega, ?_, hu, ?_⟩
            · exact seqIndex_of hc.1 (by omega)
            · exact q u F1 _ (st1.trans (Step.write st1.rel e2 hp (rl.eraseIdx j.toNat))) ru
          · cases e
        · cases e
theorem se_pop (g : Gd G C n N sc X) {k : Nat} {o : Expr} {apos pos : Pos} (ho : PE X o (tVar k)) (nc : notCall o = true) (hl : (apos.endLine == pos.line) = true) : SE X C (.Call (.Attribute o "pop" apos) [] [] pos) (.pop k) := by
  refine .of ((pe_bm0 F.plainAttrs_list F.slot_list_pop F.type_list_pop mt_pop ho (base_ok nc) hl).weak fun σ H Q ⟨ρ, F, w, rel, e, q⟩ => ?_) rfl
  rw [ev] at e
  cases e0 : Mn.mutAt ρ k with
  | none => rw [e0] at e; cases e
  | some xs =>
    rw [e0] at e
    simp only [Option.bind_some, Option.map_eq_some_iff] at e
    obtain ⟨y, hy, rfl⟩ := e
    obtain ⟨p, vs, _, hp, h1, _, rl, _⟩ := rel.mutAt e0
    obtain ⟨u, hu, ru⟩ := rl.get hy
    refine ⟨.ref p, hp, .inl ⟨rfl, _, .inl (.inl h1)⟩, p, vs, u, rfl, rfl, h1, by rw [rl.length]; exact hu, ?_⟩
    have rd : RL F vs.dropLast xs.dropLast := by
      rw [List.dropLast_eq_take, List.dropLast_eq_take, rl.length]
      exact rl.take _
    exact q u F _ (Step.write rel e0 hp rd) ru

/-! ## dicts -/
def KR (F : Hp) : Key × V → Int × D → Prop := fun p q => p.1 = .inl q.1 ∧ R F p.2 q.2
theorem look_rel {F : Hp} {k : Int} : ∀ {kv : List (Key × V)} {kvs : List (Int × D)}, Paired (KR F) kv kvs → (∃ v d, valV kv (Sum.inl k) = some v ∧ dLook kvs k = some d ∧ R F v d) ∨ (valV kv (Sum.inl k) = none ∧ dLook kvs k = none)
  | _, _, .nil => .inr ⟨rfl, rfl⟩
  | p :: r, q :: s, .cons h t => by
    obtain ⟨h1, h2⟩ := h
    by_cases c : q.1 = k
    · left
      refine ⟨p.2, q.2, valV_pos (by rw [h1, c]), ?_, h2⟩
      unfold dLook
      rw [List.find?_cons_of_pos (by simpa using c)]; rfl
    · have e1 : valV (p :: r) (Sum.inl k) = valV r (Sum.inl k) := valV_neg (by rw [h1]; exact fun z => c (Sum.inl.inj z))
      have e2 : dLook (q :: s) k = dLook s k := by
        unfold dLook
        rw [List.find?_cons_of_neg (by simpa using c)]
      rw [e1, e2]
      exact look_rel t
theorem any_rel {F : Hp} {k : Int} : ∀ {kv : List (Key × V)} {kvs : List (Int × D)}, Paired (KR F) kv kvs → (kv.any fun p => decide (p.1 = Sum.inl k)) = kvs.any fun p => decide (p.1 = k)
  | _, _, .nil => rfl
  | p :: r, q :: s, .cons h t => by
    rw [List.any_cons, List.any_cons, any_rel t, h.1]
    congr 1
    by_cases c : q.1 = k
    · rw [c]; simp
    · rw [decide_eq_false c, decide_eq_false fun z => c (Sum.inl.inj z)]
theorem paired_app {F : Hp} {a b : List (Key × V)} {c d : List (Int × D)} (h : Paired (KR F) a c) (h2 : Paired (KR F) b d) : Paired (KR F) (a ++ b) (c ++ d) := by
  induction h with
  | nil => exact h2
  | cons r t ih => exact .cons r ih
theorem map_rel {F : Hp} {k : Int} {v : V} {d : D} (hv : R F v d) : ∀ {kv : List (Key × V)} {kvs : List (Int × D)}, Paired (KR F) kv kvs → Paired (KR F) (kv.map fun p => if p.1 = Sum.inl k then (p.1, v) else p) (kvs.map fun p => if p.1 = k then (p.1, d) else p)
  | _, _, .nil => .nil
  | p :: r, q :: s, .cons h t => by
    rw [List.map_cons, List.map_cons]
    refine .cons ?_ (map_rel hv t)
    by_cases c : q.1 = k
    · rw [if_pos c, if_pos (by rw [h.1, c])]
      exact ⟨h.1, hv⟩
    · rw [if_neg c, if_neg (by rw [h.1]; exact fun z => c (Sum.inl.inj z))]
      exact h
theorem put_rel {F : Hp} {k : Int} {v : V} {d : D} {kv : List (Key × V)} {kvs : List (Int × D)} (h : Paired (KR F) kv kvs) (hv : R F v d) : Paired (KR F) (putK kv (Sum.inl k) v) (dPut kvs k d) := by
  unfold putK dPut
  rw [any_rel h]
  split
  · exact map_rel hv h
  · exact paired_app h (.cons ⟨rfl, hv⟩ .nil)
theorem Rel.dctAt {K : PySem.W.Frag} {ρ : Mn.Env} {σ : L2.St} {F H : Hp} (r : Rel K ρ σ F H) {k : Nat} {kvs : List (Int × D)} (h : Mn.dctAt ρ k = some kvs) : ∃ p kv, σ[k]? = some (some (.ref p)) ∧ H p = some (.dK kv) ∧ F p = none ∧ Paired (KR F) kv kvs ∧ ρ.at k = some (.dct kvs) := by
  unfold Mn.dctAt at h
  split at h
  · rename_i e
    cases h
    obtain ⟨v, hv, p, rfl, f, kv, h1, h2⟩ := r.ok k _ e
    exact ⟨p, kv, hv, h1, f, h2, e⟩
  · cases h
theorem nosl {e : Expr} (h : (match e with | .Slice _ _ _ _ => false | _ => true) = true) : NoSl e := fun _ _ => by
  cases e <;> first | rfl | cases h
theorem se_dnew {pos : Pos} : SE X C (.Dict [] [] pos) .dnew :=
  .of (pe_dnewK.weak fun σ H Q ⟨ρ, F, w, rel, e, q⟩ p hp => by
    rw [ev] at e
    cases e
    exact q _ F _ (Step.laid rel hp) ⟨p, rfl, rel.sub.none hp, hp, [], upd_same, .nil⟩) rfl
theorem se_dget (g : Gd G C n N sc X) {k : Nat} {o e1 : Expr} {b : Ex} {pos : Pos} (ho : PE X o (tVar k)) (he : SE X C e1 b) (hs : NoSl e1) : SE X C (.Subscript o e1 pos) (.dget k b) := by
  refine .of ((pe_dget (by have := g.units; omega) ho he.d hs).weak fun σ H Q ⟨ρ, F, w, rel, e, q⟩ => ?_) rfl
  rw [ev] at e
  cases e0 : Mn.dctAt ρ k with
  | none => rw [e0] at e; cases e
  | some kv0 =>
    rw [e0] at e
    simp only [Option.bind_some] at e
    cases e1 : frzV (ev C b ρ) with
    | none => rw [e1] at e; cases e
    | some x =>
      rw [e1] at e
      simp only [Option.bind_some] at e
      cases e2 : Mn.dctAt x.2 k with
      | none => rw [e2] at e; cases e
      | some kvs =>
        rw [e2] at e
        simp only [Option.bind_some] at e
        split at e
        · rename_i j hj
          simp only [Option.map_eq_some_iff] at e
          obtain ⟨y, hy, rfl⟩ := e
          obtain ⟨p, kv, hp, h1, _⟩ := rel.dctAt e0
          refine ⟨.ref p, hp, ρ, F, x, rel, e1, fun v F1 H1 st1 r1 => ?_⟩
          rw [hj] at r1
          cases r1
          obtain ⟨p2, kv2, hp2, h2, hf2, pr, _⟩ := st1.rel.dctAt e2
          rw [hp] at hp2; cases hp2
          rcases look_rel (k := j) pr with ⟨u, d, hu, hd, rd⟩ | ⟨_, hd⟩
          · rw [hd] at hy; cases hy
            exact ⟨p, u, rfl, by have := DGet.k (k := Sum.inl j) h2; rw [hu] at this; exact this, q u F1 H1 st1 rd⟩
          · rw [hd] at hy; cases hy
        · cases e
theorem se_din (g : Gd G C n N sc X) {neg : Bool} {k : Nat} {o e1 : Expr} {b : Ex} {pos : Pos} (ho : PE X o (tVar k)) (he : SE X C e1 b) (hm : behindInMarks (if neg then .NotIn else .In) o = false) : SE X C (.Compare e1 [if neg then .NotIn else .In] [o] pos) (.din neg b k) := by
  have hu : X.A.units + 1 < cLine := by have := g.units; omega
  have main : ∀ {t : TE}, (∀ σ H Q, (tEd X.K fun ρ => frzV (ev C b ρ)) σ H (fun y H1 => tVar k σ H1 fun x H2 => ∃ a o, x = .ref a ∧ DGet H2 a y o ∧ Q (.bl (if neg then !o.isSome else o.isSome)) H2) → t σ H Q) →
      PE X (.Compare e1 [if neg then .NotIn else .In] [o] pos) t → SE X C (.Compare e1 [if neg then .NotIn else .In] [o] pos) (.din neg b k) := fun {t} ht h => by
    refine .of (h.weak fun σ H Q ⟨ρ, F, w, rel, e, q⟩ => ht σ H Q ?_) rfl
    rw [ev] at e
    cases e1 : frzV (ev C b ρ) with
    | none => rw [e1] at e; cases e
    | some x =>
      rw [e1] at e
      simp only [Option.bind_some] at e
      cases e2 : Mn.dctAt x.2 k with
      | none => rw [e2] at e; cases e
      | some kvs =>
        rw [e2] at e
        simp only [Option.bind_some] at e
        split at e
        · rename_i j hj
          cases e
          refine ⟨ρ, F, x, rel, e1, fun v F1 H1 st1 r1 => ?_⟩
          rw [hj] at r1
          cases r1
          obtain ⟨p2, kv2, hp2, h2, hf2, pr, _⟩ := st1.rel.dctAt e2
          refine ⟨.ref p2, hp2, p2, valV kv2 (Sum.inl j), rfl, DGet.k (k := Sum.inl j) h2, ?_⟩
          have : (valV kv2 (Sum.inl j)).isSome = (dLook kvs j).isSome := by
            rcases look_rel (k := j) pr with ⟨u, d, hu, hd, rd⟩ | ⟨hu, hd⟩ <;> rw [hu, hd] <;> rfl
          rw [this]
          exact q _ F1 H1 st1 (.bl _)
        · cases e
  cases neg with
  | true => exact main (fun σ H Q h => h) (pe_cmp (pc_dnotin hu he.d ho) hm)
  | false => exact main (fun σ H Q h => h) (pe_cmp (pc_din hu he.d ho) hm)
theorem se_ddef (g : Gd G C n N sc X) {k : Nat} {o e1 e2 : Expr} {b c : Ex} {apos pos : Pos} (ho : PE X o (tVar k)) (he : SE X C e1 b) (hc : SE X C e2 c) (ns : notStar e1 = true) (ns2 : notStar e2 = true) (nc : notCall o = true) (hl : (apos.endLine == pos.line) = true) :
    SE X C (.Call (.Attribute o "get" apos) [e1, e2] [] pos) (.ddef k b c) := by
  have m2 : M2 X o "get" apos e1 e2 pos := ⟨base_ok nc, few_ok2 ns ns2, hl, by rw [star_cons ns, star_cons ns2]; rfl⟩
  refine .of ((pe_dget2 (by have := g.units; omega) ho he.d hc.d m2).weak fun σ H Q ⟨ρ, F, w, rel, e, q⟩ => ?_) rfl
  rw [ev] at e
  cases e0 : Mn.dctAt ρ k with
  | none => rw [e0] at e; cases e
  | some kv0 =>
    rw [e0] at e
    simp only [Option.bind_some] at e
    cases e1 : frzV (ev C b ρ) with
    | none => rw [e1] at e; cases e
    | some x =>
      rw [e1] at e
      simp only [Option.bind_some] at e
      cases e3 : frzV (ev C c x.2) with
      | none => rw [e3] at e; cases e
      | some y =>
        rw [e3] at e
        simp only [Option.bind_some] at e
        cases e2 : Mn.dctAt y.2 k with
        | none => rw [e2] at e; cases e
        | some kvs =>
          rw [e2] at e
          simp only [Option.bind_some] at e
          split at e
          · rename_i j hj
            cases e
            obtain ⟨p, kv, hp, h1, _⟩ := rel.dctAt e0
            refine ⟨.ref p, hp, p, rfl, .inl ⟨kv, .inl h1⟩, ρ, F, x, rel, e1, fun v F1 H1 st1 r1 => ⟨x.2, F1, y, st1.rel, e3, fun u F2 H2 st2 r2 => ?_⟩⟩
            rw [hj] at r1
            cases r1
            obtain ⟨p2, kv2, hp2, h2, hf2, pr, _⟩ := (st1.trans st2).rel.dctAt e2
            rw [hp] at hp2; cases hp2
            refine ⟨valV kv2 (Sum.inl j), DGet.k (k := Sum.inl j) h2, q _ F2 H2 (st1.trans st2) ?_⟩
            rcases look_rel (k := j) pr with ⟨a, d, hu, hd, rd⟩ | ⟨hu, hd⟩
            · rw [hu, hd]; exact rd
            · rw [hu, hd]; exact r2
          · cases e

/-! ## f-strings -/
theorem se_fmt {e1 : Expr} {a : Ex} {pos : Pos} (ha : SE X C e1 a) : SE X C (.FormattedValue e1 (-1) none pos) (.fmt a) :=
  .of ((pe_fmt ha.d).weak fun σ H Q ⟨ρ, F, w, rel, e, q⟩ => by
    rw [ev] at e
    cases e1 : frzV (ev C a ρ) with
    | none => rw [e1] at e; cases e
    | some x =>
      rw [e1] at e
      simp only [Option.bind_some, Option.map_eq_some_iff] at e
      obtain ⟨t, ht, rfl⟩ := e
      refine ⟨ρ, F, x, rel, e1, fun v F1 H1 st1 r1 => ?_⟩
      unfold fmtD at ht
      split at ht
      · rename_i z hz
        cases ht
        rw [hz] at r1
        cases r1 with
        | str _ o l => exact .inl ⟨_, rfl, by rw [sl24]; exact l, q _ F1 H1 st1 (.str _ o l)⟩
      · rename_i z hz
        split at ht
        · rename_i hl
          cases ht
          rw [hz] at r1
          cases r1
          exact .inr ⟨_, rfl, hl, q _ F1 H1 st1 (.str _ (strOk_str hl).1 (strOk_str hl).2)⟩
        · cases ht
      · cases ht) rfl
/-- the parts of an f-string -/
structure PF (X : Cx) (C : CallF) (es : List Expr) (args : Ex) : Prop where
  ts : ∃ ts, PJ X es ts ∧ ∀ (acc : Str) σ H (Q : Str → Hp → Prop), (∃ ρ F r t, Rel X.K ρ σ F H ∧ evD C args ρ = some r ∧ catAll r.1 = some t ∧ PyData.strOk acc = true ∧ acc.length + t.length ≤ 16777216 ∧
    ∀ F' H', Step X.K ρ σ F H r.2 F' H' → PyData.strOk (acc ++ t) = true → Q (acc ++ t) H') → tJs ts acc σ H Q
theorem pf_nil : PF X C [] .emp := ⟨⟨[], .nil, fun acc σ H Q ⟨ρ, F, r, t, rel, e, h, o, l, q⟩ => by
  rw [evD] at e
  cases e
  cases h
  rw [Str.append_empty] at q
  exact q F H (Step.refl rel) o⟩⟩
theorem pf_cons {e1 : Expr} {es : List Expr} {a r : Ex} (ha : SE X C e1 a) (hr : PF X C es r) : PF X C (e1 :: es) (.con a r) := by
  obtain ⟨ts, pj, k⟩ := hr.ts
  refine ⟨⟨_, .cons ha.d pj, fun acc σ H Q ⟨ρ, F, w, t, rel, e, h, o, l, q⟩ => ?_⟩⟩
  rw [evD] at e
  cases e1 : frzV (ev C a ρ) with
  | none => rw [e1] at e; cases e
  | some x =>
    rw [e1] at e
    simp only [Option.bind_some, Option.map_eq_some_iff] at e
    obtain ⟨y, hy, rfl⟩ := e
    refine ⟨ρ, F, x, rel, e1, fun v F1 H1 st1 r1 => ?_⟩
    unfold catAll at h
    split at h
    · rename_i z heq
      simp only [Option.map_eq_some_iff] at h
      obtain ⟨t2, h2, rfl⟩ := h
      rw [heq] at r1
      cases r1 with
      | str _ o1 l1 =>
      have le : (acc ++ z).length + t2.length ≤ 16777216 := by
        rw [Str.length_append] at l ⊢
        omega
      refine ⟨z, rfl, by rw [sl24]; omega, k (acc ++ z) σ H1 Q ⟨x.2, F1, y, t2, st1.rel, hy, h2, strOk_append o o1, le, fun F2 H2 st2 o2 => ?_⟩⟩
      rw [Str.append_assoc] at o2 ⊢
      exact q F2 H2 (st1.trans st2) o2
    · cases h
theorem se_fst {e1 e2 : Expr} {es : List Expr} {args : Ex} {pos : Pos} (h : PF X C (e1 :: e2 :: es) args) : SE X C (.JoinedStr (e1 :: e2 :: es) pos) (.fst args) := by
  obtain ⟨ts, pj, k⟩ := h.ts
  refine .of ((pe_joined pj).weak fun σ H Q ⟨ρ, F, w, rel, e, q⟩ => ?_) rfl
  rw [ev] at e
  cases e1 : evD C args ρ with
  | none => rw [e1] at e; cases e
  | some x =>
    rw [e1] at e
    simp only [Option.bind_some] at e
    cases e2 : catAll x.1 with
    | none => rw [e2] at e; cases e
    | some t =>
      rw [e2] at e
      simp only [Option.bind_some] at e
      split at e
      · rename_i hl
        cases e
        refine k Str.empty σ H _ ⟨ρ, F, x, t, rel, e1, e2, by simp [Str.empty, PyData.strOk], by simpa [Str.empty, Str.length] using hl, fun F' H' st o => ?_⟩
        rw [Str.empty_append] at o ⊢
        exact q _ F' H' st (.str _ o hl)
      · cases e

/-! ## xs[::-1] -/
def rRev (K : PySem.W.Frag) : V → Hp → VK → Prop := fun x H Q => (∃ a xs, x = .ref a ∧ SqL K H a xs ∧ ∀ p, H p = none → Q (.ref p) (upd H p (.lst xs.reverse))) ∨ (∃ a xs, x = .ref a ∧ SqT K H a xs ∧ ∀ p, H p = none → Q (.ref p) (upd H p (.tup xs.reverse)))
end
end Mn

namespace Mn
open PySem PySem.Spec PyProof.Rows L2

/-! ## enumerate(tuple) -/
theorem meets_enum1 {v : Value} {o : Obj} {H : Heap → Prop} (B : Begins v o H) :
    Meets (Builtin.«enumerate.__new__» ⟨[.type "enumerate", v], []⟩) (fun _ R s => H s.heap ∧
      R (.ok (.ret (.ref (s.heap.push o).objs.size))) { s with heap := (s.heap.push o).push { cls := .type "enumerate", data := .fields #[.none, .bool false, .ref s.heap.objs.size, rawInt 0, .none, .none] } }) :=
  .of_wp fun prog w A R s h => by
    obtain ⟨hp, g, d, tk, os⟩ := s; obtain ⟨h1, h⟩ := h
    have hsub := sub_enumerate
    have q1 : ∀ {A' : Around} {E : Value → Shared → Prop} {Q : Value → Shared → Prop}, Q (.ref hp.objs.size) ⟨(hp.push o), g, d, tk, os⟩ → wpAny (model prog w) A' (pyIter v) Q E ⟨hp, g, d, tk, os⟩ :=
      fun q => B.iter prog w _ _ ⟨hp, g, d, tk, os⟩ _ (B.keeps _ _ h1 fun b o' e => e) q
    wp_walk
    refine wpAny_stack_any fun st => wpAny_pure ?_
    split
    · rename_i c _ _ _ _ _
      cases (c == Value.type "enumerate")
      · wp_walk using q1
        exact ⟨_, rfl, h⟩
      · wp_walk using q1
        exact ⟨_, rfl, h⟩
    · wp_walk using q1
      exact ⟨_, rfl, h⟩
theorem call_enum1 {prog : Program} {w : World} {A : Around} {E : Value → Shared → Prop} {s : Shared} {l : Addr} {items : Array Value} {Q : Value → Shared → Prop} (hL : s.heap.IsTuple l items)
    (h : ∀ h', IsEnum h' (s.heap.objs.size + 1) s.heap.objs.size 0 .none → h'.IsTupleIter s.heap.objs.size l 0 → h'.objs.size = s.heap.objs.size + 2 →
      (∀ b o, s.heap.get? b = some o → h'.get? b = some o) → Q (.ref (s.heap.objs.size + 1)) { s with heap := h' }) :
    wpAny (model prog w) A (call (.type "enumerate") [.ref l]) Q E s := by
  refine callType_new F.called_enumerate (by decide) (F.typeCall_enumerate_1 _) (F.newCall_enumerate_1 _) (fun obj => F.args_object_init_2 obj _) F.entry_enumerate_new
    (meets_enum1 (begins_tuple l items)) ⟨hL, ?_⟩
  have hz : (s.heap.push { cls := .type "tuple_iterator", data := .fields #[.ref l, .int 0 0] }).objs.size = s.heap.objs.size + 1 := Heap.size_push ..
  show _ ∧ _
  rw [hz]
  have he : IsEnum ((s.heap.push { cls := .type "tuple_iterator", data := .fields #[.ref l, .int 0 0] }).push
      { cls := .type "enumerate", data := .fields #[.none, .bool false, .ref s.heap.objs.size, rawInt 0, .none, .none] }) (s.heap.objs.size + 1) s.heap.objs.size 0 .none := by
    have := Heap.get?_push_size (s.heap.push { cls := .type "tuple_iterator", data := .fields #[.ref l, .int 0 0] })
      (o := { cls := .type "enumerate", data := .fields #[.none, .bool false, .ref s.heap.objs.size, rawInt 0, .none, .none] }) rfl
    rw [hz] at this; exact this
  refine ⟨⟨_, he, rfl⟩, h _ he ⟨_, Heap.get?_push_of_some _ (Heap.get?_push_size _ rfl), rfl, rfl⟩ (by rw [Heap.size_push, hz]) fun b o x => Heap.get?_push_of_some _ (Heap.get?_push_of_some _ x)⟩
/-- the tuple at a, each item in a new pair -/
def IteT (K : PySem.W.Frag) (a : Addr) : It :=
  ⟨fun i H => ∃ (xs : List V) (x : V), SqT K H a xs ∧ xs[i]? = some x, fun i H v H' => ∃ T x, v = .ref T ∧ H T = none ∧ H' = upd H T (.tup [.int (i : Nat), x]) ∧ ∀ xs, SqT K H a xs → xs[i]? = some x, fun i H => ∃ xs : List V, SqT K H a xs ∧ xs.length = i⟩
theorem turn_enumT {P : Program} {w : World} {K : PySem.W.Frag} {elts : List Expr} {kk : Nat} {tpos : Pos} (a e it : Addr) :
    Turn P w K (.Tuple elts kk tpos) (IteT K a) [e, it] e (fun i h => (∃ old, IsEnum h e it ((i : Nat) : Int) old) ∧ h.IsTupleIter it a i ∧ e ≠ it) where
  mem := by simp
  obj := fun i h st b hb => by
    obtain ⟨⟨old, he⟩, ⟨o, ho, hc, hd⟩, _⟩ := st
    have e' : b = e ∨ b = it := by simpa using hb
    rcases e' with z | z
    · rw [z]; exact ⟨_, he, fun v q => nomatch q⟩
    · rw [z]; exact ⟨o, ho, fun v q => by rw [hd] at q; cases q⟩
  keep := fun i h h' st k => let ⟨⟨old, he⟩, hi, hne⟩ := st; ⟨⟨old, k e (by simp) _ he⟩, hi.at fun o q => k it (by simp) o q, hne⟩
  item := by
    intro X hP hw hK hc i pins s σ H E I hf st hg
    subst hP hw hK
    obtain ⟨⟨old, he⟩, hit, hne⟩ := st
    obtain ⟨xs, x, hq, hx⟩ := hg
    obtain ⟨its, rv, p, hz⟩ := I.tuple hq
    obtain ⟨u, hu, ru⟩ := rv.get hx
    have hel : e < s.heap.objs.size := Heap.lt_size he
    have hil : it < s.heap.objs.size := by obtain ⟨_, q, _⟩ := hit; exact Heap.lt_size q
    have hal : a < s.heap.objs.size := p.lt
    have eit : a ≠ it := fun z => by
      subst z
      obtain ⟨o1, h1, h2, h3⟩ := hit
      obtain ⟨o2, h4, h5, _⟩ := p
      rw [h1] at h4; cases h4
      rw [h2] at h5; exact absurd (Value.type.inj h5) (by decide)
    have hi : i < its.toArray.size := by
      rw [List.size_toArray]
      exact (List.getElem?_eq_some_iff.mp hu).1
    have ae : a ≠ e := fun z => by
      subst z
      obtain ⟨o2, h4, h5, _⟩ := p
      have h6 : s.heap.get? a = some _ := he
      rw [h6] at h4; cases h4
      exact absurd (Value.type.inj h5) (by decide)
    refine wpAny_pyNext_enum_itemD (Draws.tuple (A := X.A.in1) (I.ok.hd hc) it a eit its.toArray) he ⟨hit, p⟩ hi hne (by simp [hne, ae.symm]) fun x' h' tk hP ho hst hT hsz hk => ?_
    have hx' : x' = u := by
      have : its.toArray[i]? = some x' := hP
      have e2 : its.toArray[i]? = some u := by simpa using hu
      rw [this] at e2; cases e2; rfl
    subst hx'
    have hit' := hst.1
    refine ⟨_, rfl, wpAny_letOwnedTupleGo_enum (s := { s with heap := h', toks := tk + 1 }) ho fun h'' he' sb => ?_⟩
    have hT2 : h''.get? s.heap.objs.size = some { cls := .type "tuple", data := .seq #[.int i tk, x'] } := (sb.2 _ (Nat.ne_of_gt hel)).trans hT
    have new : ObjOk X.prog X.w (upd H s.heap.objs.size (.tup [.int (i : Nat), x])) h'' s.heap.objs.size (.tup [.int (i : Nat), x]) :=
      ⟨by show 2 ≤ sizeLine; decide, [.int i tk, x'], .cons ⟨_, rfl⟩ (.cons ru .nil), ⟨_, hT2, rfl, _, rfl⟩⟩
    have I1 : Inv X pins σ (upd H s.heap.objs.size (.tup [.int (i : Nat), x])) { s with heap := h'', toks := tk + 1 } :=
      I.turnedNew (ch := [e, it]) (fun b ob hb q => (sb.2 b (fun z => hb (by simp [z]))).trans (hk b ob (fun z => hb (by simp [z])) (fun z => hb (by simp [z])) q)) hf (Nat.le_refl _) new
    refine ⟨.ref s.heap.objs.size, _, I1, rfl, ⟨_, x, rfl, I.hok.fresh (Nat.le_refl _), rfl, fun ys hy => by rw [I.tuple_inj hy hq]; exact hx⟩, ⟨⟨x', ?_⟩, hit'.at fun o q => (sb.2 it (Ne.symm hne)).trans q, hne⟩, fun b hb => ?_⟩
    · have e1 : ((i + 1 : Nat) : Int) = (i : Int) + 1 := by omega
      rw [e1]; exact he'
    · have hb' : b < s.heap.objs.size := by
        have e' : b = e ∨ b = it := by simpa using hb
        rcases e' with z | z
        · rw [z]; exact hel
        · rw [z]; exact hil
      rw [upd_ne (Nat.ne_of_lt hb')]
      exact (hf b hb).1
  done := by
    intro X hP hw hK hc i pins s σ H E I hf st hg
    subst hP hw hK
    obtain ⟨⟨old, he⟩, hit, hne⟩ := st
    obtain ⟨xs, hq, hx⟩ := hg
    obtain ⟨its, rv, p, hz⟩ := I.tuple hq
    obtain ⟨f0, f1, f2, f3, f4, f5⟩ := hf it (by simp)
    have hl := rv.length
    have eit : a ≠ it := fun z => by
      subst z
      obtain ⟨o1, h1, h2, h3⟩ := hit
      obtain ⟨o2, h4, h5, _⟩ := p
      rw [h1] at h4; cases h4
      rw [h2] at h5; exact absurd (Value.type.inj h5) (by decide)
    have hi : i = its.toArray.size := by
      rw [List.size_toArray]; omega
    subst hi
    exact wpAny_pyNext_enum_endD (Draws.tuple (A := X.A.in1) (I.ok.hd hc) it a eit its.toArray) he ⟨hit, p⟩ fun h' eb => ⟨rfl, I.turned (t' := s.toks) (fun b o hb e => eb b o hb e) f0 f1 f3 f4 f5⟩
  self := fun A i s Q E st h => let ⟨⟨_, he⟩, _⟩ := st; wpAny_pyIter_enum he h
def iEnumT (K : PySem.W.Frag) (ta : TA) : TI := fun σ H R => ta σ H fun vs H1 => ∃ a, vs = [.ref a] ∧ ((∃ xs, SqL K H1 a xs ∧ R (Ite K a) H1) ∨ (∃ xs, SqT K H1 a xs ∧ R (IteT K a) H1))
theorem pi_enumT {X : Cx} {e : Expr} {ta : TA} {p pos tpos : Pos} {elts : List Expr} {kk : Nat} (hg : Gl X "enumerate") (hm : X.mg "enumerate" = none) (ha : PA X [e] ta) (hs : starEach [e] X.env = [(false, eval e X.env)] := by rfl) :
    PI X (.Tuple elts kk tpos) (.Call (.Name "enumerate" p) [e] [] pos) (iEnumT X.K ta) := by
  refine ⟨fun pins s σ H R I h => ?_⟩
  refine Call_ (ld_blt I hg hm boot_enumerate (PyProof.Rows.callWith_type1 (thn (ha.run pos pins s σ H _ I h) fun us s1 ⟨vs, H1, I1, r1, q1⟩ => ?_) hs rfl))
  obtain ⟨a, ex, q⟩ := q1
  subst ex
  cases r1 with
  | cons r rr =>
    cases rr
    cases r
    have fp : ∀ b ∈ [s1.heap.objs.size + 1, s1.heap.objs.size], FpOk X pins H1 b := fun b hb => by
      have e' : b = s1.heap.objs.size + 1 ∨ b = s1.heap.objs.size := by simpa using hb
      have hle : s1.heap.objs.size ≤ b := by
        rcases e' with z | z
        · rw [z]; exact Nat.le_add_right _ _
        · rw [z]; exact Nat.le_refl _
      exact I1.fpOk hle (I1.hok.fresh hle)
    rcases q with ⟨xs, hq, q⟩ | ⟨xs, hq, q⟩
    · obtain ⟨its, rv, p', hz⟩ := I1.list hq
      refine call_enumerate_list p'.isList fun h' he hit hsz hk => wpAny_pyIter_enum he ?_
      have I2 : Inv X pins σ H1 { s1 with heap := h' } := I1.kept (t' := s1.toks) hk
      exact ⟨s1.heap.objs.size + 1, [s1.heap.objs.size + 1, s1.heap.objs.size], _, _, H1, rfl, I2, turn_enum a (s1.heap.objs.size + 1) s1.heap.objs.size, ⟨⟨.none, he⟩, hit, Nat.succ_ne_self _⟩, fp, q⟩
    · obtain ⟨its, rv, p', hz⟩ := I1.tuple hq
      refine call_enum1 (items := its.toArray) p' fun h' he hit hsz hk => wpAny_pyIter_enum he ?_
      have I2 : Inv X pins σ H1 { s1 with heap := h' } := I1.kept (t' := s1.toks) hk
      exact ⟨s1.heap.objs.size + 1, [s1.heap.objs.size + 1, s1.heap.objs.size], _, _, H1, rfl, I2, turn_enumT a (s1.heap.objs.size + 1) s1.heap.objs.size, ⟨⟨.none, he⟩, hit, Nat.succ_ne_self _⟩, fp, q⟩
end Mn

namespace Mn
open PySem PySem.Spec PyProof.Rows L2

/-! ## what a for walks -/
structure Goes (K : PySem.W.Frag) (F : Hp) (J : It) (ds : List D) : Prop where
  go : ∀ i H, Sub F H → i < ds.length → J.go i H
  stop : ∀ H, Sub F H → J.stop ds.length H
  yld : ∀ i H x H' d, Sub F H → ds[i]? = some d → J.yld i H x H' → (H' = H ∧ R F x d) ∨ ∃ T vs es, x = .ref T ∧ H T = none ∧ H' = upd H T (.tup vs) ∧ d = .tuple es ∧ RL F vs es
section
variable {K : PySem.W.Frag} {F : Hp}
theorem SqL.here {H : Hp} {a : Addr} {vs : List V} (h : H a = some (.lst vs)) : SqL K H a vs := .inl (.inl h)
theorem SqT.here {H : Hp} {a : Addr} {vs : List V} (h : H a = some (.tup vs)) : SqT K H a vs := .inl (.inl h)
theorem goes_list {a : Addr} {vs : List V} {ds : List D} (e : F a = some (.lst vs)) (r : RL F vs ds) : Goes K F (Itl K a) ds where
  go := fun i H s hi => by
    obtain ⟨v, hv, _⟩ := r.get (List.getElem?_eq_getElem hi)
    exact ⟨vs, v, SqL.here (s _ _ e), hv⟩
  stop := fun H s => ⟨vs, SqL.here (s _ _ e), by rw [r.length]; exact Nat.le_refl _⟩
  yld := fun i H x H' d s hd y => by
    obtain ⟨v, hv, rv⟩ := r.get hd
    have := y.2 vs (SqL.here (s _ _ e))
    rw [hv] at this; cases this
    exact .inl ⟨y.1, rv⟩
theorem goes_tup {a : Addr} {vs : List V} {ds : List D} (e : F a = some (.tup vs)) (r : RL F vs ds) : Goes K F (Itt K a) ds where
  go := fun i H s hi => by
    obtain ⟨v, hv, _⟩ := r.get (List.getElem?_eq_getElem hi)
    exact ⟨vs, v, SqT.here (s _ _ e), hv⟩
  stop := fun H s => ⟨vs, SqT.here (s _ _ e), by rw [r.length]; exact Nat.le_refl _⟩
  yld := fun i H x H' d s hd y => by
    obtain ⟨v, hv, rv⟩ := r.get hd
    have := y.2 vs (SqT.here (s _ _ e))
    rw [hv] at this; cases this
    exact .inl ⟨y.1, rv⟩
theorem goes_str {x : Str} (o : PyData.strOk x = true) : Goes K F (Its x) (signs x) where
  go := fun i H s hi => by
    have : i < x.cps.toList.length := by simpa [signs] using hi
    show i < x.cps.size
    simpa using this
  stop := fun H s => by
    show x.cps.size ≤ (signs x).length
    simp [signs]
  yld := fun i H v H' d s hd y => by
    obtain ⟨h1, c, hc, rfl⟩ := y
    refine .inl ⟨h1, ?_⟩
    unfold signs at hd
    rw [List.getElem?_map, Array.getElem?_toList, hc] at hd
    cases hd
    refine .str _ (strOk_sub (l := [c]) o fun d hd => ?_) (by show 1 ≤ _; decide)
    rw [List.mem_singleton] at hd
    subst hd
    exact List.mem_of_getElem? (by rw [Array.getElem?_toList]; exact hc)
theorem goes_rng {lo : Int} {n : Nat} : Goes K F (Itr lo n) ((List.range n).map fun i => .int (lo + (i : Nat))) where
  go := fun i H s hi => by show i < n; simpa using hi
  stop := fun H s => by show n ≤ _; simp
  yld := fun i H v H' d s hd y => by
    obtain ⟨h1, rfl⟩ := y
    refine .inl ⟨h1, ?_⟩
    rw [List.getElem?_map] at hd
    cases e : (List.range n)[i]? with
    | none => rw [e] at hd; cases hd
    | some j =>
      rw [e] at hd
      cases hd
      obtain ⟨hi, e⟩ := List.getElem?_eq_some_iff.mp e
      rw [List.getElem_range] at e
      subst e
      exact .int _
theorem goes_rngC {lo c : Int} {n : Nat} : Goes K F (Itc lo c n) ((List.range n).map fun i => .int (lo + (i : Nat) * c)) where
  go := fun i H s hi => by show i < n; simpa using hi
  stop := fun H s => by show n ≤ _; simp
  yld := fun i H v H' d s hd y => by
    obtain ⟨h1, rfl⟩ := y
    refine .inl ⟨h1, ?_⟩
    rw [List.getElem?_map] at hd
    cases e : (List.range n)[i]? with
    | none => rw [e] at hd; cases hd
    | some j =>
      rw [e] at hd
      cases hd
      obtain ⟨hi, e⟩ := List.getElem?_eq_some_iff.mp e
      rw [List.getElem_range] at e
      subst e
      exact .int _
theorem enuD_len (ds : List D) : (enuD ds).length = ds.length := by simp [enuD]
theorem enuD_get {ds : List D} {i : Nat} {d : D} (h : (enuD ds)[i]? = some d) : ∃ e, ds[i]? = some e ∧ d = .tuple [.int (i : Nat), e] := by
  unfold enuD at h
  rw [List.getElem?_map, List.getElem?_zipIdx] at h
  cases e : ds[i]? with
  | none => rw [e] at h; cases h
  | some x =>
    rw [e] at h
    simp at h
    exact ⟨x, rfl, h.symm⟩
theorem goes_enuL {a : Addr} {vs : List V} {ds : List D} (e : F a = some (.lst vs)) (r : RL F vs ds) : Goes K F (Ite K a) (enuD ds) where
  go := fun i H s hi => by
    rw [enuD_len] at hi
    obtain ⟨v, hv, _⟩ := r.get (List.getElem?_eq_getElem hi)
    exact ⟨vs, v, SqL.here (s _ _ e), hv⟩
  stop := fun H s => ⟨vs, SqL.here (s _ _ e), by rw [r.length, enuD_len]; exact Nat.le_refl _⟩
  yld := fun i H x H' d s hd y => by
    obtain ⟨d', hd', rfl⟩ := enuD_get hd
    obtain ⟨v, hv, rv⟩ := r.get hd'
    obtain ⟨T, x', rfl, h1, h2, h3⟩ := y
    have := h3 vs (SqL.here (s _ _ e))
    rw [hv] at this; cases this
    exact .inr ⟨T, _, _, rfl, h1, h2, rfl, .cons (.int _) (.cons rv .nil)⟩
theorem goes_enuT {a : Addr} {vs : List V} {ds : List D} (e : F a = some (.tup vs)) (r : RL F vs ds) : Goes K F (IteT K a) (enuD ds) where
  go := fun i H s hi => by
    rw [enuD_len] at hi
    obtain ⟨v, hv, _⟩ := r.get (List.getElem?_eq_getElem hi)
    exact ⟨vs, v, SqT.here (s _ _ e), hv⟩
  stop := fun H s => ⟨vs, SqT.here (s _ _ e), by rw [r.length, enuD_len]⟩
  yld := fun i H x H' d s hd y => by
    obtain ⟨d', hd', rfl⟩ := enuD_get hd
    obtain ⟨v, hv, rv⟩ := r.get hd'
    obtain ⟨T, x', rfl, h1, h2, h3⟩ := y
    have := h3 vs (SqT.here (s _ _ e))
    rw [hv] at this; cases this
    exact .inr ⟨T, _, _, rfl, h1, h2, rfl, .cons (.int _) (.cons rv .nil)⟩
theorem zipD_get {xs ys : List D} {i : Nat} {d : D} (h : (zipD xs ys)[i]? = some d) : ∃ x y, xs[i]? = some x ∧ ys[i]? = some y ∧ d = .tuple [x, y] := by
  unfold zipD at h
  rw [List.getElem?_map] at h
  cases e : (xs.zip ys)[i]? with
  | none => rw [e] at h; cases h
  | some p =>
    rw [e] at h
    cases h
    obtain ⟨x, y⟩ := p
    obtain ⟨h1, h2⟩ := List.getElem?_zip_eq_some.mp e
    exact ⟨x, y, h1, h2, rfl⟩
theorem goes_zip {a b : Addr} {vs us : List V} {ds es : List D} (e : F a = some (.lst vs)) (r : RL F vs ds) (e2 : F b = some (.lst us)) (r2 : RL F us es) : Goes K F (Itz K a b) (zipD ds es) where
  go := fun i H s hi => by
    have hi1 : i < ds.length := by simp [zipD] at hi; omega
    have hi2 : i < es.length := by simp [zipD] at hi; omega
    obtain ⟨v, hv, _⟩ := r.get (List.getElem?_eq_getElem hi1)
    obtain ⟨u, hu, _⟩ := r2.get (List.getElem?_eq_getElem hi2)
    exact ⟨vs, us, v, u, SqL.here (s _ _ e), SqL.here (s _ _ e2), hv, hu⟩
  stop := fun H s => ⟨vs, us, SqL.here (s _ _ e), SqL.here (s _ _ e2), by
    rw [r.length, r2.length]
    simp [zipD]
    omega⟩
  yld := fun i H x H' d s hd y => by
    obtain ⟨x', y', h1, h2, rfl⟩ := zipD_get hd
    obtain ⟨v, hv, rv⟩ := r.get h1
    obtain ⟨u, hu, ru⟩ := r2.get h2
    obtain ⟨T, x2, y2, rfl, h3, h4, h5, h6⟩ := y
    have := h5 vs (SqL.here (s _ _ e))
    rw [hv] at this; cases this
    have := h6 us (SqL.here (s _ _ e2))
    rw [hu] at this; cases this
    exact .inr ⟨T, _, _, rfl, h3, h4, rfl, .cons rv (.cons ru .nil)⟩
theorem Goes.step {J : It} {ds : List D} {ρ : Env} {σ : L2.St} {F1 H H' : Hp} {i : Nat} {x : V} {d : D} (g : Goes K F J ds) (rel : Rel K ρ σ F1 H) (f : Sub F F1) (hd : ds[i]? = some d) (y : J.yld i H x H') : ∃ F2, Step K ρ σ F1 H ρ F2 H' ∧ R F2 x d := by
  rcases g.yld i H x H' d (f.trans rel.sub) hd y with ⟨rfl, r⟩ | ⟨T, vs, es, rfl, h1, rfl, rfl, r⟩
  · exact ⟨F1, Step.refl rel, r.mono f⟩
  · have st := Step.laidF (o := .tup vs) rel h1
    exact ⟨_, st, .tup upd_same (r.mono (f.trans st.fs))⟩
end
def tI (K : PySem.W.Frag) (f : Env → Option (List D × Env)) : TI := fun σ H Rr => ∃ ρ F r, Rel K ρ σ F H ∧ f ρ = some r ∧ ∀ J F' H', Step K ρ σ F H r.2 F' H' → Goes K F' J r.1 → Rr J H'
theorem _root_.L2.PI.weak {X : Cx} {tg e : Expr} {t t' : TI} (h : PI X tg e t) (w : ∀ σ H Q, t' σ H Q → t σ H Q) : PI X tg e t' := ⟨fun pins s σ H Q I q => h.run pins s σ H Q I (w σ H Q q)⟩
def iSeq (K : PySem.W.Frag) (te : TE) : TI := fun σ H Rr => te σ H fun v H1 => (∃ a xs, v = .ref a ∧ SqL K H1 a xs ∧ Rr (Itl K a) H1) ∨ (∃ a xs, v = .ref a ∧ SqT K H1 a xs ∧ Rr (Itt K a) H1) ∨ (∃ x, v = .str x ∧ Rr (Its x) H1)
theorem pi_seq {X : Cx} {tg e : Expr} {te : TE} (he : PE X e te) : PI X tg e (iSeq X.K te) := by
  refine ⟨fun pins s σ H R I h => ?_⟩
  refine thn (he.run pins s σ H _ I h) fun v s1 ⟨y, H1, I1, r1, q1⟩ => ?_
  rcases q1 with ⟨a, xs, rfl, hq, q⟩ | ⟨a, xs, rfl, hq, q⟩ | ⟨x, rfl, q⟩
  · cases r1
    obtain ⟨its, rv, p, hz⟩ := I1.list hq
    refine wpAny_pyIter_list p.isList ?_
    refine ⟨s1.heap.objs.size, [s1.heap.objs.size], _, _, H1, rfl, I1.kept (t' := s1.toks) fun b o e => Heap.get?_push_of_some _ e, turn_list a _, ⟨_, Heap.get?_push_size _ rfl, rfl, rfl⟩, fun b hb => ?_, q⟩
    have e : b = s1.heap.objs.size := by simpa using hb
    subst e
    exact I1.fpOk (Nat.le_refl _) (I1.hok.fresh (Nat.le_refl _))
  · cases r1
    obtain ⟨its, rv, p, hz⟩ := I1.tuple hq
    refine wpAny_pyIter_tuple (show s1.heap.IsTuple a its.toArray from p) ?_
    refine ⟨s1.heap.objs.size, [s1.heap.objs.size], _, _, H1, rfl, I1.kept (t' := s1.toks) fun b o e => Heap.get?_push_of_some _ e, turn_tuple a _, ⟨_, Heap.get?_push_size _ rfl, rfl, rfl⟩, fun b hb => ?_, q⟩
    have e : b = s1.heap.objs.size := by simpa using hb
    subst e
    exact I1.fpOk (Nat.le_refl _) (I1.hok.fresh (Nat.le_refl _))
  · obtain ⟨t, rfl⟩ := r1
    cases ha : x.cps.all (· < 128)
    · exact wpAny_pyIter_wide ha (pi_one (tk := s1.toks) I1 _ (turn_str _ x t "str_iterator" (.inr rfl)) ⟨_, Heap.get?_push_size _ rfl, rfl, rfl⟩ q)
    · exact wpAny_pyIter_ascii ha (pi_one (tk := s1.toks) I1 _ (turn_str _ x t "str_ascii_iterator" (.inl rfl)) ⟨_, Heap.get?_push_size _ rfl, rfl, rfl⟩ q)
section
variable {G : Cfg} {C : CallF} {n : Nat} {N : List Str} {sc : Scope} {X : Cx} {tg : Expr}
theorem pi_oneS {e1 : Expr} {a : Ex} (ha : SE X C e1 a) : PI X tg e1 (tI X.K (evI C (.one a))) := (pi_seq ha.d).weak fun σ H Q ⟨ρ, F, r, rel, e, q⟩ => by
  rw [evI] at e
  cases e1 : frzV (ev C a ρ) with
  | none => rw [e1] at e; cases e
  | some w =>
    rw [e1] at e
    simp only [Option.bind_some, Option.map_eq_some_iff] at e
    obtain ⟨xs, hx, rfl⟩ := e
    refine ⟨ρ, F, w, rel, e1, fun v F1 H1 st r1 => ?_⟩
    obtain ⟨w1, w2⟩ := w
    simp only at hx r1 st ⊢
    cases w1 with
    | list ds =>
      cases hx
      cases r1 with
      | lst e r => exact .inl ⟨_, _, rfl, SqL.here (st.rel.sub _ _ e), q _ F1 H1 st (goes_list e r)⟩
    | tuple ds =>
      cases hx
      cases r1 with
      | tup e r => exact .inr (.inl ⟨_, _, rfl, SqT.here (st.rel.sub _ _ e), q _ F1 H1 st (goes_tup e r)⟩)
    | str x =>
      cases hx
      cases r1 with
      | str _ o l => exact .inr (.inr ⟨x, rfl, q _ F1 H1 st (goes_str o)⟩)
    | none => cases hx
    | bool _ => cases hx
    | int _ => cases hx
    | dict _ => cases hx
theorem pa_one {e1 : Expr} {a : Ex} (ha : SE X C e1 a) (ns : notStar e1 = true) : PA X [e1] (tCons (tEd X.K fun ρ => frzV (ev C a ρ)) tNil) := pa_cons ha.d pa_nil (star_cons ns)
theorem pi_enuS (g : Gd G C n N sc X) {e1 : Expr} {a : Ex} {elts : List Expr} {kk : Nat} {tpos p pos : Pos} (ha : SE X C e1 a) (ns : notStar e1 = true) (hg : glB sc "enumerate" = true) (hb : Str.ofString "enumerate" ∈ G.bn) :
    PI X (.Tuple elts kk tpos) (.Call (.Name "enumerate" p) [e1] [] pos) (tI X.K (evI C (.enu a))) := (pi_enumT (g.glob hg) (g.bl _ hb) (pa_one ha ns) (star_cons ns)).weak fun σ H Q ⟨ρ, F, r, rel, e, q⟩ => by
  rw [evI] at e
  cases e1 : frzV (ev C a ρ) with
  | none => rw [e1] at e; cases e
  | some w =>
    rw [e1] at e
    simp only [Option.bind_some, Option.map_eq_some_iff] at e
    obtain ⟨xs, hx, rfl⟩ := e
    refine ⟨ρ, F, w, rel, e1, fun v F1 H1 st r1 => ?_⟩
    obtain ⟨w1, w2⟩ := w
    simp only at hx r1 st ⊢
    cases w1 with
    | list ds =>
      cases hx
      cases r1 with
      | lst e r => exact ⟨_, rfl, .inl ⟨_, SqL.here (st.rel.sub _ _ e), q _ F1 H1 st (goes_enuL e r)⟩⟩
    | tuple ds =>
      cases hx
      cases r1 with
      | tup e r => exact ⟨_, rfl, .inr ⟨_, SqT.here (st.rel.sub _ _ e), q _ F1 H1 st (goes_enuT e r)⟩⟩
    | none => cases hx
    | bool _ => cases hx
    | int _ => cases hx
    | dict _ => cases hx
    | str _ => cases hx
theorem pi_zipS (g : Gd G C n N sc X) {e1 e2 : Expr} {a b : Ex} {elts : List Expr} {kk : Nat} {tpos p pos : Pos} (ha : SE X C e1 a) (hb2 : SE X C e2 b) (ns : notStar e1 = true) (ns2 : notStar e2 = true) (hg : glB sc "zip" = true) (hb : Str.ofString "zip" ∈ G.bn) :
    PI X (.Tuple elts kk tpos) (.Call (.Name "zip" p) [e1, e2] [] pos) (tI X.K (evI C (.zip a b))) :=
  (pi_zip (g.glob hg) (g.bl _ hb) (pa_cons ha.d (pa_one hb2 ns2) (star_cons ns)) (star_cons ns) (any_star fun e he => by rw [List.mem_singleton.mp he]; exact ns2)).weak fun σ H Q ⟨ρ, F, r, rel, e, q⟩ => by
  rw [evI] at e
  cases e1 : frzV (ev C a ρ) with
  | none => rw [e1] at e; cases e
  | some w =>
    rw [e1] at e
    simp only [Option.bind_some] at e
    cases e2 : frzV (ev C b w.2) with
    | none => rw [e2] at e; cases e
    | some u =>
      rw [e2] at e
      simp only [Option.bind_some] at e
      split at e
      · rename_i xs ys hx hy
        cases e
        refine ⟨ρ, F, w, rel, e1, fun v F1 H1 st r1 => ⟨w.2, F1, u, st.rel, e2, fun v2 F2 H2 st2 r2 => ?_⟩⟩
        have r1 := r1.mono st2.fs
        rw [hx] at r1
        rw [hy] at r2
        cases r1 with
        | lst e r =>
          cases r2 with
          | lst e' r' => exact ⟨_, _, _, _, rfl, SqL.here (st2.rel.sub _ _ e), SqL.here (st2.rel.sub _ _ e'), q _ F2 H2 (st.trans st2) (goes_zip e r e' r')⟩
      · cases e
theorem rng_eq (lo hi : Int) : rangeI lo hi 1 = (List.range (hi - lo).toNat).map fun i => PyData.int (lo + (i : Nat)) := by
  unfold rangeI
  rw [if_pos (by decide)]
  have : (hi - lo + 1 - 1) / 1 = hi - lo := by omega
  rw [this]
  simp
theorem inR_iff {i : Int} (h : inR i = true) : -(2 ^ 60) < i ∧ i < 2 ^ 60 := by
  unfold inR at h
  simp only [ltI_eq, Bool.and_eq_true, decide_eq_true_eq] at h
  omega
theorem evD_len : ∀ (args : Ex) {k : Nat} {ρ : Env} {w : List D × Env}, evD C args ρ = some w → (match args with
    | .emp => w.1.length = 0
    | .con _ .emp => w.1.length = 1
    | .con _ (.con _ .emp) => w.1.length = 2
    | .con _ (.con _ (.con _ .emp)) => w.1.length = 3
    | _ => True) := fun args k ρ w h => by
  split
  · rw [evD] at h; cases h; rfl
  · rw [evD] at h
    cases e1 : frzV (ev C ‹Ex› ρ) with
    | none => rw [e1] at h; cases h
    | some x =>
      rw [e1, Option.bind_some, evD] at h
      cases h; rfl
  · rename_i a b
    rw [evD] at h
    cases e1 : frzV (ev C a ρ) with
    | none => rw [e1] at h; cases h
    | some x =>
      rw [e1, Option.bind_some, evD] at h
      cases e2 : frzV (ev C b x.2) with
      | none => rw [e2] at h; cases h
      | some y =>
        rw [e2, Option.bind_some, evD] at h
        cases h; rfl
  · rename_i a b c
    rw [evD] at h
    cases e1 : frzV (ev C a ρ) with
    | none => rw [e1] at h; cases h
    | some x =>
      rw [e1, Option.bind_some, evD] at h
      cases e2 : frzV (ev C b x.2) with
      | none => rw [e2] at h; cases h
      | some y =>
        rw [e2, Option.bind_some, evD] at h
        cases e3 : frzV (ev C c y.2) with
        | none => rw [e3] at h; cases h
        | some z =>
          rw [e3, Option.bind_some, evD] at h
          cases h; rfl
  · trivial
theorem pi_rng1S (g : Gd G C n N sc X) {e1 : Expr} {a : Ex} {p pos : Pos} (ha : PA X [e1] (tEs X.K (evD C (.con a .emp)))) (ns : notStar e1 = true) (hg : glB sc "range" = true) (hb : Str.ofString "range" ∈ G.bn) :
    PI X tg (.Call (.Name "range" p) [e1] [] pos) (tI X.K (evI C (.rng (.con a .emp)))) := (pi_range1 (g.glob hg) (g.bl _ hb) ha (star_cons ns)).weak fun σ H Q ⟨ρ, F, r, rel, e, q⟩ => by
  rw [evI] at e
  cases e1 : evD C (.con a .emp) ρ with
  | none => rw [e1] at e; cases e
  | some w =>
    rw [e1] at e
    simp only [Option.bind_some] at e
    have hl : w.1.length = 1 := evD_len (.con a .emp) (k := 0) e1
    simp only [Option.map_eq_some_iff] at e
    obtain ⟨xs, hx, rfl⟩ := e
    refine ⟨ρ, F, w, rel, e1, fun vs F1 H1 st r1 => ?_⟩
    obtain ⟨w1, w2⟩ := w
    simp only at hx hl r1 st ⊢
    unfold rngD at hx
    split at hx
    · split at hx
      · rename_i j hc
        cases hx
        simp only [Bool.and_eq_true, decide_eq_true_eq] at hc
        have := inR_iff hc.1
        cases r1 with
        | cons a b =>
          cases a; cases b
          refine ⟨_, rfl, by omega, by omega, q _ F1 H1 st ?_⟩
          rw [rng_eq]
          rw [Int.sub_zero]
          exact goes_rng
      · cases hx
    · simp at hl
    · simp at hl
    · cases hx
theorem pi_rng2S (g : Gd G C n N sc X) {e1 e2 : Expr} {a b : Ex} {p pos : Pos} (ha : PA X [e1, e2] (tEs X.K (evD C (.con a (.con b .emp))))) (ns : notStar e1 = true) (ns2 : notStar e2 = true) (hg : glB sc "range" = true) (hb : Str.ofString "range" ∈ G.bn) :
    PI X tg (.Call (.Name "range" p) [e1, e2] [] pos) (tI X.K (evI C (.rng (.con a (.con b .emp))))) :=
  (pi_range2 (g.glob hg) (g.bl _ hb) ha (by rw [star_cons ns, star_cons ns2]; rfl) (star_cons ns2)).weak fun σ H Q ⟨ρ, F, r, rel, e, q⟩ => by
  rw [evI] at e
  cases e1 : evD C (.con a (.con b .emp)) ρ with
  | none => rw [e1] at e; cases e
  | some w =>
    rw [e1] at e
    simp only [Option.bind_some] at e
    have hl : w.1.length = 2 := evD_len (.con a (.con b .emp)) (k := 0) e1
    simp only [Option.map_eq_some_iff] at e
    obtain ⟨xs, hx, rfl⟩ := e
    refine ⟨ρ, F, w, rel, e1, fun vs F1 H1 st r1 => ?_⟩
    obtain ⟨w1, w2⟩ := w
    simp only at hx hl r1 st ⊢
    unfold rngD at hx
    split at hx
    · simp at hl
    · split at hx
      · rename_i i j hc
        cases hx
        simp only [Bool.and_eq_true, decide_eq_true_eq] at hc
        have h1 := inR_iff hc.1.1
        have h2 := inR_iff hc.1.2
        cases r1 with
        | cons a b =>
          cases a
          cases b with
          | cons a b =>
            cases a; cases b
            refine ⟨_, _, rfl, ⟨by omega, by omega, by omega, by omega⟩, q _ F1 H1 st ?_⟩
            rw [rng_eq]
            exact goes_rng
      · cases hx
    · simp at hl
    · cases hx
theorem rgC_pos {i j c : Int} (hi : -(2 ^ 60) < i ∧ i < 2 ^ 60) (hj : -(2 ^ 60) < j ∧ j < 2 ^ 60) (hc : 0 < c) (hc2 : c < 16777216) : RgC i j c ((j - i + c - 1) / c).toNat := by
  have hs : Builtin.Range.rangeSize i j c = (((j - i + c - 1) / c).toNat : Int) := by
    unfold Builtin.Range.rangeSize
    rw [if_pos (by omega)]
    split
    · have e : j - i + c - 1 = (j - i - 1) + 1 * c := by omega
      rw [e, Int.add_mul_ediv_right _ _ (by omega)]
      have := Int.ediv_nonneg (a := j - i - 1) (b := c) (by omega) (by omega)
      omega
    · have : (j - i + c - 1) / c ≤ 0 := by
        have h1 : (j - i + c - 1) / c < 1 := by
          rw [Int.ediv_lt_iff_lt_mul hc]
          omega
        omega
      omega
  refine ⟨by omega, by omega, ?_, hs⟩
  have hle := rangeSize_toNat_le i j c
  unfold Builtin.Range.small
  rw [hs] at *
  simp only [Builtin.Range.rangeFitsLong, Bool.and_eq_true, Bool.or_eq_true, decide_eq_true_eq, beq_iff_eq]
  rw [if_pos (by omega)]
  simp only [Bool.and_eq_true, decide_eq_true_eq]
  generalize ((j - i + c - 1) / c).toNat = m at *
  omega
theorem pi_rng3S (g : Gd G C n N sc X) {e1 e2 e3 : Expr} {a b c : Ex} {p pos : Pos} (ha : PA X [e1, e2, e3] (tEs X.K (evD C (.con a (.con b (.con c .emp)))))) (ns : notStar e1 = true) (ns2 : notStar e2 = true) (ns3 : notStar e3 = true) (hg : glB sc "range" = true) (hb : Str.ofString "range" ∈ G.bn) :
    PI X tg (.Call (.Name "range" p) [e1, e2, e3] [] pos) (tI X.K (evI C (.rng (.con a (.con b (.con c .emp)))))) :=
  (pi_range3 (g.glob hg) (g.bl _ hb) ha (star_cons ns) (any_star fun e he => by
    rcases List.mem_cons.mp he with z | z
    · rw [z]; exact ns2
    · rw [List.mem_singleton.mp z]; exact ns3)).weak fun σ H Q ⟨ρ, F, r, rel, e, q⟩ => by
  rw [evI] at e
  cases e1 : evD C (.con a (.con b (.con c .emp))) ρ with
  | none => rw [e1] at e; cases e
  | some w =>
    rw [e1] at e
    simp only [Option.bind_some] at e
    have hl : w.1.length = 3 := evD_len (.con a (.con b (.con c .emp))) (k := 0) e1
    simp only [Option.map_eq_some_iff] at e
    obtain ⟨xs, hx, rfl⟩ := e
    refine ⟨ρ, F, w, rel, e1, fun vs F1 H1 st r1 => ?_⟩
    obtain ⟨w1, w2⟩ := w
    simp only at hx hl r1 st ⊢
    unfold rngD at hx
    split at hx
    · simp at hl
    · simp at hl
    · split at hx
      · rename_i i j k hc
        cases hx
        simp only [Bool.and_eq_true, decide_eq_true_eq] at hc
        have h1 := inR_iff hc.1.1.1.1
        have h2 := inR_iff hc.1.1.1.2
        cases r1 with
        | cons a b =>
          cases a
          cases b with
          | cons a b =>
            cases a
            cases b with
            | cons a b =>
              cases a; cases b
              refine ⟨_, _, _, _, rfl, rgC_pos h1 h2 hc.1.2 hc.2, q _ F1 H1 st ?_⟩
              unfold rangeI
              rw [if_pos hc.1.2]
              exact goes_rngC
      · cases hx
    · cases hx
end
end Mn

namespace Mn
open PySem PySem.Spec PyProof.Rows L2

/-! ## statement steps -/
structure SStep (K : PySem.W.Frag) (ρ : Env) (σ : L2.St) (F H : Hp) (ρ' : Env) (σ' : L2.St) (F' H' : Hp) : Prop where
  rel : Rel K ρ' σ' F' H'
  ext : Ext (OwnA ρ σ) F H F' H'
  own : ∀ b, OwnA ρ' σ' b → OwnA ρ σ b ∨ H b = none
  io : ∀ b, IoA ρ' σ' b → IoA ρ σ b
section
variable {K : PySem.W.Frag} {ρ ρ1 ρ2 ρ' : Env} {σ σ1 σ2 : L2.St} {F H F1 H1 F2 H2 F' H' : Hp}
theorem Step.s (a : Step K ρ σ F H ρ1 F1 H1) : SStep K ρ σ F H ρ1 σ F1 H1 := ⟨a.rel, a.ext, fun b h => .inl (a.own b h), a.io⟩
theorem SStep.trans (a : SStep K ρ σ F H ρ1 σ1 F1 H1) (b : SStep K ρ1 σ1 F1 H1 ρ2 σ2 F2 H2) : SStep K ρ σ F H ρ2 σ2 F2 H2 :=
  ⟨b.rel, a.ext.trans b.ext a.own, fun x h => by
    rcases b.own x h with z | z
    · exact a.own x z
    · refine .inr ?_
      cases e : H x with
      | none => rfl
      | some o => exact absurd z (a.ext.th x (by rw [e]; simp)), fun x h => a.io x (b.io x h)⟩
theorem SStep.refl (r : Rel K ρ σ F H) : SStep K ρ σ F H ρ σ F H := (Step.refl r).s
theorem SStep.back (a : SStep K ρ σ F H ρ1 σ1 F1 H1) {p : Addr} (h : H1 p = none) : H p = none := by
  cases e : H p with
  | none => rfl
  | some o => exact absurd h (a.ext.th p (by rw [e]; simp))
theorem at_put2 {ρ : Env} {k i : Nat} {s : Slot} (hk : k < ρ.length) : (ρ.put k s).at i = if i = k then some s else ρ.at i := at_put hk
/-- a slot gets a new value -/
theorem Rel.store (r : Rel K ρ σ F H) {i : Nat} {v : V} {s : Slot} (ok : SlotOk K F H v s) (hi : i < ρ.length) (hio : s.isIo = false) (hm : ∀ p, s.isMut = true → v = .ref p → ¬ OwnA ρ σ p) :
    Rel K (ρ.put i s) (σ.set i (some v)) F H ∧ (∀ b, OwnA (ρ.put i s) (σ.set i (some v)) b → OwnA ρ σ b ∨ (s.isMut = true ∧ v = .ref b)) ∧ ∀ b, IoA (ρ.put i s) (σ.set i (some v)) b → IoA ρ σ b := by
  have hs : i < σ.length := by rw [← r.len]; exact hi
  have get : ∀ j u, (ρ.put i s).at j = some u → (j = i ∧ u = s ∧ (σ.set i (some v))[j]? = some (some v)) ∨ (j ≠ i ∧ ρ.at j = some u ∧ (σ.set i (some v))[j]? = σ[j]?) := fun j u h => by
    rw [at_put hi] at h
    by_cases c : j = i
    · subst c
      rw [if_pos rfl] at h
      cases h
      exact .inl ⟨rfl, rfl, List.getElem?_set_self hs⟩
    · rw [if_neg c] at h
      exact .inr ⟨c, h, List.getElem?_set_ne (Ne.symm c)⟩
  refine ⟨⟨by rw [put_len, List.length_set]; exact r.len, r.sub, fun j u h => ?_, fun j l u w b h3 h4 h5 h6 h7 h8 => ?_⟩, fun b ⟨j, u, h1, h2, h3⟩ => ?_, fun b ⟨j, u, h1, h2, h3⟩ => ?_⟩
  · rcases get j u h with ⟨rfl, rfl, e⟩ | ⟨c, h1, e⟩
    · exact ⟨v, e, ok⟩
    · rw [e]; exact r.ok j u h1
  · rcases get j u h3 with ⟨rfl, rfl, e⟩ | ⟨c, g3, e⟩
    · rcases get l w h4 with ⟨rfl, rfl, e2⟩ | ⟨c2, g4, e2⟩
      · rfl
      · rw [e] at h7
        have h7 := Option.some.inj (Option.some.inj h7)
        rw [e2] at h8
        exact absurd ⟨l, w, g4, h6, h8⟩ (hm b h5 h7)
    · rw [e] at h7
      rcases get l w h4 with ⟨rfl, rfl, e2⟩ | ⟨c2, g4, e2⟩
      · rw [e2] at h8
        have h8 := Option.some.inj (Option.some.inj h8)
        exact absurd ⟨j, u, g3, h5, h7⟩ (hm b h6 h8)
      · rw [e2] at h8
        exact r.dis j l u w b g3 g4 h5 h6 h7 h8
  · rcases get j u h1 with ⟨rfl, rfl, e⟩ | ⟨c, h1, e⟩
    · rw [e] at h3
      exact .inr ⟨h2, Option.some.inj (Option.some.inj h3)⟩
    · rw [e] at h3; exact .inl ⟨j, u, h1, h2, h3⟩
  · rcases get j u h1 with ⟨rfl, rfl, e⟩ | ⟨c, h1, e⟩
    · rw [hio] at h2; cases h2
    · rw [e] at h3; exact ⟨j, u, h1, h2, h3⟩
theorem VOk.slot {v : V} {x : Val} (h : VOk H F' H' v x) : SlotOk K F' H' v x.slot := by
  cases x with
  | d _ => exact h
  | own _ => obtain ⟨p, h1, h2, h3, h4⟩ := h; exact ⟨p, h1, h2, h4⟩
  | dct _ => obtain ⟨p, h1, h2, h3, h4⟩ := h; exact ⟨p, h1, h2, h4⟩
  | dtt _ => obtain ⟨p, h1, h2, h3, h4⟩ := h; exact ⟨p, h1, h2, h4⟩
theorem VOk.fresh {v : V} {x : Val} {p : Addr} (h : VOk H F' H' v x) (m : x.slot.isMut = true) (e : v = .ref p) : H p = none := by
  cases x with
  | d _ => cases m
  | own _ => obtain ⟨p, h1, h2, h3, h4⟩ := h; rw [h1] at e; cases e; exact h3
  | dct _ => obtain ⟨p, h1, h2, h3, h4⟩ := h; rw [h1] at e; cases e; exact h3
  | dtt _ => obtain ⟨p, h1, h2, h3, h4⟩ := h; rw [h1] at e; cases e; exact h3
theorem Val.slot_io (x : Val) : x.slot.isIo = false := by cases x <;> rfl
theorem SStep.put (st : SStep K ρ σ F H ρ1 σ1 F1 H1) {v : V} {x : Val} {i : Nat} (r0 : Rel K ρ σ F H) (ok : VOk H F1 H1 v x) (nw : ∀ p, x.slot.isMut = true → v = .ref p → ¬ OwnA ρ1 σ1 p) (hi : i < ρ1.length) : SStep K ρ σ F H (ρ1.put i x.slot) (σ1.set i (some v)) F1 H1 := by
  obtain ⟨h1, h2, h3⟩ := st.rel.store (v := v) (VOk.slot ok) hi (Val.slot_io x) nw
  refine ⟨h1, st.ext, fun b hb => ?_, fun b hb => st.io b (h3 b hb)⟩
  rcases h2 b hb with z | ⟨z, z2⟩
  · exact st.own b z
  · exact .inr (ok.fresh z z2)
theorem Step.put (st : Step K ρ σ F H ρ1 F1 H1) {v : V} {x : Val} {i : Nat} (r0 : Rel K ρ σ F H) (ok : VOk H F1 H1 v x) (hi : i < ρ1.length) : SStep K ρ σ F H (ρ1.put i x.slot) (σ.set i (some v)) F1 H1 :=
  st.s.put r0 ok (fun p m e z => by
    obtain ⟨o, h, _⟩ := r0.own_at (st.own p z)
    rw [ok.fresh m e] at h; cases h) hi

/-! ## forgotten slots -/
theorem wipe_get : ∀ (vs : List Nat) (j : Nat), (wipe σ vs)[j]? = if j ∈ vs then (σ[j]?).map (fun _ => none) else σ[j]?
  | [], j => by simp [wipe]
  | v :: vs, j => by
    unfold wipe
    by_cases c : v = j
    · subst c
      rw [if_pos List.mem_cons_self]
      by_cases hv : v < (wipe σ vs).length
      · rw [List.getElem?_set_self hv]
        rw [wipe_length] at hv
        rw [List.getElem?_eq_getElem hv]; rfl
      · rw [List.getElem?_eq_none (by rw [List.length_set]; omega)]
        rw [wipe_length] at hv
        rw [List.getElem?_eq_none (by omega)]; rfl
    · rw [List.getElem?_set_ne c, wipe_get vs j]
      have : j ∈ v :: vs ↔ j ∈ vs := by simp [Ne.symm c]
      simp only [this]
theorem wipeE_at : ∀ (vs : List Nat) (j : Nat), (wipeE ρ vs).at j = if j ∈ vs then none else ρ.at j
  | [], j => by simp [wipeE]
  | v :: vs, j => by
    have ih := wipeE_at vs j
    unfold wipeE
    by_cases c : v = j
    · subst c
      rw [if_pos List.mem_cons_self]
      unfold Env.at
      by_cases hv : v < (wipeE ρ vs).length
      · rw [List.getElem?_set_self hv]; rfl
      · rw [List.getElem?_eq_none (by rw [List.length_set]; omega)]; rfl
    · have : j ∈ v :: vs ↔ j ∈ vs := by simp [Ne.symm c]
      simp only [this]
      rw [← ih]
      unfold Env.at
      rw [List.getElem?_set_ne c]
theorem wipeE_len : ∀ (vs : List Nat), (wipeE ρ vs).length = ρ.length
  | [] => rfl
  | v :: vs => by unfold wipeE; rw [List.length_set, wipeE_len vs]
theorem restE_len : ∀ (vs : List Nat), (restE ρ1 ρ vs).length = ρ.length
  | [] => rfl
  | v :: vs => by unfold restE; rw [List.length_set, restE_len vs]
theorem restE_at (hl : ρ1.length = ρ.length) : ∀ (vs : List Nat) (j : Nat), (restE ρ1 ρ vs).at j = if j ∈ vs then ρ1.at j else ρ.at j
  | [], j => by simp [restE]
  | v :: vs, j => by
    have ih := restE_at hl vs j
    unfold restE
    by_cases c : v = j
    · subst c
      rw [if_pos List.mem_cons_self]
      unfold Env.at
      by_cases hv : v < (restE ρ1 ρ vs).length
      · rw [List.getElem?_set_self hv]; rfl
      · rw [List.getElem?_eq_none (by rw [List.length_set]; omega)]
        rw [restE_len] at hv
        rw [List.getElem?_eq_none (by omega)]
    · have : j ∈ v :: vs ↔ j ∈ vs := by simp [Ne.symm c]
      simp only [this]
      rw [← ih]
      unfold Env.at
      rw [List.getElem?_set_ne c]
theorem wipe_set {vs : List Nat} {i : Nat} {x : Option V} (h : i ∈ vs) : wipe (σ.set i x) vs = wipe σ vs := by
  refine List.ext_getElem? fun j => ?_
  rw [wipe_get, wipe_get]
  by_cases c : i = j
  · subst c
    rw [if_pos h, if_pos h]
    by_cases hl : i < σ.length
    · rw [List.getElem?_set_self hl, List.getElem?_eq_getElem hl]; rfl
    · rw [List.getElem?_eq_none (by rw [List.length_set]; omega), List.getElem?_eq_none (by omega)]
  · rw [List.getElem?_set_ne c]
theorem own_wipe {vs : List Nat} {b : Addr} (h : OwnA (wipeE ρ vs) (wipe σ vs) b) : OwnA ρ σ b := by
  obtain ⟨i, s, h1, h2, h3⟩ := h
  rw [wipeE_at] at h1
  rw [wipe_get] at h3
  by_cases c : i ∈ vs
  · rw [if_pos c] at h1; cases h1
  · rw [if_neg c] at h1 h3; exact ⟨i, s, h1, h2, h3⟩
theorem io_wipe {vs : List Nat} {b : Addr} (h : IoA (wipeE ρ vs) (wipe σ vs) b) : IoA ρ σ b := by
  obtain ⟨i, s, h1, h2, h3⟩ := h
  rw [wipeE_at] at h1
  rw [wipe_get] at h3
  by_cases c : i ∈ vs
  · rw [if_pos c] at h1; cases h1
  · rw [if_neg c] at h1 h3; exact ⟨i, s, h1, h2, h3⟩
theorem Rel.wiped (r : Rel K ρ σ F H) (vs : List Nat) : Rel K (wipeE ρ vs) (wipe σ vs) F H := by
  have get : ∀ i s, (wipeE ρ vs).at i = some s → ρ.at i = some s ∧ (wipe σ vs)[i]? = σ[i]? := fun i s h => by
    rw [wipeE_at] at h
    by_cases c : i ∈ vs
    · rw [if_pos c] at h; cases h
    · rw [if_neg c] at h
      exact ⟨h, by rw [wipe_get, if_neg c]⟩
  refine ⟨by rw [wipeE_len, wipe_length]; exact r.len, r.sub, fun i s h => ?_, fun i j s t b h3 h4 h5 h6 h7 h8 => ?_⟩
  · obtain ⟨h1, e⟩ := get i s h
    rw [e]; exact r.ok i s h1
  · obtain ⟨h3, e⟩ := get i s h3
    obtain ⟨h4, e2⟩ := get j t h4
    rw [e] at h7
    rw [e2] at h8
    exact r.dis i j s t b h3 h4 h5 h6 h7 h8
/-- the slots come back -/
theorem Step.rest {vs : List Nat} (r : Rel K ρ σ F H) (st : Step K (wipeE ρ vs) (wipe σ vs) F H ρ1 F1 H1) : Step K ρ σ F H (restE ρ ρ1 vs) F1 H1 := by
  have hl : ρ.length = ρ1.length := by rw [r.len, ← wipe_length σ vs, ← st.rel.len]
  have get : ∀ i s, (restE ρ ρ1 vs).at i = some s → (i ∈ vs ∧ ρ.at i = some s) ∨ (i ∉ vs ∧ ρ1.at i = some s ∧ (wipe σ vs)[i]? = σ[i]?) := fun i s h => by
    rw [restE_at hl] at h
    by_cases c : i ∈ vs
    · rw [if_pos c] at h; exact .inl ⟨c, h⟩
    · rw [if_neg c] at h; exact .inr ⟨c, h, by rw [wipe_get, if_neg c]⟩
  -- what a forgotten slot held is nobody's in the block
  have nob : ∀ i s b, i ∈ vs → ρ.at i = some s → s.isMut = true → σ[i]? = some (some (.ref b)) → ¬ OwnA (wipeE ρ vs) (wipe σ vs) b := fun i s b hi h1 h2 h3 ⟨j, t, h4, h5, h6⟩ => by
    rw [wipeE_at] at h4
    rw [wipe_get] at h6
    by_cases c : j ∈ vs
    · rw [if_pos c] at h4; cases h4
    · rw [if_neg c] at h4 h6
      have := r.dis i j s t b h1 h4 h2 h5 h3 h6
      subst this
      exact c hi
  have own : ∀ b, OwnA (restE ρ ρ1 vs) σ b → OwnA ρ σ b := fun b ⟨i, s, h1, h2, h3⟩ => by
    rcases get i s h1 with ⟨c, h1⟩ | ⟨c, h1, e⟩
    · exact ⟨i, s, h1, h2, h3⟩
    · exact own_wipe (st.own b ⟨i, s, h1, h2, by rw [e]; exact h3⟩)
  refine ⟨⟨by rw [restE_len, st.rel.len, wipe_length], st.rel.sub, fun i s h => ?_, fun i j s t b h3 h4 h5 h6 h7 h8 => ?_⟩, st.ext.mono fun b hb => .inl (own_wipe hb), own, fun b ⟨i, s, h1, h2, h3⟩ => ?_⟩
  · rcases get i s h with ⟨c, h1⟩ | ⟨c, h1, e⟩
    · obtain ⟨v, hv, ok⟩ := r.ok i s h1
      refine ⟨v, hv, ?_⟩
      cases hm : s.isMut with
      | true =>
        obtain ⟨p, rfl, f, m⟩ := ok.mut hm
        have nb := nob i s p c h1 hm hv
        obtain ⟨o, ho⟩ := m.here
        have h2 := st.ext.hs p o ho nb
        refine .ofMut hm ?_ (m.mono st.ext.fs (by rw [h2, ho]))
        cases q : F1 p with
        | none => rfl
        | some u =>
          rcases st.ext.nf p (by rw [q]; simp) with z | z | z | ⟨xs, z⟩
          · exact absurd f z
          · rw [ho] at z; cases z
          · exact absurd z nb
          · exact absurd z (m.nt xs)
      | false => exact ok.fix hm st.ext.fs
    · rw [← e]; exact st.rel.ok i s h1
  · rcases get i s h3 with ⟨c, h3⟩ | ⟨c, h3, e⟩
    · rcases get j t h4 with ⟨c2, h4⟩ | ⟨c2, h4, e2⟩
      · exact r.dis i j s t b h3 h4 h5 h6 h7 h8
      · exact absurd (st.own b ⟨j, t, h4, h6, by rw [e2]; exact h8⟩) (nob i s b c h3 h5 h7)
    · rcases get j t h4 with ⟨c2, h4⟩ | ⟨c2, h4, e2⟩
      · exact absurd (st.own b ⟨i, s, h3, h5, by rw [e]; exact h7⟩) (nob j t b c2 h4 h6 h8)
      · exact st.rel.dis i j s t b h3 h4 h5 h6 (by rw [e]; exact h7) (by rw [e2]; exact h8)
  · rcases get i s h1 with ⟨c, h1⟩ | ⟨c, h1, e⟩
    · exact ⟨i, s, h1, h2, h3⟩
    · exact io_wipe (st.io b ⟨i, s, h1, h2, by rw [e]; exact h3⟩)
end

/-! ## targets -/
mutual
def tgIn (vs : List Nat) : Tg → Prop
  | .nm i => i ∈ vs
  | .nil => True
  | .cons a b => tgIn vs a ∧ tgIn vs b
end
def tG (K : PySem.W.Frag) (tg : Tg) : TG := fun v σ H Q => ∃ ρ F x ρ1, Rel K ρ σ F H ∧ R F v x ∧ bindT tg x ρ = some ρ1 ∧ ∀ σ', SStep K ρ σ F H ρ1 σ' F H → (∀ vs, tgIn vs tg → wipe σ' vs = wipe σ vs) → Q σ' H
def tGL (K : PySem.W.Frag) (tg : Tg) : TGs := fun us σ H Q => ∃ ρ F xs ρ1, Rel K ρ σ F H ∧ RL F us xs ∧ bindL tg xs ρ = some ρ1 ∧ ∀ σ', SStep K ρ σ F H ρ1 σ' F H → (∀ vs, tgIn vs tg → wipe σ' vs = wipe σ vs) → Q σ' H
theorem _root_.L2.PG.weak {X : Cx} {e : Expr} {t t' : TG} (h : PG X e t) (w : ∀ v σ H Q, t' v σ H Q → t v σ H Q) : PG X e t' := ⟨fun pins s σ H v u Q I r q => h.run pins s σ H v u Q I r (w v σ H Q q)⟩
theorem _root_.L2.PGs.weak {X : Cx} {e : List Expr} {t t' : TGs} (h : PGs X e t) (w : ∀ v σ H Q, t' v σ H Q → t v σ H Q) : PGs X e t' := ⟨fun pins s σ H v u Q I r q => h.run pins s σ H v u Q I r (w v σ H Q q)⟩
section
variable {G : Cfg} {C : CallF} {n : Nat} {N : List Str} {sc : Scope} {X : Cx}
theorem Gd.nN (g : Gd G C n N sc X) : X.N.Nodup := by rw [g.xn]; exact g.nd
theorem pg_nm (g : Gd G C n N sc X) {i : Nat} {x : Str} {pos : Pos} (hN : N[i]? = some x) (hl : locB sc x = true) : PG X (.Name x pos) (tG X.K (.nm i)) :=
  (pg_name g.nN (by rw [g.xn]; exact hN) (g.loc hl).1 (g.loc hl).2).weak fun v σ H Q ⟨ρ, F, d, ρ1, rel, r, e, q⟩ => by
    rw [bindT] at e
    split at e
    · rename_i hi
      cases e
      exact q _ ((Step.refl rel).put (x := .d d) rel r hi) fun vs hv => wipe_set hv
    · cases e
theorem pgs_nilS : PGs X [] (tGL X.K .nil) := pgs_nil.weak fun us σ H Q ⟨ρ, F, xs, ρ1, rel, r, e, q⟩ => by
  cases xs with
  | nil =>
    cases r
    rw [bindL] at e
    cases e
    exact ⟨rfl, q σ (SStep.refl rel) fun _ _ => rfl⟩
  | cons _ _ => simp [bindL] at e
/-- a target that is stored to as it stands -/
def tgE : Expr → Bool
  | .Name _ _ => true
  | .Tuple _ _ _ => true
  | _ => false
theorem asg_cons {e : Expr} {es : List Expr} {env : PySem.Env} (h : tgE e = true) : assignEach (e :: es) env = (false, assign e env) :: assignEach es env := by
  cases e <;> first | rfl | cases h
theorem pgs_consS {e : Expr} {es : List Expr} {a b : Tg} (ha : PG X e (tG X.K a)) (hb : PGs X es (tGL X.K b)) (ht : tgE e = true) : PGs X (e :: es) (tGL X.K (.cons a b)) :=
  (pgs_cons ha hb (by rw [asg_cons ht]; rfl)).weak fun us σ H Q ⟨ρ, F, xs, ρ1, rel, r, e, q⟩ => by
    cases r with
    | nil => simp [bindL] at e
    | cons r1 rr =>
      rw [bindL] at e
      simp only [Option.bind_eq_some_iff] at e
      obtain ⟨ρ2, e1, e2⟩ := e
      exact ⟨_, _, rfl, ρ, F, _, ρ2, rel, r1, e1, fun σ1 st1 w1 => ⟨ρ2, F, _, ρ1, st1.rel, rr, e2, fun σ2 st2 w2 => q σ2 (st1.trans st2) fun vs hv => (w2 vs hv.2).trans (w1 vs hv.1)⟩⟩
theorem asg_len : ∀ {es : List Expr} {env : PySem.Env}, (∀ e ∈ es, tgE e = true) → (assignEach es env).length = es.length ∧ (assignEach es env).findIdx? (·.1) = none
  | [], _, _ => ⟨rfl, rfl⟩
  | e :: es, env, h => by
    obtain ⟨h1, h2⟩ := asg_len (env := env) fun x hx => h x (List.mem_cons_of_mem _ hx)
    rw [asg_cons (h e List.mem_cons_self)]
    refine ⟨by simp [h1], ?_⟩
    rw [List.findIdx?_cons]
    simp [h2]
theorem bindL_len : ∀ {tg : Tg} {xs : List D} {ρ ρ1 : Env}, bindL tg xs ρ = some ρ1 → ∀ m, (match tg with | .nil => 0 | _ => m) = m → True := fun _ _ _ => trivial
def tgLen : Tg → Nat
  | .cons _ b => tgLen b + 1
  | _ => 0
theorem bindL_length : ∀ {tg : Tg} {xs : List D} {ρ ρ1 : Env}, bindL tg xs ρ = some ρ1 → xs.length = tgLen tg
  | .nil, [], _, _, _ => rfl
  | .cons a b, x :: xs, ρ, ρ1, h => by
    rw [bindL] at h
    simp only [Option.bind_eq_some_iff] at h
    obtain ⟨ρ2, _, e2⟩ := h
    show xs.length + 1 = tgLen b + 1
    rw [bindL_length e2]
  | .nil, _ :: _, _, _, h => by simp [bindL] at h
  | .cons _ _, [], _, _, h => by simp [bindL] at h
  | .nm _, _, _, _, h => by simp [bindL] at h
theorem pg_tupS (g : Gd G C n N sc X) {es : List Expr} {k : Nat} {pos : Pos} {tg : Tg} (h : PGs X es (tGL X.K tg)) (ht : ∀ e ∈ es, tgE e = true) (hl : es.length = tgLen tg) (hn : (match tg with | .nm _ => false | _ => true) = true) : PG X (.Tuple es k pos) (tG X.K tg) :=
  (pg_tup (n := es.length) g.calm h (asg_len ht).1 (asg_len ht).2).weak fun v σ H Q ⟨ρ, F, x, ρ1, rel, r, e, q⟩ => by
    have key : ∃ xs, x = .tuple xs ∧ bindL tg xs ρ = some ρ1 := by
      cases tg with
      | nm _ => cases hn
      | nil =>
        cases x with
        | tuple xs =>
          cases xs with
          | nil => rw [bindT] at e; exact ⟨[], rfl, by rw [bindL]; exact e⟩
          | cons _ _ => simp [bindT] at e
        | none => simp [bindT] at e
        | bool _ => simp [bindT] at e
        | int _ => simp [bindT] at e
        | str _ => simp [bindT] at e
        | list _ => simp [bindT] at e
        | dict _ => simp [bindT] at e
      | cons a b =>
        cases x with
        | tuple xs =>
          cases xs with
          | nil => simp [bindT] at e
          | cons y ys => rw [bindT] at e; exact ⟨_, rfl, by rw [bindL]; exact e⟩
        | none => simp [bindT] at e
        | bool _ => simp [bindT] at e
        | int _ => simp [bindT] at e
        | str _ => simp [bindT] at e
        | list _ => simp [bindT] at e
        | dict _ => simp [bindT] at e
    obtain ⟨xs, rfl, eb⟩ := key
    cases r with
    | tup e2 r =>
      refine ⟨_, _, rfl, SqT.here (rel.sub _ _ e2), ?_, ρ, F, xs, ρ1, rel, r, eb, q⟩
      rw [r.length, bindL_length eb, hl]

/-! ## a comprehension's block -/
theorem lookup_map_some {f : NameKind → Str → NameKind} : ∀ {names : List (Str × NameKind)} {x : Str} {k : NameKind}, names.lookup x = some k → ∃ k', (names.map fun (n, k) => (n, f k n)).lookup x = some k'
  | [], _, _, h => by simp at h
  | (m, k0) :: r, x, k, h => by
    show ∃ k', List.lookup x ((m, f k0 m) :: _) = some k'
    cases hx : x == m with
    | true => simp only [List.lookup_cons, hx]; exact ⟨_, rfl⟩
    | false => simp only [List.lookup_cons, hx] at h ⊢; exact lookup_map_some h
theorem relS_keys {scope sc : Scope} {x : Str} {k : NameKind} (h : scope.names.lookup x = some k) : ∃ k', (relS scope sc).names.lookup x = some k' := by
  have e : (relS scope sc).names = scope.names.map fun (n, k) => (n, if (k == .free && sc.kind == .function && sc.names.lookup n == some .cell) = true then .cell else k) := by
    unfold relS
    simp only
    refine List.map_congr_left fun p _ => ?_
    obtain ⟨a, b⟩ := p
    simp only
    split <;> rfl
  rw [e]
  exact lookup_map_some (f := fun k n => if (k == .free && sc.kind == .function && sc.names.lookup n == some .cell) = true then .cell else k) h
theorem relS_sco {scope sc : Scope} {x : Str} {k : NameKind} (h : scope.names.lookup x = some k) : (relS scope sc).names.lookup x = some k ∨ (k = .free ∧ (relS scope sc).names.lookup x = some .cell) := by
  obtain ⟨k', e⟩ := relS_keys (sc := sc) h
  obtain ⟨k2, e2, r⟩ := lookup_relS (sc := sc) (names := scope.names) e
  rw [h] at e2; cases e2
  rcases r with rfl | ⟨rfl, rfl⟩
  · exact .inl e
  · exact .inr ⟨rfl, e⟩
theorem Gd.blk (g : Gd G C n N sc X) {scope : Scope} (hk : scope.kind = .function) (s : Shared) (H : Hp) (cell : Addr) (cl : List (Str × Addr)) (fp : List Addr) : Gd G C n N scope (X.blk s H scope (compEnvC scope cl cell X.env) fp) where
  calm := g.calm
  nd := g.nd
  xn := g.xn
  hr := g.hr
  sco := fun x k h => by
    have e : (compEnvC scope cl cell X.env).scope = relS scope X.env.scope := rfl
    show (compEnvC scope cl cell X.env).scope.names.lookup x = some k ∨ _
    rw [e]
    exact relS_sco h
  fnc := fun x h => by
    show (scope.names.lookup x == some .cell) = true
    rw [h]; rfl
  kind := hk
  xe := rfl
  fns := g.fns
  bl := g.bl
  gl := g.gl
theorem Gd.blkOk (g : Gd G C n N sc X) {scope : Scope} {own : List (Str × Nat)} (h : BlkOk N sc scope own) : BlkOk X.N X.env.scope scope own := by
  refine ⟨h.kind, h.uniq, by rw [g.xn]; exact h.ix, fun y hy e => ?_, by rw [g.xn]; exact h.own⟩
  rcases h.free y hy e with z | z
  · rcases g.sco _ _ z with q | ⟨q, _⟩
    · exact .inl q
    · cases q
  · rcases g.sco _ _ z with q | ⟨_, q⟩
    · exact .inr q
    · exact .inl q
theorem pts_empS {X : Cx} : PTs X [] (tEb X.K (evQ C .emp)) := ⟨fun pins s σ H Q I ⟨ρ, F, r, rel, e, q⟩ => pts_nil.run pins s σ H Q I (by
  rw [evQ] at e
  cases e
  exact q F H (Step.refl rel))⟩
theorem pts_oneS {X : Cx} {c : Expr} {a : Ex} (h : PT X c (tEb X.K fun ρ => toB (ev C a ρ))) : PTs X [c] (tEb X.K (evQ C (.one a))) := ⟨fun pins s σ H Q I ⟨ρ, F, r, rel, e, q⟩ => (pts_one h).run pins s σ H Q I (by
  rw [evQ] at e
  exact ⟨ρ, F, r, rel, e, q⟩)⟩
end
end Mn

namespace Mn
open PySem PySem.Spec PyProof.Rows L2
section
variable {K : PySem.W.Frag} {ρ ρ1 ρ2 ρ' : Env} {σ σ1 σ2 : L2.St} {F H F1 H1 F2 H2 F' H' : Hp}
theorem Rel.upd (r : Rel K ρ σ F H) {p : Addr} {o : HO} (f : F p = none) (n : ¬ OwnA ρ σ p) : Rel K ρ σ F (upd H p o) :=
  r.grow (Sub.refl F) (fun b u e => by
    have : b ≠ p := fun z => by subst z; rw [f] at e; cases e
    rw [upd_ne this]; exact r.sub b u e) fun b hb => by
    have : b ≠ p := fun z => n (z ▸ hb)
    obtain ⟨_, _, q⟩ := r.own_at hb
    exact ⟨upd_ne this, q⟩
theorem wipe_wipe {vs : List Nat} : wipe (wipe σ vs) vs = wipe σ vs := by
  refine List.ext_getElem? fun j => ?_
  rw [wipe_get, wipe_get]
  by_cases c : j ∈ vs
  · rw [if_pos c, if_pos c]
    cases σ[j]? <;> rfl
  · rw [if_neg c, if_neg c]
theorem Ext.freeN {W : Addr → Prop} (a : Ext W F H F1 H1) {p : Addr} {o : HO} (h : H p = some o) (hn : ∀ xs, H p ≠ some (.tup xs)) (f : F p = none) (w : ¬ W p) : H1 p = some o ∧ F1 p = none := by
  refine ⟨a.hs p o h w, ?_⟩
  cases q : F1 p with
  | none => rfl
  | some u =>
    rcases a.nf p (by rw [q]; simp) with z | z | z | ⟨xs, z⟩
    · exact absurd f z
    · rw [h] at z; cases z
    · exact absurd z w
    · exact absurd z (hn xs)
theorem Ext.free {W : Addr → Prop} (a : Ext W F H F1 H1) {p : Addr} {vs : List V} (h : H p = some (.lst vs)) (f : F p = none) (w : ¬ W p) : H1 p = some (.lst vs) ∧ F1 p = none :=
  a.freeN h (fun xs z => by rw [h] at z; cases z) f w
end
section
variable {G : Cfg} {C : CallF} {n : Nat} {N : List Str} {sc : Scope} {X : Cx}
theorem lc_run {K : PySem.W.Frag} {ρ1 : Env} {σ : L2.St} {F1 H1 : Hp} {own : List Nat} {tg : Tg} {cond elt : Ex} {ds : List D} {qq : List D × Env} {J : It} {Q : VK} {D0 : Addr}
    (rel1 : Rel K ρ1 σ F1 H1) (go : Goes K F1 J ds) (hlen : ds.length < 16777216) (ht : tgIn own tg) (e : compL own (bindT tg) (evQ C cond) (fun ρ => frzV (ev C elt ρ)) ds [] (wipeE ρ1 own) = some qq)
    (hD : H1 D0 = none) (q : ∀ accV F' H', Step K ρ1 σ F1 H1 (restE ρ1 qq.2 own) F' H' → H' D0 = some (.lst accV) → F' D0 = none → RL F' accV qq.1 → Q (.ref D0) H') :
    ∃ W : Nat → Nat → Hp → Prop, (∃ m, W 0 m (upd H1 D0 (.lst []))) ∧ ∀ i m H, W i m H →
      (J.stop i H ∧ Q (.ref D0) H) ∨ (J.go i H ∧ ∃ Nx : Hp → Prop, (∀ H', Nx H' → ∃ m', m' < m ∧ W (i + 1) m' H') ∧ ∀ x H', J.yld i H x H' → tG K tg x (wipe σ own) H' fun σ2 H2 => wipe σ2 own = wipe σ own ∧ tEb K (evQ C cond) σ2 H2 fun b H3 =>
        if b = true then tEd K (fun ρ => frzV (ev C elt ρ)) σ2 H3 fun y H4 => ∃ acc, H4 D0 = some (.lst acc) ∧ acc.length < sizeLine ∧ Nx (upd H4 D0 (.lst (acc ++ [y]))) else Nx H3) := by
  have rw1 := rel1.wiped own
  have nD : ¬ OwnA (wipeE ρ1 own) (wipe σ own) D0 := rw1.not_own hD
  let W : Nat → Nat → Hp → Prop := fun i m H => m = ds.length - i ∧ i ≤ ds.length ∧ ∃ ρi Fi acc accV, Step K (wipeE ρ1 own) (wipe σ own) F1 H1 ρi Fi H ∧ H D0 = some (.lst accV) ∧ Fi D0 = none ∧ RL Fi accV acc ∧ acc.length ≤ i ∧
    compL own (bindT tg) (evQ C cond) (fun ρ => frzV (ev C elt ρ)) (ds.drop i) acc ρi = some qq
  refine ⟨W, ⟨ds.length, by simp, Nat.zero_le _, _, F1, [], [], Step.laid rw1 hD, upd_same, rw1.sub.none hD, .nil, Nat.le_refl _, by rw [List.drop_zero]; exact e⟩, ?_⟩
  rintro i m H ⟨rfl, hi, ρi, Fi, acc, accV, st, hl, hf, rl, hal, ec⟩
  have nDi : ¬ OwnA ρi (wipe σ own) D0 := fun z => nD (st.own _ z)
  by_cases hlt : i < ds.length
  · refine .inr ⟨go.go i H (st.fs.trans st.rel.sub) hlt, fun H' => W (i + 1) (ds.length - (i + 1)) H', fun H' w => ⟨_, by omega, w⟩, fun x H' y => ?_⟩
    rw [List.drop_eq_getElem_cons hlt, compL] at ec
    simp only [Option.bind_eq_some_iff] at ec
    obtain ⟨ρ2, eb, r3, ec3, ec⟩ := ec
    obtain ⟨F2, st2, rx⟩ := go.step st.rel st.fs (List.getElem?_eq_getElem hlt) y
    refine ⟨ρi, F2, _, ρ2, st2.rel, rx, eb, fun σ' sts wv => ?_⟩
    have wv' : wipe σ' own = wipe σ own := (wv own ht).trans wipe_wipe
    have noNew : ∀ b, OwnA ρ2 σ' b → OwnA ρi (wipe σ own) b := fun b hb => by
      rcases sts.own b hb with z | z
      · exact z
      · obtain ⟨o, h, _⟩ := sts.rel.own_at hb
        rw [z] at h; cases h
    refine ⟨wv', ρ2, F2, r3, sts.rel, ec3, fun F3 H3 st3 => ?_⟩
    have nD2 : ¬ OwnA ρ2 σ' D0 := fun z => nDi (noNew _ z)
    obtain ⟨hl2, hf2⟩ := st2.ext.free hl hf nDi
    obtain ⟨hl3, hf3⟩ := st3.ext.free hl2 hf2 nD2
    cases hb : r3.1 with
    | true =>
      rw [hb] at ec
      simp only [if_true, Option.bind_eq_some_iff] at ec ⊢
      obtain ⟨r4, e4, ec⟩ := ec
      refine ⟨r3.2, F3, r4, st3.rel, e4, fun yv F4 H4 st4 ry => ?_⟩
      have nD3 : ¬ OwnA r3.2 σ' D0 := fun z => nD2 (st3.own _ z)
      obtain ⟨hl4, hf4⟩ := st4.ext.free hl3 hf3 nD3
      have nD4 : ¬ OwnA r4.2 σ' D0 := fun z => nD3 (st4.own _ z)
      refine ⟨accV, hl4, by rw [rl.length]; have := sl24; omega, rfl, hlt, wipeE r4.2 own, F4, acc ++ [r4.1], accV ++ [yv], ?_, upd_same, hf4, ?_, by simp; omega, ec⟩
      · have rw4 : Rel K (wipeE r4.2 own) (wipe σ own) F4 H4 := by rw [← wv']; exact st4.rel.wiped own
        have ow4 : ∀ b, OwnA (wipeE r4.2 own) (wipe σ own) b → OwnA (wipeE ρ1 own) (wipe σ own) b := fun b hb => by
          rw [← wv'] at hb
          exact st.own _ (noNew _ (st3.own _ (st4.own _ (own_wipe hb))))
        have ext : Ext (OwnA (wipeE ρ1 own) (wipe σ own)) F1 H1 F4 H4 :=
          (((st.ext.trans st2.ext fun b hb => .inl (st.own _ hb)).trans st3.ext fun b hb => .inl (st.own _ (noNew _ hb))).trans st4.ext fun b hb => .inl (st.own _ (noNew _ (st3.own _ hb))))
        refine ⟨rw4.upd hf4 fun z => nD (ow4 _ z), ⟨ext.fs, fun b o hb nb => ?_, ext.nf, fun b hb => ?_⟩, ow4, fun b hb => ?_⟩
        · have : b ≠ D0 := fun z => by subst z; rw [hD] at hb; cases hb
          rw [upd_ne this]; exact ext.hs b o hb nb
        · by_cases c : b = D0
          · subst c; rw [upd_same]; simp
          · rw [upd_ne c]; exact ext.th b hb
        · rw [← wv'] at hb
          exact st.io _ (sts.io _ (st3.io _ (st4.io _ (io_wipe hb))))
      · exact ((rl.mono ((st2.fs.trans st3.fs).trans st4.fs))).append (.cons ry .nil)
    | false =>
      rw [hb] at ec
      simp only [Bool.false_eq_true, if_false] at ec ⊢
      refine ⟨rfl, hlt, wipeE r3.2 own, F3, acc, accV, ?_, hl3, hf3, rl.mono (st2.fs.trans st3.fs), by omega, ec⟩
      have rw4 : Rel K (wipeE r3.2 own) (wipe σ own) F3 H3 := by rw [← wv']; exact st3.rel.wiped own
      have ow4 : ∀ b, OwnA (wipeE r3.2 own) (wipe σ own) b → OwnA (wipeE ρ1 own) (wipe σ own) b := fun b hb => by
        rw [← wv'] at hb
        exact st.own _ (noNew _ (st3.own _ (own_wipe hb)))
      refine ⟨rw4, (st.ext.trans st2.ext fun b hb => .inl (st.own _ hb)).trans st3.ext fun b hb => .inl (st.own _ (noNew _ hb)), ow4, fun b hb => ?_⟩
      rw [← wv'] at hb
      exact st.io _ (sts.io _ (st3.io _ (io_wipe hb)))
  · have hie : i = ds.length := by omega
    subst hie
    rw [List.drop_length, compL] at ec
    cases ec
    exact .inl ⟨go.stop H (st.fs.trans st.rel.sub), q accV Fi H (Step.rest rel1 st) hl hf rl⟩
theorem tLc_of {own : List Nat} {tg : Tg} {it cond elt : Ex} (ht : tgIn own tg) : ∀ σ H Q, tEv X.K (ev C (.comp own tg it cond elt)) σ H Q →
    tLc (tI X.K (evI C it)) (tG X.K tg) (tEb X.K (evQ C cond)) (tEd X.K fun ρ => frzV (ev C elt ρ)) own σ H Q := fun σ H Q ⟨ρ, F, r, rel, e, q⟩ => by
  rw [ev] at e
  simp only [Option.bind_eq_some_iff] at e
  obtain ⟨r1, e1, e⟩ := e
  split at e
  · rename_i hlen
    simp only [Option.map_eq_some_iff] at e
    obtain ⟨qq, e2, rfl⟩ := e
    refine ⟨ρ, F, r1, rel, e1, fun J F1 H1 st1 go D0 hD => ?_⟩
    exact lc_run st1.rel go hlen ht e2 hD fun accV F' H' st hl hf rl => q _ F' H' (st1.trans st) ⟨D0, rfl, hf, st1.back hD, accV, hl, rl⟩
  · cases e
def notSet : Expr → Bool
  | .Set _ _ _ => false
  | _ => true
theorem fold_ok {iter : Expr} {env : PySem.Env} (h : notSet iter = true) : ∀ x, foldedSetIterable iter env x = pure x := by
  intro x
  cases iter <;> first | rfl | cases h
theorem se_comp (g : Gd G C n N sc X) {tgx elt iter : Expr} {ifs : List Expr} {scope : Scope} {own : List (Str × Nat)} {pos : Pos} {tg : Tg} {it cond el : Ex} (ht : tgIn (own.map (·.2)) tg) (ok : BlkOk N sc scope own)
    (hi : PI X tgx iter (tI X.K (evI C it))) (hg : ∀ X, Gd G C n N scope X → PG X tgx (tG X.K tg)) (hc : ∀ X, Gd G C n N scope X → PTs X ifs (tEb X.K (evQ C cond))) (he : ∀ X, Gd G C n N scope X → SE X C elt el)
    (hf : notSet iter = true) : SE X C (.ListComp elt [⟨tgx, iter, ifs, 0⟩] scope pos) (.comp (own.map (·.2)) tg it cond el) :=
  .of ((pe_lc (X := X) (own := own) g.calm g.nN hi (g.blkOk ok) (fun s H cell cl fp => hg _ (g.blk ok.kind s H cell cl fp)) (fun s H cell cl fp => hc _ (g.blk ok.kind s H cell cl fp)) (fun s H cell cl fp => (he _ (g.blk ok.kind s H cell cl fp)).d) (fold_ok hf)).weak (tLc_of ht)) rfl
end
end Mn

namespace Mn
open PySem PySem.Spec PyProof.Rows L2

/-! ## statements -/
def VRt (ρ : Env) (σ : L2.St) (H : Hp) (ρ' : Env) (σ' : L2.St) (F' H' : Hp) (w : V) : Val → Prop
  | .d x => R F' w x
  | .own xs => ∃ p, w = .ref p ∧ F' p = none ∧ (H p = none ∨ OwnA ρ σ p) ∧ ¬ IoA ρ' σ' p ∧ MutOk F' H' p (.own xs)
  | .dct xs => ∃ p, w = .ref p ∧ F' p = none ∧ (H p = none ∨ OwnA ρ σ p) ∧ ¬ IoA ρ' σ' p ∧ MutOk F' H' p (.dct xs)
  | .dtt xs => ∃ p, w = .ref p ∧ F' p = none ∧ (H p = none ∨ OwnA ρ σ p) ∧ ¬ IoA ρ' σ' p ∧ MutOk F' H' p (.dtt xs)
def tSt (K : PySem.W.Frag) (f : Env → Option Res) : TS := fun D σ H => ∃ ρ F r, Rel K ρ σ F H ∧ f ρ = some r ∧
  (∀ ρ' σ' F' H', r = .nx ρ' → SStep K ρ σ F H ρ' σ' F' H' → D.nx σ' H') ∧
  (∀ v ρ' w σ' F' H', r = .rt v ρ' → SStep K ρ σ F H ρ' σ' F' H' → VRt ρ σ H ρ' σ' F' H' w v → D.rt w H')
section
variable {K : PySem.W.Frag} {ρ ρ1 ρ2 ρ' : Env} {σ σ1 σ2 σ' : L2.St} {F H F1 H1 F2 H2 F' H' : Hp}
theorem Rel.noIo (r : Rel K ρ σ F H) {p : Addr} (h : H p = none) : ¬ IoA ρ σ p := fun ⟨i, s, h1, h2, h3⟩ => r.not_own h ⟨i, s, h1, (by cases s <;> first | rfl | cases h2), h3⟩
theorem IoA.own {p : Addr} (h : IoA ρ σ p) : OwnA ρ σ p := by
  obtain ⟨i, s, h1, h2, h3⟩ := h
  exact ⟨i, s, h1, (by cases s <;> first | rfl | cases h2), h3⟩
theorem VOk.rt {v : V} {x : Val} (rel : Rel K ρ σ F H) (st : Step K ρ σ F H ρ' F' H') (h : VOk H F' H' v x) : VRt ρ σ H ρ' σ F' H' v x := by
  cases x with
  | d _ => exact h
  | own _ => obtain ⟨p, h1, h2, h3, h4⟩ := h; exact ⟨p, h1, h2, .inl h3, fun z => rel.not_own h3 (st.own _ z.own), h4⟩
  | dct _ => obtain ⟨p, h1, h2, h3, h4⟩ := h; exact ⟨p, h1, h2, .inl h3, fun z => rel.not_own h3 (st.own _ z.own), h4⟩
  | dtt _ => obtain ⟨p, h1, h2, h3, h4⟩ := h; exact ⟨p, h1, h2, .inl h3, fun z => rel.not_own h3 (st.own _ z.own), h4⟩
theorem VRt.trans {v : V} {x : Val} (a : SStep K ρ σ F H ρ1 σ1 F1 H1) (h : VRt ρ1 σ1 H1 ρ' σ' F' H' v x) : VRt ρ σ H ρ' σ' F' H' v x := by
  have key : ∀ p, (H1 p = none ∨ OwnA ρ1 σ1 p) → (H p = none ∨ OwnA ρ σ p) := fun p z => by
    rcases z with z | z
    · exact .inl (a.back z)
    · exact (a.own p z).symm
  cases x with
  | d _ => exact h
  | own _ => obtain ⟨p, h1, h2, h3, h4, h5⟩ := h; exact ⟨p, h1, h2, key p h3, h4, h5⟩
  | dct _ => obtain ⟨p, h1, h2, h3, h4, h5⟩ := h; exact ⟨p, h1, h2, key p h3, h4, h5⟩
  | dtt _ => obtain ⟨p, h1, h2, h3, h4, h5⟩ := h; exact ⟨p, h1, h2, key p h3, h4, h5⟩
/-- a value that waits -/
theorem VOk.keep {v : V} {x : Val} (rel : Rel K ρ σ F H) (a : Step K ρ σ F H ρ1 F1 H1) (h : VOk H F1 H1 v x) (b : Step K ρ1 σ F1 H1 ρ2 F2 H2) : VOk H F2 H2 v x := by
  have key : ∀ p s, F1 p = none → H p = none → MutOk F1 H1 p s → F2 p = none ∧ MutOk F2 H2 p s := fun p s f n m => by
    obtain ⟨o, ho⟩ := m.here
    obtain ⟨h1, h2⟩ := b.ext.freeN ho (m.nt) f fun z => rel.not_own n (a.own _ z)
    exact ⟨h2, m.mono b.fs (by rw [h1, ho])⟩
  cases x with
  | d _ => exact R.mono b.fs h
  | own _ => obtain ⟨p, h1, h2, h3, h4⟩ := h; obtain ⟨q1, q2⟩ := key p _ h2 h3 h4; exact ⟨p, h1, q1, h3, q2⟩
  | dct _ => obtain ⟨p, h1, h2, h3, h4⟩ := h; obtain ⟨q1, q2⟩ := key p _ h2 h3 h4; exact ⟨p, h1, q1, h3, q2⟩
  | dtt _ => obtain ⟨p, h1, h2, h3, h4⟩ := h; obtain ⟨q1, q2⟩ := key p _ h2 h3 h4; exact ⟨p, h1, q1, h3, q2⟩
theorem VOk.laid {v : V} {x : Val} {q : Addr} {o : HO} (h : VOk H F1 H1 v x) (n : H1 q = none) : VOk H F1 (upd H1 q o) v x := by
  have key : ∀ p s, MutOk F1 H1 p s → MutOk F1 (upd H1 q o) p s := fun p s m => by
    obtain ⟨u, hu⟩ := m.here
    exact m.mono (Sub.refl F1) (upd_ne (ne_of_none hu n))
  cases x with
  | d _ => exact h
  | own _ => obtain ⟨p, h1, h2, h3, h4⟩ := h; exact ⟨p, h1, h2, h3, key p _ h4⟩
  | dct _ => obtain ⟨p, h1, h2, h3, h4⟩ := h; exact ⟨p, h1, h2, h3, key p _ h4⟩
  | dtt _ => obtain ⟨p, h1, h2, h3, h4⟩ := h; exact ⟨p, h1, h2, h3, key p _ h4⟩
theorem setV_eq {i : Nat} {v : Val} {ρ ρ1 : Env} (h : setV i v ρ = some ρ1) : i < ρ.length ∧ ρ1 = ρ.put i v.slot := by
  unfold setV at h
  split at h
  · cases h; exact ⟨‹_›, rfl⟩
  · cases h
end
section
variable {G : Cfg} {C : CallF} {n : Nat} {N : List Str} {sc : Scope} {X : Cx}
theorem ss_nil : PSs X [] (tSt X.K (evS C .skip)) := pss_nil.weak fun D σ H ⟨ρ, F, r, rel, e, k1, k2⟩ => by
  rw [evS] at e
  cases e
  exact k1 ρ σ F H rfl (SStep.refl rel)
theorem ss_skip {st : Stmt} (h : PS X st tNext) : PS X st (tSt X.K (evS C .skip)) := h.weak fun D σ H ⟨ρ, F, r, rel, e, k1, k2⟩ => by
  rw [evS] at e
  cases e
  exact k1 ρ σ F H rfl (SStep.refl rel)
theorem seq_run {K : PySem.W.Frag} {a b : Sx} (D : Ends) (σ : L2.St) (H : Hp) (h : tSt K (evS C (.seq a b)) D σ H) : tSeq (tSt K (evS C a)) (tSt K (evS C b)) D σ H := by
  obtain ⟨ρ, F, r, rel, e, k1, k2⟩ := h
  rw [evS] at e
  cases e1 : evS C a ρ with
  | none => rw [e1] at e; cases e
  | some r1 =>
    rw [e1] at e
    cases r1 with
    | nx ρ1 =>
      simp only at e
      exact ⟨ρ, F, _, rel, e1, fun ρ' σ' F' H' z st => by
        cases z
        exact ⟨ρ1, F', r, st.rel, e, fun ρ2 σ2 F2 H2 z2 st2 => k1 ρ2 σ2 F2 H2 z2 (st.trans st2), fun v ρ2 w σ2 F2 H2 z2 st2 ok => k2 v ρ2 w σ2 F2 H2 z2 (st.trans st2) (ok.trans st)⟩, fun v ρ' w σ' F' H' z => (by cases z)⟩
    | rt v ρ1 =>
      simp only at e
      cases e
      exact ⟨ρ, F, _, rel, e1, fun ρ' σ' F' H' z => (by cases z), fun v' ρ' w σ' F' H' z st ok => k2 v' ρ' w σ' F' H' z st ok⟩
theorem ss_cons {st : Stmt} {rest : List Stmt} {a b : Sx} (h1 : PS X st (tSt X.K (evS C a))) (h2 : PSs X rest (tSt X.K (evS C b))) : PSs X (st :: rest) (tSt X.K (evS C (.seq a b))) :=
  (pss_cons h1 h2).weak fun D σ H h => seq_run D σ H h

/-! ### name = e -/
def notComp : Expr → Bool
  | .ListComp _ _ _ _ => false
  | .SetComp _ _ _ _ => false
  | .DictComp _ _ _ _ _ => false
  | _ => true
theorem swaps_no {e : Expr} {t : Option Expr} {l : Nat} {env : PySem.Env} (h : notComp e = true) : swapsWith e t l env = pure false := by
  cases e <;> first | rfl | cases h
theorem set_run {K : PySem.W.Frag} {i : Nat} {a : Ex} (D : Ends) (σ : L2.St) (H : Hp) (h : tSt K (evS C (.set i a)) D σ H) : tAsg (tEv K (ev C a)) (gName i) D σ H := by
  obtain ⟨ρ, F, r, rel, e, k1, k2⟩ := h
  rw [evS] at e
  simp only [Option.bind_eq_some_iff, Option.map_eq_some_iff] at e
  obtain ⟨q, e1, ρ1, e2, rfl⟩ := e
  obtain ⟨hi, rfl⟩ := setV_eq e2
  exact ⟨ρ, F, q, rel, e1, fun v F' H' st ok => k1 _ _ F' H' rfl (st.put rel ok hi)⟩
theorem ss_set (g : Gd G C n N sc X) {i : Nat} {x : Str} {e1 : Expr} {a : Ex} {p pos : Pos} (hN : N[i]? = some x) (hl : locB sc x = true) (ha : SE X C e1 a) (nc : notComp e1 = true) : PS X (.Assign [.Name x p] e1 pos) (tSt X.K (evS C (.set i a))) :=
  (ps_set g.nN (by rw [g.xn]; exact hN) (g.loc hl).1 ha.v (swaps_no nc) (g.loc hl).2).weak set_run
theorem ss_setLc (g : Gd G C n N sc X) (hsc : X.env.scope = sc) {i : Nat} {x : Str} {p spos : Pos} {tgx elt iter : Expr} {ifs : List Expr} {scope : Scope} {own : List (Str × Nat)} {pos : Pos} {tg : Tg} {it cond el : Ex} (hN : N[i]? = some x)
    (hl : sc.names.lookup x = some .local) (hp : p.line = pos.line) (hnx : (scope.names.any fun (n, k) => n == x && (k == .local || k == .cell)) = false) (ht : tgIn (own.map (·.2)) tg) (ok : BlkOk N sc scope own)
    (hi : PI X tgx iter (tI X.K (evI C it))) (hg : ∀ X, Gd G C n N scope X → PG X tgx (tG X.K tg)) (hc : ∀ X, Gd G C n N scope X → PTs X ifs (tEb X.K (evQ C cond))) (he : ∀ X, Gd G C n N scope X → SE X C elt el)
    (hf : notSet iter = true) : PS X (.Assign [.Name x p] (.ListComp elt [⟨tgx, iter, ifs, 0⟩] scope pos) spos) (tSt X.K (evS C (.set i (.comp (own.map (·.2)) tg it cond el)))) := by
  refine (ps_setLc (X := X) (own := own) (wi := tI X.K (evI C it)) (g := tG X.K tg) (tt := tEb X.K (evQ C cond)) (te := tEd X.K fun ρ => frzV (ev C el ρ)) g.calm g.nN (by rw [g.xn]; exact hN) (by rw [hsc]; exact hl) ?_ hi (g.blkOk ok) (fun s H cell cl fp => hg _ (g.blk ok.kind s H cell cl fp)) (fun s H cell cl fp => hc _ (g.blk ok.kind s H cell cl fp)) (fun s H cell cl fp => (he _ (g.blk ok.kind s H cell cl fp)).d) (fold_ok hf)).weak fun D σ H h => ?_
  · have hb : X.env.blockKind = .function := by
      unfold Env.blockKind
      rw [g.kind]
      rfl
    have hk : X.env.kindOf x = some .local := by
      unfold Env.kindOf
      rw [hsc]; exact hl
    unfold swapsWith
    show (pure _ : Sem Bool) = pure true
    rw [hb, hk, hnx, hp]
    simp
    show (pure (pos.line == pos.line) : Sem Bool) = pure true
    simp
  · exact tLc_of ht σ H _ (set_run D σ H h)
/-- over one line or a cell: stored as it is -/
theorem ss_setLc2 (g : Gd G C n N sc X) (hsc : X.env.scope = sc) {i : Nat} {x : Str} {p spos : Pos} {elt : Expr} {gens : List Comprehension} {scope : Scope} {pos : Pos} {a : Ex} (hN : N[i]? = some x) (hl : locB sc x = true)
    (hp : (decide (sc.names.lookup x = some .local) && p.line == pos.line && !(scope.names.any fun (n, k) => n == x && (k == .local || k == .cell))) = false) (ha : SE X C (.ListComp elt gens scope pos) a) : PS X (.Assign [.Name x p] (.ListComp elt gens scope pos) spos) (tSt X.K (evS C (.set i a))) := by
  refine (ps_set g.nN (by rw [g.xn]; exact hN) (g.loc hl).1 ha.v ?_ (g.loc hl).2).weak set_run
  have hb : X.env.blockKind = .function := by
    unfold Env.blockKind
    rw [g.kind]
    rfl
  have hk : X.env.kindOf x = sc.names.lookup x := by
    unfold Env.kindOf
    rw [hsc]
  unfold swapsWith
  show (pure _ : Sem Bool) = pure false
  rw [hb, hk]
  congr 1
  rw [← hp]
  congr 1
  congr 1
  have : ((ScopeKind.function == ScopeKind.function) && (List.lookup x sc.names == some NameKind.local)) = decide (List.lookup x sc.names = some NameKind.local) := by
    rw [Bool.eq_iff_iff]
    simp
  exact this

/-! ### targets = e -/
def notTup : Expr → Bool
  | .Tuple _ _ _ => false
  | _ => true
theorem tset_run {K : PySem.W.Frag} {tg : Tg} {a : Ex} (D : Ends) (σ : L2.St) (H : Hp) (h : tSt K (evS C (.tset tg a)) D σ H) : tAsg (tEd K fun ρ => frzV (ev C a ρ)) (tG K tg) D σ H := by
  obtain ⟨ρ, F, r, rel, e, k1, k2⟩ := h
  rw [evS] at e
  simp only [Option.bind_eq_some_iff, Option.map_eq_some_iff] at e
  obtain ⟨q, e1, ρ1, e2, rfl⟩ := e
  exact ⟨ρ, F, q, rel, e1, fun v F' H' st r1 => ⟨q.2, F', q.1, ρ1, st.rel, r1, e2, fun σ' st2 _ => k1 _ _ F' H' rfl (st.s.trans st2)⟩⟩
theorem swapped_no {ts : List Expr} {e : Expr} {env : PySem.Env} (h : notTup e = true) : swappedStores ts e env = pure none := by
  unfold swappedStores
  cases e <;> first | cases h | skip
  all_goals
    split
    · rename_i heq
      split at heq
      · rename_i h1; cases h1
      · rename_i h1; cases h1
      · cases heq
    · rfl
theorem ss_tset (g : Gd G C n N sc X) {t e1 : Expr} {a : Ex} {tg : Tg} {pos : Pos} (ha : SE X C e1 a) (ht : PG X t (tG X.K tg)) (ns : notStar t = true) (nc : notComp e1 = true) (nt : notTup e1 = true) : PS X (.Assign [t] e1 pos) (tSt X.K (evS C (.tset tg a))) :=
  (ps_asg ha.d ht (swaps_no nc) (swapped_no nt) (by cases t <;> first | rfl | cases ns)).weak tset_run
end
end Mn

namespace Mn
open PySem PySem.Spec PyProof.Rows L2
section
variable {G : Cfg} {C : CallF} {n : Nat} {N : List Str} {sc : Scope} {X : Cx}
theorem find_neg : True := trivial

/-! ### a, b = x, y -/
section
variable {K : PySem.W.Frag} {ρ ρ1 ρ2 ρ3 : Env} {σ σ1 : L2.St} {F H F1 H1 F2 H2 F3 H3 : Hp}
theorem put2_run (rel : Rel K ρ σ F H) {v u : V} {x y : Val} {i j : Nat} {ρ' ρ'' : Env} (st : Step K ρ σ F H ρ1 F1 H1) (okv : VOk H F1 H1 v x) (oku : VOk H F1 H1 u y) (ne : ∀ p q, x.slot.isMut = true → y.slot.isMut = true → v = .ref p → u = .ref q → p ≠ q)
    (h1 : setV i x ρ1 = some ρ') (h2 : setV j y ρ' = some ρ'') : SStep K ρ σ F H ρ'' ((σ.set i (some v)).set j (some u)) F1 H1 := by
  obtain ⟨hi, rfl⟩ := setV_eq h1
  obtain ⟨hj, rfl⟩ := setV_eq h2
  have no : ∀ p, H p = none → ¬ OwnA ρ1 σ p := fun p hp z => rel.not_own hp (st.own _ z)
  have s1 := st.put rel okv hi
  refine s1.put rel oku (fun q m e z => ?_) hj
  obtain ⟨_, own, _⟩ := st.rel.store (v := v) (VOk.slot okv) hi (Val.slot_io x) fun p m e => no p (okv.fresh m e)
  rcases own q z with z | ⟨z1, z2⟩
  · exact no q (oku.fresh m e) z
  · exact ne q q z1 m z2 e rfl
theorem ne_of_fresh {v u : V} {x y : Val} (okv : VOk H F1 H1 v x) (oku : VOk H1 F2 H2 u y) : ∀ p q, x.slot.isMut = true → y.slot.isMut = true → v = .ref p → u = .ref q → p ≠ q := fun p q m1 m2 e1 e2 z => by
  subst z
  have h2 := oku.fresh m2 e2
  cases x with
  | d _ => cases m1
  | own _ => obtain ⟨p', h3, h4, h5, h6⟩ := okv; rw [h3] at e1; cases e1; obtain ⟨o, ho⟩ := h6.here; rw [h2] at ho; cases ho
  | dct _ => obtain ⟨p', h3, h4, h5, h6⟩ := okv; rw [h3] at e1; cases e1; obtain ⟨o, ho⟩ := h6.here; rw [h2] at ho; cases ho
  | dtt _ => obtain ⟨p', h3, h4, h5, h6⟩ := okv; rw [h3] at e1; cases e1; obtain ⟨o, ho⟩ := h6.here; rw [h2] at ho; cases ho
theorem Rel.laidT (rel : Step K ρ σ F H ρ1 F1 H1) {T : Addr} {o : HO} (h : H1 T = none) : Step K ρ σ F H ρ1 F1 (L2.upd H1 T o) := rel.trans (Step.laid rel.rel h)
end
theorem par2_run {K : PySem.W.Frag} {i j : Nat} {a b : Ex} (D : Ends) (σ : L2.St) (H : Hp) (h : tSt K (evS C (.par2 i j a b)) D σ H) (P : List V → Hp → Prop)
    (hP : ∀ v w H1, D.nx ((σ.set i (some v)).set j (some w)) H1 → (∀ T o, H1 T = none → D.nx ((σ.set i (some v)).set j (some w)) (upd H1 T o)) → P [v, w] H1) : tCons (tEv K (ev C a)) (tCons (tEv K (ev C b)) tNil) σ H P := by
  obtain ⟨ρ, F, r, rel, e, k1, k2⟩ := h
  rw [evS] at e
  simp only [Option.bind_eq_some_iff, Option.map_eq_some_iff] at e
  obtain ⟨x, e1, y, e2, ρ1, e3, ρ2, e4, rfl⟩ := e
  refine ⟨ρ, F, x, rel, e1, fun v F1 H1 st1 okv => ⟨x.2, F1, y, st1.rel, e2, fun u F2 H2 st2 oku => hP v u H2 ?_ fun T o hT => ?_⟩⟩
  · exact k1 _ _ F2 H2 rfl (put2_run rel (st1.trans st2) (okv.keep rel st1 st2) (oku.back st1) (ne_of_fresh okv oku) e3 e4)
  · exact k1 _ _ F2 _ rfl (put2_run rel (Rel.laidT (st1.trans st2) hT) ((okv.keep rel st1 st2).laid hT) ((oku.back st1).laid hT) (ne_of_fresh okv oku) e3 e4)
/-- the names on the left: locals of one line -/
def plainNm (sc : Scope) (l : Nat) : Expr → Bool
  | .Name x p => decide (sc.names.lookup x = some .local) && p.line == l
  | _ => false
theorem kind_eq (g : Gd G C n N sc X) (hsc : X.env.scope = sc) (x : Str) : X.env.kindOf x = sc.names.lookup x := by
  unfold Env.kindOf
  rw [hsc]
theorem bk_eq (g : Gd G C n N sc X) : X.env.blockKind = .function := by
  unfold Env.blockKind
  rw [g.kind]
  rfl
theorem sw2 (g : Gd G C n N sc X) (hsc : X.env.scope = sc) {x y : Str} {px py pt pt2 : Pos} {kt k2 : Nat} {a b : Expr} (hx : sc.names.lookup x = some .local) (hy : sc.names.lookup y = some .local) (hp : (px.line == py.line) = true) (hxy : (x == y) = false)
    (na : notStar a = true) (nb : notStar b = true) (hf : (foldedForSure 8 a && foldedForSure 8 b) = false) (hc : (constantsAlone 8 a && constantsAlone 8 b) = false) :
    swappedStores [.Tuple [.Name x px, .Name y py] kt pt] (.Tuple [a, b] k2 pt2) X.env = pure (some [x, y]) := by
  have hp' : px.line = py.line := by simpa using hp
  have hxy' : x ≠ y := by simpa using hxy
  unfold swappedStores
  simp only [List.length_cons, List.length_nil, List.any_cons, List.any_nil, List.all_cons, List.all_nil, List.head?_cons, Option.map_some, Option.getD_some, List.filterMap_cons, List.filterMap_nil, kind_eq g hsc, hx, hy, bk_eq g, hf, hc, Bool.and_true, Expr.pos, hp']
  simp [List.eraseDups_cons, hxy', Ne.symm hxy']
  intro h
  rcases h with h | h
  · cases a <;> first | (cases h; done) | (cases na; done)
  · cases b <;> first | (cases h; done) | (cases nb; done)
theorem ss_par2 (g : Gd G C n N sc X) (hsc : X.env.scope = sc) {i j : Nat} {x y : Str} {px py pt pt2 pos : Pos} {kt k2 : Nat} {a b : Expr} {ea eb : Ex} (hi : N[i]? = some x) (hj : N[j]? = some y) (hij : i ≠ j) (hx : sc.names.lookup x = some .local) (hy : sc.names.lookup y = some .local) (hp : (px.line == py.line) = true) (hxy : (x == y) = false)
    (na : notStar a = true) (nb : notStar b = true) (hf : (foldedForSure 8 a && foldedForSure 8 b) = false) (hc : (constantsAlone 8 a && constantsAlone 8 b) = false) (ha : SE X C a ea) (hb : SE X C b eb) :
    PS X (.Assign [.Tuple [.Name x px, .Name y py] kt pt] (.Tuple [a, b] k2 pt2) pos) (tSt X.K (evS C (.par2 i j ea eb))) :=
  (ps_par g.calm g.nN (by rw [g.xn]; exact hi) (by rw [g.xn]; exact hj) hij (by rw [hsc]; exact hx) (by rw [hsc]; exact hy) (pa_cons ha.v (pa_cons hb.v pa_nil (star_cons nb)) (star_cons na)) (sw2 g hsc hx hy hp hxy na nb hf hc) rfl).weak fun D σ H h => par2_run D σ H h _ fun v w H1 q _ => ⟨v, w, rfl, q⟩
/-- the pair is made and taken apart -/
theorem ss_par2n (g : Gd G C n N sc X) {i j : Nat} {x y : Str} {px py pt pt2 pos : Pos} {kt k2 : Nat} {a b : Expr} {ea eb : Ex} (hi : N[i]? = some x) (hj : N[j]? = some y) (hx : locB sc x = true) (hy : locB sc y = true)
    (na : notStar a = true) (nb : notStar b = true) (hw : swappedStores [.Tuple [.Name x px, .Name y py] kt pt] (.Tuple [a, b] k2 pt2) X.env = pure none) (ha : SE X C a ea) (hb : SE X C b eb) :
    PS X (.Assign [.Tuple [.Name x px, .Name y py] kt pt] (.Tuple [a, b] k2 pt2) pos) (tSt X.K (evS C (.par2 i j ea eb))) :=
  (ps_asg (pe_tup (pa_cons ha.v (pa_cons hb.v pa_nil (star_cons nb)) (star_cons na)))
    (pg_tup (n := 2) (es := [.Name x px, .Name y py]) g.calm (pgs_cons (pg_name g.nN (by rw [g.xn]; exact hi) (g.loc hx).1 (g.loc hx).2) (pgs_cons (pg_name g.nN (by rw [g.xn]; exact hj) (g.loc hy).1 (g.loc hy).2) pgs_nil))) rfl hw rfl).weak fun D σ H h => by
    unfold tAsg tTup
    exact par2_run D σ H h _ fun v w H1 _ q => ⟨by show 2 ≤ _; decide, fun T hT => ⟨T, [v, w], rfl, SqT.here upd_same, rfl, v, [w], rfl, w, [], rfl, rfl, q T _ hT⟩⟩
theorem sw_fold {ts vs : List Expr} {kt k2 : Nat} {p1 p2 : Pos} {env : PySem.Env} (h : vs.all (foldedForSure 8) = true) : swappedStores [.Tuple ts kt p1] (.Tuple vs k2 p2) env = pure none := by
  unfold swappedStores
  simp only [h]
  split
  · rfl
  · split
    · rfl
    · split
      · rfl
      · rfl
theorem sw_cell (g : Gd G C n N sc X) (hsc : X.env.scope = sc) {ts vs : List Expr} {kt k2 : Nat} {p1 p2 : Pos}
    (h : ((ts.filterMap fun | .Name id pos => if sc.names.lookup id == some .local && pos.line == (ts.head?.map (·.pos.line)).getD 0 then some id else none | _ => none).length != ts.length) = true) : swappedStores [.Tuple ts kt p1] (.Tuple vs k2 p2) X.env = pure none := by
  unfold swappedStores
  simp only [kind_eq g hsc]
  split
  · rfl
  · split
    · rfl
    · exact if_pos (by rw [Bool.or_eq_true]; exact .inl h)
/-! ### three -/
section
variable {K : PySem.W.Frag} {ρ ρ1 ρ2 ρ3 : Env} {σ σ1 : L2.St} {F H F1 H1 F2 H2 F3 H3 : Hp}
def Apart (v u : V) (x y : Val) : Prop := ∀ p q, x.slot.isMut = true → y.slot.isMut = true → v = .ref p → u = .ref q → p ≠ q
theorem put3_run (rel : Rel K ρ σ F H) {v u w : V} {x y z : Val} {i j l : Nat} {ρa ρb ρc : Env} (st : Step K ρ σ F H ρ1 F1 H1) (okv : VOk H F1 H1 v x) (oku : VOk H F1 H1 u y) (okw : VOk H F1 H1 w z) (n1 : Apart v u x y) (n2 : Apart v w x z) (n3 : Apart u w y z)
    (h1 : setV i x ρ1 = some ρa) (h2 : setV j y ρa = some ρb) (h3 : setV l z ρb = some ρc) : SStep K ρ σ F H ρc (((σ.set i (some v)).set j (some u)).set l (some w)) F1 H1 := by
  have s2 := put2_run rel st okv oku n1 h1 h2
  obtain ⟨hi, rfl⟩ := setV_eq h1
  obtain ⟨hj, rfl⟩ := setV_eq h2
  obtain ⟨hl, rfl⟩ := setV_eq h3
  have no : ∀ p, H p = none → ¬ OwnA ρ1 σ p := fun p hp z => rel.not_own hp (st.own _ z)
  obtain ⟨r1, own1, _⟩ := st.rel.store (v := v) (VOk.slot okv) hi (Val.slot_io x) fun p m e => no p (okv.fresh m e)
  have no1 : ∀ q, H q = none → (∀ p, x.slot.isMut = true → v = .ref p → p ≠ q) → ¬ OwnA (ρ1.put i x.slot) (σ.set i (some v)) q := fun q hq ne z => by
    rcases own1 q z with z | ⟨z1, z2⟩
    · exact no q hq z
    · exact ne q z1 z2 rfl
  obtain ⟨r2, own2, _⟩ := r1.store (v := u) (VOk.slot oku) hj (Val.slot_io y) fun q m e => no1 q (oku.fresh m e) fun p m' e' => n1 p q m' m e' e
  refine s2.put rel okw (fun q m e zz => ?_) hl
  rcases own2 q zz with zz | ⟨z1, z2⟩
  · exact no1 q (okw.fresh m e) (fun p m' e' => n2 p q m' m e' e) zz
  · exact n3 q q z1 m z2 e rfl
end
theorem apart_of {K : PySem.W.Frag} {ρ1 ρ2 : Env} {σ : L2.St} {H F1 H1 F2 H2 F3 H3 : Hp} {v u : V} {x y : Val} (okv : VOk H F1 H1 v x) (st : Step K ρ1 σ F1 H1 ρ2 F2 H2) (oku : VOk H2 F3 H3 u y) : Apart v u x y := ne_of_fresh okv (oku.back st)
theorem par3_run {K : PySem.W.Frag} {i j l : Nat} {a b c : Ex} (D : Ends) (σ : L2.St) (H : Hp) (h : tSt K (evS C (.par3 i j l a b c)) D σ H) (P : List V → Hp → Prop)
    (hP : ∀ v w u H1, D.nx (((σ.set i (some v)).set j (some w)).set l (some u)) H1 → (∀ T o, H1 T = none → D.nx (((σ.set i (some v)).set j (some w)).set l (some u)) (upd H1 T o)) → P [v, w, u] H1) : tCons (tEv K (ev C a)) (tCons (tEv K (ev C b)) (tCons (tEv K (ev C c)) tNil)) σ H P := by
  obtain ⟨ρ, F, r, rel, e, k1, k2⟩ := h
  rw [evS] at e
  simp only [Option.bind_eq_some_iff, Option.map_eq_some_iff] at e
  obtain ⟨x, e1, y, e2, z, e3, ρ1, e4, ρ2, e5, ρ3, e6, rfl⟩ := e
  refine ⟨ρ, F, x, rel, e1, fun v F1 H1 st1 okv => ⟨x.2, F1, y, st1.rel, e2, fun u F2 H2 st2 oku => ⟨y.2, F2, z, st2.rel, e3, fun w F3 H3 st3 okw => hP v u w H3 ?_ fun T o hT => ?_⟩⟩⟩
  · exact k1 _ _ F3 H3 rfl (put3_run rel ((st1.trans st2).trans st3) (okv.keep rel st1 (st2.trans st3)) ((oku.keep st1.rel st2 st3).back st1) (okw.back (st1.trans st2)) (ne_of_fresh okv oku) (apart_of okv st2 okw) (ne_of_fresh oku okw) e4 e5 e6)
  · exact k1 _ _ F3 _ rfl (put3_run rel (Rel.laidT ((st1.trans st2).trans st3) hT) ((okv.keep rel st1 (st2.trans st3)).laid hT) (((oku.keep st1.rel st2 st3).back st1).laid hT) ((okw.back (st1.trans st2)).laid hT) (ne_of_fresh okv oku) (apart_of okv st2 okw) (ne_of_fresh oku okw) e4 e5 e6)
theorem sw3 (g : Gd G C n N sc X) (hsc : X.env.scope = sc) {x y z : Str} {px py pz pt pt2 : Pos} {kt k2 : Nat} {a b c : Expr} (hx : sc.names.lookup x = some .local) (hy : sc.names.lookup y = some .local) (hz : sc.names.lookup z = some .local) (hp : (px.line == py.line) = true) (hp2 : (px.line == pz.line) = true)
    (hxy : (x == y) = false) (hxz : (x == z) = false) (hyz : (y == z) = false)
    (na : notStar a = true) (nb : notStar b = true) (nc : notStar c = true) (hf : (foldedForSure 8 a && (foldedForSure 8 b && foldedForSure 8 c)) = false) (hc : (constantsAlone 8 a && (constantsAlone 8 b && constantsAlone 8 c)) = false) :
    swappedStores [.Tuple [.Name x px, .Name y py, .Name z pz] kt pt] (.Tuple [a, b, c] k2 pt2) X.env = pure (some [x, y, z]) := by
  have hp' : px.line = py.line := by simpa using hp
  have hp2' : px.line = pz.line := by simpa using hp2
  have hp3 : py.line = pz.line := hp'.symm.trans hp2'
  have hxy' : x ≠ y := by simpa using hxy
  have hxz' : x ≠ z := by simpa using hxz
  have hyz' : y ≠ z := by simpa using hyz
  unfold swappedStores
  simp only [List.length_cons, List.length_nil, List.any_cons, List.any_nil, List.all_cons, List.all_nil, List.head?_cons, Option.map_some, Option.getD_some, List.filterMap_cons, List.filterMap_nil, kind_eq g hsc, hx, hy, hz, bk_eq g, hf, hc, Bool.and_true, Expr.pos, hp', hp3]
  simp [List.eraseDups_cons, hxy', Ne.symm hxy', hxz', Ne.symm hxz', hyz', Ne.symm hyz']
  intro h
  rcases h with h | h | h
  · cases a <;> first | (cases h; done) | (cases na; done)
  · cases b <;> first | (cases h; done) | (cases nb; done)
  · cases c <;> first | (cases h; done) | (cases nc; done)
theorem ss_par3 (g : Gd G C n N sc X) (hsc : X.env.scope = sc) {i j l : Nat} {x y z : Str} {px py pz pt pt2 pos : Pos} {kt k2 : Nat} {a b c : Expr} {ea eb ec : Ex} (hi : N[i]? = some x) (hj : N[j]? = some y) (hl : N[l]? = some z) (hij : i ≠ j) (hil : i ≠ l) (hjl : j ≠ l)
    (hx : sc.names.lookup x = some .local) (hy : sc.names.lookup y = some .local) (hz : sc.names.lookup z = some .local) (hp : (px.line == py.line) = true) (hp2 : (px.line == pz.line) = true)
    (hxy : (x == y) = false) (hxz : (x == z) = false) (hyz : (y == z) = false)
    (na : notStar a = true) (nb : notStar b = true) (nc : notStar c = true) (hf : (foldedForSure 8 a && (foldedForSure 8 b && foldedForSure 8 c)) = false) (hc : (constantsAlone 8 a && (constantsAlone 8 b && constantsAlone 8 c)) = false)
    (ha : SE X C a ea) (hb : SE X C b eb) (hcc : SE X C c ec) :
    PS X (.Assign [.Tuple [.Name x px, .Name y py, .Name z pz] kt pt] (.Tuple [a, b, c] k2 pt2) pos) (tSt X.K (evS C (.par3 i j l ea eb ec))) :=
  (ps_par3 g.calm g.nN (by rw [g.xn]; exact hi) (by rw [g.xn]; exact hj) (by rw [g.xn]; exact hl) hij hil hjl (by rw [hsc]; exact hx) (by rw [hsc]; exact hy) (by rw [hsc]; exact hz) (pa_cons ha.v (pa_cons hb.v (pa_cons hcc.v pa_nil (star_cons nc)) (star_cons nb)) (star_cons na))
    (sw3 g hsc hx hy hz hp hp2 hxy hxz hyz na nb nc hf hc) rfl).weak fun D σ H h => par3_run D σ H h _ fun v w u H1 q _ => ⟨v, w, u, rfl, q⟩
theorem ss_par3n (g : Gd G C n N sc X) {i j l : Nat} {x y z : Str} {px py pz pt pt2 pos : Pos} {kt k2 : Nat} {a b c : Expr} {ea eb ec : Ex} (hi : N[i]? = some x) (hj : N[j]? = some y) (hl : N[l]? = some z) (hx : locB sc x = true) (hy : locB sc y = true) (hz : locB sc z = true)
    (na : notStar a = true) (nb : notStar b = true) (nc : notStar c = true) (hw : swappedStores [.Tuple [.Name x px, .Name y py, .Name z pz] kt pt] (.Tuple [a, b, c] k2 pt2) X.env = pure none) (ha : SE X C a ea) (hb : SE X C b eb) (hcc : SE X C c ec) :
    PS X (.Assign [.Tuple [.Name x px, .Name y py, .Name z pz] kt pt] (.Tuple [a, b, c] k2 pt2) pos) (tSt X.K (evS C (.par3 i j l ea eb ec))) :=
  (ps_asg (pe_tup (pa_cons ha.v (pa_cons hb.v (pa_cons hcc.v pa_nil (star_cons nc)) (star_cons nb)) (star_cons na)))
    (pg_tup (n := 3) (es := [.Name x px, .Name y py, .Name z pz]) g.calm (pgs_cons (pg_name g.nN (by rw [g.xn]; exact hi) (g.loc hx).1 (g.loc hx).2) (pgs_cons (pg_name g.nN (by rw [g.xn]; exact hj) (g.loc hy).1 (g.loc hy).2) (pgs_cons (pg_name g.nN (by rw [g.xn]; exact hl) (g.loc hz).1 (g.loc hz).2) pgs_nil)))) rfl hw rfl).weak fun D σ H h => by
    unfold tAsg tTup
    exact par3_run D σ H h _ fun v w u H1 _ q => ⟨by show 3 ≤ _; decide, fun T hT => ⟨T, [v, w, u], rfl, SqT.here upd_same, rfl, v, [w, u], rfl, w, [u], rfl, u, [], rfl, rfl, q T _ hT⟩⟩
end
end Mn

namespace Mn
open PySem PySem.Spec PyProof.Rows L2
section
variable {G : Cfg} {C : CallF} {n : Nat} {N : List Str} {sc : Scope} {X : Cx}
/-! ### x += e -/
theorem ss_aug (g : Gd G C n N sc X) {i : Nat} {x : Str} {e1 : Expr} {a : Ex} {p pos : Pos} (hN : N[i]? = some x) (hl : locB sc x = true) (ha : SE X C e1 a) : PS X (.AugAssign (.Name x p) .Add e1 pos) (tSt X.K (evS C (.aug i .Add a))) :=
  (ps_aug g.nN (by rw [g.xn]; exact hN) (g.loc hl).1 ha.d ip_add (g.loc hl).2).weak fun D σ H ⟨ρ, F, r, rel, e, k1, k2⟩ => by
    rw [evS] at e
    split at e
    · rename_i x0 hx
      simp only [Option.bind_eq_some_iff] at e
      obtain ⟨q, e1, e⟩ := e
      split at e
      · rename_i c d ha hb hc
        cases e
        obtain ⟨v, hv, ok⟩ := rel.ok i _ hx
        cases ok
        refine ⟨_, hv, ρ, F, q, rel, e1, fun w F' H' st r1 => ?_⟩
        rw [hc] at r1
        cases r1
        have hi : i < q.2.length := by
          rw [st.rel.len, ← rel.len]
          exact rel.lt hx
        exact ⟨_, _, rfl, rfl, k1 _ _ F' H' rfl (st.put (x := .d (.int _)) rel (.int _) hi)⟩
      · cases e
    · cases e

/-! ### x[i] = e -/
theorem ixN_of {k : Int} {m : Nat} (h0 : 0 ≤ k) (h1 : k.toNat < m) : ixN m k = some k.toNat := by
  unfold ixN
  rw [if_pos h0, if_pos (by omega)]
def notSl : Expr → Bool
  | .Slice _ _ _ _ => false
  | _ => true
theorem asg_sub {o i : Expr} {p : Pos} {env : PySem.Env} (h : notSl i = true) (v : Value) : assign (.Subscript o i p) env v = (do
      let ov ← holding [v] (eval o env)
      let iv ← holding [v, ov] (eval i env)
      standAt p
      holding [v, ov, iv] (setItem ov iv v)
      release [v, ov, iv] []) := by
  cases i <;> first | rfl | cases h
theorem sole_no {t e : Expr} {l : Nat} {env : PySem.Env} (h : notComp e = true) : swapsWithSole [t] e l env = pure false := swaps_no h
theorem swapped_sub {o i e : Expr} {p : Pos} {env : PySem.Env} : swappedStores [.Subscript o i p] e env = pure none := by
  unfold swappedStores
  rfl
theorem ss_sti (g : Gd G C n N sc X) {k : Nat} {o i e1 : Expr} {a b : Ex} {p pos : Pos} (ho : PE X o (tVar k)) (hi : SE X C i b) (ha : SE X C e1 a) (nc : notComp e1 = true) (hs : notSl i = true) : PS X (.Assign [.Subscript o i p] e1 pos) (tSt X.K (evS C (.sti k b a))) :=
  (ps_asg ha.d (pg_sub ho hi.d set_list (asg_sub hs)) (sole_no nc) swapped_sub rfl).weak fun D σ H ⟨ρ, F, r, rel, e, k1, k2⟩ => by
    rw [evS] at e
    simp only [Option.bind_eq_some_iff] at e
    obtain ⟨x, e1, xs0, e2, r1, e3, xs, e4, e⟩ := e
    split at e
    · rename_i j hj
      split at e
      · rename_i hc
        cases e
        refine ⟨ρ, F, x, rel, e1, fun v F1 H1 st1 rv => ?_⟩
        obtain ⟨p0, vs0, s0, hp0, _⟩ := st1.rel.mutAt e2
        refine ⟨.ref p0, hp0, x.2, F1, r1, st1.rel, e3, fun u F2 H2 st2 ru => ?_⟩
        rw [hj] at ru
        cases ru
        obtain ⟨p2, vs, s2, hp2, h2, f2, rl, _⟩ := st2.rel.mutAt e4
        rw [hp0] at hp2; cases hp2
        refine ⟨p0, vs, j, j.toNat, rfl, rfl, h2, ixN_of hc.1 (by rw [rl.length]; exact hc.2), ?_⟩
        exact k1 _ _ F2 _ rfl ((st1.trans st2).trans (Step.write st2.rel e4 hp0 (rl.set (rv.mono st2.fs) j.toNat))).s
      · cases e
    · cases e
theorem ss_dset (g : Gd G C n N sc X) {k : Nat} {o i e1 : Expr} {a b : Ex} {p pos : Pos} (ho : PE X o (tVar k)) (hi : SE X C i b) (ha : SE X C e1 a) (nc : notComp e1 = true) : PS X (.Assign [.Subscript o i p] e1 pos) (tSt X.K (evS C (.dset k b a))) :=
  (ps_dput (Nat.lt_of_le_of_lt (by omega) g.units) ho hi.d ha.d (swaps_no nc)).weak fun D σ H ⟨ρ, F, r, rel, e, k1, k2⟩ => by
    rw [evS] at e
    simp only [Option.bind_eq_some_iff] at e
    obtain ⟨x, e1, xs0, e2, r1, e3, kvs, e4, e⟩ := e
    split at e
    · rename_i j hj
      split at e
      · rename_i hc
        cases e
        refine ⟨ρ, F, x, rel, e1, fun v F1 H1 st1 rv => ?_⟩
        obtain ⟨p0, kv0, hp0, _⟩ := st1.rel.dctAt e2
        refine ⟨.ref p0, hp0, x.2, F1, r1, st1.rel, e3, fun u F2 H2 st2 ru => ?_⟩
        rw [hj] at ru
        cases ru
        obtain ⟨p2, kv, hp2, h2, f2, h3, at2⟩ := st2.rel.dctAt e4
        rw [hp0] at hp2; cases hp2
        have pr := put_rel (k := j) h3 (rv.mono st2.fs)
        have hk : r1.2.length = r1.2.length := rfl
        have sub : Sub F2 (upd H2 p0 (.dK (putK kv (Sum.inl j) v))) := fun b o hb => by
          have : b ≠ p0 := fun z => by subst z; rw [f2] at hb; cases hb
          rw [upd_ne this]; exact st2.rel.sub b o hb
        obtain ⟨q1, q2, q3⟩ := st2.rel.mput (t := .dct (dPut kvs j x.1)) at2 rfl rfl (fun z => by cases z) hp0 (Sub.refl F2) sub f2 ⟨_, upd_same, pr⟩ fun b hb ho => by
          obtain ⟨_, _, q⟩ := st2.rel.own_at ho
          exact ⟨upd_ne hb, q⟩
        have st3 : Step X.K r1.2 σ F2 H2 (r1.2.put k (.dct (dPut kvs j x.1))) F2 (upd H2 p0 (.dK (putK kv (Sum.inl j) v))) := by
          refine ⟨q1, ⟨Sub.refl F2, fun b o hb n => ?_, fun b z => .inl z, fun b z => ?_⟩, q2, q3⟩
          · have : b ≠ p0 := fun z => by subst z; exact n ⟨k, _, at2, rfl, hp0⟩
            rw [upd_ne this]; exact hb
          · by_cases c : b = p0
            · subst c; rw [upd_same]; simp
            · rw [upd_ne c]; exact z
        exact ⟨p0, _, rfl, .inl ⟨kv, .inl j, h2, rfl, by have := sl24; have := Paired.length h3; omega, rfl⟩, k1 _ _ F2 _ rfl ((st1.trans st2).trans st3).s⟩
      · cases e
    · cases e

/-! ### methods as statements -/
theorem ss_app (g : Gd G C n N sc X) {k : Nat} {o e1 : Expr} {a : Ex} {apos cpos pos : Pos} (ho : PE X o (tVar k)) (ha : SE X C e1 a) (ns : notStar e1 = true) (nc : notCall o = true) (hl : (apos.endLine == cpos.line) = true) :
    PS X (.Expr (.Call (.Attribute o "append" apos) [e1] [] cpos) pos) (tSt X.K (evS C (.app k a))) :=
  (ps_expr (pe_bm F.plainAttrs_list F.slot_list_append F.type_list_append mt_append ho (pa_cons ha.d pa_nil (star_cons ns)) (base_ok nc) (few_ok ns) hl (star_cons ns) rfl) rfl).weak fun D σ H ⟨ρ, F, r, rel, e, k1, k2⟩ => by
    rw [evS] at e
    simp only [Option.bind_eq_some_iff] at e
    obtain ⟨xs0, e2, x, e1, xs, e4, e⟩ := e
    split at e
    · rename_i hc
      cases e
      obtain ⟨p0, vs0, s0, hp0, h0, _⟩ := rel.mutAt e2
      refine ⟨.ref p0, hp0, .inl ⟨rfl, _, .inl (.inl h0)⟩, ρ, F, x, rel, e1, fun v F1 H1 st1 rv => ?_⟩
      obtain ⟨p2, vs, s2, hp2, h2, f2, rl, _⟩ := st1.rel.mutAt e4
      rw [hp0] at hp2; cases hp2
      refine ⟨p0, vs, v, rfl, rfl, h2, by rw [rl.length]; have := sl24; omega, ?_⟩
      exact k1 _ _ F1 _ rfl (st1.trans (Step.write st1.rel e4 hp0 (rl.append (.cons rv .nil)))).s
    · cases e
theorem ss_ext (g : Gd G C n N sc X) {k : Nat} {o e1 : Expr} {a : Ex} {apos cpos pos : Pos} (ho : PE X o (tVar k)) (ha : SE X C e1 a) (ns : notStar e1 = true) (nc : notCall o = true) (hl : (apos.endLine == cpos.line) = true) :
    PS X (.Expr (.Call (.Attribute o "extend" apos) [e1] [] cpos) pos) (tSt X.K (evS C (.ext k a))) :=
  (ps_expr (pe_bm F.plainAttrs_list F.slot_list_extend F.type_list_extend mt_extend ho (pa_cons ha.d pa_nil (star_cons ns)) (base_ok nc) (few_ok ns) hl (star_cons ns) rfl) rfl).weak fun D σ H ⟨ρ, F, r, rel, e, k1, k2⟩ => by
    rw [evS] at e
    simp only [Option.bind_eq_some_iff] at e
    obtain ⟨xs0, e2, x, e1, xs, e4, e⟩ := e
    split at e
    · rename_i ys hy
      split at e
      · rename_i hc
        cases e
        obtain ⟨p0, vs0, s0, hp0, h0, _⟩ := rel.mutAt e2
        refine ⟨.ref p0, hp0, .inl ⟨rfl, _, .inl (.inl h0)⟩, ρ, F, x, rel, e1, fun v F1 H1 st1 rv => ?_⟩
        rw [hy] at rv
        cases rv with
        | lst eb rb =>
          obtain ⟨p2, vs, s2, hp2, h2, f2, rl, _⟩ := st1.rel.mutAt e4
          rw [hp0] at hp2; cases hp2
          refine ⟨p0, _, vs, _, rfl, rfl, h2, st1.rel.sub _ _ eb, by rw [rl.length, rb.length]; have := sl24; omega, ?_⟩
          exact k1 _ _ F1 _ rfl (st1.trans (Step.write st1.rel e4 hp0 (rl.append rb))).s
      · cases e
    · cases e
theorem ss_ins (g : Gd G C n N sc X) {k : Nat} {o i e1 : Expr} {a b : Ex} {apos cpos pos : Pos} (ho : PE X o (tVar k)) (hi : SE X C i b) (ha : SE X C e1 a) (ns : notStar i = true) (ns2 : notStar e1 = true) (nc : notCall o = true) (hl : (apos.endLine == cpos.line) = true) :
    PS X (.Expr (.Call (.Attribute o "insert" apos) [i, e1] [] cpos) pos) (tSt X.K (evS C (.ins k b a))) :=
  (ps_expr (pe_bm F.plainAttrs_list F.slot_list_insert F.type_list_insert mt_insert ho (pa_cons hi.d (pa_cons ha.d pa_nil (star_cons ns2)) (star_cons ns)) (base_ok nc) (few_ok2 ns ns2) hl (star_cons ns) (any_star fun e he => by rw [List.mem_singleton.mp he]; exact ns2)) rfl).weak fun D σ H ⟨ρ, F, r, rel, e, k1, k2⟩ => by
    rw [evS] at e
    simp only [Option.bind_eq_some_iff] at e
    obtain ⟨xs0, e2, r1, e3, x, e1, xs, e4, e⟩ := e
    split at e
    · rename_i j hj
      split at e
      · rename_i hc
        cases e
        obtain ⟨p0, vs0, s0, hp0, h0, _⟩ := rel.mutAt e2
        refine ⟨.ref p0, hp0, .inl ⟨rfl, _, .inl (.inl h0)⟩, ρ, F, r1, rel, e3, fun u F1 H1 st1 ru => ⟨r1.2, F1, x, st1.rel, e1, fun v F2 H2 st2 rv => ?_⟩⟩
        rw [hj] at ru
        cases ru
        obtain ⟨p2, vs, s2, hp2, h2, f2, rl, _⟩ := st2.rel.mutAt e4
        rw [hp0] at hp2; cases hp2
        refine ⟨p0, vs, j, v, rfl, rfl, h2, by rw [rl.length]; have := sl24; omega, hc.1, by omega, ?_⟩
        exact k1 _ _ F2 _ rfl ((st1.trans st2).trans (Step.write st2.rel e4 hp0 (((rl.take j.toNat).append (.cons rv .nil)).append (rl.drop j.toNat)))).s
      · cases e
    · cases e
theorem ss_drp {e1 : Expr} {a : Ex} {pos : Pos} (ha : SE X C e1 a) (nc : notComp e1 = true) : PS X (.Expr e1 pos) (tSt X.K (evS C (.drp a))) :=
  (ps_expr ha.v (swaps_no nc)).weak fun D σ H ⟨ρ, F, r, rel, e, k1, k2⟩ => by
    rw [evS] at e
    simp only [Option.map_eq_some_iff] at e
    obtain ⟨q, e1, rfl⟩ := e
    exact ⟨ρ, F, q, rel, e1, fun v F' H' st _ => k1 _ _ F' H' rfl st.s⟩

/-! ### if -/
theorem ss_ife {c : Expr} {as bs : List Stmt} {t : Ex} {a b : Sx} {pos : Pos} (hc : PT X c (tEb X.K fun ρ => toB (ev C t ρ))) (ha : PSs X as (tSt X.K (evS C a))) (hb : PSs X bs (tSt X.K (evS C b))) : PS X (.If c as bs pos) (tSt X.K (evS C (.ife t a b))) :=
  (ps_if hc ha hb).weak fun D σ H ⟨ρ, F, r, rel, e, k1, k2⟩ => by
    rw [evS] at e
    simp only [Option.bind_eq_some_iff] at e
    obtain ⟨q, e1, e⟩ := e
    refine ⟨ρ, F, q, rel, e1, fun F1 H1 st => ?_⟩
    cases hq : q.1 with
    | true =>
      rw [hq] at e
      simp only [if_true] at e ⊢
      exact ⟨q.2, F1, r, st.rel, e, fun ρ' σ' F' H' z s2 => k1 ρ' σ' F' H' z (st.s.trans s2), fun v ρ' w σ' F' H' z s2 ok => k2 v ρ' w σ' F' H' z (st.s.trans s2) (ok.trans st.s)⟩
    | false =>
      rw [hq] at e
      simp only [Bool.false_eq_true, if_false] at e ⊢
      exact ⟨q.2, F1, r, st.rel, e, fun ρ' σ' F' H' z s2 => k1 ρ' σ' F' H' z (st.s.trans s2), fun v ρ' w σ' F' H' z s2 ok => k2 v ρ' w σ' F' H' z (st.s.trans s2) (ok.trans st.s)⟩

/-! ### for, while -/
theorem Gd.own (g : Gd G C n N sc X) : PassesOwn (model X.prog X.w) X.A X.env X.xe := by
  rw [g.xe]; exact PassesOwn.never
theorem ss_for (g : Gd G C n N sc X) {tgx iter : Expr} {body : List Stmt} {tg : Tg} {it : Ex} {b : Sx} {pos : Pos} (hi : PI X tgx iter (tI X.K (evI C it))) (hg : PG X tgx (tG X.K tg)) (hb : PSs X body (tSt X.K (evS C b))) (hf : notSet iter = true) :
    PS X (.For tgx iter body [] pos) (tSt X.K (evS C (.for tg it b))) :=
  (ps_for g.own g.calm hi hg hb (fold_ok hf)).weak fun D σ H ⟨ρ, F, r, rel, e, k1, k2⟩ => by
    rw [evS] at e
    simp only [Option.bind_eq_some_iff] at e
    obtain ⟨q, e1, e⟩ := e
    refine ⟨ρ, F, q, rel, e1, fun J F1 H1 st1 go => ?_⟩
    obtain ⟨ds, ρ1⟩ := q
    simp only at e st1 go
    let W : Nat → Nat → L2.St → Hp → Prop := fun i m σi Hi => m = ds.length - i ∧ i ≤ ds.length ∧ ∃ ρi Fi, SStep X.K ρ1 σ F1 H1 ρi σi Fi Hi ∧ forL (bindT tg) (evS C b) (ds.drop i) ρi = some r
    refine ⟨W, ⟨ds.length, by simp, Nat.zero_le _, ρ1, F1, SStep.refl st1.rel, by rw [List.drop_zero]; exact e⟩, ?_⟩
    rintro i m σi Hi ⟨rfl, hi, ρi, Fi, st, ec⟩
    by_cases hlt : i < ds.length
    · refine .inr ⟨go.go i Hi (st.ext.fs.trans st.rel.sub) hlt, fun σ' H' => W (i + 1) (ds.length - (i + 1)) σ' H', fun σ' H' w => ⟨_, by omega, w⟩, fun x H' y => ?_⟩
      rw [List.drop_eq_getElem_cons hlt, forL] at ec
      simp only [Option.bind_eq_some_iff] at ec
      obtain ⟨ρ2, eb, ec⟩ := ec
      obtain ⟨F2, st2, rx⟩ := go.step st.rel st.ext.fs (List.getElem?_eq_getElem hlt) y
      refine ⟨ρi, F2, _, ρ2, st2.rel, rx, eb, fun σ' sts _ => ?_⟩
      cases e4 : evS C b ρ2 with
      | none => rw [e4] at ec; cases ec
      | some rr =>
        rw [e4] at ec
        refine ⟨ρ2, F2, rr, sts.rel, e4, fun ρ3 σ3 F3 H3 z s3 => ?_, fun v ρ3 w σ3 F3 H3 z s3 ok => ?_⟩
        · subst z
          exact ⟨rfl, hlt, ρ3, F3, ((st.trans st2.s).trans sts).trans s3, ec⟩
        · subst z
          cases ec
          have s0 := ((st1.s.trans st).trans st2.s).trans sts
          exact k2 v ρ3 w σ3 F3 H3 rfl (s0.trans s3) (ok.trans s0)
    · have hie : i = ds.length := by omega
      subst hie
      rw [List.drop_length, forL] at ec
      cases ec
      exact .inl ⟨go.stop Hi (st.ext.fs.trans st.rel.sub), k1 ρi σi Fi Hi rfl (st1.s.trans st)⟩
theorem ss_whl (g : Gd G C n N sc X) {c : Expr} {body : List Stmt} {t : Ex} {b : Sx} {pos : Pos} (hc : PT X c (tEb X.K fun ρ => toB (ev C t ρ))) (hb : PSs X body (tSt X.K (evS C b))) :
    PS X (.While c body [] pos) (tSt X.K (evS C (.whl t b))) :=
  (ps_while g.own hc hb).weak fun D σ H ⟨ρ, F, r, rel, e, k1, k2⟩ => by
    rw [evS] at e
    let W : Nat → L2.St → Hp → Prop := fun m σi Hi => ∃ ρi Fi, SStep X.K ρ σ F H ρi σi Fi Hi ∧ whlL (fun ρ => toB (ev C t ρ)) (evS C b) m ρi = some r
    refine ⟨W, ⟨100000, ρ, F, SStep.refl rel, e⟩, ?_⟩
    rintro m σi Hi ⟨ρi, Fi, st, ec⟩
    cases m with
    | zero => rw [whlL] at ec; cases ec
    | succ m =>
      rw [whlL] at ec
      simp only [Option.bind_eq_some_iff] at ec
      obtain ⟨q, e2, ec⟩ := ec
      refine ⟨ρi, Fi, q, st.rel, e2, fun F2 H2 st2 => ?_⟩
      have s2 := st.trans st2.s
      cases hq : q.1 with
      | true =>
        rw [hq] at ec
        simp only [if_true] at ec ⊢
        refine ⟨W m, fun σ' H' w => ⟨m, Nat.lt_succ_self m, w⟩, ?_⟩
        cases e4 : evS C b q.2 with
        | none => rw [e4] at ec; cases ec
        | some rr =>
          rw [e4] at ec
          refine ⟨q.2, F2, rr, s2.rel, e4, fun ρ3 σ3 F3 H3 z s3 => ?_, fun v ρ3 w σ3 F3 H3 z s3 ok => ?_⟩
          · subst z
            exact ⟨ρ3, F3, s2.trans s3, ec⟩
          · subst z
            cases ec
            exact k2 v ρ3 w σ3 F3 H3 rfl (s2.trans s3) (ok.trans s2)
      | false =>
        rw [hq] at ec
        simp only [Bool.false_eq_true, if_false] at ec ⊢
        cases ec
        exact k1 q.2 σi F2 H2 rfl s2

/-! ### return -/
theorem ss_ret {e1 : Expr} {a : Ex} {pos : Pos} (ha : SE X C e1 a) (hv : ∀ k, isVar a = some k → PE X e1 (tVar k)) : PS X (.Return (some e1) pos) (tSt X.K (evS C (.ret a))) := by
  cases hva : isVar a with
  | none =>
    refine (ps_ret ha.v).weak fun D σ H ⟨ρ, F, r, rel, e, k1, k2⟩ => ?_
    rw [evS] at e
    simp only [Option.map_eq_some_iff] at e
    obtain ⟨q, e1, rfl⟩ := e
    unfold retV at e1
    rw [hva] at e1
    exact ⟨ρ, F, q, rel, e1, fun v F' H' st ok => k2 _ _ v σ F' H' rfl st.s (ok.rt rel st)⟩
  | some k =>
    refine (ps_ret (hv k hva)).weak fun D σ H ⟨ρ, F, r, rel, e, k1, k2⟩ => ?_
    rw [evS] at e
    simp only [Option.map_eq_some_iff] at e
    obtain ⟨q, e1, rfl⟩ := e
    unfold retV at e1
    rw [hva] at e1
    simp only at e1
    split at e1
    · rename_i xs hx
      cases e1
      obtain ⟨v, hv, ok⟩ := rel.ok k _ hx
      obtain ⟨p, rfl, f, m⟩ := ok
      refine ⟨_, hv, k2 _ _ _ σ F H rfl (SStep.refl rel) ⟨p, rfl, f, .inr ⟨k, _, hx, rfl, hv⟩, fun ⟨j, s, h1, h2, h3⟩ => ?_, m⟩⟩
      have hs : s.isMut = true := by cases s <;> first | rfl | cases h2
      have := rel.dis j k s _ p h1 hx hs rfl h3 hv
      subst this
      rw [hx] at h1; cases h1; cases h2
    · exact rdVar_run rel e1 fun v F' H' st ok => k2 _ _ v σ F' H' rfl st.s (ok.rt rel st)
theorem ss_retN {pos : Pos} : PS X (.Return none pos) (tSt X.K (evS C (.ret (.cst .none)))) := ps_retN.weak fun D σ H ⟨ρ, F, r, rel, e, k1, k2⟩ => by
  rw [evS] at e
  simp only [Option.map_eq_some_iff] at e
  obtain ⟨q, e1, rfl⟩ := e
  unfold retV at e1
  simp only [isVar, ev] at e1
  cases e1
  exact k2 _ _ .non σ F H rfl (SStep.refl rel) .non
end
end Mn

namespace Mn
open PySem PySem.Spec PyProof.Rows L2
/-! ## xs[::-1] -/
theorem fm_congr {α β : Type} {f g : α → Option β} : ∀ {l : List α}, (∀ a ∈ l, f a = g a) → l.filterMap f = l.filterMap g
  | [], _ => rfl
  | a :: l, h => by
    rw [List.filterMap_cons, List.filterMap_cons, h a List.mem_cons_self, fm_congr fun x hx => h x (List.mem_cons_of_mem _ hx)]
theorem pick_rev (xs : List Value) : ((List.range xs.length).filterMap fun (m : Nat) => xs.toArray[(((xs.length : Int) - 1) + (m : Int) * -1).toNat]?) = xs.reverse := by
  have e : ((List.range xs.length).filterMap fun (m : Nat) => xs.toArray[(((xs.length : Int) - 1) + (m : Int) * -1).toNat]?) = (List.range xs.length).filterMap fun m => xs.reverse[m]? := by
    refine fm_congr fun m hm => ?_
    rw [List.mem_range] at hm
    have : (((xs.length : Int) - 1) + (m : Int) * -1).toNat = xs.length - 1 - m := by omega
    rw [this, List.getElem?_reverse hm]
    simp
  rw [e]
  have key : ∀ l : List Value, (List.range l.length).filterMap (fun m => l[m]?) = l := fun l => by
    induction l with
    | nil => rfl
    | cons a r ih =>
      rw [List.length_cons, List.range_succ_eq_map, List.filterMap_cons]
      simp only [List.getElem?_cons_zero, List.filterMap_map]
      congr 1
  have := key xs.reverse
  rw [List.length_reverse] at this
  exact this
section
variable {prog : Program} {w : World} {A : Around} {E : Value → Shared → Prop} {s : Shared}
theorem sliceApplied_rev {sl : Addr} {n : Nat} {t : Tok} {Q : Int × Int × Nat → Shared → Prop} (hs : s.heap.IsSliceOf sl .none .none (.int (-1) t))
    (h : Q ((n : Int) - 1, -1, n) s) : wpAny (model prog w) A (Builtin.Slice.sliceApplied (.ref sl) (pure (n : Int))) Q E s := by
  obtain ⟨os, hos, hcs, hds⟩ := id hs
  unfold Builtin.Slice.sliceApplied Builtin.Slice.sliceFields
  refine wpAny_bind (wpAny_bind (wpAny_field hos hds (x := .none) rfl (wpAny_bind (wpAny_field hos hds (x := .none) rfl (wpAny_bind (wpAny_field hos hds (x := .int (-1) t) rfl (wpAny_pure ?_)))))))
  refine wpAny_bind (slicePart_int ?_)
  show wpAny _ _ (if ((-1 : Int) == 0) = true then _ else _) _ _ s
  rw [if_neg (by decide)]
  refine wpAny_bind (slicePart_none (wpAny_bind (slicePart_none (wpAny_bind (wpAny_pure ?_)))))
  show wpAny _ _ (match Builtin.Slice.sliceAdjust none none (-1) (n : Int) with | (lo, hi) => pure (lo, (-1 : Int), Builtin.Slice.slicePlaces lo hi (-1))) _ _ s
  have e : Builtin.Slice.sliceAdjust none none (-1) (n : Int) = ((n : Int) - 1, -1) := by
    unfold Builtin.Slice.sliceAdjust
    simp
  rw [e]
  show wpAny _ _ (pure ((n : Int) - 1, (-1 : Int), Builtin.Slice.slicePlaces ((n : Int) - 1) (-1) (-1))) _ _ s
  have e2 : Builtin.Slice.slicePlaces ((n : Int) - 1) (-1) (-1) = n := by
    unfold Builtin.Slice.slicePlaces
    simp
    omega
  rw [e2]
  exact wpAny_pure h
theorem getItem_tuple_rev {t sl : Addr} {its : List Value} {tk : Tok} {Q : Value → Shared → Prop} (ht : IsTup s.heap t its.toArray) (hs : s.heap.IsSliceOf sl .none .none (.int (-1) tk))
    (h : Q (.ref s.heap.objs.size) { s with heap := s.heap.push { cls := .type "tuple", data := .seq its.reverse.toArray } })
    (hsz : its.length ≤ sizeLine) : wpAny (model prog w) A (getItem (.ref t) (.ref sl)) Q E s := by
  have htake : sizeOk (.seq its.reverse.toArray) := by
    show its.reverse.toArray.size ≤ sizeLine
    rw [List.size_toArray, List.length_reverse]; exact hsz
  obtain ⟨os, hos, hcs, hds⟩ := id hs
  have hTs : s.TypeIs (.ref sl) "slice" := ⟨os, hos, hcs⟩
  unfold getItem
  try with_reducible refine wpAny_holding ?_
  first | refine wpAny_bind (wpAny_pure ?_) | skip
  refine wpAny_bind (wpAny_sequenceKey ht.typeIs (by decide) ?_)
  refine wpAny_bind (wpAny_callSpecial?_slot (name := Str.ofString "__getitem__") ht.typeIs PyProof.Rows.slot_tuple_getitem
    (wpAny_call_entry PyProof.Rows.slot_tuple_getitem ht.typeIs entry_tuple_getitem ?_ (args_tuple_getitem _ _)))
  show wpAny _ _ (Builtin.Tuple.tupleItemsOf (.ref t) >>= _) _ _ s
  refine wpAny_bind (PyProof.Rows.tupleItemsOf_ ht ?_)
  refine wpAny_bind (wpAny_typeOf hTs ?_)
  rw [if_pos (by decide)]
  have hz : its.toArray.size = its.length := List.size_toArray ..
  rw [hz]
  refine wpAny_bind (sliceApplied_rev hs ?_)
  show wpAny _ _ (if ((((its.length : Nat) : Int) - 1) == 0 && (-1 : Int) == 1 && its.length == its.length) = true then _ else _) _ _ s
  rw [if_neg (by simp)]
  rw [pick_rev]
  first
    | exact wpAny_bind (m := Builtin.Tuple.tupleExact _) (wpAny_newObj_type (wpAny_pure ⟨_, rfl, wpAny_pure h⟩) htake)
    | exact wpAny_bind (m := Builtin.Tuple.tupleExact _) (wpAny_newObj_type (wpAny_bind (wpAny_pure (wpAny_pure ⟨_, rfl, wpAny_pure h⟩))) htake)
    | exact wpAny_bind (wpAny_bind (m := Builtin.Tuple.tupleExact _) (wpAny_newObj_type (wpAny_pure (wpAny_pure ⟨_, rfl, wpAny_pure h⟩)) htake))
    | exact wpAny_bind (wpAny_bind (m := Builtin.Tuple.tupleExact _) (wpAny_newObj_type (wpAny_pure ⟨_, rfl, wpAny_pure h⟩) htake))
end
def tRev (K : PySem.W.Frag) (te : TE) : TE := fun σ H Q => te σ H fun x H1 => (∃ a xs, x = .ref a ∧ SqL K H1 a xs ∧ ∀ p, H1 p = none → Q (.ref p) (upd H1 p (.lst xs.reverse))) ∨ (∃ a xs, x = .ref a ∧ SqT K H1 a xs ∧ ∀ p, H1 p = none → Q (.ref p) (upd H1 p (.tup xs.reverse)))
theorem pe_rev {X : Cx} {e : Expr} {te : TE} {k : Nat} {p1 p2 p3 pos : Pos} (he : PE X e te) : PE X (.Subscript e (.Slice none none (some (.UnaryOp .USub (.Constant (.int 1) k p1) p2)) p3) pos) (tRev X.K te) := by
  refine ⟨fun pins s σ H Q I h => ?_⟩
  refine Subscript_ (thn (he.run pins s σ H _ I h) fun v s1 ⟨x, H1, I1, r1, q1⟩ => ?_)
  have hst : PO X (some (.UnaryOp .USub (.Constant (.int 1) k p1) p2)) (tPart (tUn (rU fun i => .int (-i)) (tC (.int 1)))) := po_some (pe_un un_neg pe_int)
  refine wpAny_Slice (thn (po_none.run pins s1 σ H1 (fun o H2 => o = none ∧ H2 = H1) I1 ⟨rfl, rfl⟩) fun vl s2 ⟨l, H2, I2, pl, el, e2⟩ => ?_)
  subst el e2
  refine thn (po_none.run pins s2 σ H2 (fun o H3 => o = none ∧ H3 = H2) I2 ⟨rfl, rfl⟩) fun vu s3 ⟨u, H3, I3, pu, eu, e3⟩ => ?_
  subst eu e3
  refine thn (hst.run pins s3 σ H3 (fun o H4 => o = some (-1) ∧ H4 = H3) I3 ⟨1, rfl, -1, rfl, rfl, rfl⟩) fun vs s4 ⟨o, H4, I4, ps, eo, e4⟩ => ?_
  subst eo e4
  have I5 : Inv X pins σ H4 { s4 with heap := s4.heap.push { cls := .type "slice", data := .fields #[vl, vu, vs] } } := I4.kept (t' := s4.toks) fun b ob q => Heap.get?_push_of_some _ q
  rcases q1 with ⟨a, xs, ex, hx, q⟩ | ⟨a, xs, ex, hx, q⟩
  · subst ex
    cases r1
    obtain ⟨its, r, ht, hz⟩ := I5.list hx
    have hlen := r.length
    show wpAny (model X.prog X.w) X.A (subscriptTail e (.Slice none none (some (.UnaryOp .USub (.Constant (.int 1) k p1) p2)) p3) (.ref a) (.ref s4.heap.objs.size)) (EP X pins σ Q) X.xe { s4 with heap := s4.heap.push { cls := .type "slice", data := .fields #[vl, vu, vs] } }
    refine tail_any (ops := [.ref a, .ref s4.heap.objs.size]) ht.isList.typeIs (PySem.slot_list_getitem.lookup) ?_ (by with_unfolding_all rfl)
    refine wpAny_getItem_list_slice ht.isList (Heap.IsSliceOf.new _ vl vu vs) pl pu ps (by decide) ?_ (by rw [List.size_toArray]; omega)
    rw [PySem.W.krv_pick]
    refine ⟨.ref _, _, I5.laid (t' := s4.toks) (o := .lst xs.reverse) (fun b ob q => Heap.get?_push_of_some _ q) (Nat.le_refl _) ?_, rfl, q _ (I5.hok.fresh (Nat.le_refl _))⟩
    exact ⟨by rw [List.length_reverse]; exact hz, _, 0, r.reverse, Heap.get?_push_size _ rfl⟩
  · subst ex
    cases r1
    obtain ⟨its, r, ht, hz⟩ := I5.tuple hx
    have hlen := r.length
    cases pl
    cases pu
    cases ps with
    | int i t =>
    show wpAny (model X.prog X.w) X.A (subscriptTail e (.Slice none none (some (.UnaryOp .USub (.Constant (.int 1) k p1) p2)) p3) (.ref a) (.ref s4.heap.objs.size)) (EP X pins σ Q) X.xe { s4 with heap := s4.heap.push { cls := .type "slice", data := .fields #[.none, .none, .int (-1) t] } }
    refine tail_any (ops := [.ref a, .ref s4.heap.objs.size]) ht.typeIs PyProof.Rows.slot_tuple_getitem.lookup ?_ (by with_unfolding_all rfl)
    refine getItem_tuple_rev ht (Heap.IsSliceOf.new _ .none .none (.int (-1) t)) ?_ (by rw [← hlen]; exact hz)
    refine ⟨.ref _, _, I5.laid (t' := s4.toks) (o := .tup xs.reverse) (fun b ob q => Heap.get?_push_of_some _ q) (Nat.le_refl _) ?_, rfl, q _ (I5.hok.fresh (Nat.le_refl _))⟩
    exact ⟨by rw [List.length_reverse]; exact hz, _, r.reverse, IsTup.new _ _⟩
section
variable {G : Cfg} {C : CallF} {n : Nat} {N : List Str} {sc : Scope} {X : Cx}
theorem se_rev {e : Expr} {a : Ex} {k : Nat} {p1 p2 p3 pos : Pos} (ha : SE X C e a) : SE X C (.Subscript e (.Slice none none (some (.UnaryOp .USub (.Constant (.int 1) k p1) p2)) p3) pos) (.rev a) :=
  .of ((pe_rev ha.l).weak fun σ H Q ⟨ρ, F, r, rel, e, q⟩ => by
    rw [ev] at e
    simp only [Option.bind_eq_some_iff, Option.map_eq_some_iff] at e
    obtain ⟨x, e1, z, hz, rfl⟩ := e
    refine tL_run rel e1 fun v F1 H1 st b => ?_
    unfold revD at hz
    split at hz
    · rename_i xs hx
      cases hz
      rw [hx] at b
      obtain ⟨p, vs, rfl, h1, rl⟩ := b.list st.rel.sub
      refine .inl ⟨p, vs, rfl, SqL.here h1, fun p hp => ?_⟩
      exact new_own st.rel rl.reverse hp fun v F' H' st2 ok => q v F' H' (st.trans st2) (ok.back st)
    · rename_i xs hx
      cases hz
      rw [hx] at b
      obtain ⟨p, vs, rfl, h1, _, rl⟩ := b.tup st.rel.sub
      refine .inr ⟨p, vs, rfl, SqT.here h1, fun p hp => ?_⟩
      exact new_tup st.rel rl.reverse hp fun v F' H' st2 ok => q v F' H' (st.trans st2) (ok.back st)
    · cases hz) rfl
/-! ## list(range(..)) -/
theorem se_lrng1 (g : Gd G C n N sc X) {e1 : Expr} {a : Ex} {p p2 pos pos2 : Pos} (ha : SE X C e1 a) (ns : notStar e1 = true) (hg : glB sc "range" = true) (hb : Str.ofString "range" ∈ G.bn) (hg2 : glB sc "list" = true) (hb2 : Str.ofString "list" ∈ G.bn) :
    SE X C (.Call (.Name "list" p) [.Call (.Name "range" p2) [e1] [] pos2] [] pos) (.lrng (.con a .emp)) :=
  .of ((pe_listRg g.calm (g.glob hg2) (g.bl _ hb2) (prg_1 (g.glob hg) (g.bl _ hb) ha.d (star_cons ns)) rfl).weak fun σ H Q ⟨ρ, F, r, rel, e, q⟩ => by
    rw [ev, evD] at e
    simp only [Option.bind_eq_some_iff, Option.map_eq_some_iff] at e
    obtain ⟨y, ⟨x, e1, y2, e2, rfl⟩, z, hz, rfl⟩ := e
    rw [evD] at e2
    cases e2
    refine ⟨ρ, F, x, rel, e1, fun v F1 H1 st r1 => ?_⟩
    unfold rngD at hz
    split at hz
    · rename_i j hj
      split at hz
      · rename_i hc
        cases hz
        simp only [Bool.and_eq_true, decide_eq_true_eq] at hc
        have h1 := inR_iff hc.1
        have hx : x.1 = .int j := by simpa using hj
        rw [hx] at r1
        cases r1
        refine ⟨j, rfl, ⟨by omega, by omega, by omega, by omega, by omega⟩, fun p hp => ?_⟩
        rw [rng_eq] at q
        refine new_own st.rel (xs := (List.range (j - 0).toNat).map fun i => PyData.int (0 + (i : Nat))) ?_ hp fun v F' H' st2 ok => q v F' H' (st.trans st2) (ok.back st)
        unfold rgV
        have := RL.ofInts (F := F1) ((List.range (j - 0).toNat).map fun i => (0 + (i : Nat) : Int))
        simpa [List.map_map, Function.comp_def] using this
      · cases hz
    · rename_i h; simp at h
    · rename_i h; simp at h
    · cases hz) rfl
theorem se_lrng2 (g : Gd G C n N sc X) {e1 e2 : Expr} {a b : Ex} {p p2 pos pos2 : Pos} (ha : SE X C e1 a) (hb1 : SE X C e2 b) (ns : notStar e1 = true) (ns2 : notStar e2 = true) (hg : glB sc "range" = true) (hb : Str.ofString "range" ∈ G.bn) (hg2 : glB sc "list" = true) (hb2 : Str.ofString "list" ∈ G.bn) :
    SE X C (.Call (.Name "list" p) [.Call (.Name "range" p2) [e1, e2] [] pos2] [] pos) (.lrng (.con a (.con b .emp))) :=
  .of ((pe_listRg g.calm (g.glob hg2) (g.bl _ hb2) (prg_2 (g.glob hg) (g.bl _ hb) ha.d hb1.d (star_cons ns) (star_cons ns2) (any_star fun e he => by rw [List.mem_singleton.mp he]; exact ns2)) rfl).weak fun σ H Q ⟨ρ, F, r, rel, e, q⟩ => by
    rw [ev, evD] at e
    simp only [Option.bind_eq_some_iff, Option.map_eq_some_iff] at e
    obtain ⟨y, ⟨x, e1, y2, e2, rfl⟩, z, hz, rfl⟩ := e
    rw [evD] at e2
    simp only [Option.bind_eq_some_iff, Option.map_eq_some_iff] at e2
    obtain ⟨u, e3, y3, e4, rfl⟩ := e2
    rw [evD] at e4
    cases e4
    refine ⟨ρ, F, x, rel, e1, fun v F1 H1 st r1 => ⟨x.2, F1, u, st.rel, e3, fun v2 F2 H2 st2 r2 => ?_⟩⟩
    unfold rngD at hz
    split at hz
    · rename_i h; simp at h
    · rename_i i j hj
      split at hz
      · rename_i hc
        cases hz
        simp only [Bool.and_eq_true, decide_eq_true_eq] at hc
        have h1 := inR_iff hc.1.1
        have h2 := inR_iff hc.1.2
        have hx : x.1 = .int i ∧ u.1 = .int j := by simpa using hj
        rw [hx.1] at r1
        rw [hx.2] at r2
        cases r1
        cases r2
        refine ⟨i, j, rfl, rfl, ⟨by omega, by omega, by omega, by omega, by omega⟩, fun p hp => ?_⟩
        rw [rng_eq] at q
        refine new_own st2.rel (xs := (List.range (j - i).toNat).map fun k => PyData.int (i + (k : Nat))) ?_ hp fun v F' H' st3 ok => q v F' H' ((st.trans st2).trans st3) (ok.back (st.trans st2))
        unfold rgV
        have := RL.ofInts (F := F2) ((List.range (j - i).toNat).map fun k => (i + (k : Nat) : Int))
        simpa [List.map_map, Function.comp_def] using this
      · cases hz
    · rename_i h; simp at h
    · cases hz) rfl
end
end Mn

namespace Mn
open PySem PySem.Spec PyProof.Rows L2

/-! ## the checker: this mini text is that def's text -/
def okNm (x : Str) : Bool := !(x == ("__debug__" : Str)) && !(x == ("__classdict__" : Str))
def chkV (N : List Str) (sc : Scope) (k : Nat) : Expr → Bool
  | .Name x _ => decide (N[k]? = some x) && visB sc x && okNm x
  | _ => false
def chkC : D → Const → Bool
  | .none, .none => true
  | .bool a, .bool b => decide (a = b)
  | .int i, .int j => decide (i = j)
  | .str x, .str y => decide (x = y) && PyData.strOk x && decide (x.length ≤ 16777216)
  | _, _ => false
def sameC : D → D → Bool
  | .none, .none => true
  | .bool a, .bool b => decide (a = b)
  | .int i, .int j => decide (i = j)
  | .str x, .str y => decide (x = y)
  | _, _ => false
def glob (G : Cfg) (sc : Scope) (x : Str) : Bool := glB sc x && decide (x ∈ G.bn)
mutual
def chkG (N : List Str) : Tg → Scope → Expr → Bool
  | .nm i, sc, .Name x _ => decide (N[i]? = some x) && locB sc x
  | .nil, _, .Tuple [] _ _ => true
  | .cons a b, sc, .Tuple (e :: es) _ _ => tgE e && chkG N a sc e && chkGs N b sc es
  | _, _, _ => false
def chkGs (N : List Str) : Tg → Scope → List Expr → Bool
  | .nil, _, [] => true
  | .cons a b, sc, e :: es => tgE e && chkG N a sc e && chkGs N b sc es
  | _, _, _ => false
end
def tgInB (vs : List Nat) : Tg → Bool
  | .nm i => vs.contains i
  | .nil => true
  | .cons a b => tgInB vs a && tgInB vs b
def plainT : Expr → Bool
  | .UnaryOp _ _ _ => false
  | .BoolOp _ _ _ => false
  | .IfExp _ _ _ _ => false
  | .Compare _ _ _ _ => false
  | _ => true
def ownOf (N : List Str) (own : List Nat) : List (Str × Nat) := own.map fun i => (N.getD i Str.empty, i)
def lineOk (a c : Pos) : Bool := a.endLine == c.line
mutual
def chkE (G : Cfg) (N : List Str) : Ex → Scope → Expr → Bool
  | .var k, sc, e => chkV N sc k e
  | .cst v, _, e => (match e with | .Constant c _ _ => chkC v c | _ => false)
  | .glb x v, sc, e => (match e with | .Name y _ => decide (y = x) && glB sc x && okNm x && G.cs.any (fun p => decide (p.1 = x) && sameC p.2 v) | _ => false)
  | .bin op a b, sc, e => (match e with | .BinOp l o r _ => decide (o = op) && chkE G N a sc l && chkE G N b sc r | _ => false)
  | .neg a, sc, e => (match e with | .UnaryOp .USub x _ => chkE G N a sc x | _ => false)
  | .cmp op a b, sc, e => (match e with | .Compare l [o] [r] _ => decide (o = op) && !behindInMarks op r && chkE G N a sc l && chkE G N b sc r | _ => false)
  | .cmp2 o1 o2 a b c, sc, e => (match e with | .Compare l [p1, p2] [m, r] _ => decide (p1 = o1) && decide (p2 = o2) && !lastMarks [o1, o2] [m, r] && chkE G N a sc l && chkE G N b sc m && chkE G N c sc r | _ => false)
  | .and a b, sc, e => (match e with
    | .BoolOp .And [e1, e2] _ => chkE G N a sc e1 && chkE G N b sc e2
    | .BoolOp .And (e1 :: e2 :: e3 :: es) p => chkE G N a sc e1 && chkE G N b sc (.BoolOp .And (e2 :: e3 :: es) p)
    | _ => false)
  | .or a b, sc, e => (match e with
    | .BoolOp .Or [e1, e2] _ => chkE G N a sc e1 && chkE G N b sc e2
    | .BoolOp .Or (e1 :: e2 :: e3 :: es) p => chkE G N a sc e1 && chkE G N b sc (.BoolOp .Or (e2 :: e3 :: es) p)
    | _ => false)
  | .not a, sc, e => (match e with | .UnaryOp .Not x _ => chkE G N a sc x | _ => false)
  | .ife t a b, sc, e => (match e with | .IfExp c x y _ => chkT G N t sc c && chkE G N a sc x && chkE G N b sc y | _ => false)
  | .ix a i, sc, e => (match e with | .Subscript x y _ => notSl y && chkE G N a sc x && chkE G N i sc y | _ => false)
  | .slc a lo hi, sc, e => (match e with | .Subscript x (.Slice l h none _) _ => chkE G N a sc x && chkO G N lo sc l && chkO G N hi sc h | _ => false)
  | .rev a, sc, e => (match e with | .Subscript x (.Slice none none (some (.UnaryOp .USub (.Constant (.int 1) _ _) _)) _) _ => chkE G N a sc x | _ => false)
  | .tup args, sc, e => (match e with | .Tuple es _ _ => chkD G N args sc es | _ => false)
  | .lst args, sc, e => (match e with | .List es _ => chkD G N args sc es | _ => false)
  | .call f args, sc, e => (match e with | .Call (.Name x _) (e1 :: es) [] _ => decide (x = G.nm f) && glB sc (G.nm f) && okNm (G.nm f) && (e1 :: es).all notStar && chkA G N args sc (e1 :: es) | _ => false)
  | .callo f k args, sc, e => (match e with | .Call (.Name x _) (e1 :: es) [] _ => decide (x = G.nm f) && glB sc (G.nm f) && okNm (G.nm f) && (e1 :: es).all notStar && chkV N sc k e1 && chkA G N args sc es | _ => false)
  | .bi1 b a, sc, e => (match e with | .Call (.Name x _) [e1] [] _ => decide ((match biFn b, biTy b with | some x, _ => some x | none, y => y).map Str.ofString = some x) && decide (b ≠ .min2 ∧ b ≠ .max2) && (decide (b ≠ .sorted) || G.srt) && glob G sc x && notStar e1 && chkE G N a sc e1 | _ => false)
  | .bi2 b a c, sc, e => (match e with | .Call (.Name x _) [e1, e2] [] _ => decide ((b = .min2 ∧ x = "min") ∨ (b = .max2 ∧ x = "max")) && glob G sc x && notStar e1 && notStar e2 && chkE G N a sc e1 && chkE G N c sc e2 | _ => false)
  | .isT a ts tup, sc, e => (match ts, tup, e with
    | [t], false, .Call (.Name x _) [e1, .Name y _] [] _ => decide (x = "isinstance") && glob G sc x && decide (y = Str.ofString t.nm) && glob G sc y && notStar e1 && chkE G N a sc e1
    | [t, u], true, .Call (.Name x _) [e1, .Tuple [.Name y _, .Name z _] _ _] [] _ => decide (x = "isinstance") && glob G sc x && decide (y = Str.ofString t.nm) && glob G sc y && decide (z = Str.ofString u.nm) && glob G sc z && notStar e1 && chkE G N a sc e1
    | _, _, _ => false)
  | .lscr k, sc, e => (match e with | .Call (.Name x _) [e1] [] _ => decide (x = "list") && glob G sc x && notStar e1 && chkV N sc k e1 | _ => false)
  | .lrng args, sc, e => (match args with
    | .con a .emp => (match e with | .Call (.Name x _) [.Call (.Name y _) [e1] [] _] [] _ => decide (x = "list") && glob G sc x && decide (y = "range") && glob G sc y && notStar e1 && chkE G N a sc e1 | _ => false)
    | .con a (.con b .emp) => (match e with | .Call (.Name x _) [.Call (.Name y _) [e1, e2] [] _] [] _ => decide (x = "list") && glob G sc x && decide (y = "range") && glob G sc y && notStar e1 && notStar e2 && chkE G N a sc e1 && chkE G N b sc e2 | _ => false)
    | _ => false)
  | .join s a, sc, e => (match e with | .Call (.Attribute o m ap) [e1] [] cp => decide (m = "join") && notStar e1 && notCall o && lineOk ap cp && chkE G N s sc o && chkE G N a sc e1 | _ => false)
  | .split s a, sc, e => (match e with | .Call (.Attribute o m ap) [e1] [] cp => decide (m = "split") && notStar e1 && notCall o && lineOk ap cp && chkE G N s sc o && chkE G N a sc e1 | _ => false)
  | .index k a, sc, e => (match e with | .Call (.Attribute o m ap) [e1] [] cp => decide (m = "index") && notStar e1 && notCall o && lineOk ap cp && chkV N sc k o && chkE G N a sc e1 | _ => false)
  | .popAt k a, sc, e => (match e with | .Call (.Attribute o m ap) [e1] [] cp => decide (m = "pop") && notStar e1 && notCall o && lineOk ap cp && chkV N sc k o && chkE G N a sc e1 | _ => false)
  | .pop k, sc, e => (match e with | .Call (.Attribute o m ap) [] [] cp => decide (m = "pop") && notCall o && lineOk ap cp && chkV N sc k o | _ => false)
  | .dnew, _, e => (match e with | .Dict [] [] _ => true | _ => false)
  | .dget k a, sc, e => (match e with | .Subscript o i _ => notSl i && chkV N sc k o && chkE G N a sc i | _ => false)
  | .din neg a k, sc, e => (match e with | .Compare l [o] [r] _ => decide (o = if neg then .NotIn else .In) && !behindInMarks (if neg then .NotIn else .In) r && chkV N sc k r && chkE G N a sc l | _ => false)
  | .ddef k a b, sc, e => (match e with | .Call (.Attribute o m ap) [e1, e2] [] cp => decide (m = "get") && notStar e1 && notStar e2 && notCall o && lineOk ap cp && chkV N sc k o && chkE G N a sc e1 && chkE G N b sc e2 | _ => false)
  | .fst args, sc, e => (match e with | .JoinedStr (e1 :: e2 :: es) _ => chkF G N args sc (e1 :: e2 :: es) | _ => false)
  | .fmt a, sc, e => (match e with | .FormattedValue e1 (-1) none _ => chkE G N a sc e1 | _ => false)
  | .comp own tg it cond elt, sc, e => (match e with
    | .ListComp el [⟨tgx, iter, ifs, 0⟩] scope _ => blkC N sc scope (ownOf N own) && tgInB own tg && chkG N tg scope tgx && notSet iter && chkI G N it sc tgx iter && chkQ G N cond scope ifs && chkE G N elt scope el
    | _ => false)
  | .emp, _, _ => false
  | .con _ _, _, _ => false
  | .str _ _, _, _ => false
  | .dvals kd i j, sc, e => (match e with | .ListComp (.Name vx p3) [⟨.Tuple [.Name kx p1, .Name vx2 p2] kk tp, .Call (.Attribute o m ap) [] [] cp, [], 0⟩] scope _ => decide (vx2 = vx) && decide (m = "items") && notCall o && lineOk ap cp && chkV N sc kd o && blkC N sc scope [(kx, i), (vx, j)] && decide (N[i]? = some kx) && decide (N[j]? = some vx) && decide (i ≠ j) && locB scope kx && locB scope vx && chkV N scope j (.Name vx p3) | _ => false)
  | .dnewT, _, e => (match e with | .Dict [] [] _ => true | _ => false)
  | .dkT kd j, sc, e => (match e with | .ListComp (.Name rx p3) [⟨.Name rx1 p1, o, [.Compare (.Name rx2 p2) [.NotEq] [.Tuple [] kk tp] cp], 0⟩] scope _ => decide (rx1 = rx) && decide (rx2 = rx) && chkV N sc kd o && blkC N sc scope [(rx, j)] && decide (N[j]? = some rx) && locB scope rx && chkV N scope j (.Name rx p2) && chkV N scope j (.Name rx p3) | _ => false)
  | .sset _, _, _ => false
  | .srts a, sc, e => (match e with | .Call (.Name x _) [e1] [] _ => decide (x = "sorted") && G.srt && glob G sc x && notStar e1 && chkE G N a sc e1 | _ => false)
  | .fmt2 a, sc, e => (match e with | .FormattedValue e1 (-1) (some (.JoinedStr [.Constant (.str z) _ _] _)) _ => decide (z = "02") && G.f2 && chkE G N a sc e1 | _ => false)
  | .one _, _, _ => false
  | .rng _, _, _ => false
  | .enu _, _, _ => false
  | .zip _ _, _, _ => false
def chkT (G : Cfg) (N : List Str) : Ex → Scope → Expr → Bool
  | .cmp op a b, sc, e => (match e with | .Compare l [o] [r] _ => decide (o = op) && !behindInMarks op r && chkE G N a sc l && chkE G N b sc r | _ => false)
  | .cmp2 o1 o2 a b c, sc, e => (match e with | .Compare l [p1, p2] [m, r] _ => decide (p1 = o1) && decide (p2 = o2) && !lastMarks [o1, o2] [m, r] && chkE G N a sc l && chkE G N b sc m && chkE G N c sc r | _ => false)
  | .and a b, sc, e => (match e with
    | .BoolOp .And [e1, e2] _ => chkT G N a sc e1 && chkT G N b sc e2
    | .BoolOp .And (e1 :: e2 :: e3 :: es) p => chkT G N a sc e1 && chkT G N b sc (.BoolOp .And (e2 :: e3 :: es) p)
    | _ => false)
  | .or a b, sc, e => (match e with
    | .BoolOp .Or [e1, e2] _ => chkT G N a sc e1 && chkT G N b sc e2
    | .BoolOp .Or (e1 :: e2 :: e3 :: es) p => chkT G N a sc e1 && chkT G N b sc (.BoolOp .Or (e2 :: e3 :: es) p)
    | _ => false)
  | .not a, sc, e => (match e with | .UnaryOp .Not x _ => chkT G N a sc x | _ => false)
  | .din neg a k, sc, e => (match e with | .Compare l [o] [r] _ => decide (o = if neg then .NotIn else .In) && !behindInMarks (if neg then .NotIn else .In) r && chkV N sc k r && chkE G N a sc l | _ => false)
  | .var k, sc, e => plainT e && chkV N sc k e
  | .cst v, _, e => plainT e && (match e with | .Constant c _ _ => chkC v c | _ => false)
  | .call f args, sc, e => (match e with | .Call (.Name x _) (e1 :: es) [] _ => decide (x = G.nm f) && glB sc (G.nm f) && okNm (G.nm f) && (e1 :: es).all notStar && chkA G N args sc (e1 :: es) | _ => false)
  | .callo f k args, sc, e => (match e with | .Call (.Name x _) (e1 :: es) [] _ => decide (x = G.nm f) && glB sc (G.nm f) && okNm (G.nm f) && (e1 :: es).all notStar && chkV N sc k e1 && chkA G N args sc es | _ => false)
  | .bi1 b a, sc, e => (match e with | .Call (.Name x _) [e1] [] _ => decide ((match biFn b, biTy b with | some x, _ => some x | none, y => y).map Str.ofString = some x) && decide (b ≠ .min2 ∧ b ≠ .max2) && (decide (b ≠ .sorted) || G.srt) && glob G sc x && notStar e1 && chkE G N a sc e1 | _ => false)
  | .isT a ts tup, sc, e => (match ts, tup, e with
    | [t], false, .Call (.Name x _) [e1, .Name y _] [] _ => decide (x = "isinstance") && glob G sc x && decide (y = Str.ofString t.nm) && glob G sc y && notStar e1 && chkE G N a sc e1
    | [t, u], true, .Call (.Name x _) [e1, .Tuple [.Name y _, .Name z _] _ _] [] _ => decide (x = "isinstance") && glob G sc x && decide (y = Str.ofString t.nm) && glob G sc y && decide (z = Str.ofString u.nm) && glob G sc z && notStar e1 && chkE G N a sc e1
    | _, _, _ => false)
  | .ix a i, sc, e => (match e with | .Subscript x y _ => notSl y && chkE G N a sc x && chkE G N i sc y | _ => false)
  | .glb _ _, _, _ => false
  | .bin _ _ _, _, _ => false
  | .neg _, _, _ => false
  | .ife _ _ _, _, _ => false
  | .slc _ _ _, _, _ => false
  | .rev _, _, _ => false
  | .tup _, _, _ => false
  | .lst _, _, _ => false
  | .emp, _, _ => false
  | .con _ _, _, _ => false
  | .str _ _, _, _ => false
  | .bi2 _ _ _, _, _ => false
  | .lscr _, _, _ => false
  | .lrng _, _, _ => false
  | .join _ _, _, _ => false
  | .split _ _, _, _ => false
  | .index _ _, _, _ => false
  | .popAt _ _, _, _ => false
  | .pop _, _, _ => false
  | .dnew, _, _ => false
  | .dget _ _, _, _ => false
  | .ddef _ _ _, _, _ => false
  | .dvals _ _ _, _, _ => false
  | .dnewT, _, _ => false
  | .dkT _ _, _, _ => false
  | .sset _, _, _ => false
  | .srts _, _, _ => false
  | .fst _, _, _ => false
  | .fmt _, _, _ => false
  | .fmt2 _, _, _ => false
  | .comp _ _ _ _ _, _, _ => false
  | .one _, _, _ => false
  | .rng _, _, _ => false
  | .enu _, _, _ => false
  | .zip _ _, _, _ => false
def chkO (G : Cfg) (N : List Str) : Ex → Scope → Option Expr → Bool
  | .emp, _, e => (match e with | none => true | _ => false)
  | .one a, sc, e => (match e with | some e => chkE G N a sc e | _ => false)
  | .var _, _, _ => false
  | .cst _, _, _ => false
  | .glb _ _, _, _ => false
  | .bin _ _ _, _, _ => false
  | .neg _, _, _ => false
  | .cmp _ _ _, _, _ => false
  | .cmp2 _ _ _ _ _, _, _ => false
  | .and _ _, _, _ => false
  | .or _ _, _, _ => false
  | .not _, _, _ => false
  | .ife _ _ _, _, _ => false
  | .ix _ _, _, _ => false
  | .slc _ _ _, _, _ => false
  | .rev _, _, _ => false
  | .tup _, _, _ => false
  | .lst _, _, _ => false
  | .con _ _, _, _ => false
  | .str _ _, _, _ => false
  | .call _ _, _, _ => false
  | .callo _ _ _, _, _ => false
  | .bi1 _ _, _, _ => false
  | .bi2 _ _ _, _, _ => false
  | .isT _ _ _, _, _ => false
  | .lscr _, _, _ => false
  | .lrng _, _, _ => false
  | .join _ _, _, _ => false
  | .split _ _, _, _ => false
  | .index _ _, _, _ => false
  | .popAt _ _, _, _ => false
  | .pop _, _, _ => false
  | .dnew, _, _ => false
  | .dget _ _, _, _ => false
  | .din _ _ _, _, _ => false
  | .ddef _ _ _, _, _ => false
  | .dvals _ _ _, _, _ => false
  | .dnewT, _, _ => false
  | .dkT _ _, _, _ => false
  | .sset _, _, _ => false
  | .srts _, _, _ => false
  | .fst _, _, _ => false
  | .fmt _, _, _ => false
  | .fmt2 _, _, _ => false
  | .comp _ _ _ _ _, _, _ => false
  | .rng _, _, _ => false
  | .enu _, _, _ => false
  | .zip _ _, _, _ => false
def chkQ (G : Cfg) (N : List Str) : Ex → Scope → List Expr → Bool
  | .emp, _, es => (match es with | [] => true | _ => false)
  | .one a, sc, es => (match es with | [e] => chkT G N a sc e | _ => false)
  | .var _, _, _ => false
  | .cst _, _, _ => false
  | .glb _ _, _, _ => false
  | .bin _ _ _, _, _ => false
  | .neg _, _, _ => false
  | .cmp _ _ _, _, _ => false
  | .cmp2 _ _ _ _ _, _, _ => false
  | .and _ _, _, _ => false
  | .or _ _, _, _ => false
  | .not _, _, _ => false
  | .ife _ _ _, _, _ => false
  | .ix _ _, _, _ => false
  | .slc _ _ _, _, _ => false
  | .rev _, _, _ => false
  | .tup _, _, _ => false
  | .lst _, _, _ => false
  | .con _ _, _, _ => false
  | .str _ _, _, _ => false
  | .call _ _, _, _ => false
  | .callo _ _ _, _, _ => false
  | .bi1 _ _, _, _ => false
  | .bi2 _ _ _, _, _ => false
  | .isT _ _ _, _, _ => false
  | .lscr _, _, _ => false
  | .lrng _, _, _ => false
  | .join _ _, _, _ => false
  | .split _ _, _, _ => false
  | .index _ _, _, _ => false
  | .popAt _ _, _, _ => false
  | .pop _, _, _ => false
  | .dnew, _, _ => false
  | .dget _ _, _, _ => false
  | .din _ _ _, _, _ => false
  | .ddef _ _ _, _, _ => false
  | .dvals _ _ _, _, _ => false
  | .dnewT, _, _ => false
  | .dkT _ _, _, _ => false
  | .sset _, _, _ => false
  | .srts _, _, _ => false
  | .fst _, _, _ => false
  | .fmt _, _, _ => false
  | .fmt2 _, _, _ => false
  | .comp _ _ _ _ _, _, _ => false
  | .rng _, _, _ => false
  | .enu _, _, _ => false
  | .zip _ _, _, _ => false
def chkD (G : Cfg) (N : List Str) : Ex → Scope → List Expr → Bool
  | .emp, _, es => (match es with | [] => true | _ => false)
  | .con a r, sc, es => (match es with | e :: es => notStar e && chkE G N a sc e && chkD G N r sc es | _ => false)
  | .str a r, sc, es => (match es with | .Starred e _ :: es => chkE G N a sc e && chkD G N r sc es | _ => false)
  | .var _, _, _ => false
  | .cst _, _, _ => false
  | .glb _ _, _, _ => false
  | .bin _ _ _, _, _ => false
  | .neg _, _, _ => false
  | .cmp _ _ _, _, _ => false
  | .cmp2 _ _ _ _ _, _, _ => false
  | .and _ _, _, _ => false
  | .or _ _, _, _ => false
  | .not _, _, _ => false
  | .ife _ _ _, _, _ => false
  | .ix _ _, _, _ => false
  | .slc _ _ _, _, _ => false
  | .rev _, _, _ => false
  | .tup _, _, _ => false
  | .lst _, _, _ => false
  | .call _ _, _, _ => false
  | .callo _ _ _, _, _ => false
  | .bi1 _ _, _, _ => false
  | .bi2 _ _ _, _, _ => false
  | .isT _ _ _, _, _ => false
  | .lscr _, _, _ => false
  | .lrng _, _, _ => false
  | .join _ _, _, _ => false
  | .split _ _, _, _ => false
  | .index _ _, _, _ => false
  | .popAt _ _, _, _ => false
  | .pop _, _, _ => false
  | .dnew, _, _ => false
  | .dget _ _, _, _ => false
  | .din _ _ _, _, _ => false
  | .ddef _ _ _, _, _ => false
  | .dvals _ _ _, _, _ => false
  | .dnewT, _, _ => false
  | .dkT _ _, _, _ => false
  | .sset _, _, _ => false
  | .srts _, _, _ => false
  | .fst _, _, _ => false
  | .fmt _, _, _ => false
  | .fmt2 _, _, _ => false
  | .comp _ _ _ _ _, _, _ => false
  | .one _, _, _ => false
  | .rng _, _, _ => false
  | .enu _, _, _ => false
  | .zip _ _, _, _ => false
def chkF (G : Cfg) (N : List Str) : Ex → Scope → List Expr → Bool
  | .emp, _, es => (match es with | [] => true | _ => false)
  | .con a r, sc, es => (match es with | e :: es => chkE G N a sc e && chkF G N r sc es | _ => false)
  | .var _, _, _ => false
  | .cst _, _, _ => false
  | .glb _ _, _, _ => false
  | .bin _ _ _, _, _ => false
  | .neg _, _, _ => false
  | .cmp _ _ _, _, _ => false
  | .cmp2 _ _ _ _ _, _, _ => false
  | .and _ _, _, _ => false
  | .or _ _, _, _ => false
  | .not _, _, _ => false
  | .ife _ _ _, _, _ => false
  | .ix _ _, _, _ => false
  | .slc _ _ _, _, _ => false
  | .rev _, _, _ => false
  | .tup _, _, _ => false
  | .lst _, _, _ => false
  | .str _ _, _, _ => false
  | .call _ _, _, _ => false
  | .callo _ _ _, _, _ => false
  | .bi1 _ _, _, _ => false
  | .bi2 _ _ _, _, _ => false
  | .isT _ _ _, _, _ => false
  | .lscr _, _, _ => false
  | .lrng _, _, _ => false
  | .join _ _, _, _ => false
  | .split _ _, _, _ => false
  | .index _ _, _, _ => false
  | .popAt _ _, _, _ => false
  | .pop _, _, _ => false
  | .dnew, _, _ => false
  | .dget _ _, _, _ => false
  | .din _ _ _, _, _ => false
  | .ddef _ _ _, _, _ => false
  | .dvals _ _ _, _, _ => false
  | .dnewT, _, _ => false
  | .dkT _ _, _, _ => false
  | .sset _, _, _ => false
  | .srts _, _, _ => false
  | .fst _, _, _ => false
  | .fmt _, _, _ => false
  | .fmt2 _, _, _ => false
  | .comp _ _ _ _ _, _, _ => false
  | .one _, _, _ => false
  | .rng _, _, _ => false
  | .enu _, _, _ => false
  | .zip _ _, _, _ => false
def chkA (G : Cfg) (N : List Str) : Ex → Scope → List Expr → Bool
  | .emp, _, es => (match es with | [] => true | _ => false)
  | .con a r, sc, es => (match es with | e :: es => notStar e && chkE G N a sc e && chkA G N r sc es | _ => false)
  | .var _, _, _ => false
  | .cst _, _, _ => false
  | .glb _ _, _, _ => false
  | .bin _ _ _, _, _ => false
  | .neg _, _, _ => false
  | .cmp _ _ _, _, _ => false
  | .cmp2 _ _ _ _ _, _, _ => false
  | .and _ _, _, _ => false
  | .or _ _, _, _ => false
  | .not _, _, _ => false
  | .ife _ _ _, _, _ => false
  | .ix _ _, _, _ => false
  | .slc _ _ _, _, _ => false
  | .rev _, _, _ => false
  | .tup _, _, _ => false
  | .lst _, _, _ => false
  | .str _ _, _, _ => false
  | .call _ _, _, _ => false
  | .callo _ _ _, _, _ => false
  | .bi1 _ _, _, _ => false
  | .bi2 _ _ _, _, _ => false
  | .isT _ _ _, _, _ => false
  | .lscr _, _, _ => false
  | .lrng _, _, _ => false
  | .join _ _, _, _ => false
  | .split _ _, _, _ => false
  | .index _ _, _, _ => false
  | .popAt _ _, _, _ => false
  | .pop _, _, _ => false
  | .dnew, _, _ => false
  | .dget _ _, _, _ => false
  | .din _ _ _, _, _ => false
  | .ddef _ _ _, _, _ => false
  | .dvals _ _ _, _, _ => false
  | .dnewT, _, _ => false
  | .dkT _ _, _, _ => false
  | .sset _, _, _ => false
  | .srts _, _, _ => false
  | .fst _, _, _ => false
  | .fmt _, _, _ => false
  | .fmt2 _, _, _ => false
  | .comp _ _ _ _ _, _, _ => false
  | .one _, _, _ => false
  | .rng _, _, _ => false
  | .enu _, _, _ => false
  | .zip _ _, _, _ => false
def chkI (G : Cfg) (N : List Str) : Ex → Scope → Expr → Expr → Bool
  | .one a, sc, _, e => chkE G N a sc e
  | .rng args, sc, _, e => (match args with
    | .con a .emp => (match e with | .Call (.Name x _) [e1] [] _ => decide (x = "range") && glob G sc x && notStar e1 && chkE G N a sc e1 | _ => false)
    | .con a (.con b .emp) => (match e with | .Call (.Name x _) [e1, e2] [] _ => decide (x = "range") && glob G sc x && notStar e1 && notStar e2 && chkE G N a sc e1 && chkE G N b sc e2 | _ => false)
    | .con a (.con b (.con c .emp)) => (match e with | .Call (.Name x _) [e1, e2, e3] [] _ => decide (x = "range") && glob G sc x && notStar e1 && notStar e2 && notStar e3 && chkE G N a sc e1 && chkE G N b sc e2 && chkE G N c sc e3 | _ => false)
    | _ => false)
  | .enu a, sc, tgx, e => (match tgx, e with | .Tuple _ _ _, .Call (.Name x _) [e1] [] _ => decide (x = "enumerate") && glob G sc x && notStar e1 && chkE G N a sc e1 | _, _ => false)
  | .zip a b, sc, tgx, e => (match tgx, e with | .Tuple _ _ _, .Call (.Name x _) [e1, e2] [] _ => decide (x = "zip") && glob G sc x && notStar e1 && notStar e2 && chkE G N a sc e1 && chkE G N b sc e2 | _, _ => false)
  | .var _, _, _, _ => false
  | .cst _, _, _, _ => false
  | .glb _ _, _, _, _ => false
  | .bin _ _ _, _, _, _ => false
  | .neg _, _, _, _ => false
  | .cmp _ _ _, _, _, _ => false
  | .cmp2 _ _ _ _ _, _, _, _ => false
  | .and _ _, _, _, _ => false
  | .or _ _, _, _, _ => false
  | .not _, _, _, _ => false
  | .ife _ _ _, _, _, _ => false
  | .ix _ _, _, _, _ => false
  | .slc _ _ _, _, _, _ => false
  | .rev _, _, _, _ => false
  | .tup _, _, _, _ => false
  | .lst _, _, _, _ => false
  | .emp, _, _, _ => false
  | .con _ _, _, _, _ => false
  | .str _ _, _, _, _ => false
  | .call _ _, _, _, _ => false
  | .callo _ _ _, _, _, _ => false
  | .bi1 _ _, _, _, _ => false
  | .bi2 _ _ _, _, _, _ => false
  | .isT _ _ _, _, _, _ => false
  | .lscr _, _, _, _ => false
  | .lrng _, _, _, _ => false
  | .join _ _, _, _, _ => false
  | .split _ _, _, _, _ => false
  | .index _ _, _, _, _ => false
  | .popAt _ _, _, _, _ => false
  | .pop _, _, _, _ => false
  | .dnew, _, _, _ => false
  | .dget _ _, _, _, _ => false
  | .din _ _ _, _, _, _ => false
  | .ddef _ _ _, _, _, _ => false
  | .dvals _ _ _, _, _, _ => false
  | .dnewT, _, _, _ => false
  | .dkT _ _, _, _, _ => false
  | .sset _, _, _, _ => false
  | .srts _, _, _, _ => false
  | .fst _, _, _, _ => false
  | .fmt _, _, _, _ => false
  | .fmt2 _, _, _, _ => false
  | .comp _ _ _ _ _, _, _, _ => false
end
end Mn

namespace Mn
open PySem PySem.Spec PyProof.Rows L2
section
variable {G : Cfg} {C : CallF} {n : Nat} {N : List Str}
theorem chkV_name {sc : Scope} {k : Nat} {e : Expr} (h : chkV N sc k e = true) : ∃ x p, e = .Name x p ∧ N[k]? = some x ∧ visB sc x = true ∧ (x == ("__debug__" : Str)) = false ∧ (x == ("__classdict__" : Str)) = false := by
  unfold chkV at h
  split at h
  · rename_i x p
    unfold okNm at h
    simp only [Bool.and_eq_true, decide_eq_true_eq, Bool.not_eq_true'] at h
    exact ⟨x, p, rfl, h.1.1, h.1.2, h.2.1, h.2.2⟩
  · cases h
theorem chkV_se {sc : Scope} {X : Cx} (g : Gd G C n N sc X) {k : Nat} {e : Expr} (h : chkV N sc k e = true) : SE X C e (.var k) := by
  obtain ⟨x, p, rfl, h1, h2, h3, h4⟩ := chkV_name h
  exact se_var g h1 h2 h3 h4
theorem chkV_pe {sc : Scope} {X : Cx} (g : Gd G C n N sc X) {k : Nat} {e : Expr} (h : chkV N sc k e = true) : PE X e (tVar k) := (chkV_se g h).l
theorem chkV_call {sc : Scope} {k : Nat} {e : Expr} (h : chkV N sc k e = true) : notCall e = true ∧ notStar e = true ∧ plainT e = true ∧ (∀ op, behindInMarks op e = false) := by
  obtain ⟨x, p, rfl, _⟩ := chkV_name h
  exact ⟨rfl, rfl, rfl, fun _ => rfl⟩
theorem okNm_d {x : Str} (h : okNm x = true) : (x == ("__debug__" : Str)) = false := by
  unfold okNm at h
  simp only [Bool.and_eq_true, Bool.not_eq_true'] at h
  exact h.1
theorem sameC_eq {a b : D} (h : sameC a b = true) : a = b := by
  unfold sameC at h
  split at h
  · rfl
  · simp at h; rw [h]
  · simp at h; rw [h]
  · simp at h; rw [h]
  · cases h
theorem chkC_se {sc : Scope} {X : Cx} {v : D} {c : Const} {j : Nat} {p : Pos} (h : chkC v c = true) : SE X C (.Constant c j p) (.cst v) := by
  unfold chkC at h
  split at h
  · exact se_c pe_non (fun ρ => by rw [ev]) (fun F => .non) rfl
  · simp at h; subst h
    exact se_c pe_bl (fun ρ => by rw [ev]) (fun F => .bl _) rfl
  · simp at h; subst h
    exact se_c pe_int (fun ρ => by rw [ev]) (fun F => .int _) rfl
  · simp only [Bool.and_eq_true, decide_eq_true_eq] at h
    obtain ⟨⟨rfl, h2⟩, h3⟩ := h
    exact se_c pe_str (fun ρ => by rw [ev]) (fun F => .str _ h2 h3) rfl
  · cases h
theorem glob_ok {sc : Scope} {x : Str} (h : glob G sc x = true) : glB sc x = true ∧ x ∈ G.bn := by
  unfold glob at h
  simpa using h
mutual
theorem chkG_pg {sc : Scope} {X : Cx} (g : Gd G C n N sc X) : ∀ (tg : Tg) (e : Expr), chkG N tg sc e = true → PG X e (tG X.K tg)
  | .nm i, e, h => by
    unfold chkG at h
    split at h
    · rename_i x p heq
      cases heq
      simp only [Bool.and_eq_true, decide_eq_true_eq] at h
      exact pg_nm g h.1 h.2
    · contradiction
    · contradiction
    · cases h
  | .nil, e, h => by
    unfold chkG at h
    split at h
    · contradiction
    · exact pg_tupS g pgs_nilS (by simp) rfl rfl
    · contradiction
    · cases h
  | .cons a b, e, h => by
    unfold chkG at h
    split at h
    · contradiction
    · contradiction
    · rename_i a' b' e1 es k p heq
      cases heq
      simp only [Bool.and_eq_true] at h
      obtain ⟨⟨h1, h2⟩, h3⟩ := h
      obtain ⟨q1, q2, q3⟩ := chkGs_pg g b es h3
      exact pg_tupS g (pgs_consS (chkG_pg g a e1 h2) q1 h1) (fun x hx => by
        rcases List.mem_cons.mp hx with z | z
        · rw [z]; exact h1
        · exact q2 x z) (by show es.length + 1 = tgLen b + 1; rw [q3]) rfl
    · cases h
theorem chkGs_pg {sc : Scope} {X : Cx} (g : Gd G C n N sc X) : ∀ (tg : Tg) (es : List Expr), chkGs N tg sc es = true → PGs X es (tGL X.K tg) ∧ (∀ x ∈ es, tgE x = true) ∧ es.length = tgLen tg
  | .nm i, es, h => by simp [chkGs] at h
  | .nil, [], h => ⟨pgs_nilS, by simp, rfl⟩
  | .nil, _ :: _, h => by simp [chkGs] at h
  | .cons a b, [], h => by simp [chkGs] at h
  | .cons a b, e :: es, h => by
    rw [chkGs] at h
    simp only [Bool.and_eq_true] at h
    obtain ⟨⟨h1, h2⟩, h3⟩ := h
    obtain ⟨q1, q2, q3⟩ := chkGs_pg g b es h3
    exact ⟨pgs_consS (chkG_pg g a e h2) q1 h1, fun x hx => by
      rcases List.mem_cons.mp hx with z | z
      · rw [z]; exact h1
      · exact q2 x z, by show es.length + 1 = tgLen b + 1; rw [q3]⟩
end
theorem tgInB_ok {vs : List Nat} : ∀ {tg : Tg}, tgInB vs tg = true → tgIn vs tg
  | .nm i, h => by simpa [tgInB, tgIn] using h
  | .nil, _ => trivial
  | .cons a b, h => by
    unfold tgInB at h
    simp only [Bool.and_eq_true] at h
    exact ⟨tgInB_ok h.1, tgInB_ok h.2⟩
theorem ownOf_snd {own : List Nat} : (ownOf N own).map (·.2) = own := by
  unfold ownOf
  rw [List.map_map]
  simp [Function.comp_def]
theorem pw_of_pt {X : Cx} {op : BoolOp} {vs : List Expr} {p : Pos} {t : TT} (h : PT X (.BoolOp op vs p) t) : PW X (.BoolOp op vs p) t := ⟨fun wh pins s σ H Q I q => by
  have := h.run pins s σ H Q I q
  rw [PySem.isTrue] at this ⊢
  exact this⟩
theorem plainT_ok {X : Cx} {e : Expr} (h : plainT e = true) : ∀ whole, isTrue e X.env whole = (do let v ← whole; standAt e.pos; holding [v] (truthy v)) := by
  intro whole
  cases e <;> first | (cases h; done) | rfl
theorem tEv_of_b {K : PySem.W.Frag} {f : Mn.Env → Option (Val × Mn.Env)} {σ : L2.St} {H : Hp} {Q : Bool → Hp → Prop} (h : tEb K (fun ρ => toB (f ρ)) σ H Q) : tEv K f σ H fun x H1 => ∃ c, x = .bl c ∧ Q c H1 := by
  obtain ⟨ρ, F, r, rel, e, q⟩ := h
  exact ⟨ρ, F, _, rel, toB_eq e, fun v F' H' st ok => by
    cases ok
    exact ⟨_, rfl, q F' H' st⟩⟩
theorem din_run {K : PySem.W.Frag} {neg : Bool} {b : Ex} {k : Nat} {σ : L2.St} {H : Hp} {Q : VK} (h : tEv K (ev C (.din neg b k)) σ H Q) : (tEd K fun ρ => frzV (ev C b ρ)) σ H (fun y H1 => tVar k σ H1 fun x H2 => ∃ a o, x = .ref a ∧ DGet H2 a y o ∧ Q (.bl (if neg then !o.isSome else o.isSome)) H2) := by
  obtain ⟨ρ, F, w, rel, e, q⟩ := h
  rw [ev] at e
  cases e1 : frzV (ev C b ρ) with
  | none => rw [e1] at e; cases e
  | some x =>
    rw [e1] at e
    simp only [Option.bind_some] at e
    cases e2 : Mn.dctAt x.2 k with
    | none => rw [e2] at e; cases e
    | some kvs =>
      rw [e2] at e
      simp only [Option.bind_some] at e
      split at e
      · rename_i j hj
        cases e
        refine ⟨ρ, F, x, rel, e1, fun v F1 H1 st1 r1 => ?_⟩
        rw [hj] at r1
        cases r1
        obtain ⟨p2, kv2, hp2, h2, hf2, pr, _⟩ := st1.rel.dctAt e2
        refine ⟨.ref p2, hp2, p2, valV kv2 (Sum.inl j), rfl, DGet.k (k := Sum.inl j) h2, ?_⟩
        have : (valV kv2 (Sum.inl j)).isSome = (dLook kvs j).isSome := by
          rcases look_rel (k := j) pr with ⟨u, d, hu, hd, rd⟩ | ⟨hu, hd⟩ <;> rw [hu, hd] <;> rfl
        rw [this]
        exact q _ F1 H1 st1 (.bl _)
      · cases e
theorem pt_din {sc : Scope} {X : Cx} (g : Gd G C n N sc X) {neg : Bool} {k : Nat} {o e1 : Expr} {b : Ex} {pos : Pos} (ho : PE X o (tVar k)) (he : SE X C e1 b) (hm : behindInMarks (if neg then .NotIn else .In) o = false) :
    PT X (.Compare e1 [if neg then .NotIn else .In] [o] pos) (tEb X.K fun ρ => toB (ev C (.din neg b k) ρ)) := by
  have hu : X.A.units + 1 < cLine := by have := g.units; omega
  cases neg with
  | true => exact (pt_cmp (pc_dnotin hu he.d ho) hm).weak fun σ H Q h => din_run (tEv_of_b h)
  | false => exact (pt_cmp (pc_din hu he.d ho) hm).weak fun σ H Q h => din_run (tEv_of_b h)
theorem all_star {es : List Expr} (h : es.all notStar = true) : ∀ e ∈ es, notStar e = true := by simpa using h
end
end Mn

namespace Mn
open PySem PySem.Spec PyProof.Rows L2
section
variable {G : Cfg} {C : CallF} {n : Nat} {N : List Str} {sc : Scope} {X : Cx}
/-! ## [v for k, v in d.items()] -/
theorem wipe2 {σ : L2.St} {i j : Nat} {a b : Option V} : wipe (((wipe σ [i, j]).set i a).set j b) [i, j] = wipe σ [i, j] := by
  simp only [wipe]
  refine List.ext_getElem? fun k => ?_
  simp only [List.getElem?_set, List.length_set]
  by_cases h1 : i = k <;> by_cases h2 : j = k <;> simp [h1, h2]
theorem vals_rel {F : Hp} : ∀ {kv : List (Key × V)} {kvs : List (Int × D)}, Paired (KR F) kv kvs → RL F (kv.map (·.2)) (kvs.map (·.2))
  | _, _, .nil => .nil
  | _, _, .cons h t => .cons h.2 (vals_rel t)
theorem paired_len {F : Hp} : ∀ {kv : List (Key × V)} {kvs : List (Int × D)}, Paired (KR F) kv kvs → kv.length = kvs.length
  | _, _, .nil => rfl
  | _, _, .cons _ t => by rw [List.length_cons, List.length_cons, paired_len t]
theorem se_dvals (g : Gd G C n N sc X) {kd i j : Nat} {kx vx : Str} {o : Expr} {scope : Scope} {kk : Nat} {p1 p2 p3 tp ap cp pos : Pos} (ho : PE X o (tVar kd)) (nc : notCall o = true) (hl : (ap.endLine == cp.line) = true)
    (ok : BlkOk N sc scope [(kx, i), (vx, j)]) (hk : N[i]? = some kx) (hv : N[j]? = some vx) (hij : i ≠ j) (lk : locB scope kx = true) (lv : locB scope vx = true) (hv2 : chkV N scope j (.Name vx p3) = true) :
    SE X C (.ListComp (.Name vx p3) [⟨.Tuple [.Name kx p1, .Name vx p2] kk tp, .Call (.Attribute o "items" ap) [] [] cp, [], 0⟩] scope pos) (.dvals kd i j) := by
  refine .of ((pe_lock (pe_lc (X := X) (own := [(kx, i), (vx, j)]) (g := gTup X.K 2 (gCons (gName i) (gCons (gName j) gNil))) (tt := tYes) (te := tVar j) g.calm g.nN (pi_items ho (base_ok nc) hl) (g.blkOk ok)
    (fun s H cell cl fp => by
      have g2 := g.blk ok.kind s H cell cl fp
      exact pg_tup (n := 2) (es := [.Name kx p1, .Name vx p2]) g2.calm (pgs_cons (pg_name g2.nN (by rw [g2.xn]; exact hk) (g2.loc lk).1 (g2.loc lk).2) (pgs_cons (pg_name g2.nN (by rw [g2.xn]; exact hv) (g2.loc lv).1 (g2.loc lv).2) pgs_nil)))
    (fun s H cell cl fp => pts_nil) (fun s H cell cl fp => chkV_pe (g.blk ok.kind s H cell cl fp) hv2) (fold_ok rfl))).weak fun σ H Q ⟨ρ, F, r, rel, e, q⟩ => ?_) rfl
  rw [ev] at e
  cases e0 : Mn.dctAt ρ kd with
  | none => rw [e0] at e; cases e
  | some kvs =>
    rw [e0] at e
    simp only [Option.bind_some] at e
    split at e
    · rename_i hc
      cases e
      obtain ⟨p, kv, hp, h1, hf, pr, hat⟩ := rel.dctAt e0
      have hlen := paired_len pr
      have hlt : σ.length = ρ.length := rel.len.symm
      refine ⟨p, .dK kv, h1, trivial, fun od => ⟨.ref p, hp, p, od, kv, rfl, upd_same, fun D0 hD => ?_⟩⟩
      have hDp : D0 ≠ p := fun z => by subst z; rw [upd_same] at hD; cases hD
      rw [upd_ne hDp] at hD
      let W : Nat → Nat → Hp → Prop := fun i m H' => m = kv.length - i ∧ i ≤ kv.length ∧ H' p = some (.frz od (.dK kv)) ∧ H' D0 = some (.lst ((kv.take i).map (·.2))) ∧ ∀ b u, b ≠ p → H b = some u → H' b = some u
      refine ⟨W, ⟨kv.length, by simp, Nat.zero_le _, ?_, ?_, fun b u hb hu => ?_⟩, ?_⟩
      · rw [upd_ne (Ne.symm hDp), upd_same]
      · rw [upd_same]; rfl
      · have : b ≠ D0 := fun z => by subst z; rw [hD] at hu; cases hu
        rw [upd_ne this, upd_ne hb]; exact hu
      rintro t m H' ⟨rfl, hi, hp', hD', hk'⟩
      by_cases ht : t < kv.length
      · refine .inr ⟨⟨hp', ht⟩, fun H2 => W (t + 1) (kv.length - (t + 1)) H2, fun H2 w => ⟨_, by omega, w⟩, ?_⟩
        rintro x H2 ⟨T, k, v, hkv, rfl, hT, rfl⟩
        have hTp : p ≠ T := fun z => by subst z; rw [hT] at hp'; cases hp'
        have hTD : D0 ≠ T := fun z => by subst z; rw [hT] at hD'; cases hD'
        refine ⟨T, [kV k, v], rfl, .inl (.inl upd_same), rfl, kV k, [v], rfl, v, [], rfl, rfl, wipe2, ?_⟩
        have hjl : j < ((wipe σ [i, j]).set i (some (kV k))).length := by
          rw [List.length_set, wipe_length, hlt]; exact hc.2.1
        simp only [if_true]
        refine ⟨v, ?_, (kv.take t).map (·.2), ?_, ?_, rfl, by omega, ?_, ?_, fun b u hb hu => ?_⟩
        · exact List.getElem?_set_self hjl
        · rw [upd_ne hTD]; exact hD'
        · rw [List.length_map, List.length_take]
          have := sl24
          omega
        · rw [upd_ne (Ne.symm hDp), upd_ne hTp]; exact hp'
        · rw [upd_same, List.take_succ, hkv]
          simp
        · have h3 := hk' b u hb hu
          have : b ≠ T := fun z => by subst z; rw [hT] at h3; cases h3
          have h4 : b ≠ D0 := fun z => by subst z; rw [hD] at hu; cases hu
          rw [upd_ne h4, upd_ne this]; exact h3
      · have hte : t = kv.length := by omega
        subst hte
        rw [List.take_length] at hD'
        refine .inl ⟨⟨hp', Nat.le_refl _⟩, hp', ?_⟩
        have keep : ∀ b u, H b = some u → (upd H' p (.dK kv)) b = some u := fun b u hu => by
          by_cases hb : b = p
          · subst hb; rw [upd_same, ← h1]; exact hu
          · rw [upd_ne hb]; exact hk' b u hb hu
        have sub : Sub F (upd H' p (.dK kv)) := fun b u hu => keep b u (rel.sub b u hu)
        refine q (.ref D0) F _ ⟨rel.grow (Sub.refl F) sub fun b hb => ?_, ⟨Sub.refl F, fun b u hu _ => keep b u hu, fun b hb => .inl hb, fun b hb => ?_⟩, fun _ h => h, fun _ h => h⟩ ⟨D0, rfl, rel.sub.none hD, hD, kv.map (·.2), ?_, vals_rel pr⟩
        · obtain ⟨u, hu, hf2⟩ := rel.own_at hb
          exact ⟨(keep b u hu).trans hu.symm, hf2⟩
        · cases hu : H b with
          | none => exact absurd hu hb
          | some u => rw [keep b u hu]; simp
        · rw [upd_ne hDp]; exact hD'
    · cases e
end
end Mn

namespace Mn
open PySem PySem.Spec PyProof.Rows L2
/-! ## {i:02} -/
def pad2 (i : Int) : Str := if i < 10 then ("0" : Str) ++ intStr i else intStr i
def F2 (i : Int) : Prop := ∀ t u : Tok, Meets (Builtin.«int.__format__» ⟨[.int i t, .str "02" u], []⟩) (fun _ R s => ∀ t' k, R (.ok (.ret (.str (pad2 i) t'))) { s with toks := k })
def F2All : Prop := ∀ k : Nat, k < 100 → F2 (k : Int)
section
variable {G : Cfg} {C : CallF} {n : Nat} {N : List Str} {sc : Scope} {X : Cx}
def tFmt2 (te : TE) : TE := fun σ H Q => te σ H fun x H1 => ∃ i : Int, x = .int i ∧ 0 ≤ i ∧ i < 100 ∧ Q (.str (pad2 i)) H1
theorem pe_fmt2 (f2 : F2All) {e : Expr} {te : TE} {k : Nat} {p q pos : Pos} (he : PE X e te) : PE X (.FormattedValue e (-1) (some (.JoinedStr [.Constant (.str "02") k p] q)) pos) (tFmt2 te) := by
  refine ⟨fun pins s σ H Q I h => ?_⟩
  refine wpAny_FormattedValue_spec (thn (he.run pins s σ H _ I h) fun v s1 hv => ?_)
  obtain ⟨x, H1, I1, r1, i, rfl, h0, h1, qq⟩ := hv
  obtain ⟨t, rfl⟩ := r1
  have hs : PE X (.JoinedStr [.Constant (.str "02") k p] q) (tC (.str "02")) := pe_joined1 pe_str
  refine thn (hs.run pins s1 σ H1 (fun y H2 => y = .str "02" ∧ H2 = H1) I1 ⟨rfl, rfl⟩) fun u s2 hu => ?_
  obtain ⟨y, H2, I2, r2, rfl, rfl⟩ := hu
  obtain ⟨t2, rfl⟩ := r2
  refine ⟨"02", t2, rfl, ?_⟩
  have hf := f2 i.toNat (by omega)
  rw [Int.toNat_of_nonneg h0] at hf
  exact PySem.W.KXf.field_int (spec' := "02") rfl (by decide +kernel) (by decide +kernel) (fun u => hf t u) fun t' k => ⟨.str (pad2 i), H2, I2.tok _, ⟨_, rfl⟩, qq⟩
theorem pad2_ok {i : Int} (h0 : 0 ≤ i) (h1 : i < 100) : PyData.strOk (pad2 i) = true ∧ (pad2 i).length ≤ 16777216 := by
  have key : ∀ k : _root_.Fin 100, PyData.strOk (pad2 ((k.val : Nat) : Int)) = true ∧ (pad2 ((k.val : Nat) : Int)).length ≤ 16777216 := by decide +kernel
  have := key ⟨i.toNat, by omega⟩
  simp only [Int.toNat_of_nonneg h0] at this
  exact this
theorem se_fmt2 (f2 : F2All) {e1 : Expr} {a : Ex} {k : Nat} {p q pos : Pos} (ha : SE X C e1 a) : SE X C (.FormattedValue e1 (-1) (some (.JoinedStr [.Constant (.str "02") k p] q)) pos) (.fmt2 a) :=
  .of ((pe_fmt2 f2 ha.d).weak fun σ H Q ⟨ρ, F, w, rel, e, q⟩ => by
    rw [ev] at e
    cases e1 : frzV (ev C a ρ) with
    | none => rw [e1] at e; cases e
    | some x =>
      rw [e1] at e
      simp only [Option.bind_some, Option.map_eq_some_iff] at e
      obtain ⟨t, ht, rfl⟩ := e
      refine ⟨ρ, F, x, rel, e1, fun v F1 H1 st1 r1 => ?_⟩
      unfold fmt2D at ht
      split at ht
      · rename_i i hi
        split at ht
        · rename_i hc
          cases ht
          rw [hi] at r1
          cases r1
          exact ⟨i, rfl, hc.1, hc.2, q _ F1 H1 st1 (.str _ (pad2_ok hc.1 hc.2).1 (pad2_ok hc.1 hc.2).2)⟩
        · cases ht
      · cases ht) rfl
end
end Mn

namespace Mn
open PySem PySem.Spec PyProof.Rows L2
section
variable {G : Cfg} {C : CallF} {n : Nat} {N : List Str} {sc : Scope} {X : Cx}
/-! ## x[i] -= e -/
def rGetN : V → V → Hp → VK → Prop := fun o i H Q => ∃ p xs k v, o = .ref p ∧ i = .int k ∧ H p = some (.lst xs) ∧ 0 ≤ k ∧ k < 1000000000 ∧ xs[k.toNat]? = some v ∧ Q v H
theorem get_listN : PGet X rGetN := by
  intro pins s σ H o i ov iv Q I ro ri h
  obtain ⟨p, xs, k, v, rfl, rfl, hp, h0, h1, hx, q⟩ := h
  cases ro
  obtain ⟨t, rfl⟩ := ri
  obtain ⟨its, r, pl, hz⟩ := I.list (SqL.here hp)
  obtain ⟨w, ew, rw'⟩ := r.get hx
  exact wpAny_getItem_list pl.isList h0 (by omega) (by simpa using ew) ⟨v, H, I, rw', q⟩
theorem aug_sub {i : Expr} (h : notSl i = true) (ov iv new : Value) : augStore i ov iv new = (do holding [new, ov, iv] (setItem ov iv new); release [new, ov, iv] []; pure .next) := by
  cases i <;> first | rfl | cases h
theorem ss_augi (g : Gd G C n N sc X) {k : Nat} {o i e1 : Expr} {a b : Ex} {p pos : Pos} (ho : PE X o (tVar k)) (hi : SE X C i b) (ha : SE X C e1 a) (hs : notSl i = true) :
    PS X (.AugAssign (.Subscript o i p) .Sub e1 pos) (tSt X.K (evS C (.augi k b .Sub a))) :=
  (ps_augS ho hi.d get_listN ha.d ip_sub set_list (aug_sub hs)).weak fun D σ H ⟨ρ, F, r, rel, e, k1, k2⟩ => by
    rw [evS] at e
    simp only [Option.bind_eq_some_iff] at e
    obtain ⟨xs0, e0, r1, e1, xs, e2, e⟩ := e
    split at e
    · rename_i j hj
      split at e
      · rename_i hc
        split at e
        · rename_i c hx
          simp only [Option.bind_eq_some_iff] at e
          obtain ⟨x, e3, ys, e4, e⟩ := e
          split at e
          · rename_i d hop hd
            split at e
            · rename_i hlt
              cases e
              obtain ⟨p0, vs0, s0, hp0, _⟩ := rel.mutAt e0
              refine ⟨.ref p0, hp0, ρ, F, r1, rel, e1, fun u F1 H1 st1 ru => ?_⟩
              rw [hj] at ru
              cases ru
              obtain ⟨p1, vs1, s1, hp1, h1, f1, rl1, _⟩ := st1.rel.mutAt e2
              rw [hp0] at hp1; cases hp1
              obtain ⟨w, hw, rw'⟩ := rl1.get hx
              cases rw'
              refine ⟨p0, vs1, j, .int c, rfl, rfl, h1, hc.1, hc.2, hw, r1.2, F1, x, st1.rel, e3, fun y F2 H2 st2 ry => ?_⟩
              rw [hd] at ry
              cases ry
              refine ⟨c, d, rfl, rfl, ?_⟩
              obtain ⟨p2, vs, s2, hp2, h2, f2, rl, _⟩ := st2.rel.mutAt e4
              rw [hp0] at hp2; cases hp2
              refine ⟨p0, vs, j, j.toNat, rfl, rfl, h2, ixN_of hc.1 (by rw [rl.length]; exact hlt), ?_⟩
              exact k1 _ _ F2 _ rfl ((st1.trans st2).trans (Step.write st2.rel e4 hp0 (rl.set (.int (c - d)) j.toNat))).s
            · cases e
          · cases e
        · cases e
      · cases e
    · cases e
end
end Mn

namespace Mn
open PySem PySem.Spec PyProof.Rows L2
/-! ## sorted(a text): the reading; it is shown in M25 -/
def rSrts (K : PySem.W.Frag) : List V → Hp → VK → Prop := fun vs H Q => ∃ ρ σ F z, vs = [.str z] ∧ Rel K ρ σ F H ∧ z.length < 1000000 ∧ PyData.strOk z = true ∧ ∀ v F' H', Step K ρ σ F H ρ F' H' → VOk H F' H' v (.own (isortD (signs z))) → Q v H'
def SrtsOk (X : Cx) : Prop := CallR X (.builtin "sorted") (rSrts X.K)
/-- sorted(set(a list of texts)) -/
def tSset (K : PySem.W.Frag) (te : TE) : TE := fun σ H Q => te σ H fun x H1 => ∃ ρ F ws, Rel K ρ σ F H1 ∧ R F x (.list (ws.map .str)) ∧ ws.length < 64 ∧ (∀ w ∈ ws, w.length = 1) ∧ ∀ v F' H', Step K ρ σ F H1 ρ F' H' → VOk H1 F' H' v (.own (ssD ws)) → Q v H'
section
variable {G : Cfg} {C : CallF} {n : Nat} {N : List Str} {sc : Scope} {X : Cx}
theorem se_srts (g : Gd G C n N sc X) (hso : SrtsOk X) {e1 : Expr} {a : Ex} {pos p : Pos} (ha : SE X C e1 a) (ns : notStar e1 = true) (hg : glB sc "sorted" = true) (hb : Str.ofString "sorted" ∈ G.bn) : SE X C (.Call (.Name "sorted" p) [e1] [] pos) (.srts a) := by
  have ar : PA X [e1] (tCons (tEd X.K fun ρ => frzV (ev C a ρ)) tNil) := pa_cons ha.d pa_nil (star_cons ns)
  have es : starEach [e1] X.env = (false, eval e1 X.env) :: starEach [] X.env := star_cons ns
  refine .of ((pe_callB hso (g.glob hg) (g.bl _ hb) (by decide +kernel) ar (he := es)).weak fun σ H Q ⟨ρ, F, w, rel, e, q⟩ => ?_) rfl
  rw [ev] at e
  cases e1 : frzV (ev C a ρ) with
  | none => rw [e1] at e; cases e
  | some x =>
    rw [e1] at e
    simp only [Option.bind_some] at e
    split at e
    · rename_i z hz
      split at e
      · rename_i hl
        cases e
        refine ⟨ρ, F, x, rel, e1, fun v F1 H1 st1 r1 => ?_⟩
        rw [hz] at r1
        cases r1 with
        | str _ o l => exact ⟨x.2, σ, F1, z, rfl, st1.rel, hl, o, fun w F' H' st2 ok => q w F' H' (st1.trans st2) (ok.back st1)⟩
      · cases e
    · cases e
end
end Mn

namespace Mn
open PySem PySem.Spec PyProof.Rows L2
/-! ## dicts whose keys are tuples of ints -/
def KT (F : Hp) : List Key × V → List Int × D → Prop := fun p q => p.1 = q.1.map .inl ∧ R F p.2 q.2
theorem inl_inj {a b : List Int} : (a.map (Sum.inl : Int → Key) = b.map Sum.inl) ↔ a = b := by
  constructor
  · intro h
    induction a generalizing b with
    | nil => cases b with | nil => rfl | cons _ _ => cases h
    | cons x a ih => cases b with
      | nil => cases h
      | cons y b =>
        rw [List.map_cons, List.map_cons] at h
        obtain ⟨h1, h2⟩ := List.cons.inj h
        rw [Sum.inl.inj h1, ih h2]
  · rintro rfl; rfl
theorem any_relT {F : Hp} {k : List Int} : ∀ {kv : List (List Key × V)} {kvs : List (List Int × D)}, Paired (KT F) kv kvs → (kv.any fun p => decide (p.1 = k.map Sum.inl)) = kvs.any fun p => decide (p.1 = k)
  | _, _, .nil => rfl
  | p :: r, q :: s, .cons h t => by
    rw [List.any_cons, List.any_cons, any_relT t, h.1]
    congr 1
    by_cases c : q.1 = k
    · rw [c]; simp
    · rw [decide_eq_false c, decide_eq_false fun z => c (inl_inj.mp z)]
theorem paired_appT {F : Hp} {a b : List (List Key × V)} {c d : List (List Int × D)} (h : Paired (KT F) a c) (h2 : Paired (KT F) b d) : Paired (KT F) (a ++ b) (c ++ d) := by
  induction h with
  | nil => exact h2
  | cons r t ih => exact .cons r ih
theorem map_relT {F : Hp} {k : List Int} {v : V} {d : D} (hv : R F v d) : ∀ {kv : List (List Key × V)} {kvs : List (List Int × D)}, Paired (KT F) kv kvs → Paired (KT F) (kv.map fun p => if p.1 = k.map Sum.inl then (p.1, v) else p) (kvs.map fun p => if p.1 = k then (p.1, d) else p)
  | _, _, .nil => .nil
  | p :: r, q :: s, .cons h t => by
    rw [List.map_cons, List.map_cons]
    refine .cons ?_ (map_relT hv t)
    by_cases c : q.1 = k
    · rw [if_pos c, if_pos (by rw [h.1, c])]
      exact ⟨h.1, hv⟩
    · rw [if_neg c, if_neg (by rw [h.1]; exact fun z => c (inl_inj.mp z))]
      exact h
theorem put_relT {F : Hp} {k : List Int} {v : V} {d : D} {kv : List (List Key × V)} {kvs : List (List Int × D)} (h : Paired (KT F) kv kvs) (hv : R F v d) : Paired (KT F) (putK kv (k.map Sum.inl) v) (tPut kvs k d) := by
  unfold putK tPut
  rw [any_relT h]
  split
  · exact map_relT hv h
  · exact paired_appT h (.cons ⟨rfl, hv⟩ .nil)
theorem Rel.dttAt {K : PySem.W.Frag} {ρ : Mn.Env} {σ : L2.St} {F H : Hp} (r : Rel K ρ σ F H) {k : Nat} {kvs : List (List Int × D)} (h : Mn.dttAt ρ k = some kvs) : ∃ p kv, σ[k]? = some (some (.ref p)) ∧ H p = some (.dT kv) ∧ F p = none ∧ Paired (KT F) kv kvs ∧ ρ.at k = some (.dtt kvs) := by
  unfold Mn.dttAt at h
  split at h
  · rename_i e
    cases h
    obtain ⟨v, hv, p, rfl, f, kv, h1, h2⟩ := r.ok k _ e
    exact ⟨p, kv, hv, h1, f, h2, e⟩
  · cases h
theorem lenT {F : Hp} : ∀ {kv : List (List Key × V)} {kvs : List (List Int × D)}, Paired (KT F) kv kvs → kv.length = kvs.length
  | _, _, .nil => rfl
  | _, _, .cons _ t => by rw [List.length_cons, List.length_cons, lenT t]
theorem getT {F : Hp} : ∀ {kv : List (List Key × V)} {kvs : List (List Int × D)} {i : Nat} {k : List Key} {v : V}, Paired (KT F) kv kvs → kv[i]? = some (k, v) → ∃ ns d, kvs[i]? = some (ns, d) ∧ k = ns.map .inl
  | [], _, _, _, _, _, h => by simp at h
  | p :: r, q :: s, 0, k, v, .cons h _, e => by
    simp at e
    subst e
    exact ⟨q.1, q.2, rfl, h.1⟩
  | p :: r, q :: s, i + 1, k, v, .cons _ t, e => by
    obtain ⟨ns, d, a, b⟩ := getT (i := i) (k := k) (v := v) t (by simpa using e)
    exact ⟨ns, d, by simpa using a, b⟩
theorem ints_kV (ns : List Int) : (ns.map (Sum.inl : Int → Key)).map kV = ns.map V.int := by rw [List.map_map]; rfl
section
variable {G : Cfg} {C : CallF} {n : Nat} {N : List Str} {sc : Scope} {X : Cx}
theorem se_dnewT {pos : Pos} : SE X C (.Dict [] [] pos) .dnewT :=
  .of (pe_dnewT.weak fun σ H Q ⟨ρ, F, w, rel, e, q⟩ p hp => by
    rw [ev] at e
    cases e
    exact q _ F _ (Step.laid rel hp) ⟨p, rfl, rel.sub.none hp, hp, [], upd_same, .nil⟩) rfl
theorem ss_dsetT (g : Gd G C n N sc X) {k : Nat} {o i e1 : Expr} {a b : Ex} {p pos : Pos} (ho : PE X o (tVar k)) (hi : SE X C i b) (ha : SE X C e1 a) (nc : notComp e1 = true) : PS X (.Assign [.Subscript o i p] e1 pos) (tSt X.K (evS C (.dsetT k b a))) :=
  (ps_dput (Nat.lt_of_le_of_lt (by omega) g.units) ho hi.d ha.d (swaps_no nc)).weak fun D σ H ⟨ρ, F, r, rel, e, k1, k2⟩ => by
    rw [evS] at e
    simp only [Option.bind_eq_some_iff] at e
    obtain ⟨x, e1, xs0, e2, r1, e3, kvs, e4, e⟩ := e
    split at e
    · rename_i ds hj
      simp only [Option.bind_eq_some_iff] at e
      obtain ⟨ns, hns, e⟩ := e
      split at e
      · rename_i hc
        cases e
        refine ⟨ρ, F, x, rel, e1, fun v F1 H1 st1 rv => ?_⟩
        obtain ⟨p0, kv0, hp0, _⟩ := st1.rel.dttAt e2
        refine ⟨.ref p0, hp0, x.2, F1, r1, st1.rel, e3, fun u F2 H2 st2 ru => ?_⟩
        rw [hj] at ru
        cases ru with
        | tup hq rl =>
        rename_i b0 vs
        have hvs := rl.ints hns
        obtain ⟨p2, kv, hp2, h2, f2, h3, at2⟩ := st2.rel.dttAt e4
        rw [hp0] at hp2; cases hp2
        have pr := put_relT (k := ns) h3 (rv.mono st2.fs)
        have sub : Sub F2 (upd H2 p0 (.dT (putK kv (ns.map Sum.inl) v))) := fun b o hb => by
          have : b ≠ p0 := fun z => by subst z; rw [f2] at hb; cases hb
          rw [upd_ne this]; exact st2.rel.sub b o hb
        obtain ⟨q1, q2, q3⟩ := st2.rel.mput (t := .dtt (tPut kvs ns x.1)) at2 rfl rfl (fun z => by cases z) hp0 (Sub.refl F2) sub f2 ⟨_, upd_same, pr⟩ fun b hb ho => by
          obtain ⟨_, _, q⟩ := st2.rel.own_at ho
          exact ⟨upd_ne hb, q⟩
        have st3 : Step X.K r1.2 σ F2 H2 (r1.2.put k (.dtt (tPut kvs ns x.1))) F2 (upd H2 p0 (.dT (putK kv (ns.map Sum.inl) v))) := by
          refine ⟨q1, ⟨Sub.refl F2, fun b o hb n => ?_, fun b z => .inl z, fun b z => ?_⟩, q2, q3⟩
          · have : b ≠ p0 := fun z => by subst z; exact n ⟨k, _, at2, rfl, hp0⟩
            rw [upd_ne this]; exact hb
          · by_cases c : b = p0
            · subst c; rw [upd_same]; simp
            · rw [upd_ne c]; exact z
        refine ⟨p0, _, rfl, .inr ⟨kv, ns.map .inl, b0, h2, rfl, ?_, by have := sl24; have := lenT h3; omega, rfl⟩, k1 _ _ F2 _ rfl ((st1.trans st2).trans st3).s⟩
        rw [ints_kV, ← hvs]
        exact st2.rel.sub _ _ hq
      · cases e
    · cases e
theorem wipe1 {σ : L2.St} {j : Nat} {a : Option V} : wipe ((wipe σ [j]).set j a) [j] = wipe σ [j] := by
  simp only [wipe]
  refine List.ext_getElem? fun k => ?_
  simp only [List.getElem?_set, List.length_set]
  by_cases h2 : j = k <;> simp [h2]
def keysD (kvs : List (List Int × D)) : List D := (kvs.filter fun p => !p.1.isEmpty).map fun p => .tuple (p.1.map .int)
theorem tup_depth (ns : List Int) : (PyData.tuple (ns.map .int)).depth ≤ 64 := by
  rw [PyData.depth]
  have : ∀ ns : List Int, PyData.depthAll (ns.map .int) ≤ 0 := by
    intro ns
    induction ns with
    | nil => simp [PyData.depthAll]
    | cons x r ih => rw [List.map_cons, PyData.depthAll]; simp [PyData.depth]; omega
  have := this ns
  omega
theorem se_dkT (g : Gd G C n N sc X) {kd j : Nat} {rx : Str} {o : Expr} {scope : Scope} {kk : Nat} {p1 p2 p3 tp cp pos : Pos} (ho : PE X o (tVar kd)) (hfo : notSet o = true)
    (ok : BlkOk N sc scope [(rx, j)]) (hr : N[j]? = some rx) (lr : locB scope rx = true) (hv1 : chkV N scope j (.Name rx p2) = true) (hv2 : chkV N scope j (.Name rx p3) = true) :
    SE X C (.ListComp (.Name rx p3) [⟨.Name rx p1, o, [.Compare (.Name rx p2) [.NotEq] [.Tuple [] kk tp] cp], 0⟩] scope pos) (.dkT kd j) := by
  refine .of ((pe_lock (pe_lc (X := X) (own := [(rx, j)]) (g := gName j) (tt := tTest (tOp (rNeD X.K) (tVar j) (tTup tNil))) (te := tVar j) g.calm g.nN (pi_keys ho) (g.blkOk ok)
    (fun s H cell cl fp => by
      have g2 := g.blk ok.kind s H cell cl fp
      exact pg_name g2.nN (by rw [g2.xn]; exact hr) (g2.loc lr).1 (g2.loc lr).2)
    (fun s H cell cl fp => by
      have g2 := g.blk ok.kind s H cell cl fp
      exact pts_one (pt_cmpR (op_neD (by have := g2.units; omega)) (chkV_pe g2 hv1) (pe_tup pa_nil) rfl))
    (fun s H cell cl fp => chkV_pe (g.blk ok.kind s H cell cl fp) hv2) (fold_ok hfo))).weak fun σ H Q ⟨ρ, F, r, rel, e, q⟩ => ?_) rfl
  rw [ev] at e
  cases e0 : Mn.dttAt ρ kd with
  | none => rw [e0] at e; cases e
  | some kvs =>
    rw [e0] at e
    simp only [Option.bind_some] at e
    split at e
    · rename_i hc
      cases e
      obtain ⟨p, kv, hp, h1, hf, pr, hat⟩ := rel.dttAt e0
      have hlen := lenT pr
      have hlt : σ.length = ρ.length := rel.len.symm
      refine ⟨p, .dT kv, h1, trivial, fun od => ⟨.ref p, hp, p, od, rfl, .inr ⟨kv, upd_same, fun D0 hD => ?_⟩⟩⟩
      have hDp : D0 ≠ p := fun z => by subst z; rw [upd_same] at hD; cases hD
      rw [upd_ne hDp] at hD
      let W : Nat → Nat → Hp → Prop := fun i m H' => m = kv.length - i ∧ i ≤ kv.length ∧ H' p = some (.frz od (.dT kv)) ∧ (∀ b u, b ≠ p → H b = some u → H' b = some u) ∧
        ∃ Fi accV, Sub F Fi ∧ (∀ b, Fi b ≠ none → F b ≠ none ∨ H b = none ∨ ∃ xs, H b = some (.tup xs)) ∧ (∀ b u, Fi b = some u → H' b = some u) ∧ Fi p = none ∧ Fi D0 = none ∧ H' D0 = some (.lst accV) ∧ accV.length ≤ i ∧ RL Fi accV (keysD (kvs.take i))
      refine ⟨W, ⟨kv.length, by simp, Nat.zero_le _, ?_, fun b u hb hu => ?_, F, [], Sub.refl F, fun b hb => .inl hb, fun b u hu => ?_, hf, rel.sub.none hD, upd_same, Nat.le_refl _, .nil⟩, ?_⟩
      · rw [upd_ne (Ne.symm hDp), upd_same]
      · have : b ≠ D0 := fun z => by subst z; rw [hD] at hu; cases hu
        rw [upd_ne this, upd_ne hb]; exact hu
      · have h3 := rel.sub b u hu
        have h4 : b ≠ D0 := fun z => by subst z; rw [hD] at h3; cases h3
        have h5 : b ≠ p := fun z => by subst z; rw [hf] at hu; cases hu
        rw [upd_ne h4, upd_ne h5]; exact h3
      rintro t m H' ⟨rfl, hi, hp', hk', Fi, accV, sF, nF, subF, fp, fD, hD', hal, rl⟩
      by_cases ht : t < kv.length
      · refine .inr ⟨⟨hp', ht⟩, fun H2 => W (t + 1) (kv.length - (t + 1)) H2, fun H2 w => ⟨_, by omega, w⟩, ?_⟩
        rintro x H2 ⟨rfl, k, v, qa, hkv, rfl, hqa⟩
        obtain ⟨ns, d, hns, rfl⟩ := getT pr hkv
        rw [ints_kV] at hqa
        have hqp : qa ≠ p := fun z => by subst z; rw [hp'] at hqa; cases hqa
        have hqD : qa ≠ D0 := fun z => by subst z; rw [hD'] at hqa; cases hqa
        have hjl : j < (wipe σ [j]).length := by rw [wipe_length, hlt]; exact hc.1
        refine ⟨wipe1, .ref qa, ?_, Nat.zero_le _, fun T hT => ?_⟩
        · exact List.getElem?_set_self hjl
        have hTp : T ≠ p := fun z => by subst z; rw [hp'] at hT; cases hT
        have hTD : T ≠ D0 := fun z => by subst z; rw [hD'] at hT; cases hT
        have hTq : T ≠ qa := fun z => by subst z; rw [hqa] at hT; cases hT
        have dints : DpAll X.K (upd H2 T (.tup [])) (ns.map V.int) (ns.map .int) := by
          have : ∀ ns : List Int, DpAll X.K (upd H2 T (.tup [])) (ns.map V.int) (ns.map .int) := by
            intro ns
            induction ns with
            | nil => exact .nil
            | cons x r ih => exact .cons (.int x) ih
          exact this ns
        have shp : SeqAt.shaped (.tuple (ns.map .int)) = true := by
          have r0 : R (upd H2 T (.tup (ns.map V.int))) (.ref T) (.tuple (ns.map .int)) := .tup upd_same (RL.ofInts ns)
          exact r0.shaped (tup_depth ns)
        refine ⟨.tuple (ns.map .int), .tuple [], .tup (.inl (.inl (by rw [upd_ne (Ne.symm hTq)]; exact hqa))) dints, .tup (.inl (.inl upd_same)) .nil, shp, rfl, _, rfl, ?_⟩
        have hb : (!PyData.eqv (.tuple (ns.map .int)) (.tuple [])) = !ns.isEmpty := by cases ns <;> simp [PyData.eqv, PyData.eqvAll]
        rw [hb]
        have take1 : kvs.take (t + 1) = kvs.take t ++ [(ns, d)] := by rw [List.take_succ, hns]; rfl
        have keep2 : ∀ b u, b ≠ p → H b = some u → (upd H2 T (.tup [])) b = some u := fun b u hb hu => by
          have h3 := hk' b u hb hu
          have : b ≠ T := fun z => by subst z; rw [hT] at h3; cases h3
          rw [upd_ne this]; exact h3
        have subF2 : ∀ b u, Fi b = some u → (upd H2 T (.tup [])) b = some u := fun b u hu => by
          have h3 := subF b u hu
          have : b ≠ T := fun z => by subst z; rw [hT] at h3; cases h3
          rw [upd_ne this]; exact h3
        cases hns0 : ns.isEmpty with
        | true =>
          simp only [Bool.not_true, Bool.false_eq_true, if_false]
          refine ⟨rfl, by omega, by rw [upd_ne (Ne.symm hTp)]; exact hp', keep2, Fi, accV, sF, nF, subF2, fp, fD, by rw [upd_ne (Ne.symm hTD)]; exact hD', by omega, ?_⟩
          rw [take1]
          unfold keysD
          rw [List.filter_append]
          simpa [hns0, keysD] using rl
        | false =>
          simp only [Bool.not_false, if_true]
          refine ⟨.ref qa, List.getElem?_set_self hjl, accV, by rw [upd_ne (Ne.symm hTD)]; exact hD', by have := sl24; omega, ?_⟩
          have hkd : keysD (kvs.take (t + 1)) = keysD (kvs.take t) ++ [.tuple (ns.map .int)] := by
            rw [take1]
            unfold keysD
            rw [List.filter_append, List.map_append]
            simp [hns0]
          have core : ∀ F2 : Hp, Sub Fi F2 → (∀ b, F2 b ≠ none → F b ≠ none ∨ H b = none ∨ ∃ xs, H b = some (.tup xs)) → (∀ b u, F2 b = some u → (upd H2 T (.tup [])) b = some u) → F2 p = none → F2 D0 = none → F2 qa = some (.tup (ns.map V.int)) →
              W (t + 1) (kv.length - (t + 1)) (upd (upd H2 T (.tup [])) D0 (.lst (accV ++ [.ref qa]))) := fun F2 s2 n2 sb2 fp2 fD2 hq2 => by
            refine ⟨rfl, by omega, by rw [upd_ne (Ne.symm hDp), upd_ne (Ne.symm hTp)]; exact hp', fun b u hb hu => ?_, F2, _, sF.trans s2, n2, fun b u hu => ?_, fp2, fD2, upd_same, by simp; omega, ?_⟩
            · have : b ≠ D0 := fun z => by subst z; rw [hD] at hu; cases hu
              rw [upd_ne this]; exact keep2 b u hb hu
            · have : b ≠ D0 := fun z => by subst z; rw [fD2] at hu; cases hu
              rw [upd_ne this]; exact sb2 b u hu
            · rw [hkd]
              exact (rl.mono s2).append (.cons (.tup hq2 (RL.ofInts ns)) .nil)
          cases hfq : Fi qa with
          | some u =>
            have := subF qa u hfq
            rw [hqa] at this
            cases this
            exact core Fi (Sub.refl Fi) nF subF2 fp fD hfq
          | none =>
            refine core (upd Fi qa (.tup (ns.map V.int))) (Sub.new hfq) (fun b hb => ?_) (fun b u hu => ?_) (by rw [upd_ne (Ne.symm hqp)]; exact fp) (by rw [upd_ne (Ne.symm hqD)]; exact fD) upd_same
            · by_cases hbq : b = qa
              · subst hbq
                cases hh : H b with
                | none => exact .inr (.inl rfl)
                | some u =>
                  have := hk' b u hqp hh
                  rw [hqa] at this
                  cases this
                  exact .inr (.inr ⟨_, rfl⟩)
              · rw [upd_ne hbq] at hb; exact nF b hb
            · by_cases hbq : b = qa
              · subst hbq
                rw [upd_same] at hu
                cases hu
                rw [upd_ne (Ne.symm hTq)]
                exact hqa
              · rw [upd_ne hbq] at hu; exact subF2 b u hu
      · have hte : t = kv.length := by omega
        subst hte
        rw [hlen, List.take_length] at rl
        refine .inl ⟨⟨hp', Nat.le_refl _⟩, hp', ?_⟩
        have keep : ∀ b u, H b = some u → (upd H' p (.dT kv)) b = some u := fun b u hu => by
          by_cases hb : b = p
          · subst hb; rw [upd_same, ← h1]; exact hu
          · rw [upd_ne hb]; exact hk' b u hb hu
        have sub : Sub Fi (upd H' p (.dT kv)) := fun b u hu => by
          have : b ≠ p := fun z => by subst z; rw [fp] at hu; cases hu
          rw [upd_ne this]; exact subF b u hu
        refine q (.ref D0) Fi _ ⟨rel.grow sF sub fun b hb => ?_, ⟨sF, fun b u hu _ => keep b u hu, fun b hb => ?_, fun b hb => ?_⟩, fun _ h => h, fun _ h => h⟩ ⟨D0, rfl, fD, hD, accV, ?_, rl⟩
        · obtain ⟨u, hu, hf2⟩ := rel.own_at hb
          refine ⟨(keep b u hu).trans hu.symm, ?_⟩
          cases hfi : Fi b with
          | none => rfl
          | some w =>
            rcases nF b (by rw [hfi]; simp) with z | z | ⟨xs, z⟩
            · exact absurd hf2 z
            · rw [hu] at z; cases z
            · exact absurd z (rel.own_nt hb xs)
        · rcases nF b hb with z | z | z
          · exact .inl z
          · exact .inr (.inl z)
          · exact .inr (.inr (.inr z))
        · cases hu : H b with
          | none => exact absurd hu hb
          | some u => rw [keep b u hu]; simp
        · rw [upd_ne hDp]; exact hD'
    · cases e
end
end Mn

namespace Mn
open PySem PySem.Spec PyProof.Rows L2
section
variable {G : Cfg} {C : CallF} {n : Nat} {N : List Str}
theorem chkV_notSet {sc : Scope} {k : Nat} {e : Expr} (h : chkV N sc k e = true) : notSet e = true := by
  obtain ⟨x, p, rfl, _⟩ := chkV_name h
  rfl
structure AllSorted (G : Cfg) (C : CallF) (n : Nat) (N : List Str) : Prop where
  st : G.srt = true → ∀ sc X, Gd G C n N sc X → SortedOk X
  ss : G.srt = true → ∀ sc X, Gd G C n N sc X → SrtsOk X
  f2 : G.f2 = true → F2All
mutual
theorem chkE_ok (so : AllSorted G C n N) : ∀ (a : Ex) (sc : Scope) (e : Expr), chkE G N a sc e = true → ∀ X, Gd G C n N sc X → SE X C e a
  | .var k, sc, e, h, X, g => by
    unfold chkE at h
    exact chkV_se g h
  | .cst v, sc, e, h, X, g => by
    unfold chkE at h
    split at h
    · exact chkC_se (sc := sc) h
    · cases h
  | .glb x v, sc, e, h, X, g => by
    unfold chkE at h
    split at h
    · simp only [Bool.and_eq_true, decide_eq_true_eq, List.any_eq_true] at h
      obtain ⟨⟨⟨rfl, h2⟩, h3⟩, ⟨p, hp, hx, hv⟩⟩ := h
      have : p = (p.1, p.2) := rfl
      rw [this, hx, sameC_eq hv] at hp
      exact se_glb g hp h2 (okNm_d h3)
    · cases h
  | .bin op a b, sc, e, h, X, g => by
    unfold chkE at h
    split at h
    · simp only [Bool.and_eq_true, decide_eq_true_eq] at h
      obtain ⟨⟨rfl, h2⟩, h3⟩ := h
      exact se_bin g (chkE_ok so a sc _ h2 X g) (chkE_ok so b sc _ h3 X g)
    · cases h
  | .neg a, sc, e, h, X, g => by
    unfold chkE at h
    split at h
    · exact se_neg g (chkE_ok so a sc _ h X g)
    · cases h
  | .cmp op a b, sc, e, h, X, g => by
    unfold chkE at h
    split at h
    · simp only [Bool.and_eq_true, decide_eq_true_eq, Bool.not_eq_true'] at h
      obtain ⟨⟨⟨rfl, h1⟩, h2⟩, h3⟩ := h
      exact se_cmp g (chkE_ok so a sc _ h2 X g) (chkE_ok so b sc _ h3 X g) h1
    · cases h
  | .cmp2 o1 o2 a b c, sc, e, h, X, g => by
    unfold chkE at h
    split at h
    · simp only [Bool.and_eq_true, decide_eq_true_eq, Bool.not_eq_true'] at h
      obtain ⟨⟨⟨⟨⟨rfl, rfl⟩, h1⟩, h2⟩, h3⟩, h4⟩ := h
      exact se_cmp2 g (chkE_ok so a sc _ h2 X g) (chkE_ok so b sc _ h3 X g) (chkE_ok so c sc _ h4 X g) h1
    · cases h
  | .and a b, sc, e, h, X, g => by
    unfold chkE at h
    split at h
    · simp only [Bool.and_eq_true] at h
      exact se_and (chkE_ok so a sc _ h.1 X g) (pe_one (chkE_ok so b sc _ h.2 X g).v)
    · simp only [Bool.and_eq_true] at h
      exact se_and (chkE_ok so a sc _ h.1 X g) (chkE_ok so b sc _ h.2 X g).v
    · cases h
  | .or a b, sc, e, h, X, g => by
    unfold chkE at h
    split at h
    · simp only [Bool.and_eq_true] at h
      exact se_or (chkE_ok so a sc _ h.1 X g) (pe_one (chkE_ok so b sc _ h.2 X g).v)
    · simp only [Bool.and_eq_true] at h
      exact se_or (chkE_ok so a sc _ h.1 X g) (chkE_ok so b sc _ h.2 X g).v
    · cases h
  | .not a, sc, e, h, X, g => by
    unfold chkE at h
    split at h
    · exact se_not (chkE_ok so a sc _ h X g)
    · cases h
  | .ife t a b, sc, e, h, X, g => by
    unfold chkE at h
    split at h
    · simp only [Bool.and_eq_true] at h
      exact se_ife (chkT_ok so t sc _ h.1.1 X g) (chkE_ok so a sc _ h.1.2 X g) (chkE_ok so b sc _ h.2 X g)
    · cases h
  | .ix a i, sc, e, h, X, g => by
    unfold chkE at h
    split at h
    · simp only [Bool.and_eq_true] at h
      exact se_ix g (chkE_ok so a sc _ h.1.2 X g) (chkE_ok so i sc _ h.2 X g) (nosl h.1.1)
    · cases h
  | .slc a lo hi, sc, e, h, X, g => by
    unfold chkE at h
    split at h
    · simp only [Bool.and_eq_true] at h
      exact se_slc g (chkE_ok so a sc _ h.1.1 X g) (chkO_ok so lo sc _ h.1.2 X g) (chkO_ok so hi sc _ h.2 X g)
    · cases h
  | .rev a, sc, e, h, X, g => by
    unfold chkE at h
    split at h
    · exact se_rev (chkE_ok so a sc _ h X g)
    · cases h
  | .tup args, sc, e, h, X, g => by
    unfold chkE at h
    split at h
    · exact se_tup (chkD_ok so args sc _ h X g)
    · cases h
  | .lst args, sc, e, h, X, g => by
    unfold chkE at h
    split at h
    · exact se_lst (chkD_ok so args sc _ h X g)
    · cases h
  | .call f args, sc, e, h, X, g => by
    unfold chkE at h
    split at h
    · simp only [Bool.and_eq_true, decide_eq_true_eq] at h
      obtain ⟨⟨⟨⟨rfl, h1⟩, h2⟩, h3⟩, h4⟩ := h
      exact .of (se_call g (chkA_ok so args sc _ h4 X g) (all_star h3) h1 (okNm_d h2)) rfl
    · cases h
  | .callo f k args, sc, e, h, X, g => by
    unfold chkE at h
    split at h
    · simp only [Bool.and_eq_true, decide_eq_true_eq] at h
      obtain ⟨⟨⟨⟨⟨rfl, h1⟩, h2⟩, h3⟩, h4⟩, h5⟩ := h
      exact .of (se_callo g (chkV_pe g h4) (chkA_ok so args sc _ h5 X g) (all_star h3) h1 (okNm_d h2)) rfl
    · cases h
  | .bi1 b a, sc, e, h, X, g => by
    unfold chkE at h
    split at h
    · simp only [Bool.and_eq_true, decide_eq_true_eq] at h
      obtain ⟨⟨⟨⟨⟨h1, h2⟩, hs⟩, h3⟩, h4⟩, h5⟩ := h
      exact se_bi1 g (fun e => so.st (by simpa [e] using hs) sc X g) h1 (chkE_ok so a sc _ h5 X g) h4 (glob_ok h3).1 (glob_ok h3).2 h2
    · cases h
  | .bi2 b a c, sc, e, h, X, g => by
    unfold chkE at h
    split at h
    · simp only [Bool.and_eq_true, decide_eq_true_eq] at h
      obtain ⟨⟨⟨⟨⟨h1, h2⟩, h3⟩, h4⟩, h5⟩, h6⟩ := h
      exact se_bi2 g h1 (chkE_ok so a sc _ h5 X g) (chkE_ok so c sc _ h6 X g) h3 h4 (glob_ok h2).1 (glob_ok h2).2
    · cases h
  | .isT a ts tup, sc, e, h, X, g => by
    unfold chkE at h
    split at h
    · simp only [Bool.and_eq_true, decide_eq_true_eq] at h
      obtain ⟨⟨⟨⟨⟨rfl, h2⟩, h3⟩, h4⟩, h5⟩, h6⟩ := h
      exact se_isT1 g (chkE_ok so a sc _ h6 X g) h5 (glob_ok h2).1 (glob_ok h2).2 h3 (glob_ok h4).1 (glob_ok h4).2
    · simp only [Bool.and_eq_true, decide_eq_true_eq] at h
      obtain ⟨⟨⟨⟨⟨⟨⟨rfl, h2⟩, h3⟩, h4⟩, h5⟩, h6⟩, h7⟩, h8⟩ := h
      exact se_isT2 g (chkE_ok so a sc _ h8 X g) h7 (glob_ok h2).1 (glob_ok h2).2 h3 (glob_ok h4).1 (glob_ok h4).2 h5 (glob_ok h6).1 (glob_ok h6).2
    · cases h
  | .lscr k, sc, e, h, X, g => by
    unfold chkE at h
    split at h
    · simp only [Bool.and_eq_true, decide_eq_true_eq] at h
      obtain ⟨⟨⟨rfl, h2⟩, h3⟩, h4⟩ := h
      exact se_lscr g (chkV_pe g h4) h3 (glob_ok h2).1 (glob_ok h2).2
    · cases h
  | .lrng args, sc, e, h, X, g => by
    unfold chkE at h
    match args, h with
    | .con a .emp, h =>
      simp only at h
      split at h
      · simp only [Bool.and_eq_true, decide_eq_true_eq] at h
        obtain ⟨⟨⟨⟨⟨rfl, h2⟩, rfl⟩, h4⟩, h5⟩, h6⟩ := h
        exact se_lrng1 g (chkE_ok so a sc _ h6 X g) h5 (glob_ok h4).1 (glob_ok h4).2 (glob_ok h2).1 (glob_ok h2).2
      · cases h
    | .con a (.con b .emp), h =>
      simp only at h
      split at h
      · simp only [Bool.and_eq_true, decide_eq_true_eq] at h
        obtain ⟨⟨⟨⟨⟨⟨⟨rfl, h2⟩, rfl⟩, h4⟩, h5⟩, h6⟩, h7⟩, h8⟩ := h
        exact se_lrng2 g (chkE_ok so a sc _ h7 X g) (chkE_ok so b sc _ h8 X g) h5 h6 (glob_ok h4).1 (glob_ok h4).2 (glob_ok h2).1 (glob_ok h2).2
      · cases h
  | .join s a, sc, e, h, X, g => by
    unfold chkE at h
    split at h
    · simp only [Bool.and_eq_true, decide_eq_true_eq] at h
      obtain ⟨⟨⟨⟨⟨rfl, h2⟩, h3⟩, h4⟩, h5⟩, h6⟩ := h
      exact se_join g (chkE_ok so s sc _ h5 X g) (chkE_ok so a sc _ h6 X g) h2 h3 h4
    · cases h
  | .split s a, sc, e, h, X, g => by
    unfold chkE at h
    split at h
    · simp only [Bool.and_eq_true, decide_eq_true_eq] at h
      obtain ⟨⟨⟨⟨⟨rfl, h2⟩, h3⟩, h4⟩, h5⟩, h6⟩ := h
      exact se_split g (chkE_ok so s sc _ h5 X g) (chkE_ok so a sc _ h6 X g) h2 h3 h4
    · cases h
  | .index k a, sc, e, h, X, g => by
    unfold chkE at h
    split at h
    · simp only [Bool.and_eq_true, decide_eq_true_eq] at h
      obtain ⟨⟨⟨⟨⟨rfl, h2⟩, h3⟩, h4⟩, h5⟩, h6⟩ := h
      exact se_index g (chkV_pe g h5) (chkE_ok so a sc _ h6 X g) h2 h3 h4
    · cases h
  | .popAt k a, sc, e, h, X, g => by
    unfold chkE at h
    split at h
    · simp only [Bool.and_eq_true, decide_eq_true_eq] at h
      obtain ⟨⟨⟨⟨⟨rfl, h2⟩, h3⟩, h4⟩, h5⟩, h6⟩ := h
      exact se_popAt g (chkV_pe g h5) (chkE_ok so a sc _ h6 X g) h2 h3 h4
    · cases h
  | .pop k, sc, e, h, X, g => by
    unfold chkE at h
    split at h
    · simp only [Bool.and_eq_true, decide_eq_true_eq] at h
      obtain ⟨⟨⟨rfl, h3⟩, h4⟩, h5⟩ := h
      exact se_pop g (chkV_pe g h5) h3 h4
    · cases h
  | .dnew, sc, e, h, X, g => by
    unfold chkE at h
    split at h
    · exact se_dnew
    · cases h
  | .dget k a, sc, e, h, X, g => by
    unfold chkE at h
    split at h
    · simp only [Bool.and_eq_true] at h
      exact se_dget g (chkV_pe g h.1.2) (chkE_ok so a sc _ h.2 X g) (nosl h.1.1)
    · cases h
  | .din neg a k, sc, e, h, X, g => by
    unfold chkE at h
    split at h
    · simp only [Bool.and_eq_true, decide_eq_true_eq, Bool.not_eq_true'] at h
      obtain ⟨⟨⟨rfl, h2⟩, h3⟩, h4⟩ := h
      exact se_din g (chkV_pe g h3) (chkE_ok so a sc _ h4 X g) h2
    · cases h
  | .ddef k a b, sc, e, h, X, g => by
    unfold chkE at h
    split at h
    · simp only [Bool.and_eq_true, decide_eq_true_eq] at h
      obtain ⟨⟨⟨⟨⟨⟨⟨rfl, h2⟩, h3⟩, h4⟩, h5⟩, h6⟩, h7⟩, h8⟩ := h
      exact se_ddef g (chkV_pe g h6) (chkE_ok so a sc _ h7 X g) (chkE_ok so b sc _ h8 X g) h2 h3 h4 h5
    · cases h
  | .fst args, sc, e, h, X, g => by
    unfold chkE at h
    split at h
    · exact se_fst (chkF_ok so args sc _ h X g)
    · cases h
  | .fmt a, sc, e, h, X, g => by
    unfold chkE at h
    split at h
    · exact se_fmt (chkE_ok so a sc _ h X g)
    · cases h
  | .comp own tg it cond elt, sc, e, h, X, g => by
    unfold chkE at h
    split at h
    · simp only [Bool.and_eq_true] at h
      obtain ⟨⟨⟨⟨⟨⟨h1, h2⟩, h3⟩, h4⟩, h5⟩, h6⟩, h7⟩ := h
      have key : ∀ pos, SE X C (.ListComp _ [⟨_, _, _, 0⟩] _ pos) (.comp ((ownOf N own).map (·.2)) tg it cond elt) := fun pos => se_comp g (own := ownOf N own) (by rw [ownOf_snd]; exact tgInB_ok h2) (blkOk_by h1) (chkI_ok so it sc _ _ h5 X g) (fun X g => chkG_pg g _ _ h3) (fun X g => chkQ_ok so cond _ _ h6 X g) (fun X g => chkE_ok so elt _ _ h7 X g) h4
      rw [ownOf_snd] at key
      exact key _
    · cases h
  | .emp, sc, e, h, X, g => by unfold chkE at h; cases h
  | .con _ _, sc, e, h, X, g => by unfold chkE at h; cases h
  | .str _ _, sc, e, h, X, g => by unfold chkE at h; cases h
  | .dvals kd i j, sc, e, h, X, g => by
    unfold chkE at h
    split at h
    · simp only [Bool.and_eq_true, decide_eq_true_eq] at h
      obtain ⟨⟨⟨⟨⟨⟨⟨⟨⟨⟨⟨rfl, rfl⟩, h2⟩, h3⟩, h4⟩, h5⟩, h6⟩, h7⟩, h8⟩, h9⟩, h10⟩, h11⟩ := h
      exact se_dvals g (chkV_pe g h4) h2 h3 (blkOk_by h5) h6 h7 h8 h9 h10 h11
    · cases h
  | .dnewT, sc, e, h, X, g => by
    unfold chkE at h
    split at h
    · exact se_dnewT
    · cases h
  | .dkT kd j, sc, e, h, X, g => by
    unfold chkE at h
    split at h
    · simp only [Bool.and_eq_true, decide_eq_true_eq] at h
      obtain ⟨⟨⟨⟨⟨⟨⟨rfl, rfl⟩, h2⟩, h3⟩, h4⟩, h5⟩, h6⟩, h7⟩ := h
      exact se_dkT g (chkV_pe g h2) (chkV_notSet h2) (blkOk_by h3) h4 h5 h6 h7
    · cases h
  | .sset _, sc, e, h, X, g => by unfold chkE at h; cases h
  | .srts a, sc, e, h, X, g => by
    unfold chkE at h
    split at h
    · simp only [Bool.and_eq_true, decide_eq_true_eq] at h
      obtain ⟨⟨⟨⟨rfl, h2⟩, h3⟩, h4⟩, h5⟩ := h
      obtain ⟨q1, q2⟩ := glob_ok h3
      exact se_srts g (so.ss h2 sc X g) (chkE_ok so a sc _ h5 X g) h4 q1 q2
    · cases h
  | .fmt2 a, sc, e, h, X, g => by
    unfold chkE at h
    split at h
    · simp only [Bool.and_eq_true, decide_eq_true_eq] at h
      obtain ⟨⟨rfl, h2⟩, h3⟩ := h
      exact se_fmt2 (so.f2 h2) (chkE_ok so a sc _ h3 X g)
    · cases h
  | .one _, sc, e, h, X, g => by unfold chkE at h; cases h
  | .rng _, sc, e, h, X, g => by unfold chkE at h; cases h
  | .enu _, sc, e, h, X, g => by unfold chkE at h; cases h
  | .zip _ _, sc, e, h, X, g => by unfold chkE at h; cases h
theorem chkT_ok (so : AllSorted G C n N) : ∀ (a : Ex) (sc : Scope) (e : Expr), chkT G N a sc e = true → ∀ X, Gd G C n N sc X → PT X e (tEb X.K fun ρ => toB (ev C a ρ))
  | .cmp op a b, sc, e, h, X, g => by
    unfold chkT at h
    split at h
    · simp only [Bool.and_eq_true, decide_eq_true_eq, Bool.not_eq_true'] at h
      obtain ⟨⟨⟨rfl, h1⟩, h2⟩, h3⟩ := h
      exact pt_cmpS g (chkE_ok so a sc _ h2 X g) (chkE_ok so b sc _ h3 X g) h1
    · cases h
  | .cmp2 o1 o2 a b c, sc, e, h, X, g => by
    unfold chkT at h
    split at h
    · simp only [Bool.and_eq_true, decide_eq_true_eq, Bool.not_eq_true'] at h
      obtain ⟨⟨⟨⟨⟨rfl, rfl⟩, h1⟩, h2⟩, h3⟩, h4⟩ := h
      exact pt_cmp2 g (chkE_ok so a sc _ h2 X g) (chkE_ok so b sc _ h3 X g) (chkE_ok so c sc _ h4 X g) h1
    · cases h
  | .and a b, sc, e, h, X, g => by
    unfold chkT at h
    split at h
    · simp only [Bool.and_eq_true] at h
      exact (pw_andS (chkT_ok so a sc _ h.1 X g) (pw_and1 (chkT_ok so b sc _ h.2 X g))).pt
    · simp only [Bool.and_eq_true] at h
      exact (pw_andS (chkT_ok so a sc _ h.1 X g) (pw_of_pt (chkT_ok so b sc _ h.2 X g))).pt
    · cases h
  | .or a b, sc, e, h, X, g => by
    unfold chkT at h
    split at h
    · simp only [Bool.and_eq_true] at h
      exact (pw_orS (chkT_ok so a sc _ h.1 X g) (pw_or1 (chkT_ok so b sc _ h.2 X g))).pt
    · simp only [Bool.and_eq_true] at h
      exact (pw_orS (chkT_ok so a sc _ h.1 X g) (pw_of_pt (chkT_ok so b sc _ h.2 X g))).pt
    · cases h
  | .not a, sc, e, h, X, g => by
    unfold chkT at h
    split at h
    · exact pt_notS (chkT_ok so a sc _ h X g)
    · cases h
  | .din neg a k, sc, e, h, X, g => by
    unfold chkT at h
    split at h
    · simp only [Bool.and_eq_true, decide_eq_true_eq, Bool.not_eq_true'] at h
      obtain ⟨⟨⟨rfl, h2⟩, h3⟩, h4⟩ := h
      exact pt_din g (chkV_pe g h3) (chkE_ok so a sc _ h4 X g) h2
    · cases h
  | .var k, sc, e, h, X, g => by
    unfold chkT at h
    simp only [Bool.and_eq_true] at h
    exact pt_plain (chkV_se g h.2) (plainT_ok h.1)
  | .cst v, sc, e, h, X, g => by
    unfold chkT at h
    simp only [Bool.and_eq_true] at h
    obtain ⟨h1, h⟩ := h
    split at h
    · exact pt_plain (chkC_se (sc := sc) h) (plainT_ok h1)
    · cases h
  | .call f args, sc, e, h, X, g => by
    unfold chkT at h
    split at h
    · simp only [Bool.and_eq_true, decide_eq_true_eq] at h
      obtain ⟨⟨⟨⟨rfl, h1⟩, h2⟩, h3⟩, h4⟩ := h
      exact pt_plain (.of (se_call g (chkA_ok so args sc _ h4 X g) (all_star h3) h1 (okNm_d h2)) rfl) (plainT_ok rfl)
    · cases h
  | .callo f k args, sc, e, h, X, g => by
    unfold chkT at h
    split at h
    · simp only [Bool.and_eq_true, decide_eq_true_eq] at h
      obtain ⟨⟨⟨⟨⟨rfl, h1⟩, h2⟩, h3⟩, h4⟩, h5⟩ := h
      exact pt_plain (.of (se_callo g (chkV_pe g h4) (chkA_ok so args sc _ h5 X g) (all_star h3) h1 (okNm_d h2)) rfl) (plainT_ok rfl)
    · cases h
  | .bi1 b a, sc, e, h, X, g => by
    unfold chkT at h
    split at h
    · simp only [Bool.and_eq_true, decide_eq_true_eq] at h
      obtain ⟨⟨⟨⟨⟨h1, h2⟩, hs⟩, h3⟩, h4⟩, h5⟩ := h
      exact pt_plain (se_bi1 g (fun e => so.st (by simpa [e] using hs) sc X g) h1 (chkE_ok so a sc _ h5 X g) h4 (glob_ok h3).1 (glob_ok h3).2 h2) (plainT_ok rfl)
    · cases h
  | .isT a ts tup, sc, e, h, X, g => by
    unfold chkT at h
    split at h
    · simp only [Bool.and_eq_true, decide_eq_true_eq] at h
      obtain ⟨⟨⟨⟨⟨rfl, h2⟩, h3⟩, h4⟩, h5⟩, h6⟩ := h
      exact pt_plain (se_isT1 g (chkE_ok so a sc _ h6 X g) h5 (glob_ok h2).1 (glob_ok h2).2 h3 (glob_ok h4).1 (glob_ok h4).2) (plainT_ok rfl)
    · simp only [Bool.and_eq_true, decide_eq_true_eq] at h
      obtain ⟨⟨⟨⟨⟨⟨⟨rfl, h2⟩, h3⟩, h4⟩, h5⟩, h6⟩, h7⟩, h8⟩ := h
      exact pt_plain (se_isT2 g (chkE_ok so a sc _ h8 X g) h7 (glob_ok h2).1 (glob_ok h2).2 h3 (glob_ok h4).1 (glob_ok h4).2 h5 (glob_ok h6).1 (glob_ok h6).2) (plainT_ok rfl)
    · cases h
  | .ix a i, sc, e, h, X, g => by
    unfold chkT at h
    split at h
    · simp only [Bool.and_eq_true] at h
      exact pt_plain (se_ix g (chkE_ok so a sc _ h.1.2 X g) (chkE_ok so i sc _ h.2 X g) (nosl h.1.1)) (plainT_ok rfl)
    · cases h
  | .glb _ _, sc, e, h, X, g => by unfold chkT at h; cases h
  | .bin _ _ _, sc, e, h, X, g => by unfold chkT at h; cases h
  | .neg _, sc, e, h, X, g => by unfold chkT at h; cases h
  | .ife _ _ _, sc, e, h, X, g => by unfold chkT at h; cases h
  | .slc _ _ _, sc, e, h, X, g => by unfold chkT at h; cases h
  | .rev _, sc, e, h, X, g => by unfold chkT at h; cases h
  | .tup _, sc, e, h, X, g => by unfold chkT at h; cases h
  | .lst _, sc, e, h, X, g => by unfold chkT at h; cases h
  | .emp, sc, e, h, X, g => by unfold chkT at h; cases h
  | .con _ _, sc, e, h, X, g => by unfold chkT at h; cases h
  | .str _ _, sc, e, h, X, g => by unfold chkT at h; cases h
  | .bi2 _ _ _, sc, e, h, X, g => by unfold chkT at h; cases h
  | .lscr _, sc, e, h, X, g => by unfold chkT at h; cases h
  | .lrng _, sc, e, h, X, g => by unfold chkT at h; cases h
  | .join _ _, sc, e, h, X, g => by unfold chkT at h; cases h
  | .split _ _, sc, e, h, X, g => by unfold chkT at h; cases h
  | .index _ _, sc, e, h, X, g => by unfold chkT at h; cases h
  | .popAt _ _, sc, e, h, X, g => by unfold chkT at h; cases h
  | .pop _, sc, e, h, X, g => by unfold chkT at h; cases h
  | .dnew, sc, e, h, X, g => by unfold chkT at h; cases h
  | .dget _ _, sc, e, h, X, g => by unfold chkT at h; cases h
  | .ddef _ _ _, sc, e, h, X, g => by unfold chkT at h; cases h
  | .dvals _ _ _, sc, e, h, X, g => by unfold chkT at h; cases h
  | .dnewT, sc, e, h, X, g => by unfold chkT at h; cases h
  | .dkT _ _, sc, e, h, X, g => by unfold chkT at h; cases h
  | .sset _, sc, e, h, X, g => by unfold chkT at h; cases h
  | .srts _, sc, e, h, X, g => by unfold chkT at h; cases h
  | .fst _, sc, e, h, X, g => by unfold chkT at h; cases h
  | .fmt _, sc, e, h, X, g => by unfold chkT at h; cases h
  | .fmt2 _, sc, e, h, X, g => by unfold chkT at h; cases h
  | .comp _ _ _ _ _, sc, e, h, X, g => by unfold chkT at h; cases h
  | .one _, sc, e, h, X, g => by unfold chkT at h; cases h
  | .rng _, sc, e, h, X, g => by unfold chkT at h; cases h
  | .enu _, sc, e, h, X, g => by unfold chkT at h; cases h
  | .zip _ _, sc, e, h, X, g => by unfold chkT at h; cases h
theorem chkO_ok (so : AllSorted G C n N) : ∀ (a : Ex) (sc : Scope) (e : Option Expr), chkO G N a sc e = true → ∀ X, Gd G C n N sc X → PO X e (tEo X.K (evO C a))
  | .emp, sc, e, h, X, g => by
    unfold chkO at h
    split at h
    · exact po_noneS
    · cases h
  | .one a, sc, e, h, X, g => by
    unfold chkO at h
    split at h
    · exact po_someS (chkE_ok so a sc _ h X g)
    · cases h
  | .var _, sc, e, h, X, g => by unfold chkO at h; cases h
  | .cst _, sc, e, h, X, g => by unfold chkO at h; cases h
  | .glb _ _, sc, e, h, X, g => by unfold chkO at h; cases h
  | .bin _ _ _, sc, e, h, X, g => by unfold chkO at h; cases h
  | .neg _, sc, e, h, X, g => by unfold chkO at h; cases h
  | .cmp _ _ _, sc, e, h, X, g => by unfold chkO at h; cases h
  | .cmp2 _ _ _ _ _, sc, e, h, X, g => by unfold chkO at h; cases h
  | .and _ _, sc, e, h, X, g => by unfold chkO at h; cases h
  | .or _ _, sc, e, h, X, g => by unfold chkO at h; cases h
  | .not _, sc, e, h, X, g => by unfold chkO at h; cases h
  | .ife _ _ _, sc, e, h, X, g => by unfold chkO at h; cases h
  | .ix _ _, sc, e, h, X, g => by unfold chkO at h; cases h
  | .slc _ _ _, sc, e, h, X, g => by unfold chkO at h; cases h
  | .rev _, sc, e, h, X, g => by unfold chkO at h; cases h
  | .tup _, sc, e, h, X, g => by unfold chkO at h; cases h
  | .lst _, sc, e, h, X, g => by unfold chkO at h; cases h
  | .con _ _, sc, e, h, X, g => by unfold chkO at h; cases h
  | .str _ _, sc, e, h, X, g => by unfold chkO at h; cases h
  | .call _ _, sc, e, h, X, g => by unfold chkO at h; cases h
  | .callo _ _ _, sc, e, h, X, g => by unfold chkO at h; cases h
  | .bi1 _ _, sc, e, h, X, g => by unfold chkO at h; cases h
  | .bi2 _ _ _, sc, e, h, X, g => by unfold chkO at h; cases h
  | .isT _ _ _, sc, e, h, X, g => by unfold chkO at h; cases h
  | .lscr _, sc, e, h, X, g => by unfold chkO at h; cases h
  | .lrng _, sc, e, h, X, g => by unfold chkO at h; cases h
  | .join _ _, sc, e, h, X, g => by unfold chkO at h; cases h
  | .split _ _, sc, e, h, X, g => by unfold chkO at h; cases h
  | .index _ _, sc, e, h, X, g => by unfold chkO at h; cases h
  | .popAt _ _, sc, e, h, X, g => by unfold chkO at h; cases h
  | .pop _, sc, e, h, X, g => by unfold chkO at h; cases h
  | .dnew, sc, e, h, X, g => by unfold chkO at h; cases h
  | .dget _ _, sc, e, h, X, g => by unfold chkO at h; cases h
  | .din _ _ _, sc, e, h, X, g => by unfold chkO at h; cases h
  | .ddef _ _ _, sc, e, h, X, g => by unfold chkO at h; cases h
  | .dvals _ _ _, sc, e, h, X, g => by unfold chkO at h; cases h
  | .dnewT, sc, e, h, X, g => by unfold chkO at h; cases h
  | .dkT _ _, sc, e, h, X, g => by unfold chkO at h; cases h
  | .sset _, sc, e, h, X, g => by unfold chkO at h; cases h
  | .srts _, sc, e, h, X, g => by unfold chkO at h; cases h
  | .fst _, sc, e, h, X, g => by unfold chkO at h; cases h
  | .fmt _, sc, e, h, X, g => by unfold chkO at h; cases h
  | .fmt2 _, sc, e, h, X, g => by unfold chkO at h; cases h
  | .comp _ _ _ _ _, sc, e, h, X, g => by unfold chkO at h; cases h
  | .rng _, sc, e, h, X, g => by unfold chkO at h; cases h
  | .enu _, sc, e, h, X, g => by unfold chkO at h; cases h
  | .zip _ _, sc, e, h, X, g => by unfold chkO at h; cases h
theorem chkQ_ok (so : AllSorted G C n N) : ∀ (a : Ex) (sc : Scope) (es : List Expr), chkQ G N a sc es = true → ∀ X, Gd G C n N sc X → PTs X es (tEb X.K (evQ C a))
  | .emp, sc, es, h, X, g => by
    unfold chkQ at h
    split at h
    · exact pts_empS
    · cases h
  | .one a, sc, es, h, X, g => by
    unfold chkQ at h
    split at h
    · exact pts_oneS (chkT_ok so a sc _ h X g)
    · cases h
  | .var _, sc, e, h, X, g => by unfold chkQ at h; cases h
  | .cst _, sc, e, h, X, g => by unfold chkQ at h; cases h
  | .glb _ _, sc, e, h, X, g => by unfold chkQ at h; cases h
  | .bin _ _ _, sc, e, h, X, g => by unfold chkQ at h; cases h
  | .neg _, sc, e, h, X, g => by unfold chkQ at h; cases h
  | .cmp _ _ _, sc, e, h, X, g => by unfold chkQ at h; cases h
  | .cmp2 _ _ _ _ _, sc, e, h, X, g => by unfold chkQ at h; cases h
  | .and _ _, sc, e, h, X, g => by unfold chkQ at h; cases h
  | .or _ _, sc, e, h, X, g => by unfold chkQ at h; cases h
  | .not _, sc, e, h, X, g => by unfold chkQ at h; cases h
  | .ife _ _ _, sc, e, h, X, g => by unfold chkQ at h; cases h
  | .ix _ _, sc, e, h, X, g => by unfold chkQ at h; cases h
  | .slc _ _ _, sc, e, h, X, g => by unfold chkQ at h; cases h
  | .rev _, sc, e, h, X, g => by unfold chkQ at h; cases h
  | .tup _, sc, e, h, X, g => by unfold chkQ at h; cases h
  | .lst _, sc, e, h, X, g => by unfold chkQ at h; cases h
  | .con _ _, sc, e, h, X, g => by unfold chkQ at h; cases h
  | .str _ _, sc, e, h, X, g => by unfold chkQ at h; cases h
  | .call _ _, sc, e, h, X, g => by unfold chkQ at h; cases h
  | .callo _ _ _, sc, e, h, X, g => by unfold chkQ at h; cases h
  | .bi1 _ _, sc, e, h, X, g => by unfold chkQ at h; cases h
  | .bi2 _ _ _, sc, e, h, X, g => by unfold chkQ at h; cases h
  | .isT _ _ _, sc, e, h, X, g => by unfold chkQ at h; cases h
  | .lscr _, sc, e, h, X, g => by unfold chkQ at h; cases h
  | .lrng _, sc, e, h, X, g => by unfold chkQ at h; cases h
  | .join _ _, sc, e, h, X, g => by unfold chkQ at h; cases h
  | .split _ _, sc, e, h, X, g => by unfold chkQ at h; cases h
  | .index _ _, sc, e, h, X, g => by unfold chkQ at h; cases h
  | .popAt _ _, sc, e, h, X, g => by unfold chkQ at h; cases h
  | .pop _, sc, e, h, X, g => by unfold chkQ at h; cases h
  | .dnew, sc, e, h, X, g => by unfold chkQ at h; cases h
  | .dget _ _, sc, e, h, X, g => by unfold chkQ at h; cases h
  | .din _ _ _, sc, e, h, X, g => by unfold chkQ at h; cases h
  | .ddef _ _ _, sc, e, h, X, g => by unfold chkQ at h; cases h
  | .dvals _ _ _, sc, e, h, X, g => by unfold chkQ at h; cases h
  | .dnewT, sc, e, h, X, g => by unfold chkQ at h; cases h
  | .dkT _ _, sc, e, h, X, g => by unfold chkQ at h; cases h
  | .sset _, sc, e, h, X, g => by unfold chkQ at h; cases h
  | .srts _, sc, e, h, X, g => by unfold chkQ at h; cases h
  | .fst _, sc, e, h, X, g => by unfold chkQ at h; cases h
  | .fmt _, sc, e, h, X, g => by unfold chkQ at h; cases h
  | .fmt2 _, sc, e, h, X, g => by unfold chkQ at h; cases h
  | .comp _ _ _ _ _, sc, e, h, X, g => by unfold chkQ at h; cases h
  | .rng _, sc, e, h, X, g => by unfold chkQ at h; cases h
  | .enu _, sc, e, h, X, g => by unfold chkQ at h; cases h
  | .zip _ _, sc, e, h, X, g => by unfold chkQ at h; cases h
theorem chkD_ok (so : AllSorted G C n N) : ∀ (a : Ex) (sc : Scope) (es : List Expr), chkD G N a sc es = true → ∀ X, Gd G C n N sc X → PA X es (tEs X.K (evD C a))
  | .emp, sc, es, h, X, g => by
    unfold chkD at h
    split at h
    · exact pa_emp
    · cases h
  | .con a r, sc, es, h, X, g => by
    unfold chkD at h
    split at h
    · simp only [Bool.and_eq_true] at h
      exact pa_con (chkE_ok so a sc _ h.1.2 X g) (chkD_ok so r sc _ h.2 X g) h.1.1
    · cases h
  | .str a r, sc, es, h, X, g => by
    unfold chkD at h
    split at h
    · simp only [Bool.and_eq_true] at h
      exact pa_str (chkE_ok so a sc _ h.1 X g) (chkD_ok so r sc _ h.2 X g)
    · cases h
  | .var _, sc, e, h, X, g => by unfold chkD at h; cases h
  | .cst _, sc, e, h, X, g => by unfold chkD at h; cases h
  | .glb _ _, sc, e, h, X, g => by unfold chkD at h; cases h
  | .bin _ _ _, sc, e, h, X, g => by unfold chkD at h; cases h
  | .neg _, sc, e, h, X, g => by unfold chkD at h; cases h
  | .cmp _ _ _, sc, e, h, X, g => by unfold chkD at h; cases h
  | .cmp2 _ _ _ _ _, sc, e, h, X, g => by unfold chkD at h; cases h
  | .and _ _, sc, e, h, X, g => by unfold chkD at h; cases h
  | .or _ _, sc, e, h, X, g => by unfold chkD at h; cases h
  | .not _, sc, e, h, X, g => by unfold chkD at h; cases h
  | .ife _ _ _, sc, e, h, X, g => by unfold chkD at h; cases h
  | .ix _ _, sc, e, h, X, g => by unfold chkD at h; cases h
  | .slc _ _ _, sc, e, h, X, g => by unfold chkD at h; cases h
  | .rev _, sc, e, h, X, g => by unfold chkD at h; cases h
  | .tup _, sc, e, h, X, g => by unfold chkD at h; cases h
  | .lst _, sc, e, h, X, g => by unfold chkD at h; cases h
  | .call _ _, sc, e, h, X, g => by unfold chkD at h; cases h
  | .callo _ _ _, sc, e, h, X, g => by unfold chkD at h; cases h
  | .bi1 _ _, sc, e, h, X, g => by unfold chkD at h; cases h
  | .bi2 _ _ _, sc, e, h, X, g => by unfold chkD at h; cases h
  | .isT _ _ _, sc, e, h, X, g => by unfold chkD at h; cases h
  | .lscr _, sc, e, h, X, g => by unfold chkD at h; cases h
  | .lrng _, sc, e, h, X, g => by unfold chkD at h; cases h
  | .join _ _, sc, e, h, X, g => by unfold chkD at h; cases h
  | .split _ _, sc, e, h, X, g => by unfold chkD at h; cases h
  | .index _ _, sc, e, h, X, g => by unfold chkD at h; cases h
  | .popAt _ _, sc, e, h, X, g => by unfold chkD at h; cases h
  | .pop _, sc, e, h, X, g => by unfold chkD at h; cases h
  | .dnew, sc, e, h, X, g => by unfold chkD at h; cases h
  | .dget _ _, sc, e, h, X, g => by unfold chkD at h; cases h
  | .din _ _ _, sc, e, h, X, g => by unfold chkD at h; cases h
  | .ddef _ _ _, sc, e, h, X, g => by unfold chkD at h; cases h
  | .dvals _ _ _, sc, e, h, X, g => by unfold chkD at h; cases h
  | .dnewT, sc, e, h, X, g => by unfold chkD at h; cases h
  | .dkT _ _, sc, e, h, X, g => by unfold chkD at h; cases h
  | .sset _, sc, e, h, X, g => by unfold chkD at h; cases h
  | .srts _, sc, e, h, X, g => by unfold chkD at h; cases h
  | .fst _, sc, e, h, X, g => by unfold chkD at h; cases h
  | .fmt _, sc, e, h, X, g => by unfold chkD at h; cases h
  | .fmt2 _, sc, e, h, X, g => by unfold chkD at h; cases h
  | .comp _ _ _ _ _, sc, e, h, X, g => by unfold chkD at h; cases h
  | .one _, sc, e, h, X, g => by unfold chkD at h; cases h
  | .rng _, sc, e, h, X, g => by unfold chkD at h; cases h
  | .enu _, sc, e, h, X, g => by unfold chkD at h; cases h
  | .zip _ _, sc, e, h, X, g => by unfold chkD at h; cases h
theorem chkF_ok (so : AllSorted G C n N) : ∀ (a : Ex) (sc : Scope) (es : List Expr), chkF G N a sc es = true → ∀ X, Gd G C n N sc X → PF X C es a
  | .emp, sc, es, h, X, g => by
    unfold chkF at h
    split at h
    · exact pf_nil
    · cases h
  | .con a r, sc, es, h, X, g => by
    unfold chkF at h
    split at h
    · simp only [Bool.and_eq_true] at h
      exact pf_cons (chkE_ok so a sc _ h.1 X g) (chkF_ok so r sc _ h.2 X g)
    · cases h
  | .var _, sc, e, h, X, g => by unfold chkF at h; cases h
  | .cst _, sc, e, h, X, g => by unfold chkF at h; cases h
  | .glb _ _, sc, e, h, X, g => by unfold chkF at h; cases h
  | .bin _ _ _, sc, e, h, X, g => by unfold chkF at h; cases h
  | .neg _, sc, e, h, X, g => by unfold chkF at h; cases h
  | .cmp _ _ _, sc, e, h, X, g => by unfold chkF at h; cases h
  | .cmp2 _ _ _ _ _, sc, e, h, X, g => by unfold chkF at h; cases h
  | .and _ _, sc, e, h, X, g => by unfold chkF at h; cases h
  | .or _ _, sc, e, h, X, g => by unfold chkF at h; cases h
  | .not _, sc, e, h, X, g => by unfold chkF at h; cases h
  | .ife _ _ _, sc, e, h, X, g => by unfold chkF at h; cases h
  | .ix _ _, sc, e, h, X, g => by unfold chkF at h; cases h
  | .slc _ _ _, sc, e, h, X, g => by unfold chkF at h; cases h
  | .rev _, sc, e, h, X, g => by unfold chkF at h; cases h
  | .tup _, sc, e, h, X, g => by unfold chkF at h; cases h
  | .lst _, sc, e, h, X, g => by unfold chkF at h; cases h
  | .str _ _, sc, e, h, X, g => by unfold chkF at h; cases h
  | .call _ _, sc, e, h, X, g => by unfold chkF at h; cases h
  | .callo _ _ _, sc, e, h, X, g => by unfold chkF at h; cases h
  | .bi1 _ _, sc, e, h, X, g => by unfold chkF at h; cases h
  | .bi2 _ _ _, sc, e, h, X, g => by unfold chkF at h; cases h
  | .isT _ _ _, sc, e, h, X, g => by unfold chkF at h; cases h
  | .lscr _, sc, e, h, X, g => by unfold chkF at h; cases h
  | .lrng _, sc, e, h, X, g => by unfold chkF at h; cases h
  | .join _ _, sc, e, h, X, g => by unfold chkF at h; cases h
  | .split _ _, sc, e, h, X, g => by unfold chkF at h; cases h
  | .index _ _, sc, e, h, X, g => by unfold chkF at h; cases h
  | .popAt _ _, sc, e, h, X, g => by unfold chkF at h; cases h
  | .pop _, sc, e, h, X, g => by unfold chkF at h; cases h
  | .dnew, sc, e, h, X, g => by unfold chkF at h; cases h
  | .dget _ _, sc, e, h, X, g => by unfold chkF at h; cases h
  | .din _ _ _, sc, e, h, X, g => by unfold chkF at h; cases h
  | .ddef _ _ _, sc, e, h, X, g => by unfold chkF at h; cases h
  | .dvals _ _ _, sc, e, h, X, g => by unfold chkF at h; cases h
  | .dnewT, sc, e, h, X, g => by unfold chkF at h; cases h
  | .dkT _ _, sc, e, h, X, g => by unfold chkF at h; cases h
  | .sset _, sc, e, h, X, g => by unfold chkF at h; cases h
  | .srts _, sc, e, h, X, g => by unfold chkF at h; cases h
  | .fst _, sc, e, h, X, g => by unfold chkF at h; cases h
  | .fmt _, sc, e, h, X, g => by unfold chkF at h; cases h
  | .fmt2 _, sc, e, h, X, g => by unfold chkF at h; cases h
  | .comp _ _ _ _ _, sc, e, h, X, g => by unfold chkF at h; cases h
  | .one _, sc, e, h, X, g => by unfold chkF at h; cases h
  | .rng _, sc, e, h, X, g => by unfold chkF at h; cases h
  | .enu _, sc, e, h, X, g => by unfold chkF at h; cases h
  | .zip _ _, sc, e, h, X, g => by unfold chkF at h; cases h
theorem chkA_ok (so : AllSorted G C n N) : ∀ (a : Ex) (sc : Scope) (es : List Expr), chkA G N a sc es = true → ∀ X, Gd G C n N sc X → PA X es (tEa X.K (evA C a))
  | .emp, sc, es, h, X, g => by
    unfold chkA at h
    split at h
    · exact aa_nil
    · cases h
  | .con a r, sc, es, h, X, g => by
    unfold chkA at h
    split at h
    · simp only [Bool.and_eq_true] at h
      exact aa_con (chkE_ok so a sc _ h.1.2 X g) (chkA_ok so r sc _ h.2 X g) h.1.1
    · cases h
  | .var _, sc, e, h, X, g => by unfold chkA at h; cases h
  | .cst _, sc, e, h, X, g => by unfold chkA at h; cases h
  | .glb _ _, sc, e, h, X, g => by unfold chkA at h; cases h
  | .bin _ _ _, sc, e, h, X, g => by unfold chkA at h; cases h
  | .neg _, sc, e, h, X, g => by unfold chkA at h; cases h
  | .cmp _ _ _, sc, e, h, X, g => by unfold chkA at h; cases h
  | .cmp2 _ _ _ _ _, sc, e, h, X, g => by unfold chkA at h; cases h
  | .and _ _, sc, e, h, X, g => by unfold chkA at h; cases h
  | .or _ _, sc, e, h, X, g => by unfold chkA at h; cases h
  | .not _, sc, e, h, X, g => by unfold chkA at h; cases h
  | .ife _ _ _, sc, e, h, X, g => by unfold chkA at h; cases h
  | .ix _ _, sc, e, h, X, g => by unfold chkA at h; cases h
  | .slc _ _ _, sc, e, h, X, g => by unfold chkA at h; cases h
  | .rev _, sc, e, h, X, g => by unfold chkA at h; cases h
  | .tup _, sc, e, h, X, g => by unfold chkA at h; cases h
  | .lst _, sc, e, h, X, g => by unfold chkA at h; cases h
  | .str _ _, sc, e, h, X, g => by unfold chkA at h; cases h
  | .call _ _, sc, e, h, X, g => by unfold chkA at h; cases h
  | .callo _ _ _, sc, e, h, X, g => by unfold chkA at h; cases h
  | .bi1 _ _, sc, e, h, X, g => by unfold chkA at h; cases h
  | .bi2 _ _ _, sc, e, h, X, g => by unfold chkA at h; cases h
  | .isT _ _ _, sc, e, h, X, g => by unfold chkA at h; cases h
  | .lscr _, sc, e, h, X, g => by unfold chkA at h; cases h
  | .lrng _, sc, e, h, X, g => by unfold chkA at h; cases h
  | .join _ _, sc, e, h, X, g => by unfold chkA at h; cases h
  | .split _ _, sc, e, h, X, g => by unfold chkA at h; cases h
  | .index _ _, sc, e, h, X, g => by unfold chkA at h; cases h
  | .popAt _ _, sc, e, h, X, g => by unfold chkA at h; cases h
  | .pop _, sc, e, h, X, g => by unfold chkA at h; cases h
  | .dnew, sc, e, h, X, g => by unfold chkA at h; cases h
  | .dget _ _, sc, e, h, X, g => by unfold chkA at h; cases h
  | .din _ _ _, sc, e, h, X, g => by unfold chkA at h; cases h
  | .ddef _ _ _, sc, e, h, X, g => by unfold chkA at h; cases h
  | .dvals _ _ _, sc, e, h, X, g => by unfold chkA at h; cases h
  | .dnewT, sc, e, h, X, g => by unfold chkA at h; cases h
  | .dkT _ _, sc, e, h, X, g => by unfold chkA at h; cases h
  | .sset _, sc, e, h, X, g => by unfold chkA at h; cases h
  | .srts _, sc, e, h, X, g => by unfold chkA at h; cases h
  | .fst _, sc, e, h, X, g => by unfold chkA at h; cases h
  | .fmt _, sc, e, h, X, g => by unfold chkA at h; cases h
  | .fmt2 _, sc, e, h, X, g => by unfold chkA at h; cases h
  | .comp _ _ _ _ _, sc, e, h, X, g => by unfold chkA at h; cases h
  | .one _, sc, e, h, X, g => by unfold chkA at h; cases h
  | .rng _, sc, e, h, X, g => by unfold chkA at h; cases h
  | .enu _, sc, e, h, X, g => by unfold chkA at h; cases h
  | .zip _ _, sc, e, h, X, g => by unfold chkA at h; cases h
theorem chkI_ok (so : AllSorted G C n N) : ∀ (a : Ex) (sc : Scope) (tgx e : Expr), chkI G N a sc tgx e = true → ∀ X, Gd G C n N sc X → PI X tgx e (tI X.K (evI C a))
  | .one a, sc, tgx, e, h, X, g => by
    unfold chkI at h
    exact pi_oneS (chkE_ok so a sc e h X g)
  | .rng args, sc, tgx, e, h, X, g => by
    unfold chkI at h
    match args, h with
    | .con a .emp, h =>
      simp only at h
      split at h
      · simp only [Bool.and_eq_true, decide_eq_true_eq] at h
        obtain ⟨⟨⟨rfl, h2⟩, h3⟩, h4⟩ := h
        exact pi_rng1S g (pa_con (chkE_ok so a sc _ h4 X g) pa_emp h3) h3 (glob_ok h2).1 (glob_ok h2).2
      · cases h
    | .con a (.con b .emp), h =>
      simp only at h
      split at h
      · simp only [Bool.and_eq_true, decide_eq_true_eq] at h
        obtain ⟨⟨⟨⟨⟨rfl, h2⟩, h3⟩, h4⟩, h5⟩, h6⟩ := h
        exact pi_rng2S g (pa_con (chkE_ok so a sc _ h5 X g) (pa_con (chkE_ok so b sc _ h6 X g) pa_emp h4) h3) h3 h4 (glob_ok h2).1 (glob_ok h2).2
      · cases h
    | .con a (.con b (.con c .emp)), h =>
      simp only at h
      split at h
      · simp only [Bool.and_eq_true, decide_eq_true_eq] at h
        obtain ⟨⟨⟨⟨⟨⟨⟨rfl, h2⟩, h3⟩, h4⟩, h5⟩, h6⟩, h7⟩, h8⟩ := h
        exact pi_rng3S g (pa_con (chkE_ok so a sc _ h6 X g) (pa_con (chkE_ok so b sc _ h7 X g) (pa_con (chkE_ok so c sc _ h8 X g) pa_emp h5) h4) h3) h3 h4 h5 (glob_ok h2).1 (glob_ok h2).2
      · cases h
  | .enu a, sc, tgx, e, h, X, g => by
    unfold chkI at h
    split at h
    · simp only [Bool.and_eq_true, decide_eq_true_eq] at h
      obtain ⟨⟨⟨rfl, h2⟩, h3⟩, h4⟩ := h
      exact pi_enuS g (chkE_ok so a sc _ h4 X g) h3 (glob_ok h2).1 (glob_ok h2).2
    · cases h
  | .zip a b, sc, tgx, e, h, X, g => by
    unfold chkI at h
    split at h
    · simp only [Bool.and_eq_true, decide_eq_true_eq] at h
      obtain ⟨⟨⟨⟨⟨rfl, h2⟩, h3⟩, h4⟩, h5⟩, h6⟩ := h
      exact pi_zipS g (chkE_ok so a sc _ h5 X g) (chkE_ok so b sc _ h6 X g) h3 h4 (glob_ok h2).1 (glob_ok h2).2
    · cases h
  | .var _, sc, tgx, e, h, X, g => by unfold chkI at h; cases h
  | .cst _, sc, tgx, e, h, X, g => by unfold chkI at h; cases h
  | .glb _ _, sc, tgx, e, h, X, g => by unfold chkI at h; cases h
  | .bin _ _ _, sc, tgx, e, h, X, g => by unfold chkI at h; cases h
  | .neg _, sc, tgx, e, h, X, g => by unfold chkI at h; cases h
  | .cmp _ _ _, sc, tgx, e, h, X, g => by unfold chkI at h; cases h
  | .cmp2 _ _ _ _ _, sc, tgx, e, h, X, g => by unfold chkI at h; cases h
  | .and _ _, sc, tgx, e, h, X, g => by unfold chkI at h; cases h
  | .or _ _, sc, tgx, e, h, X, g => by unfold chkI at h; cases h
  | .not _, sc, tgx, e, h, X, g => by unfold chkI at h; cases h
  | .ife _ _ _, sc, tgx, e, h, X, g => by unfold chkI at h; cases h
  | .ix _ _, sc, tgx, e, h, X, g => by unfold chkI at h; cases h
  | .slc _ _ _, sc, tgx, e, h, X, g => by unfold chkI at h; cases h
  | .rev _, sc, tgx, e, h, X, g => by unfold chkI at h; cases h
  | .tup _, sc, tgx, e, h, X, g => by unfold chkI at h; cases h
  | .lst _, sc, tgx, e, h, X, g => by unfold chkI at h; cases h
  | .emp, sc, tgx, e, h, X, g => by unfold chkI at h; cases h
  | .con _ _, sc, tgx, e, h, X, g => by unfold chkI at h; cases h
  | .str _ _, sc, tgx, e, h, X, g => by unfold chkI at h; cases h
  | .call _ _, sc, tgx, e, h, X, g => by unfold chkI at h; cases h
  | .callo _ _ _, sc, tgx, e, h, X, g => by unfold chkI at h; cases h
  | .bi1 _ _, sc, tgx, e, h, X, g => by unfold chkI at h; cases h
  | .bi2 _ _ _, sc, tgx, e, h, X, g => by unfold chkI at h; cases h
  | .isT _ _ _, sc, tgx, e, h, X, g => by unfold chkI at h; cases h
  | .lscr _, sc, tgx, e, h, X, g => by unfold chkI at h; cases h
  | .lrng _, sc, tgx, e, h, X, g => by unfold chkI at h; cases h
  | .join _ _, sc, tgx, e, h, X, g => by unfold chkI at h; cases h
  | .split _ _, sc, tgx, e, h, X, g => by unfold chkI at h; cases h
  | .index _ _, sc, tgx, e, h, X, g => by unfold chkI at h; cases h
  | .popAt _ _, sc, tgx, e, h, X, g => by unfold chkI at h; cases h
  | .pop _, sc, tgx, e, h, X, g => by unfold chkI at h; cases h
  | .dnew, sc, tgx, e, h, X, g => by unfold chkI at h; cases h
  | .dget _ _, sc, tgx, e, h, X, g => by unfold chkI at h; cases h
  | .din _ _ _, sc, tgx, e, h, X, g => by unfold chkI at h; cases h
  | .ddef _ _ _, sc, tgx, e, h, X, g => by unfold chkI at h; cases h
  | .dvals _ _ _, sc, tgx, e, h, X, g => by unfold chkI at h; cases h
  | .dnewT, sc, tgx, e, h, X, g => by unfold chkI at h; cases h
  | .dkT _ _, sc, tgx, e, h, X, g => by unfold chkI at h; cases h
  | .sset _, sc, tgx, e, h, X, g => by unfold chkI at h; cases h
  | .srts _, sc, tgx, e, h, X, g => by unfold chkI at h; cases h
  | .fst _, sc, tgx, e, h, X, g => by unfold chkI at h; cases h
  | .fmt _, sc, tgx, e, h, X, g => by unfold chkI at h; cases h
  | .fmt2 _, sc, tgx, e, h, X, g => by unfold chkI at h; cases h
  | .comp _ _ _ _ _, sc, tgx, e, h, X, g => by unfold chkI at h; cases h
end
end
end Mn

namespace Mn
open PySem PySem.Spec PyProof.Rows L2
/-! ## the checker of statements -/
def swapC (sc scope : Scope) (x : Str) (p q : Pos) : Bool := decide (sc.names.lookup x = some .local) && p.line == q.line && !(scope.names.any fun (n, k) => n == x && (k == .local || k == .cell))
def setC (N : List Str) (sc : Scope) (i : Nat) (x : Str) : Bool := decide (N[i]? = some x) && locB sc x
def isLoc (sc : Scope) (x : Str) : Bool := decide (sc.names.lookup x = some .local)
def cellC (sc : Scope) (ts : List Expr) : Bool := (ts.filterMap fun | .Name id pos => if sc.names.lookup id == some .local && pos.line == (ts.head?.map (·.pos.line)).getD 0 then some id else none | _ => none).length != ts.length
def setShape (sc : Scope) (a : Ex) (x : Str) (p : Pos) (e : Expr) : Bool := match e with
  | .ListComp _ _ scope q => !swapC sc scope x p q || (match a with | .comp _ _ _ _ _ => true | _ => false)
  | e => notComp e
mutual
def chkS (G : Cfg) (N : List Str) : Sx → Scope → Stmt → Bool
  | .skip, _, st => (match st with | .Pass _ => true | .Expr (.Constant (.str _) _ _) _ => true | _ => false)
  | .seq _ _, _, _ => false
  | .set i a, sc, st => (match st with
    | .Assign [.Name x p] e _ => setC N sc i x && chkE G N a sc e && setShape sc a x p e
    | _ => false)
  | .tset tg a, sc, st => (match st with
    | .Assign [t] e _ => notStar t && notComp e && notTup e && chkE G N a sc e && chkG N tg sc t
    | _ => false)
  | .par2 i j a b, sc, st => (match st with
    | .Assign [.Tuple [.Name x px, .Name y py] kt pt] (.Tuple [e1, e2] _ _) _ => setC N sc i x && setC N sc j y && notStar e1 && notStar e2 && chkE G N a sc e1 && chkE G N b sc e2 &&
      ((isLoc sc x && isLoc sc y && px.line == py.line && !(x == y) && !(foldedForSure 8 e1 && foldedForSure 8 e2) && !(constantsAlone 8 e1 && constantsAlone 8 e2) && decide (i ≠ j)) ||
        [e1, e2].all (foldedForSure 8) || cellC sc [.Name x px, .Name y py])
    | _ => false)
  | .par3 i j l a b c, sc, st => (match st with
    | .Assign [.Tuple [.Name x px, .Name y py, .Name z pz] kt pt] (.Tuple [e1, e2, e3] _ _) _ => setC N sc i x && setC N sc j y && setC N sc l z && notStar e1 && notStar e2 && notStar e3 && chkE G N a sc e1 && chkE G N b sc e2 && chkE G N c sc e3 &&
      ((isLoc sc x && isLoc sc y && isLoc sc z && px.line == py.line && px.line == pz.line && !(x == y) && !(x == z) && !(y == z) && !(foldedForSure 8 e1 && (foldedForSure 8 e2 && foldedForSure 8 e3)) && !(constantsAlone 8 e1 && (constantsAlone 8 e2 && constantsAlone 8 e3)) && decide (i ≠ j) && decide (i ≠ l) && decide (j ≠ l)) ||
        [e1, e2, e3].all (foldedForSure 8) || cellC sc [.Name x px, .Name y py, .Name z pz])
    | _ => false)
  | .aug i op a, sc, st => (match st with | .AugAssign (.Name x _) o e _ => decide (op = .Add) && decide (o = .Add) && setC N sc i x && chkE G N a sc e | _ => false)
  | .sti k i a, sc, st => (match st with | .Assign [.Subscript o j _] e _ => notSl j && notComp e && chkV N sc k o && chkE G N i sc j && chkE G N a sc e | _ => false)
  | .augi k i op a, sc, st => (match st with | .AugAssign (.Subscript o j _) o2 e _ => decide (op = .Sub) && decide (o2 = .Sub) && notSl j && chkV N sc k o && chkE G N i sc j && chkE G N a sc e | _ => false)
  | .dsetT k i a, sc, st => (match st with | .Assign [.Subscript o j _] e _ => notComp e && chkV N sc k o && chkE G N i sc j && chkE G N a sc e | _ => false)
  | .dset k i a, sc, st => (match st with | .Assign [.Subscript o j _] e _ => notComp e && chkV N sc k o && chkE G N i sc j && chkE G N a sc e | _ => false)
  | .app k a, sc, st => (match st with | .Expr (.Call (.Attribute o m ap) [e1] [] cp) _ => decide (m = "append") && notStar e1 && notCall o && lineOk ap cp && chkV N sc k o && chkE G N a sc e1 | _ => false)
  | .ext k a, sc, st => (match st with | .Expr (.Call (.Attribute o m ap) [e1] [] cp) _ => decide (m = "extend") && notStar e1 && notCall o && lineOk ap cp && chkV N sc k o && chkE G N a sc e1 | _ => false)
  | .ins k i a, sc, st => (match st with | .Expr (.Call (.Attribute o m ap) [j, e1] [] cp) _ => decide (m = "insert") && notStar j && notStar e1 && notCall o && lineOk ap cp && chkV N sc k o && chkE G N i sc j && chkE G N a sc e1 | _ => false)
  | .drp a, sc, st => (match st with | .Expr e _ => notComp e && chkE G N a sc e | _ => false)
  | .ife t a b, sc, st => (match st with | .If c as bs _ => chkT G N t sc c && chkSs G N a sc as && chkSs G N b sc bs | _ => false)
  | .for tg it b, sc, st => (match st with | .For tgx iter body [] _ => chkI G N it sc tgx iter && chkG N tg sc tgx && notSet iter && chkSs G N b sc body | _ => false)
  | .whl t b, sc, st => (match st with | .While c body [] _ => chkT G N t sc c && chkSs G N b sc body | _ => false)
  | .ret a, sc, st => (match st with
    | .Return (some e) _ => chkE G N a sc e
    | .Return none _ => (match a with | .cst .none => true | _ => false)
    | _ => false)
def chkSs (G : Cfg) (N : List Str) : Sx → Scope → List Stmt → Bool
  | .skip, _, sts => (match sts with | [] => true | _ => false)
  | .seq a b, sc, sts => (match sts with | st :: rest => chkS G N a sc st && chkSs G N b sc rest | _ => false)
  | .set _ _, _, _ => false
  | .tset _ _, _, _ => false
  | .par2 _ _ _ _, _, _ => false
  | .par3 _ _ _ _ _ _, _, _ => false
  | .aug _ _ _, _, _ => false
  | .sti _ _ _, _, _ => false
  | .augi _ _ _ _, _, _ => false
  | .dsetT _ _ _, _, _ => false
  | .dset _ _ _, _, _ => false
  | .app _ _, _, _ => false
  | .ext _ _, _, _ => false
  | .ins _ _ _, _, _ => false
  | .drp _, _, _ => false
  | .ife _ _ _, _, _ => false
  | .for _ _ _, _, _ => false
  | .whl _ _, _, _ => false
  | .ret _, _, _ => false
end
section
variable {G : Cfg} {C : CallF} {n : Nat} {N : List Str} {sc : Scope} {X : Cx}
theorem setC_ok {i : Nat} {x : Str} (h : setC N sc i x = true) : N[i]? = some x ∧ locB sc x = true := by
  unfold setC at h
  simpa using h
theorem set_ok (so : AllSorted G C n N) (g : Gd G C n N sc X) (hsc : X.env.scope = sc) {i : Nat} {a : Ex} {x : Str} {p pos : Pos} {e : Expr} (h1 : setC N sc i x = true) (h2 : chkE G N a sc e = true)
    (h3 : setShape sc a x p e = true) : PS X (.Assign [.Name x p] e pos) (tSt X.K (evS C (.set i a))) := by
  obtain ⟨hN, hl⟩ := setC_ok h1
  unfold setShape at h3
  cases e with
  | ListComp el gens scope q =>
    cases hs : swapC sc scope x p q with
    | false => exact ss_setLc2 g hsc hN hl hs (chkE_ok so a sc _ h2 X g)
    | true =>
      simp only [hs, Bool.not_true, Bool.false_or] at h3
      cases a with
      | comp own tg it cond elt =>
        unfold chkE at h2
        split at h2
        · rename_i heq
          cases heq
          simp only [Bool.and_eq_true] at h2
          obtain ⟨⟨⟨⟨⟨⟨h4, h5⟩, h6⟩, h7⟩, h8⟩, h9⟩, h10⟩ := h2
          unfold swapC at hs
          simp only [Bool.and_eq_true, decide_eq_true_eq, beq_iff_eq, Bool.not_eq_true'] at hs
          have key := ss_setLc (p := p) (spos := pos) (pos := q) g hsc (own := ownOf N own) hN hs.1.1 hs.1.2 hs.2 (by rw [ownOf_snd]; exact tgInB_ok h5) (blkOk_by h4) (chkI_ok so it sc _ _ h8 X g) (fun X g => chkG_pg g _ _ h6) (fun X g => chkQ_ok so cond _ _ h9 X g) (fun X g => chkE_ok so elt _ _ h10 X g) h7
          rw [ownOf_snd] at key
          exact key
        · cases h2
      | _ => cases h3
  | _ => exact ss_set g hN hl (chkE_ok so a sc _ h2 X g) h3
mutual
theorem chkS_ok (so : AllSorted G C n N) (g : Gd G C n N sc X) (hsc : X.env.scope = sc) : ∀ (s : Sx) (st : Stmt), chkS G N s sc st = true → PS X st (tSt X.K (evS C s))
  | .skip, st, h => by
    unfold chkS at h
    split at h
    · exact ss_skip ps_pass
    · exact ss_skip ps_doc
    · cases h
  | .seq _ _, st, h => by unfold chkS at h; cases h
  | .set i a, st, h => by
    unfold chkS at h
    split at h
    · rw [Bool.and_eq_true, Bool.and_eq_true] at h
      exact set_ok so g hsc h.1.1 h.1.2 h.2
    · cases h
  | .tset tg a, st, h => by
    unfold chkS at h
    split at h
    · simp only [Bool.and_eq_true] at h
      obtain ⟨⟨⟨⟨h1, h2⟩, h3⟩, h4⟩, h5⟩ := h
      exact ss_tset g (chkE_ok so a sc _ h4 X g) (chkG_pg g tg _ h5) h1 h2 h3
    · cases h
  | .par2 i j a b, st, h => by
    unfold chkS at h
    split at h
    · simp only [Bool.and_eq_true, Bool.or_eq_true] at h
      obtain ⟨⟨⟨⟨⟨⟨h1, h2⟩, h3⟩, h4⟩, h5⟩, h6⟩, h7⟩ := h
      obtain ⟨n1, l1⟩ := setC_ok h1
      obtain ⟨n2, l2⟩ := setC_ok h2
      rcases h7 with (h7 | h7) | h7
      · simp only [decide_eq_true_eq, Bool.not_eq_true'] at h7
        obtain ⟨⟨⟨⟨⟨⟨q1, q2⟩, q3⟩, q4⟩, q5⟩, q6⟩, q7⟩ := h7
        exact ss_par2 g hsc n1 n2 q7 (by simpa [isLoc] using q1) (by simpa [isLoc] using q2) q3 q4 h3 h4 q5 q6 (chkE_ok so a sc _ h5 X g) (chkE_ok so b sc _ h6 X g)
      · exact ss_par2n g n1 n2 l1 l2 h3 h4 (sw_fold h7) (chkE_ok so a sc _ h5 X g) (chkE_ok so b sc _ h6 X g)
      · exact ss_par2n g n1 n2 l1 l2 h3 h4 (sw_cell g hsc h7) (chkE_ok so a sc _ h5 X g) (chkE_ok so b sc _ h6 X g)
    · cases h
  | .par3 i j l a b c, st, h => by
    unfold chkS at h
    split at h
    · simp only [Bool.and_eq_true, Bool.or_eq_true] at h
      obtain ⟨⟨⟨⟨⟨⟨⟨⟨⟨h1, h2⟩, h2'⟩, h3⟩, h4⟩, h4'⟩, h5⟩, h6⟩, h6'⟩, h7⟩ := h
      obtain ⟨n1, l1⟩ := setC_ok h1
      obtain ⟨n2, l2⟩ := setC_ok h2
      obtain ⟨n3, l3⟩ := setC_ok h2'
      rcases h7 with (h7 | h7) | h7
      · simp only [decide_eq_true_eq, Bool.not_eq_true'] at h7
        obtain ⟨⟨⟨⟨⟨⟨⟨⟨⟨⟨⟨⟨q1, q2⟩, q2'⟩, q3⟩, q3'⟩, q4⟩, q4'⟩, q4''⟩, q5⟩, q6⟩, q7⟩, q8⟩, q9⟩ := h7
        exact ss_par3 g hsc n1 n2 n3 q7 q8 q9 (by simpa [isLoc] using q1) (by simpa [isLoc] using q2) (by simpa [isLoc] using q2') q3 q3' q4 q4' q4'' h3 h4 h4' q5 q6 (chkE_ok so a sc _ h5 X g) (chkE_ok so b sc _ h6 X g) (chkE_ok so c sc _ h6' X g)
      · exact ss_par3n g n1 n2 n3 l1 l2 l3 h3 h4 h4' (sw_fold h7) (chkE_ok so a sc _ h5 X g) (chkE_ok so b sc _ h6 X g) (chkE_ok so c sc _ h6' X g)
      · exact ss_par3n g n1 n2 n3 l1 l2 l3 h3 h4 h4' (sw_cell g hsc h7) (chkE_ok so a sc _ h5 X g) (chkE_ok so b sc _ h6 X g) (chkE_ok so c sc _ h6' X g)
    · cases h
  | .aug i op a, st, h => by
    unfold chkS at h
    split at h
    · simp only [Bool.and_eq_true, decide_eq_true_eq] at h
      obtain ⟨⟨⟨rfl, rfl⟩, h1⟩, h2⟩ := h
      obtain ⟨n1, l1⟩ := setC_ok h1
      exact ss_aug g n1 l1 (chkE_ok so a sc _ h2 X g)
    · cases h
  | .sti k i a, st, h => by
    unfold chkS at h
    split at h
    · simp only [Bool.and_eq_true] at h
      obtain ⟨⟨⟨⟨h1, h2⟩, h3⟩, h4⟩, h5⟩ := h
      exact ss_sti g (chkV_pe g h3) (chkE_ok so i sc _ h4 X g) (chkE_ok so a sc _ h5 X g) h2 h1
    · cases h
  | .augi k i op a, st, h => by
    unfold chkS at h
    split at h
    · simp only [Bool.and_eq_true, decide_eq_true_eq] at h
      obtain ⟨⟨⟨⟨⟨rfl, rfl⟩, h2⟩, h3⟩, h4⟩, h5⟩ := h
      exact ss_augi g (chkV_pe g h3) (chkE_ok so i sc _ h4 X g) (chkE_ok so a sc _ h5 X g) h2
    · cases h
  | .dsetT k i a, st, h => by
    unfold chkS at h
    split at h
    · simp only [Bool.and_eq_true] at h
      obtain ⟨⟨⟨h2, h3⟩, h4⟩, h5⟩ := h
      exact ss_dsetT g (chkV_pe g h3) (chkE_ok so i sc _ h4 X g) (chkE_ok so a sc _ h5 X g) h2
    · cases h
  | .dset k i a, st, h => by
    unfold chkS at h
    split at h
    · simp only [Bool.and_eq_true] at h
      obtain ⟨⟨⟨h2, h3⟩, h4⟩, h5⟩ := h
      exact ss_dset g (chkV_pe g h3) (chkE_ok so i sc _ h4 X g) (chkE_ok so a sc _ h5 X g) h2
    · cases h
  | .app k a, st, h => by
    unfold chkS at h
    split at h
    · simp only [Bool.and_eq_true, decide_eq_true_eq] at h
      obtain ⟨⟨⟨⟨⟨rfl, h2⟩, h3⟩, h4⟩, h5⟩, h6⟩ := h
      exact ss_app g (chkV_pe g h5) (chkE_ok so a sc _ h6 X g) h2 h3 h4
    · cases h
  | .ext k a, st, h => by
    unfold chkS at h
    split at h
    · simp only [Bool.and_eq_true, decide_eq_true_eq] at h
      obtain ⟨⟨⟨⟨⟨rfl, h2⟩, h3⟩, h4⟩, h5⟩, h6⟩ := h
      exact ss_ext g (chkV_pe g h5) (chkE_ok so a sc _ h6 X g) h2 h3 h4
    · cases h
  | .ins k i a, st, h => by
    unfold chkS at h
    split at h
    · simp only [Bool.and_eq_true, decide_eq_true_eq] at h
      obtain ⟨⟨⟨⟨⟨⟨⟨rfl, h2⟩, h2'⟩, h3⟩, h4⟩, h5⟩, h6⟩, h7⟩ := h
      exact ss_ins g (chkV_pe g h5) (chkE_ok so i sc _ h6 X g) (chkE_ok so a sc _ h7 X g) h2 h2' h3 h4
    · cases h
  | .drp a, st, h => by
    unfold chkS at h
    split at h
    · simp only [Bool.and_eq_true] at h
      exact ss_drp (chkE_ok so a sc _ h.2 X g) h.1
    · cases h
  | .ife t a b, st, h => by
    unfold chkS at h
    split at h
    · simp only [Bool.and_eq_true] at h
      exact ss_ife (chkT_ok so t sc _ h.1.1 X g) (chkSs_ok so g hsc a _ h.1.2) (chkSs_ok so g hsc b _ h.2)
    · cases h
  | .for tg it b, st, h => by
    unfold chkS at h
    split at h
    · simp only [Bool.and_eq_true] at h
      obtain ⟨⟨⟨h1, h2⟩, h3⟩, h4⟩ := h
      exact ss_for g (chkI_ok so it sc _ _ h1 X g) (chkG_pg g tg _ h2) (chkSs_ok so g hsc b _ h4) h3
    · cases h
  | .whl t b, st, h => by
    unfold chkS at h
    split at h
    · simp only [Bool.and_eq_true] at h
      exact ss_whl g (chkT_ok so t sc _ h.1 X g) (chkSs_ok so g hsc b _ h.2)
    · cases h
  | .ret a, st, h => by
    unfold chkS at h
    split at h
    · refine ss_ret (chkE_ok so a sc _ h X g) fun k hk => ?_
      cases a with
      | var j =>
        cases hk
        unfold chkE at h
        exact chkV_pe g h
      | _ => cases hk
    · split at h
      · exact ss_retN
      · cases h
    · cases h
theorem chkSs_ok (so : AllSorted G C n N) (g : Gd G C n N sc X) (hsc : X.env.scope = sc) : ∀ (s : Sx) (sts : List Stmt), chkSs G N s sc sts = true → PSs X sts (tSt X.K (evS C s))
  | .skip, sts, h => by
    unfold chkSs at h
    split at h
    · exact ss_nil
    · cases h
  | .seq a b, sts, h => by
    unfold chkSs at h
    split at h
    · simp only [Bool.and_eq_true] at h
      exact ss_cons (chkS_ok so g hsc a _ h.1) (chkSs_ok so g hsc b _ h.2)
    · cases h
  | .set _ _, sts, h => by unfold chkSs at h; cases h
  | .tset _ _, sts, h => by unfold chkSs at h; cases h
  | .par2 _ _ _ _, sts, h => by unfold chkSs at h; cases h
  | .par3 _ _ _ _ _ _, sts, h => by unfold chkSs at h; cases h
  | .aug _ _ _, sts, h => by unfold chkSs at h; cases h
  | .sti _ _ _, sts, h => by unfold chkSs at h; cases h
  | .augi _ _ _ _, sts, h => by unfold chkSs at h; cases h
  | .dsetT _ _ _, sts, h => by unfold chkSs at h; cases h
  | .dset _ _ _, sts, h => by unfold chkSs at h; cases h
  | .app _ _, sts, h => by unfold chkSs at h; cases h
  | .ext _ _, sts, h => by unfold chkSs at h; cases h
  | .ins _ _ _, sts, h => by unfold chkSs at h; cases h
  | .drp _, sts, h => by unfold chkSs at h; cases h
  | .ife _ _ _, sts, h => by unfold chkSs at h; cases h
  | .for _ _ _, sts, h => by unfold chkSs at h; cases h
  | .whl _ _, sts, h => by unfold chkSs at h; cases h
  | .ret _, sts, h => by unfold chkSs at h; cases h
end
end
end Mn

namespace Mn
open PySem PySem.Spec PyProof.Rows L2
/-! ## functions -/
structure OneFn (G : Cfg) (K : PySem.W.Frag) (mg : Str → Option Value) (x : Str) (fd : FnD) (st : Stmt) (N ps : List Str) : Prop where
  ex : ∃ addr data, Fun K x x st addr data ∧ mg x = some (.ref addr) ∧ Binds K data ps []
  sc : FnScope N ps (defScope st)
  np : ps.length = fd.np
  n : N.length = fd.n
  chk : chkSs G N fd.body (defScope st) (defBody st) = true
structure Top (G : Cfg) (T : Nat → Option FnD) (K : PySem.W.Frag) (mg : Str → Option Value) : Prop where
  fn : ∀ f fd, T f = some fd → ∃ st N ps, OneFn G K mg (G.nm f) fd st N ps
  bl : ∀ x ∈ G.bn, mg x = none
  gl : ∀ x v, (x, v) ∈ G.cs → ∃ u w, mg x = some u ∧ RelV w u ∧ ∀ F, R F w v
def FnsOk (G : Cfg) (C : CallF) (n : Nat) (P : Program) (w : World) (K : PySem.W.Frag) (mg : Str → Option Value) (base : Heap) : Prop :=
  ∀ f io ds r, C f io ds = some r → ∃ k addr data ps, k ≤ n ∧ FnOk P w K mg base CX0 k addr data ps (spEv C f) ∧ mg (G.nm f) = some (.ref addr) ∧ PySem.W.keepIn K (.ref addr) = true ∧ Binds K data ps []
section
variable {P : Program} {w : World} {K : PySem.W.Frag} {mg : Str → Option Value} {base : Heap} {G : Cfg} {C : CallF} {T : Nat → Option FnD} {n : Nat}
theorem callN_succ {f : Nat} {io : Option (List D)} {args : List D} : callN T (n + 1) f io args = (T f).bind fun fd => evFn (callN T n) fd io args := rfl
theorem gd_of {N ps : List Str} {st : Stmt} {qual : Str} {f : Addr} {cdv : Value} {A : Around} {outer : List PySem.Env} {s : Shared} {H : Hp} {E : XK} (sc : FnScope N ps (defScope st)) (fns : FnsOk G C n P w K mg base)
    (bl : ∀ x ∈ G.bn, mg x = none) (gl : ∀ x v, (x, v) ∈ G.cs → ∃ u w, mg x = some u ∧ RelV w u ∧ ∀ F, R F w v) (hr : Room n (A.deeper (envOfC qual (defScope st) s.heap.objs.size f cdv))) :
    Gd G C n N (defScope st) (cxOf CX0 P w K mg base N qual (defScope st) f cdv A outer s H E).nox where
  calm := rfl
  nd := sc.nd
  xn := rfl
  hr := hr
  sco := fun x k h => .inl h
  fnc := fun x h => rfl
  kind := sc.kind
  xe := rfl
  fns := fns
  bl := bl
  gl := gl
theorem at_start {m : Nat} {ss : List Slot} (i : Nat) : (startE m ss).at i = ss[i]? := by
  unfold startE Env.at
  by_cases h : i < ss.length
  · rw [List.getElem?_append_left (by rw [List.length_map]; exact h), List.getElem?_map, List.getElem?_eq_getElem h]; rfl
  · rw [List.getElem?_append_right (by rw [List.length_map]; omega), List.getElem?_eq_none (l := ss) (by omega)]
    rw [List.getElem?_replicate]
    split <;> rfl
theorem start_get {N : List Str} {vs : List V} {i : Nat} {v : V} (h : vs[i]? = some v) : (L2.start N vs)[i]? = some (some v) := by
  unfold L2.start
  have hi : i < vs.length := (List.getElem?_eq_some_iff.mp h).1
  rw [List.getElem?_append_left (by rw [List.length_map]; exact hi), List.getElem?_map, h]; rfl
theorem start_len {N : List Str} {vs : List V} (h : vs.length ≤ N.length) : (L2.start N vs).length = N.length := by
  unfold L2.start
  rw [List.length_append, List.length_map, List.length_replicate]; omega
theorem startE_len {m : Nat} {ss : List Slot} (h : ss.length ≤ m) : (startE m ss).length = m := by
  unfold startE
  rw [List.length_append, List.length_map, List.length_replicate]; omega
theorem rel_start {N : List Str} {m : Nat} {F H : Hp} {vs : List V} {ss : List Slot} (hm : N.length = m) (hl : vs.length = ss.length) (hle : ss.length ≤ m) (sub : Sub F H) (ok : ∀ (i : Nat) (s : Slot) (v : V), ss[i]? = some s → vs[i]? = some v → SlotOk K F H v s)
    (dis : ∀ (i j : Nat) (s t : Slot), ss[i]? = some s → ss[j]? = some t → s.isMut = true → t.isMut = true → i = j) : Rel K (startE m ss) (L2.start N vs) F H := by
  refine ⟨by rw [startE_len hle, start_len (by omega)]; exact hm.symm, sub, fun i s h => ?_, fun i j s t b h1 h2 h3 h4 _ _ => ?_⟩
  · rw [at_start] at h
    have hi : i < vs.length := by rw [hl]; exact (List.getElem?_eq_some_iff.mp h).1
    exact ⟨_, start_get (List.getElem?_eq_getElem hi), ok i s _ h (List.getElem?_eq_getElem hi)⟩
  · rw [at_start] at h1 h2
    exact dis i j s t h1 h2 h3 h4
/-- what a body gives, read as a call's end -/
theorem body_run {fd : FnD} {ρ : Env} {σ : L2.St} {F H : Hp} {D : Ends} {v : Val} {o : Option (List PyData)} (rel : Rel K ρ σ F H)
    (hres : (match evS C fd.body ρ with
      | some (.nx ρ) => outE fd.io (.d .none) ρ
      | some (.rt v ρ) => outE fd.io v ρ
      | none => none) = some (v, o))
    (hn : ∀ ρ' σ' F' H', outE fd.io (.d .none) ρ' = some (v, o) → SStep K ρ σ F H ρ' σ' F' H' → D.nx σ' H')
    (hr : ∀ x ρ' w σ' F' H', outE fd.io x ρ' = some (v, o) → SStep K ρ σ F H ρ' σ' F' H' → VRt ρ σ H ρ' σ' F' H' w x → D.rt w H') : tSt K (evS C fd.body) D σ H := by
  cases e : evS C fd.body ρ with
  | none => rw [e] at hres; cases hres
  | some r =>
    rw [e] at hres
    cases r with
    | nx ρ1 => exact ⟨ρ, F, _, rel, e, fun ρ' σ' F' H' z st => (by cases z; exact hn _ σ' F' H' hres st), fun v ρ' w σ' F' H' z => (by cases z)⟩
    | rt x ρ1 => exact ⟨ρ, F, _, rel, e, fun ρ' σ' F' H' z => (by cases z), fun v ρ' w σ' F' H' z st ok => (by cases z; exact hr x _ w σ' F' H' hres st ok)⟩
theorem fn_one {x : Str} {f : Nat} {fd : FnD} {st : Stmt} {N ps : List Str} (so : AllSorted G (callN T n) n N) (hx : x = G.nm f) (hT : T f = some fd) (hf : OneFn G K mg x fd st N ps) (fns : FnsOk G (callN T n) n P w K mg base)
    (bl : ∀ x ∈ G.bn, mg x = none) (gl : ∀ x v, (x, v) ∈ G.cs → ∃ u w, mg x = some u ∧ RelV w u ∧ ∀ F, R F w v) :
    ∃ addr data, FnOk P w K mg base CX0 (n + 1) addr data ps (spEv (callN T (n + 1)) f) ∧ mg x = some (.ref addr) ∧ PySem.W.keepIn K (.ref addr) = true ∧ Binds K data ps [] := by
  obtain ⟨addr, data, F, hm, hb⟩ := hf.ex
  refine ⟨addr, data, F.ok hf.sc (fun vs H Q E h => ?_) (fun cdv A outer s H vs Q E hr h => ⟨_, chkSs_ok (so) (gd_of hf.sc fns bl gl hr) rfl fd.body _ hf.chk, ?_⟩), hm, F.kp, hb⟩
  · rcases h with ⟨F0, ds, v, sub, rl, hc, q⟩ | ⟨F0, ds, p, xs, v, ys, vs', rfl, sub, rl, fp, mo, hc, q⟩
    · rw [callN_succ, hT] at hc
      simp only [Option.bind_some] at hc
      unfold evFn at hc
      split at hc
      · rename_i e; cases e
      · split at hc
        · rw [rl.length, hf.np]; assumption
        · cases hc
      · cases hc
    · rw [callN_succ, hT] at hc
      simp only [Option.bind_some] at hc
      unfold evFn at hc
      split at hc
      · split at hc
        · rw [List.length_cons, rl.length, hf.np]; assumption
        · cases hc
      · rename_i e; cases e
      · cases hc
  · rcases h with ⟨F0, ds, v, sub, rl, hc, q⟩ | ⟨F0, ds, p, xs, v, ys, vs', rfl, sub, rl, fp, mo, hc, q⟩
    · rw [callN_succ, hT] at hc
      simp only [Option.bind_some] at hc
      unfold evFn at hc
      split at hc
      · rename_i e; cases e
      · split at hc
        · rename_i hio _ hlen
          unfold runFn at hc
          have hle : (ds.map Slot.d).length ≤ fd.n := by
            rw [List.length_map, hlen, ← hf.np, ← hf.n, ← hf.sc.pre]
            rw [List.length_take]; omega
          have rel : Rel K (startE fd.n (ds.map .d)) (L2.start N vs) F0 H := by
            refine rel_start hf.n (by rw [List.length_map]; exact rl.length) hle sub (fun i s u hs hu => ?_) fun i j s t h1 h2 h3 h4 => ?_
            · rw [List.getElem?_map] at hs
              obtain ⟨d, hd, ru⟩ := rl.getV hu
              rw [hd] at hs
              cases hs
              exact ru
            · rw [List.getElem?_map] at h1
              cases e : ds[i]? with
              | none => rw [e] at h1; cases h1
              | some d => rw [e] at h1; cases h1; cases h3
          have noOwn : ∀ b, ¬ OwnA (startE fd.n (ds.map .d)) (L2.start N vs) b := fun b ⟨i, s, h1, h2, _⟩ => by
            rw [at_start, List.getElem?_map] at h1
            cases e : ds[i]? with
            | none => rw [e] at h1; cases h1
            | some d => rw [e] at h1; cases h1; cases h2
          refine body_run rel hc (fun ρ' σ' F' H' ho st => ?_) (fun y ρ' w σ' F' H' ho st ok => ?_)
          · rw [hio] at ho
            cases ho
            exact q .non F' H' st.rel.sub (st.ext.mono fun b hb => absurd hb (noOwn b)) .non
          · rw [hio] at ho
            cases ho
            refine q w F' H' st.rel.sub (st.ext.mono fun b hb => absurd hb (noOwn b)) ?_
            cases v with
            | d _ => exact ok
            | own _ => obtain ⟨p, h1, h2, h3, h4, h5⟩ := ok; exact ⟨p, h1, h2, h3.resolve_right (noOwn p), h5⟩
            | dct _ => obtain ⟨p, h1, h2, h3, h4, h5⟩ := ok; exact ⟨p, h1, h2, h3.resolve_right (noOwn p), h5⟩
            | dtt _ => obtain ⟨p, h1, h2, h3, h4, h5⟩ := ok; exact ⟨p, h1, h2, h3.resolve_right (noOwn p), h5⟩
        · cases hc
      · cases hc
    · rw [callN_succ, hT] at hc
      simp only [Option.bind_some] at hc
      unfold evFn at hc
      split at hc
      · split at hc
        · rename_i hio e hlen
          cases e
          unfold runFn at hc
          have hle : (Slot.io xs :: ds.map Slot.d).length ≤ fd.n := by
            rw [List.length_cons, List.length_map, hlen, ← hf.np, ← hf.n, ← hf.sc.pre]
            rw [List.length_take]; omega
          have isIo : ∀ i s, (Slot.io xs :: ds.map Slot.d)[i]? = some s → s.isMut = true → i = 0 ∧ s = .io xs := fun i s h hm => by
            cases i with
            | zero => cases h; exact ⟨rfl, rfl⟩
            | succ i =>
              rw [List.getElem?_cons_succ, List.getElem?_map] at h
              cases e : ds[i]? with
              | none => rw [e] at h; cases h
              | some d => rw [e] at h; cases h; cases hm
          have rel : Rel K (startE fd.n (.io xs :: ds.map .d)) (L2.start N (.ref p :: vs')) F0 H := by
            refine rel_start hf.n (by rw [List.length_cons, List.length_cons, List.length_map, rl.length]) hle sub (fun i s u hs hu => ?_) fun i j s t h1 h2 h3 h4 => ?_
            · cases i with
              | zero => cases hs; cases hu; exact ⟨p, rfl, fp, mo⟩
              | succ i =>
                rw [List.getElem?_cons_succ] at hu
                rw [List.getElem?_cons_succ, List.getElem?_map] at hs
                obtain ⟨d, hd, ru⟩ := rl.getV hu
                rw [hd] at hs
                cases hs
                exact ru
            · rw [(isIo i s h1 h3).1, (isIo j t h2 h4).1]
          have own0 : ∀ b, OwnA (startE fd.n (.io xs :: ds.map .d)) (L2.start N (.ref p :: vs')) b → b = p := fun b ⟨i, s, h1, h2, h3⟩ => by
            rw [at_start] at h1
            obtain ⟨rfl, _⟩ := isIo i s h1 h2
            have : (L2.start N (.ref p :: vs'))[0]? = some (some (.ref p)) := rfl
            rw [this] at h3
            cases h3; rfl
          -- the list behind
          have out : ∀ {y : Val} {ρ' : Env} {σ' : L2.St} {F' H' : Hp}, outE fd.io y ρ' = some (v, some ys) → SStep K (startE fd.n (.io xs :: ds.map .d)) (L2.start N (.ref p :: vs')) F0 H ρ' σ' F' H' → y = v ∧ F' p = none ∧ MutOk F' H' p (.io ys) ∧ IoA ρ' σ' p := fun {y ρ' σ' F' H'} ho st => by
            unfold outE at ho
            rw [hio] at ho
            simp only [if_true, Option.map_eq_some_iff, Prod.mk.injEq, Option.some.injEq] at ho
            obtain ⟨zs, hz, rfl, rfl⟩ := ho
            unfold ioAt at hz
            split at hz
            · rename_i ws hw
              cases hz
              obtain ⟨u, hu, okk⟩ := st.rel.ok 0 _ hw
              obtain ⟨p', rfl, f', m'⟩ := okk
              have hio' : IoA ρ' σ' p' := ⟨0, _, hw, rfl, hu⟩
              have := own0 _ (st.io _ hio').own
              subst this
              exact ⟨rfl, f', m', hio'⟩
            · cases hz
          refine body_run rel hc (fun ρ' σ' F' H' ho st => ?_) (fun y ρ' w σ' F' H' ho st ok => ?_)
          · obtain ⟨rfl, f', m', _⟩ := out ho st
            exact q .non F' H' st.rel.sub (st.ext.mono fun b hb => .inl (own0 b hb)) f' m' .non
          · obtain ⟨rfl, f', m', hi'⟩ := out ho st
            refine q w F' H' st.rel.sub (st.ext.mono fun b hb => .inl (own0 b hb)) f' m' ?_
            cases y with
            | d _ => exact ok
            | own _ => obtain ⟨p', h1, h2, h3, h4, h5⟩ := ok; exact ⟨p', h1, h2, h3.resolve_right (fun z => h4 (own0 p' z ▸ hi')), h5⟩
            | dct _ => obtain ⟨p', h1, h2, h3, h4, h5⟩ := ok; exact ⟨p', h1, h2, h3.resolve_right (fun z => h4 (own0 p' z ▸ hi')), h5⟩
            | dtt _ => obtain ⟨p', h1, h2, h3, h4, h5⟩ := ok; exact ⟨p', h1, h2, h3.resolve_right (fun z => h4 (own0 p' z ▸ hi')), h5⟩
        · cases hc
      · rename_i e; cases e
      · cases hc
theorem fns_ok (so : ∀ n N, AllSorted G (callN T n) n N) (top : Top G T K mg) : ∀ n, FnsOk G (callN T n) n P w K mg base
  | 0 => fun f io ds r h => by cases h
  | n + 1 => fun f io ds r h => by
    rw [callN_succ] at h
    cases e : T f with
    | none => rw [e] at h; cases h
    | some fd =>
      obtain ⟨st, N, ps, hf⟩ := top.fn f fd e
      obtain ⟨addr, data, h1, h2, h3, h4⟩ := fn_one (so n N) rfl e hf (fns_ok so top n) top.bl top.gl
      exact ⟨n + 1, addr, data, ps, Nat.le_refl _, h1, h2, h3, h4⟩
/-- the law's def -/
def spLaw (K : PySem.W.Frag) (m : Nat) : Sp := fun vs H Q _ => ∃ (a : Addr) (ns : List Int), vs = [.ref a] ∧ SqL K H a (ns.map V.int) ∧ ns.length ≤ m ∧ ∀ H', Q (.bl true) H'
theorem law_at {fd : FnD} {st : Stmt} {N : List Str} {m : Nat} {x y : Str} {addr : Addr} {data : FuncData} (so : ∀ n N, AllSorted G (callN T n) n N) (top : Top G T K mg) (hf : OneFn G K mg x fd st N [y]) (F : Fun K x x st addr data) (hio : fd.io = false)
    (hlaw : ∀ ns : List Int, ns.length ≤ m → lawN T n fd ns = some (.d (.bool true), none)) : FnOk P w K mg base CX0 (n + 1) addr data [y] (spLaw K m) := by
  refine F.ok hf.sc (fun vs H Q E h => ?_) (fun cdv A outer s H vs Q E hr h => ⟨_, chkSs_ok (so n N) (gd_of hf.sc (fns_ok so top n) top.bl top.gl hr) rfl fd.body _ hf.chk, ?_⟩)
  · obtain ⟨a, ns, rfl, _⟩ := h
    rfl
  · obtain ⟨a, ns, rfl, hS, hl, q⟩ := h
    have hc := hlaw ns hl
    unfold lawN runFn at hc
    have hle : ([Slot.scr ns] : List Slot).length ≤ fd.n := by
      rw [← hf.n]
      have := hf.sc.pre
      cases N with
      | nil => cases this
      | cons _ _ => simp
    have rel : Rel K (startE fd.n [.scr ns]) (L2.start N [.ref a]) H H := by
      refine rel_start hf.n rfl hle (Sub.refl H) (fun i s u hs hu => ?_) fun i j s t h1 h2 h3 h4 => ?_
      · cases i with
        | zero => cases hs; cases hu; exact ⟨a, rfl, hS⟩
        | succ i => cases hs
      · cases i with
        | zero => cases h1; cases h3
        | succ i => cases h1
    refine body_run rel hc (fun ρ' σ' F' H' ho st => ?_) (fun y ρ' w σ' F' H' ho st ok => ?_)
    · rw [hio] at ho
      cases ho
    · rw [hio] at ho
      cases ho
      cases ok
      exact q H'
end
end Mn

namespace Mn
open PySem PySem.Spec PyProof.Rows L2
/-! ## the order of ints, texts, tuples of such -/
structure OrdS (S : D → Prop) : Prop where
  asym : ∀ x y, S x → S y → ltB x y = true → ltB y x = false
  tri : ∀ x y, S x → S y → ltB x y = false → ltB y x = false → x = y
  trans : ∀ x y z, S x → S y → S z → ltB x y = true → ltB y z = true → ltB x z = true
theorem OrdS.irr {S : D → Prop} (o : OrdS S) {x : D} (h : S x) : ltB x x = false := by
  cases e : ltB x x with
  | false => rfl
  | true => exact absurd (o.asym x x h h e) (by rw [e]; simp)
theorem OrdS.neg {S : D → Prop} (o : OrdS S) {x y z : D} (hx : S x) (hy : S y) (hz : S z) (h1 : ltB y x = false) (h2 : ltB z y = false) : ltB z x = false := by
  cases e : ltB z x with
  | false => rfl
  | true =>
    cases e1 : ltB x y with
    | false =>
      have := o.tri x y hx hy e1 h1
      subst this
      rw [h2] at e; cases e
    | true =>
      have := o.trans z x y hz hx hy e e1
      rw [h2] at this; cases this
theorem ord_int : OrdS fun d => kindD d = 1 := by
  have form : ∀ {d : D}, kindD d = 1 → ∃ i, d = .int i := fun {d} h => by cases d <;> simp [kindD] at h; exact ⟨_, rfl⟩
  refine ⟨fun x y hx hy h => ?_, fun x y hx hy h1 h2 => ?_, fun x y z hx hy hz h1 h2 => ?_⟩
  · obtain ⟨i, rfl⟩ := form hx; obtain ⟨j, rfl⟩ := form hy
    simp [ltB] at h ⊢; omega
  · obtain ⟨i, rfl⟩ := form hx; obtain ⟨j, rfl⟩ := form hy
    simp [ltB] at h1 h2 ⊢; omega
  · obtain ⟨i, rfl⟩ := form hx; obtain ⟨j, rfl⟩ := form hy; obtain ⟨k, rfl⟩ := form hz
    simp [ltB] at h1 h2 ⊢; omega
theorem str_ext {x y : Str} (h : x.cps.toList = y.cps.toList) : x = y := by
  obtain ⟨⟨a⟩⟩ := x
  obtain ⟨⟨b⟩⟩ := y
  simp at h
  rw [h]
theorem ord_str : OrdS fun d => kindD d = 2 := by
  have form : ∀ {d : D}, kindD d = 2 → ∃ i, d = .str i := fun {d} h => by cases d <;> simp [kindD] at h; exact ⟨_, rfl⟩
  refine ⟨fun x y hx hy h => ?_, fun x y hx hy h1 h2 => ?_, fun x y z hx hy hz h1 h2 => ?_⟩
  · obtain ⟨i, rfl⟩ := form hx; obtain ⟨j, rfl⟩ := form hy
    simp only [ltB, decide_eq_true_eq, decide_eq_false_iff_not] at h ⊢
    exact List.lt_asymm h
  · obtain ⟨i, rfl⟩ := form hx; obtain ⟨j, rfl⟩ := form hy
    simp only [ltB, decide_eq_false_iff_not] at h1 h2
    have : i.cps.toList = j.cps.toList := List.le_antisymm (List.not_lt.mp h2) (List.not_lt.mp h1)
    rw [str_ext this]
  · obtain ⟨i, rfl⟩ := form hx; obtain ⟨j, rfl⟩ := form hy; obtain ⟨k, rfl⟩ := form hz
    simp only [ltB, decide_eq_true_eq] at h1 h2 ⊢
    exact List.lt_trans h1 h2
theorem ord_kind {k : Nat} (h : k ≠ 0) : OrdS fun d => kindD d = k := by
  by_cases h1 : k = 1
  · subst h1; exact ord_int
  · by_cases h2 : k = 2
    · subst h2; exact ord_str
    · have no : ∀ d : D, kindD d ≠ k := fun d => by cases d <;> simp [kindD] <;> omega
      exact ⟨fun x _ hx => absurd hx (no x), fun x _ hx => absurd hx (no x), fun x _ _ hx => absurd hx (no x)⟩
theorem kind_eqv {a b : D} {k : Nat} (h : k ≠ 0) (ha : kindD a = k) (hb : kindD b = k) : PyData.eqv a b = true ↔ a = b := by
  cases a <;> cases b <;> simp [kindD] at ha hb <;> first | omega | simp [PyData.eqv]
theorem sigOk_cons {k : Nat} {sg : List Nat} {x : D} {xs : List D} (h : sigOk (k :: sg) (x :: xs) = true) : k ≠ 0 ∧ kindD x = k ∧ sigOk sg xs = true := by
  simp only [sigOk, Bool.and_eq_true, bne_iff_ne, beq_iff_eq] at h
  exact ⟨h.1.1, h.1.2, h.2⟩
theorem lts_asym : ∀ (sg : List Nat) (xs ys : List D), sigOk sg xs = true → sigOk sg ys = true → ltBs xs ys = true → ltBs ys xs = false
  | _, [], [], _, _, h => by simp [ltBs] at h
  | _, [], _ :: _, _, _, _ => by simp [ltBs]
  | _, _ :: _, [], _, _, h => by simp [ltBs] at h
  | [], _ :: _, _ :: _, h, _, _ => by simp [sigOk] at h
  | k :: sg, x :: xs, y :: ys, hx, hy, h => by
    obtain ⟨k0, kx, sx⟩ := sigOk_cons hx
    obtain ⟨_, ky, sy⟩ := sigOk_cons hy
    rw [ltBs] at h ⊢
    by_cases e : x = y
    · subst e
      have ev : PyData.eqv x x = true := (kind_eqv k0 kx kx).mpr rfl
      rw [if_pos ev] at h ⊢
      exact lts_asym sg xs ys sx sy h
    · rw [if_neg fun z => e ((kind_eqv k0 kx ky).mp z)] at h
      rw [if_neg fun z => e ((kind_eqv k0 ky kx).mp z).symm]
      exact (ord_kind k0).asym x y kx ky h
theorem lts_tri : ∀ (sg : List Nat) (xs ys : List D), sigOk sg xs = true → sigOk sg ys = true → ltBs xs ys = false → ltBs ys xs = false → xs = ys
  | _, [], [], _, _, _, _ => rfl
  | _, [], _ :: _, _, _, h, _ => by simp [ltBs] at h
  | _, _ :: _, [], _, _, _, h => by simp [ltBs] at h
  | [], _ :: _, _ :: _, h, _, _, _ => by simp [sigOk] at h
  | k :: sg, x :: xs, y :: ys, hx, hy, h1, h2 => by
    obtain ⟨k0, kx, sx⟩ := sigOk_cons hx
    obtain ⟨_, ky, sy⟩ := sigOk_cons hy
    rw [ltBs] at h1 h2
    by_cases e : x = y
    · subst e
      have ev : PyData.eqv x x = true := (kind_eqv k0 kx kx).mpr rfl
      rw [if_pos ev] at h1 h2
      rw [lts_tri sg xs ys sx sy h1 h2]
    · rw [if_neg fun z => e ((kind_eqv k0 kx ky).mp z)] at h1
      rw [if_neg fun z => e ((kind_eqv k0 ky kx).mp z).symm] at h2
      exact absurd ((ord_kind k0).tri x y kx ky h1 h2) e
theorem lts_trans : ∀ (sg : List Nat) (xs ys zs : List D), sigOk sg xs = true → sigOk sg ys = true → sigOk sg zs = true → ltBs xs ys = true → ltBs ys zs = true → ltBs xs zs = true
  | _, [], [], _, _, _, _, h, _ => by simp [ltBs] at h
  | _, [], _ :: _, [], _, _, _, _, h => by simp [ltBs] at h
  | _, [], _ :: _, _ :: _, _, _, _, _, _ => by simp [ltBs]
  | _, _ :: _, [], _, _, _, _, h, _ => by simp [ltBs] at h
  | _, _ :: _, _ :: _, [], _, _, _, _, h => by simp [ltBs] at h
  | [], _ :: _, _ :: _, _ :: _, h, _, _, _, _ => by simp [sigOk] at h
  | k :: sg, x :: xs, y :: ys, z :: zs, hx, hy, hz, h1, h2 => by
    obtain ⟨k0, kx, sx⟩ := sigOk_cons hx
    obtain ⟨_, ky, sy⟩ := sigOk_cons hy
    obtain ⟨_, kz, sz⟩ := sigOk_cons hz
    have ne : ∀ {a b : D}, kindD a = k → kindD b = k → a ≠ b → ¬ PyData.eqv a b = true := fun ha hb e z => e ((kind_eqv k0 ha hb).mp z)
    have yes : ∀ {a : D}, kindD a = k → PyData.eqv a a = true := fun ha => (kind_eqv k0 ha ha).mpr rfl
    rw [ltBs] at h1 h2 ⊢
    by_cases e1 : x = y
    · subst e1
      rw [if_pos (yes kx)] at h1
      by_cases e2 : x = z
      · subst e2
        rw [if_pos (yes kx)] at h2 ⊢
        exact lts_trans sg xs ys zs sx sy sz h1 h2
      · rw [if_neg (ne kx kz e2)] at h2 ⊢
        exact h2
    · rw [if_neg (ne kx ky e1)] at h1
      by_cases e2 : y = z
      · subst e2
        rw [if_neg (ne kx ky e1)]
        exact h1
      · rw [if_neg (ne ky kz e2)] at h2
        have h3 := (ord_kind k0).trans x y z kx ky kz h1 h2
        have e3 : x ≠ z := fun e => by
          subst e
          have := (ord_kind k0).asym x y kx ky h1
          rw [this] at h2; cases h2
        rw [if_neg (ne kx kz e3)]
        exact h3
theorem tupSig_form {sg : List Nat} {d : D} (h : tupSig sg d = true) : ∃ x xs, d = .tuple (x :: xs) ∧ sigOk sg (x :: xs) = true := by
  unfold tupSig at h
  split at h
  · exact ⟨_, _, rfl, h⟩
  · cases h
theorem ord_tup {sg : List Nat} : OrdS fun d => tupSig sg d = true := by
  refine ⟨fun x y hx hy h => ?_, fun x y hx hy h1 h2 => ?_, fun x y z hx hy hz h1 h2 => ?_⟩
  · obtain ⟨a, as, rfl, sa⟩ := tupSig_form hx; obtain ⟨b, bs, rfl, sb⟩ := tupSig_form hy
    rw [ltB] at h ⊢
    exact lts_asym sg _ _ sa sb h
  · obtain ⟨a, as, rfl, sa⟩ := tupSig_form hx; obtain ⟨b, bs, rfl, sb⟩ := tupSig_form hy
    rw [ltB] at h1 h2
    rw [lts_tri sg _ _ sa sb h1 h2]
  · obtain ⟨a, as, rfl, sa⟩ := tupSig_form hx; obtain ⟨b, bs, rfl, sb⟩ := tupSig_form hy; obtain ⟨c, cs, rfl, sc⟩ := tupSig_form hz
    rw [ltB] at h1 h2 ⊢
    exact lts_trans sg _ _ _ sa sb sc h1 h2
/-! ## sorting -/
theorem insD_perm (x : D) : ∀ ys : List D, (insD x ys).Perm (x :: ys)
  | [] => List.Perm.refl _
  | y :: ys => by
    unfold insD
    split
    · exact ((insD_perm x ys).cons y).trans (List.Perm.swap x y ys)
    · exact List.Perm.refl _
theorem isortD_perm : ∀ xs : List D, (isortD xs).Perm xs
  | [] => List.Perm.refl _
  | x :: xs => (insD_perm x (isortD xs)).trans ((isortD_perm xs).cons x)
def SrD (l : List D) : Prop := l.Pairwise fun x y => ltB y x = false
theorem insD_sorted {S : D → Prop} (o : OrdS S) {x : D} (hx : S x) : ∀ {ys : List D}, (∀ y ∈ ys, S y) → SrD ys → SrD (insD x ys)
  | [], _, _ => List.pairwise_singleton _ _
  | y :: ys, hs, h => by
    have hy := hs y List.mem_cons_self
    have hr := fun z hz => hs z (List.mem_cons_of_mem _ hz)
    obtain ⟨h1, h2⟩ := List.pairwise_cons.mp h
    unfold insD
    split
    · rename_i e
      refine List.pairwise_cons.mpr ⟨fun z hz => ?_, insD_sorted o hx hr h2⟩
      rcases List.mem_cons.mp ((insD_perm x ys).mem_iff.mp hz) with rfl | hz
      · exact o.asym y z hy hx e
      · exact h1 z hz
    · rename_i e
      have e' : ltB y x = false := by simpa using e
      refine List.pairwise_cons.mpr ⟨fun z hz => ?_, h⟩
      rcases List.mem_cons.mp hz with rfl | hz
      · exact e'
      · exact o.neg hx hy (hr z hz) e' (h1 z hz)
theorem isortD_sorted {S : D → Prop} (o : OrdS S) : ∀ {xs : List D}, (∀ x ∈ xs, S x) → SrD (isortD xs)
  | [], _ => List.Pairwise.nil
  | x :: xs, hs => insD_sorted o (hs x List.mem_cons_self) (fun y hy => hs y (List.mem_cons_of_mem _ ((isortD_perm xs).mem_iff.mp hy))) (isortD_sorted o fun y hy => hs y (List.mem_cons_of_mem _ hy))
theorem sorted_unique {S : D → Prop} (o : OrdS S) : ∀ {xs ys : List D}, (∀ x ∈ xs, S x) → xs.Perm ys → SrD xs → SrD ys → xs = ys
  | [], ys, _, p, _, _ => (List.Perm.nil_eq p)
  | x :: xs, [], _, p, _, _ => by have := p.length_eq; simp at this
  | x :: xs, y :: ys, hs, p, h1, h2 => by
    have sy : ∀ z ∈ y :: ys, S z := fun z hz => hs z (p.mem_iff.mpr hz)
    obtain ⟨a1, a2⟩ := List.pairwise_cons.mp h1
    obtain ⟨b1, b2⟩ := List.pairwise_cons.mp h2
    have e : x = y := by
      rcases List.mem_cons.mp (p.mem_iff.mp List.mem_cons_self) with e | hx
      · exact e
      · rcases List.mem_cons.mp (p.mem_iff.mpr (List.mem_cons_self (a := y))) with e | hy
        · exact e.symm
        · exact o.tri x y (hs x List.mem_cons_self) (sy y List.mem_cons_self) (b1 x hx) (a1 y hy)
    subst e
    rw [sorted_unique o (fun z hz => hs z (List.mem_cons_of_mem _ hz)) (List.Perm.cons_inv p) a2 b2]
theorem sortOk_ord {ds : List D} (h : sortOk ds = true) : (∀ d ∈ ds, kindD d = 1) ∨ ∃ sg, ∀ d ∈ ds, tupSig sg d = true := by
  unfold sortOk at h
  simp only [Bool.or_eq_true, List.all_eq_true, beq_iff_eq] at h
  rcases h with h | h
  · exact .inl h
  · exact .inr ⟨_, h⟩
end Mn

namespace Mn
open PySem PySem.Spec PyProof.Rows L2
/-! ## sorted(..) in the machine -/
mutual
theorem R.fn {F : Hp} : ∀ {d e : D} {v : V}, R F v d → R F v e → d = e
  | .none, e, _, .non, h => by cases h; rfl
  | .bool _, e, _, .bl b, h => by cases h; rfl
  | .int _, e, _, .int i, h => by cases h; rfl
  | .str _, e, _, .str x _ _, h => by cases h; rfl
  | .list _, e, _, .lst q r, h => by
    cases h with
    | lst q' r' =>
      rw [q] at q'
      cases q'
      rw [RL.fn r r']
    | tup q' r' => rw [q] at q'; cases q'
  | .tuple _, e, _, .tup q r, h => by
    cases h with
    | lst q' r' => rw [q] at q'; cases q'
    | tup q' r' =>
      rw [q] at q'
      cases q'
      rw [RL.fn r r']
theorem RL.fn {F : Hp} : ∀ {ds es : List D} {vs : List V}, RL F vs ds → RL F vs es → ds = es
  | [], _, _, .nil, h => by cases h; rfl
  | _ :: _, _, _, .cons a b, h => by
    cases h with
    | cons a' b' => rw [R.fn a a', RL.fn b b']
end
theorem relV_fn {x y : V} {v : Value} {F : Hp} {d e : D} (h1 : RelV x v) (h2 : RelV y v) (r1 : R F x d) (r2 : R F y e) : d = e := by
  have : x = y := by
    cases r1 <;> cases r2 <;> simp only [L2.RelV] at h1 h2 <;> first
      | rfl
      | (subst h1; cases h2; done)
      | (obtain ⟨t, rfl⟩ := h1; cases h2; done)
      | (obtain ⟨t, rfl⟩ := h1; obtain ⟨t', e⟩ := h2; cases e; done)
      | (obtain ⟨t, rfl⟩ := h1; obtain ⟨t', e⟩ := h2; cases e; rfl)
      | (subst h1; obtain ⟨t', e⟩ := h2; cases e; done)
      | (subst h1; cases h2; rfl)
  subst this
  exact R.fn r1 r2
/-- an item of a tuple -/
def AtomV (u : Value) (d : D) : Prop := (∃ i t, u = .int i t ∧ d = .int i) ∨ ∃ x t, u = .str x t ∧ d = .str x
def TupIs (h : Heap) (v : Value) (ys : List D) : Prop := ∃ b us, v = .ref b ∧ IsTup h b us.toArray ∧ Paired AtomV us ys
theorem TupIs.keeps {h h' : Heap} {v : Value} {ys : List D} (x : TupIs h v ys) (k : ∀ b o, h.get? b = some o → o.cls = .type "tuple" → h'.get? b = some o) : TupIs h' v ys := by
  obtain ⟨b, us, e, ⟨o, ho, hc, n, hd⟩, p⟩ := x
  exact ⟨b, us, e, ⟨o, k b o ho hc, hc, n, hd⟩, p⟩
section
variable {prog : Program} {w : World} {A : Around} {E : Value → Shared → Prop} {s : Shared} {Q : Bool → Shared → Prop}
theorem oneLt_int2 (c : Bool) {p q : Int} {t u : Tok} (h : Q (decide (p < q)) s) : wpAny (model prog w) A (oneLt' c (.int p t) (.int q u)) Q E s := by
  cases c with
  | true => exact oneLt_int h
  | false => exact PySem.W.kat_one _ _ (PyProof.Rows.lt_int (Q := PySem.W.BoolBack Q) h)
theorem oneLt_str2 (c : Bool) {p q : Str} {t u : Tok} (h : Q (decide (p.cps.toList < q.cps.toList)) s) : wpAny (model prog w) A (oneLt' c (.str p t) (.str q u)) Q E s := by
  cases c with
  | true => exact oneLt_str h
  | false => exact PySem.W.kat_one _ _ (PyProof.Rows.lt_str (Q := PySem.W.BoolBack Q) h)
theorem lex_run {b : Bool} : ∀ {sg : List Nat} {us vs : List Value} {xs ys : List D} (i : Nat), Paired AtomV us xs → Paired AtomV vs ys → sigOk sg xs = true → sigOk sg ys = true → Q (ltBs xs ys) s →
    PySem.W.KatLex prog w A b (decide (us.length < vs.length)) Q (us.zip vs) i s
  | _, [], [], [], [], i, _, _, _, _, q => by simp [ltBs] at q; exact PySem.W.kat_nil (by simpa using q)
  | _, [], _ :: _, [], _ :: _, i, _, _, _, _, q => by simp [ltBs] at q; exact PySem.W.kat_nil (by simpa using q)
  | _, _ :: _, [], _ :: _, [], i, _, _, _, _, q => by simp [ltBs] at q; exact PySem.W.kat_nil (by simpa using q)
  | [], _ :: _, _, _ :: _, _, i, _, _, h, _, _ => by simp [sigOk] at h
  | k :: sg, u :: us, v :: vs, x :: xs, y :: ys, i, .cons a1 p1, .cons a2 p2, h1, h2, q => by
    obtain ⟨k0, kx, sx⟩ := sigOk_cons h1
    obtain ⟨_, ky, sy⟩ := sigOk_cons h2
    have hl : decide ((u :: us).length < (v :: vs).length) = decide (us.length < vs.length) := by simp
    rw [hl]
    show PySem.W.KatLex prog w A b _ Q ((u, v) :: us.zip vs) i s
    rw [ltBs] at q
    rcases a1 with ⟨m, t, rfl, rfl⟩ | ⟨m, t, rfl, rfl⟩
    · rcases a2 with ⟨m', t', rfl, rfl⟩ | ⟨m', t', rfl, rfl⟩
      · refine PySem.W.kat_cons (SeqAt.EqAt.int_int m t m' t' prog w _ _ ?_)
        refine PySem.W.kat_go (fun e1 => ?_) (fun e1 => ?_)
        · have e2 : m = m' := by simpa using e1
          rw [if_pos ((kind_eqv k0 kx ky).mpr (by rw [e2]))] at q
          exact PySem.W.kat_yes (lex_run (i + 1) p1 p2 sx sy q)
        · have e2 : ¬ m = m' := by simpa using e1
          rw [if_neg fun z => e2 (by have := (kind_eqv k0 kx ky).mp z; injection this)] at q
          exact PySem.W.kat_no (oneLt_int2 _ (by simpa [ltB] using q))
      · rw [← kx] at ky; simp [kindD] at ky
    · rcases a2 with ⟨m', t', rfl, rfl⟩ | ⟨m', t', rfl, rfl⟩
      · rw [← kx] at ky; simp [kindD] at ky
      · refine PySem.W.kat_cons (SeqAt.EqAt.str_str m t m' t' prog w _ _ ?_)
        refine PySem.W.kat_go (fun e1 => ?_) (fun e1 => ?_)
        · have e2 : m = m' := by simpa using e1
          rw [if_pos ((kind_eqv k0 kx ky).mpr (by rw [e2]))] at q
          exact PySem.W.kat_yes (lex_run (i + 1) p1 p2 sx sy q)
        · have e2 : ¬ m = m' := by simpa using e1
          rw [if_neg fun z => e2 (by have := (kind_eqv k0 kx ky).mp z; injection this)] at q
          exact PySem.W.kat_no (oneLt_str2 _ (by simpa [ltB] using q))
end
/-- the data that a value stands for -/
def DatOf (F : Hp) (S : D → Prop) (v : Value) (d : D) : Prop := S d ∧ ∃ x, L2.RelV x v ∧ R F x d
open Classical in
noncomputable def keyV (F : Hp) (S : D → Prop) (d0 : D) (v : Value) : D := if h : ∃ d, DatOf F S v d then choose h else d0
theorem keyV_S {F : Hp} {S : D → Prop} {d0 : D} (h0 : S d0) (v : Value) : S (keyV F S d0 v) := by
  unfold keyV
  split
  · rename_i h
    exact (Classical.choose_spec h).1
  · exact h0
theorem keyV_eq {F : Hp} {S : D → Prop} {d0 d : D} {v : Value} (h : DatOf F S v d) : keyV F S d0 v = d := by
  unfold keyV
  rw [dif_pos ⟨d, h⟩]
  obtain ⟨_, x, h1, h2⟩ := Classical.choose_spec (⟨d, h⟩ : ∃ d, DatOf F S v d)
  obtain ⟨_, y, h3, h4⟩ := h
  exact relV_fn h1 h3 h2 h4
theorem swo_key {S : D → Prop} (o : OrdS S) {k : Value → D} (hk : ∀ v, S (k v)) : SrtO.Swo fun v u => ltB (k v) (k u) :=
  ⟨fun x y h => o.asym _ _ (hk x) (hk y) h, fun x y z h1 h2 => o.neg (hk x) (hk y) (hk z) h1 h2⟩
theorem atoms_of {F : Hp} : ∀ {sg : List Nat} {ds : List D} {xs : List V} {us : List Value}, RL F xs ds → Vals xs us → sigOk sg ds = true → Paired AtomV us ds
  | _, [], _, _, .nil, .nil, _ => .nil
  | [], _ :: _, _, _, _, _, h => by simp [sigOk] at h
  | k :: sg, d :: ds, _, _, .cons a b, .cons c e, h => by
    obtain ⟨k0, kd, sd⟩ := sigOk_cons h
    refine .cons ?_ (atoms_of b e sd)
    cases d with
    | int i => cases a; obtain ⟨t, rfl⟩ := c; exact .inl ⟨i, t, rfl, rfl⟩
    | str x => cases a; obtain ⟨t, rfl⟩ := c; exact .inr ⟨x, t, rfl, rfl⟩
    | _ => simp [kindD] at kd; omega
theorem ats_len : ∀ {us : List Value} {ds : List D}, Paired AtomV us ds → us.length = ds.length
  | [], [], .nil => rfl
  | _ :: _, _ :: _, .cons _ b => by rw [List.length_cons, List.length_cons, ats_len b]
theorem kats_of {prog : Program} {w : World} {h : Heap} {sg : List Nat} {T : Value} (k : Nat) (hk : sg.head? = some k) (hT : (k = 1 ∧ T = .type "int") ∨ (k = 2 ∧ T = .type "str")) : ∀ {vs : List Value}, (∀ v ∈ vs, ∃ ys, TupIs h v ys ∧ tupSig sg (.tuple ys) = true) →
    ∃ fs, PySem.W.KatTups h vs fs ∧ fs.length = vs.length ∧ ∀ f ∈ fs, PySem.W.Looks (model prog w) h (typeOf f) T
  | [], _ => ⟨[], PySem.W.KatTups.nil, rfl, fun f hf => by cases hf⟩
  | v :: vs, x => by
    obtain ⟨fs, kt, hl, hf⟩ := kats_of (prog := prog) (w := w) k hk hT (vs := vs) fun u hu => x u (List.mem_cons_of_mem _ hu)
    obtain ⟨ys, ⟨b, us, rfl, ⟨o, ho, hc, n, hd⟩, p⟩, hs⟩ := x v List.mem_cons_self
    obtain ⟨y, ys', e, hs⟩ := tupSig_form hs
    cases e
    cases p with
    | cons a p =>
    rename_i u us'
    refine ⟨u :: fs, PySem.W.KatTups.cons ho hc hd (by simp) kt, by simp [hl], fun f hm => ?_⟩
    rcases List.mem_cons.mp hm with rfl | hm
    · cases sg with
      | nil => cases hk
      | cons k' sg =>
        cases hk
        obtain ⟨_, ky, _⟩ := sigOk_cons hs
        rcases a with ⟨i, t, rfl, rfl⟩ | ⟨i, t, rfl, rfl⟩
        · rcases hT with ⟨rfl, rfl⟩ | ⟨rfl, rfl⟩
          · exact PySem.W.Looks.of_pure rfl
          · simp [kindD] at ky
        · rcases hT with ⟨rfl, rfl⟩ | ⟨rfl, rfl⟩
          · simp [kindD] at ky
          · exact PySem.W.Looks.of_pure rfl
    · exact hf f hm
section
variable {prog : Program} {w : World} {A : Around} {s : Shared}
theorem tups_sortable {a : Addr} {vs : List Value} {sg : List Nat} {k : Value → D} (h2 : 2 ≤ vs.length) (hp : ∀ v ∈ vs, ∃ ys, k v = .tuple ys ∧ TupIs s.heap v ys ∧ tupSig sg (.tuple ys) = true) (ha : ∀ o, s.heap.get? a = some o → o.cls ≠ .type "tuple") :
    SrtO.SortableO prog w A s a vs fun v u => ltB (k v) (k u) := by
  intro h' keep
  have hp' : ∀ v ∈ vs, ∃ ys, k v = .tuple ys ∧ TupIs h' v ys ∧ tupSig sg (.tuple ys) = true := fun v hm => by
    obtain ⟨ys, h1, h3, h4⟩ := hp v hm
    exact ⟨ys, h1, h3.keeps fun b o e c => keep b o (fun z => by subst z; exact ha o e c) e, h4⟩
  have hT : ∃ kk T, sg.head? = some kk ∧ ((kk = 1 ∧ T = Value.type "int") ∨ (kk = 2 ∧ T = Value.type "str")) := by
    match vs, h2 with
    | v :: _, _ =>
      obtain ⟨ys, _, _, h4⟩ := hp v List.mem_cons_self
      obtain ⟨y, ys', e, hs⟩ := tupSig_form h4
      cases e
      cases sg with
      | nil => simp [sigOk] at hs
      | cons k' sg =>
        obtain ⟨k0, ky, _⟩ := sigOk_cons hs
        cases y with
        | int i => exact ⟨k', .type "int", rfl, .inl ⟨ky.symm, rfl⟩⟩
        | str x => exact ⟨k', .type "str", rfl, .inr ⟨ky.symm, rfl⟩⟩
        | _ => exact absurd ky.symm k0
  obtain ⟨kk, T, hk, hT⟩ := hT
  refine ⟨tuples' true, fun Q E hq => ?_, ?_⟩
  · obtain ⟨fs, h1, h3, h4⟩ := kats_of (prog := prog) (w := w) (h := h') kk hk hT (vs := vs) fun v hm => by
      obtain ⟨ys, _, h5, h6⟩ := hp' v hm
      exact ⟨ys, h5, h6⟩
    refine PySem.W.kat_kind (T := T) h1 (by omega) h4 ?_ ?_
    · rcases hT with ⟨_, rfl⟩ | ⟨_, rfl⟩ <;> rfl
    · have e : (T != Value.type "tuple") = true := by
        rcases hT with ⟨_, rfl⟩ | ⟨_, rfl⟩ <;> decide +kernel
      rw [e]
      exact hq
  · intro p q hm hm'
    obtain ⟨xs, e1, ⟨b1, us1, f1, ⟨o1, ho1, hc1, n1, hd1⟩, a1⟩, s1⟩ := hp' _ hm
    obtain ⟨ys, e2, ⟨b2, us2, f2, ⟨o2, ho2, hc2, n2, hd2⟩, a2⟩, s2⟩ := hp' _ hm'
    show wpAny (model prog w) A (keyLt' (tuples' true) p.1 q.1) (fun r s' => s' = { s with heap := h' } ∧ r = ltB (k p.1) (k q.1)) (fun _ _ => False) { s with heap := h' }
    rw [f1, f2]
    refine PySem.W.kat_lt (s := { s with heap := h' }) ho1 hd1 ho2 hd2 ?_
    obtain ⟨x, xs', ex, sx⟩ := tupSig_form s1
    obtain ⟨y, ys', ey, sy⟩ := tupSig_form s2
    cases ex
    cases ey
    have := lex_run (prog := prog) (w := w) (A := A) (s := { s with heap := h' }) (b := true) (Q := fun r s' => s' = { s with heap := h' } ∧ r = ltB (k (.ref b1)) (k (.ref b2))) 0 a1 a2 sx sy ⟨rfl, by rw [← f1, ← f2, e1, e2, ltB]⟩
    simpa using this
end
theorem paired_map {F : Hp} {S : D → Prop} {d0 : D} : ∀ {ds : List D} {xs : List V} {us : List Value}, RL F xs ds → Vals xs us → (∀ d ∈ ds, S d) → us.map (keyV F S d0) = ds
  | [], _, _, .nil, .nil, _ => rfl
  | d :: ds, _, _, .cons a b, .cons c e, h => by
    rw [List.map_cons, keyV_eq ⟨h d List.mem_cons_self, _, c, a⟩, paired_map b e fun x hx => h x (List.mem_cons_of_mem _ hx)]
theorem dat_mem {F : Hp} : ∀ {ds : List D} {xs : List V} {us : List Value}, RL F xs ds → Vals xs us → ∀ u ∈ us, ∃ x d, L2.RelV x u ∧ R F x d ∧ d ∈ ds
  | [], _, _, .nil, .nil, u, h => by cases h
  | d :: ds, _, _, .cons a b, .cons c e, u, h => by
    rcases List.mem_cons.mp h with rfl | h
    · exact ⟨_, d, c, a, List.mem_cons_self⟩
    · obtain ⟨x, d', h1, h2, h3⟩ := dat_mem b e u h
      exact ⟨x, d', h1, h2, List.mem_cons_of_mem _ h3⟩
theorem vals_key {F : Hp} {S : D → Prop} {d0 : D} : ∀ {us : List Value}, (∀ u ∈ us, ∃ x, L2.RelV x u ∧ R F x (keyV F S d0 u)) → ∃ xs, Vals xs us ∧ RL F xs (us.map (keyV F S d0))
  | [], _ => ⟨[], .nil, .nil⟩
  | u :: us, h => by
    obtain ⟨x, h1, h2⟩ := h u List.mem_cons_self
    obtain ⟨xs, h3, h4⟩ := vals_key (us := us) fun v hv => h v (List.mem_cons_of_mem _ hv)
    exact ⟨x :: xs, .cons h1 h3, .cons h2 h4⟩
theorem kind1_ints : ∀ {ds : List D}, (∀ d ∈ ds, kindD d = 1) → ∃ ns, dInts ds = some ns ∧ ds = ns.map .int
  | [], _ => ⟨[], rfl, rfl⟩
  | d :: ds, h => by
    obtain ⟨ns, h1, h2⟩ := kind1_ints (ds := ds) fun x hx => h x (List.mem_cons_of_mem _ hx)
    have := h d List.mem_cons_self
    cases d with
    | int i => exact ⟨i :: ns, by simp [dInts, h1], by rw [h2]; rfl⟩
    | _ => simp [kindD] at this
theorem sorted_ok (X : Cx) : SortedOk X := by
  intro pins s σ H vs us Q I r h
  obtain ⟨ρ, σ', F, v, x, z, rfl, rel, bor, hz, q⟩ := h
  have hx : ∃ xs ys, x = .list xs ∧ sortD xs = some ys ∧ z = .own ys := by
    simp only [bi1D] at hz
    split at hz
    · rename_i xs
      cases e : sortD xs with
      | none => rw [e] at hz; cases hz
      | some ys => rw [e] at hz; cases hz; exact ⟨xs, ys, rfl, e, rfl⟩
    · cases hz
  obtain ⟨xs, ys, rfl, hs, rfl⟩ := hx
  obtain ⟨p, vs', rfl, hp, rl⟩ := bor.list rel.sub
  unfold sortD at hs
  split at hs
  · rename_i hok
    cases hs
    rcases sortOk_ord hok with hi | ⟨sg, ht⟩
    · obtain ⟨ns, h1, h2⟩ := kind1_ints hi
      have hv := rl.ints h1
      refine cr_sortedI pins s σ H _ us Q I r ⟨p, ns, rfl, by rw [← hv]; exact SqL.here hp, fun ns' p' pm pw hn => ?_⟩
      have hsrt : isortD xs = ns'.map .int := by
        refine sorted_unique ord_int (fun d hd => hi d ((isortD_perm xs).mem_iff.mp hd)) ?_ (isortD_sorted ord_int hi) ?_
        · rw [h2]
          exact ((isortD_perm _).trans (pm.symm.map _))
        · exact List.pairwise_map.mpr (pw.imp fun {a b} hab => by simp [ltB]; omega)
      rw [hsrt] at q
      exact new_own rel (RL.ofInts ns') hn q
    · obtain ⟨its, rv, hl, hz⟩ := I.list (SqL.here hp)
      rw [Vals.ref1 r]
      have hS : ∀ d ∈ xs, (fun d => tupSig sg d = true) d := ht
      cases hxs : xs with
      | nil =>
        subst hxs
        cases rl
        cases rv
        refine SrtO.sorted_ord SrtO.swo_int hl.isList (by simp) (fun h2 => by simp at h2) fun out h1 h2 => ?_
        have ho : out = [] := by
          have := h2.perm.length_eq
          simpa using this
        subst ho
        obtain ⟨ep, he'⟩ := PyProof.Rows.sortedAll_at s.heap [] (#[] : Array Value)
        exact ⟨.ref _, upd H (s.heap.objs.size + 1) (.lst []), I.laid (t' := s.toks) (fun _ _ => PyProof.Rows.sortedAll_old) (Nat.le_succ _) ⟨Nat.zero_le _, [], ep, .nil, he'⟩, rfl, new_own rel (.nil) (I.hok.fresh (Nat.le_succ _)) q⟩
      | cons d0 xs0 =>
        have h0 : tupSig sg d0 = true := ht d0 (by rw [hxs]; exact List.mem_cons_self)
        have hk := fun v => keyV_S (F := F) (S := fun d => tupSig sg d = true) (d0 := d0) h0 v
        have hmap := paired_map (d0 := d0) rl rv hS
        have hitem : ∀ u ∈ its, ∃ x d, L2.RelV x u ∧ R F x d ∧ d ∈ xs ∧ keyV F (fun d => tupSig sg d = true) d0 u = d := fun u hu => by
          obtain ⟨x, d, e1, e2, e3⟩ := dat_mem rl rv u hu
          exact ⟨x, d, e1, e2, e3, keyV_eq ⟨hS d e3, x, e1, e2⟩⟩
        refine SrtO.sorted_ord (swo_key ord_tup hk) hl.isList (by rw [← rv.length]; exact hz) (fun h2 h₁ a' ha' kk => ?_) fun out h1 h2 => ?_
        · refine tups_sortable (s := { s with heap := h₁ }) (sg := sg) h2 (fun u hu => ?_) fun o e => ?_
          · obtain ⟨x, d, e1, e2, e3, e4⟩ := hitem u hu
            obtain ⟨y, ys, rfl, sy⟩ := tupSig_form (hS d e3)
            refine ⟨y :: ys, e4, ?_, hS _ e3⟩
            cases e2 with
            | tup ef er =>
              rename_i b ws
              obtain ⟨tits, trv, tp, tz⟩ := I.tuple (SqT.here (K := X.K) (rel.sub _ _ ef))
              cases e1
              refine TupIs.keeps ⟨b, tits, rfl, tp, atoms_of er trv sy⟩ fun b o e _ => (kk b o e).2
          · have e' : some o = some (seqObj "list" its.toArray 0) := e.symm.trans ha'
            cases e'
            intro c
            exact absurd (Value.type.inj c) (by decide)
        · obtain ⟨ep, he'⟩ := PyProof.Rows.sortedAll_at s.heap its out.toArray
          obtain ⟨xs', v1, v2⟩ := vals_key (F := F) (S := fun d => tupSig sg d = true) (d0 := d0) (us := out) fun u hu => by
            obtain ⟨x, d, e1, e2, e3, e4⟩ := hitem u (h2.perm.mem_iff.mp hu)
            exact ⟨x, e1, by rw [e4]; exact e2⟩
          have hsrt : isortD xs = out.map (keyV F (fun d => tupSig sg d = true) d0) := by
            refine sorted_unique ord_tup (fun d hd => hS d ((isortD_perm xs).mem_iff.mp hd)) ?_ (isortD_sorted ord_tup hS) (List.pairwise_map.mpr h1)
            refine (isortD_perm xs).trans ?_
            rw [← hmap]
            exact (h2.perm.symm).map _
          have hlen : xs'.length ≤ sizeLine := by
            rw [v1.length, h2.perm.length_eq, ← rv.length]; exact hz
          rw [hsrt] at q
          exact ⟨.ref _, upd H (s.heap.objs.size + 1) (.lst xs'), I.laid (t' := s.toks) (fun _ _ => PyProof.Rows.sortedAll_old) (Nat.le_succ _) ⟨hlen, out, ep, v1, he'⟩, rfl, new_own rel v2 (I.hok.fresh (Nat.le_succ _)) q⟩
  · cases hs
/-! ## sorted(a text) -/
theorem strs_signs {z : Str} {acc : Array Value} (h : ItemsOf (SignAt z) acc z.cps.size) : StrsAre acc.toList (z.cps.toList.map fun c => (⟨#[c]⟩ : Str)) := by
  have key : ∀ (l : List Value) (cs : List Nat), l.length = cs.length → (∀ (j : Nat) (v : Value), l[j]? = some v → ∃ c u, cs[j]? = some c ∧ v = Value.str ⟨#[c]⟩ u) → StrsAre l (cs.map fun c => (⟨#[c]⟩ : Str)) := by
    intro l
    induction l with
    | nil =>
      intro cs hl _
      cases cs with
      | nil => exact .nil
      | cons _ _ => cases hl
    | cons v l ih =>
      intro cs hl hg
      cases cs with
      | nil => cases hl
      | cons c cs =>
        obtain ⟨c', u, h1, rfl⟩ := hg 0 v rfl
        cases h1
        exact .cons _ u (ih cs (by simpa using hl) fun j v hj => by
          obtain ⟨c', u', h1, h2⟩ := hg (j + 1) v (by simpa using hj)
          exact ⟨c', u', by simpa using h1, h2⟩)
  refine key acc.toList z.cps.toList (by rw [Array.length_toList, h.1]; simp) fun j v hj => ?_
  obtain ⟨c, u, h1, h2⟩ := h.2 j v (by simpa using hj)
  exact ⟨c, u, by simpa using h1, h2⟩
section
variable {prog : Program} {w : World} {A : Around} {E : Value → Shared → Prop} {s : Shared}
theorem sorted_strArg {z : Str} {t : Tok} {Q : Value → Shared → Prop} (hh : A.handled = none) (hn : z.cps.size ≤ sizeLine)
    (h : ∀ (hm h' : Heap) (tk : Nat) (out : Array Value) (ss : List Str), StrsAre out.toList ss → ss.Perm (z.cps.toList.map fun c => (⟨#[c]⟩ : Str)) → sortedS ss = true → (∀ b o, s.heap.get? b = some o → hm.get? b = some o) →
      (∀ b o, hm.get? b = some o → h'.get? b = some o) → (∃ e, h'.get? hm.objs.size = some (seqObj "list" out e)) → Q (.ref hm.objs.size) { s with heap := h', toks := tk }) :
    wpAny (model prog w) A (call (.builtin "sorted") [.str z t]) Q E s := by
  refine Calls.call_function_entry kind_sorted plain_sorted entry_sorted (args_sorted1 _) ?_
  unfold Builtin.«sorted»
  refine wpAny_bind (m := checkCount "sorted" 1 1 _) (wpAny_pure ?_)
  refine wpAny_bind (wpAny_collect_str (A := A.in1) hh z t (fun s' acc k hg hd ho hacc => ?_) hn)
  have hS := strs_signs hacc
  have hL : acc.toList.length ≤ sizeLine := by rw [Array.length_toList, hacc.1]; exact hn
  refine wpAny_bind (wpAny_newList ?_ hL)
  have hoL : (s'.heap.push (seqObj "list" acc.toList.toArray 0)).get? s'.heap.objs.size = some (seqObj "list" acc.toList.toArray 0) := Heap.get?_push_size _ rfl
  refine wpAny_bind (wpAny_holding (wpAny_call_entry slot_list_sort ⟨_, hoL, rfl⟩ entry_list_sort (list_sort_treeKAny (s := { s' with heap := s'.heap.push (seqObj "list" acc.toList.toArray 0) }) strKind_oneLt hoL hS.keysOf (fun v₁ v₂ rest e => keyKind_strs (by rw [← e]; exact hS)) hL fun st' a1 a2 => ⟨_, rfl, ?_⟩) (args_list_sort _)))
  obtain ⟨ss, h1, h2, h3⟩ := sorted_out_str hS a1 a2
  refine wpAny_pure ⟨_, rfl, ?_⟩
  have := h s'.heap (sortedHeap (s'.heap.push (seqObj "list" acc.toList.toArray 0)) s'.heap.objs.size acc.toList ((arrOf st').map (·.2))) s'.toks _ ss h1 h2 h3 k (fun b o e => ?_) (sortedHeap_at hoL)
  · obtain ⟨hp, g, d, tk, os⟩ := s'
    simp only at hg hd ho
    subst hg hd ho
    exact this
  · have hlt : b < s'.heap.objs.size := Heap.lt_size e
    rw [sortedHeap_old (Nat.ne_of_lt hlt) (by rw [size_push']; exact Nat.lt_succ_of_lt hlt)]
    exact Heap.get?_push_of_some _ e
end
theorem rising_pair : ∀ (ys : List Str) (p : Str), risingS p ys = true → SrD ((p :: ys).map PyData.str)
  | [], p, _ => List.pairwise_singleton _ _
  | x :: r, p, h => by
    unfold risingS at h
    simp only [Bool.and_eq_true, Bool.not_eq_true'] at h
    have ih := rising_pair r x h.2
    rw [List.map_cons] at ih ⊢
    have hxp : ltB (.str x) (.str p) = false := by
      simp only [ltB, decide_eq_false_iff_not]
      have h1 := h.1
      rw [ltCps_eq] at h1
      exact of_decide_eq_false h1
    refine List.pairwise_cons.mpr ⟨fun y hy => ?_, ih⟩
    have hall : ∀ d ∈ (x :: r).map PyData.str, kindD d = 2 := fun d hd => by obtain ⟨c, _, rfl⟩ := List.mem_map.mp hd; rfl
    rw [List.map_cons] at hy hall
    rcases List.mem_cons.mp hy with rfl | hy2
    · exact hxp
    · exact ord_str.neg (x := .str p) (y := .str x) (z := y) rfl rfl (hall y (List.mem_cons_of_mem _ hy2)) hxp ((List.pairwise_cons.mp ih).1 y hy2)
theorem sortedS_pair : ∀ {ys : List Str}, sortedS ys = true → SrD (ys.map PyData.str)
  | [], _ => .nil
  | x :: r, h => rising_pair r x h
theorem srts_ok {X : Cx} (hc : X.calm = true) : SrtsOk X := by
  intro pins s σ H vs us Q I r h
  obtain ⟨ρ, σ', F, z, rfl, rel, hz, ho, q⟩ := h
  cases r with
  | cons r1 r2 =>
  cases r2
  obtain ⟨t, rfl⟩ := r1
  refine sorted_strArg (I.ok.hd hc) (by have := sl24; show z.length ≤ _; omega) fun hm h' tk out ss h1 h2 h3 k1 k2 he => ?_
  obtain ⟨e, he⟩ := he
  have I2 : Inv X pins σ H { s with heap := hm, toks := tk } := I.kept k1
  have hss : isortD (signs z) = ss.map .str := by
    refine sorted_unique ord_str (fun d hd => ?_) ?_ (isortD_sorted ord_str fun d hd => ?_) (sortedS_pair h3)
    · have := (isortD_perm _).mem_iff.mp hd
      obtain ⟨c, _, rfl⟩ := List.mem_map.mp this
      rfl
    · refine (isortD_perm _).trans ?_
      have := (h2.symm).map PyData.str
      rw [List.map_map] at this
      exact this
    · obtain ⟨c, _, rfl⟩ := List.mem_map.mp hd
      rfl
  have hok : ∀ x ∈ ss, PyData.strOk x = true ∧ x.length ≤ 16777216 := fun x hx => by
    obtain ⟨c, hcm, rfl⟩ := List.mem_map.mp (h2.mem_iff.mp hx)
    exact ⟨strOk_sub ho (l := [c]) (by simpa using hcm), by show 1 ≤ 16777216; decide⟩
  have hrl : ∀ (F : Hp) (ss : List Str), (∀ x ∈ ss, PyData.strOk x = true ∧ x.length ≤ 16777216) → RL F (ss.map V.str) (ss.map .str) := by
    intro F ss
    induction ss with
    | nil => intro _; exact .nil
    | cons x r ih => intro hx; exact .cons (.str x (hx x List.mem_cons_self).1 (hx x List.mem_cons_self).2) (ih fun y hy => hx y (List.mem_cons_of_mem _ hy))
  have hlen : (ss.map V.str).length ≤ sizeLine := by
    rw [List.length_map, h2.length_eq, List.length_map]
    have := sl24
    show z.cps.toList.length ≤ _
    rw [Array.length_toList]
    have : z.cps.size = z.length := rfl
    omega
  rw [hss] at q
  exact ⟨.ref _, upd H hm.objs.size (.lst (ss.map V.str)), I2.laid (t' := tk) k2 (Nat.le_refl _) ⟨hlen, out.toList, e, vals_of_strs h1, he⟩, rfl, new_own rel (hrl F ss hok) (I2.hok.fresh (Nat.le_refl _)) q⟩
theorem all_sorted {G : Cfg} {tbl : Nat → Option FnD} (h2 : G.f2 = true → F2All) : ∀ n N, AllSorted G (callN tbl n) n N := fun _ _ => ⟨fun _ _ X _ => sorted_ok X, fun _ _ X g => srts_ok g.calm, h2⟩
end Mn

namespace Mn
open PySem PySem.Spec PyProof.Rows L2
/-! ## {i:02}: the texts of 0 .. 99 -/
def F2' (i : Int) (x : Str) : Prop := ∀ t u : Tok, Meets (Builtin.«int.__format__» ⟨[.int i t, .str "02" u], []⟩) (fun _ R s => ∀ t' k, R (.ok (.ret (.str x t'))) { s with toks := k })
theorem f2_of {i : Int} {x : Str} (e : pad2 i = x) (h : F2' i x) : F2 i := by unfold F2; rw [e]; exact h
section
open PySem.W
theorem f2_0 : F2' 0 "00" := by
  intro t
  kxf_run_i
theorem f2_1 : F2' 1 "01" := by
  intro t
  kxf_run_i
theorem f2_2 : F2' 2 "02" := by
  intro t
  kxf_run_i
theorem f2_3 : F2' 3 "03" := by
  intro t
  kxf_run_i
theorem f2_4 : F2' 4 "04" := by
  intro t
  kxf_run_i
theorem f2_5 : F2' 5 "05" := by
  intro t
  kxf_run_i
theorem f2_6 : F2' 6 "06" := by
  intro t
  kxf_run_i
theorem f2_7 : F2' 7 "07" := by
  intro t
  kxf_run_i
theorem f2_8 : F2' 8 "08" := by
  intro t
  kxf_run_i
theorem f2_9 : F2' 9 "09" := by
  intro t
  kxf_run_i
theorem f2_10 : F2' 10 "10" := by
  intro t
  kxf_run_i
theorem f2_11 : F2' 11 "11" := by
  intro t
  kxf_run_i
theorem f2_12 : F2' 12 "12" := by
  intro t
  kxf_run_i
theorem f2_13 : F2' 13 "13" := by
  intro t
  kxf_run_i
theorem f2_14 : F2' 14 "14" := by
  intro t
  kxf_run_i
theorem f2_15 : F2' 15 "15" := by
  intro t
  kxf_run_i
theorem f2_16 : F2' 16 "16" := by
  intro t
  kxf_run_i
theorem f2_17 : F2' 17 "17" := by
  intro t
  kxf_run_i
theorem f2_18 : F2' 18 "18" := by
  intro t
  kxf_run_i
theorem f2_19 : F2' 19 "19" := by
  intro t
  kxf_run_i
theorem f2_20 : F2' 20 "20" := by
  intro t
  kxf_run_i
theorem f2_21 : F2' 21 "21" := by
  intro t
  kxf_run_i
theorem f2_22 : F2' 22 "22" := by
  intro t
  kxf_run_i
theorem f2_23 : F2' 23 "23" := by
  intro t
  kxf_run_i
theorem f2_24 : F2' 24 "24" := by
  intro t
  kxf_run_i
theorem f2_25 : F2' 25 "25" := by
  intro t
  kxf_run_i
theorem f2_26 : F2' 26 "26" := by
  intro t
  kxf_run_i
theorem f2_27 : F2' 27 "27" := by
  intro t
  kxf_run_i
theorem f2_28 : F2' 28 "28" := by
  intro t
  kxf_run_i
theorem f2_29 : F2' 29 "29" := by
  intro t
  kxf_run_i
theorem f2_30 : F2' 30 "30" := by
  intro t
  kxf_run_i
theorem f2_31 : F2' 31 "31" := by
  intro t
  kxf_run_i
theorem f2_32 : F2' 32 "32" := by
  intro t
  kxf_run_i
theorem f2_33 : F2' 33 "33" := by
  intro t
  kxf_run_i
theorem f2_34 : F2' 34 "34" := by
  intro t
  kxf_run_i
theorem f2_35 : F2' 35 "35" := by
  intro t
  kxf_run_i
theorem f2_36 : F2' 36 "36" := by
  intro t
  kxf_run_i
theorem f2_37 : F2' 37 "37" := by
  intro t
  kxf_run_i
theorem f2_38 : F2' 38 "38" := by
  intro t
  kxf_run_i
theorem f2_39 : F2' 39 "39" := by
  intro t
  kxf_run_i
theorem f2_40 : F2' 40 "40" := by
  intro t
  kxf_run_i
theorem f2_41 : F2' 41 "41" := by
  intro t
  kxf_run_i
theorem f2_42 : F2' 42 "42" := by
  intro t
  kxf_run_i
theorem f2_43 : F2' 43 "43" := by
  intro t
  kxf_run_i
theorem f2_44 : F2' 44 "44" := by
  intro t
  kxf_run_i
theorem f2_45 : F2' 45 "45" := by
  intro t
  kxf_run_i
theorem f2_46 : F2' 46 "46" := by
  intro t
  kxf_run_i
theorem f2_47 : F2' 47 "47" := by
  intro t
  kxf_run_i
theorem f2_48 : F2' 48 "48" := by
  intro t
  kxf_run_i
theorem f2_49 : F2' 49 "49" := by
  intro t
  kxf_run_i
theorem f2_50 : F2' 50 "50" := by
  intro t
  kxf_run_i
theorem f2_51 : F2' 51 "51" := by
  intro t
  kxf_run_i
theorem f2_52 : F2' 52 "52" := by
  intro t
  kxf_run_i
theorem f2_53 : F2' 53 "53" := by
  intro t
  kxf_run_i
theorem f2_54 : F2' 54 "54" := by
  intro t
  kxf_run_i
theorem f2_55 : F2' 55 "55" := by
  intro t
  kxf_run_i
theorem f2_56 : F2' 56 "56" := by
  intro t
  kxf_run_i
theorem f2_57 : F2' 57 "57" := by
  intro t
  kxf_run_i
theorem f2_58 : F2' 58 "58" := by
  intro t
  kxf_run_i
theorem f2_59 : F2' 59 "59" := by
  intro t
  kxf_run_i
theorem f2_60 : F2' 60 "60" := by
  intro t
  kxf_run_i
theorem f2_61 : F2' 61 "61" := by
  intro t
  kxf_run_i
theorem f2_62 : F2' 62 "62" := by
  intro t
  kxf_run_i
theorem f2_63 : F2' 63 "63" := by
  intro t
  kxf_run_i
theorem f2_64 : F2' 64 "64" := by
  intro t
  kxf_run_i
theorem f2_65 : F2' 65 "65" := by
  intro t
  kxf_run_i
theorem f2_66 : F2' 66 "66" := by
  intro t
  kxf_run_i
theorem f2_67 : F2' 67 "67" := by
  intro t
  kxf_run_i
theorem f2_68 : F2' 68 "68" := by
  intro t
  kxf_run_i
theorem f2_69 : F2' 69 "69" := by
  intro t
  kxf_run_i
theorem f2_70 : F2' 70 "70" := by
  intro t
  kxf_run_i
theorem f2_71 : F2' 71 "71" := by
  intro t
  kxf_run_i
theorem f2_72 : F2' 72 "72" := by
  intro t
  kxf_run_i
theorem f2_73 : F2' 73 "73" := by
  intro t
  kxf_run_i
theorem f2_74 : F2' 74 "74" := by
  intro t
  kxf_run_i
theorem f2_75 : F2' 75 "75" := by
  intro t
  kxf_run_i
theorem f2_76 : F2' 76 "76" := by
  intro t
  kxf_run_i
theorem f2_77 : F2' 77 "77" := by
  intro t
  kxf_run_i
theorem f2_78 : F2' 78 "78" := by
  intro t
  kxf_run_i
theorem f2_79 : F2' 79 "79" := by
  intro t
  kxf_run_i
theorem f2_80 : F2' 80 "80" := by
  intro t
  kxf_run_i
theorem f2_81 : F2' 81 "81" := by
  intro t
  kxf_run_i
theorem f2_82 : F2' 82 "82" := by
  intro t
  kxf_run_i
theorem f2_83 : F2' 83 "83" := by
  intro t
  kxf_run_i
theorem f2_84 : F2' 84 "84" := by
  intro t
  kxf_run_i
theorem f2_85 : F2' 85 "85" := by
  intro t
  kxf_run_i
theorem f2_86 : F2' 86 "86" := by
  intro t
  kxf_run_i
theorem f2_87 : F2' 87 "87" := by
  intro t
  kxf_run_i
theorem f2_88 : F2' 88 "88" := by
  intro t
  kxf_run_i
theorem f2_89 : F2' 89 "89" := by
  intro t
  kxf_run_i
theorem f2_90 : F2' 90 "90" := by
  intro t
  kxf_run_i
theorem f2_91 : F2' 91 "91" := by
  intro t
  kxf_run_i
theorem f2_92 : F2' 92 "92" := by
  intro t
  kxf_run_i
theorem f2_93 : F2' 93 "93" := by
  intro t
  kxf_run_i
theorem f2_94 : F2' 94 "94" := by
  intro t
  kxf_run_i
theorem f2_95 : F2' 95 "95" := by
  intro t
  kxf_run_i
theorem f2_96 : F2' 96 "96" := by
  intro t
  kxf_run_i
theorem f2_97 : F2' 97 "97" := by
  intro t
  kxf_run_i
theorem f2_98 : F2' 98 "98" := by
  intro t
  kxf_run_i
theorem f2_99 : F2' 99 "99" := by
  intro t
  kxf_run_i
end
theorem f2_all : F2All
  | 0, _ => f2_of (by decide +kernel) f2_0
  | 1, _ => f2_of (by decide +kernel) f2_1
  | 2, _ => f2_of (by decide +kernel) f2_2
  | 3, _ => f2_of (by decide +kernel) f2_3
  | 4, _ => f2_of (by decide +kernel) f2_4
  | 5, _ => f2_of (by decide +kernel) f2_5
  | 6, _ => f2_of (by decide +kernel) f2_6
  | 7, _ => f2_of (by decide +kernel) f2_7
  | 8, _ => f2_of (by decide +kernel) f2_8
  | 9, _ => f2_of (by decide +kernel) f2_9
  | 10, _ => f2_of (by decide +kernel) f2_10
  | 11, _ => f2_of (by decide +kernel) f2_11
  | 12, _ => f2_of (by decide +kernel) f2_12
  | 13, _ => f2_of (by decide +kernel) f2_13
  | 14, _ => f2_of (by decide +kernel) f2_14
  | 15, _ => f2_of (by decide +kernel) f2_15
  | 16, _ => f2_of (by decide +kernel) f2_16
  | 17, _ => f2_of (by decide +kernel) f2_17
  | 18, _ => f2_of (by decide +kernel) f2_18
  | 19, _ => f2_of (by decide +kernel) f2_19
  | 20, _ => f2_of (by decide +kernel) f2_20
  | 21, _ => f2_of (by decide +kernel) f2_21
  | 22, _ => f2_of (by decide +kernel) f2_22
  | 23, _ => f2_of (by decide +kernel) f2_23
  | 24, _ => f2_of (by decide +kernel) f2_24
  | 25, _ => f2_of (by decide +kernel) f2_25
  | 26, _ => f2_of (by decide +kernel) f2_26
  | 27, _ => f2_of (by decide +kernel) f2_27
  | 28, _ => f2_of (by decide +kernel) f2_28
  | 29, _ => f2_of (by decide +kernel) f2_29
  | 30, _ => f2_of (by decide +kernel) f2_30
  | 31, _ => f2_of (by decide +kernel) f2_31
  | 32, _ => f2_of (by decide +kernel) f2_32
  | 33, _ => f2_of (by decide +kernel) f2_33
  | 34, _ => f2_of (by decide +kernel) f2_34
  | 35, _ => f2_of (by decide +kernel) f2_35
  | 36, _ => f2_of (by decide +kernel) f2_36
  | 37, _ => f2_of (by decide +kernel) f2_37
  | 38, _ => f2_of (by decide +kernel) f2_38
  | 39, _ => f2_of (by decide +kernel) f2_39
  | 40, _ => f2_of (by decide +kernel) f2_40
  | 41, _ => f2_of (by decide +kernel) f2_41
  | 42, _ => f2_of (by decide +kernel) f2_42
  | 43, _ => f2_of (by decide +kernel) f2_43
  | 44, _ => f2_of (by decide +kernel) f2_44
  | 45, _ => f2_of (by decide +kernel) f2_45
  | 46, _ => f2_of (by decide +kernel) f2_46
  | 47, _ => f2_of (by decide +kernel) f2_47
  | 48, _ => f2_of (by decide +kernel) f2_48
  | 49, _ => f2_of (by decide +kernel) f2_49
  | 50, _ => f2_of (by decide +kernel) f2_50
  | 51, _ => f2_of (by decide +kernel) f2_51
  | 52, _ => f2_of (by decide +kernel) f2_52
  | 53, _ => f2_of (by decide +kernel) f2_53
  | 54, _ => f2_of (by decide +kernel) f2_54
  | 55, _ => f2_of (by decide +kernel) f2_55
  | 56, _ => f2_of (by decide +kernel) f2_56
  | 57, _ => f2_of (by decide +kernel) f2_57
  | 58, _ => f2_of (by decide +kernel) f2_58
  | 59, _ => f2_of (by decide +kernel) f2_59
  | 60, _ => f2_of (by decide +kernel) f2_60
  | 61, _ => f2_of (by decide +kernel) f2_61
  | 62, _ => f2_of (by decide +kernel) f2_62
  | 63, _ => f2_of (by decide +kernel) f2_63
  | 64, _ => f2_of (by decide +kernel) f2_64
  | 65, _ => f2_of (by decide +kernel) f2_65
  | 66, _ => f2_of (by decide +kernel) f2_66
  | 67, _ => f2_of (by decide +kernel) f2_67
  | 68, _ => f2_of (by decide +kernel) f2_68
  | 69, _ => f2_of (by decide +kernel) f2_69
  | 70, _ => f2_of (by decide +kernel) f2_70
  | 71, _ => f2_of (by decide +kernel) f2_71
  | 72, _ => f2_of (by decide +kernel) f2_72
  | 73, _ => f2_of (by decide +kernel) f2_73
  | 74, _ => f2_of (by decide +kernel) f2_74
  | 75, _ => f2_of (by decide +kernel) f2_75
  | 76, _ => f2_of (by decide +kernel) f2_76
  | 77, _ => f2_of (by decide +kernel) f2_77
  | 78, _ => f2_of (by decide +kernel) f2_78
  | 79, _ => f2_of (by decide +kernel) f2_79
  | 80, _ => f2_of (by decide +kernel) f2_80
  | 81, _ => f2_of (by decide +kernel) f2_81
  | 82, _ => f2_of (by decide +kernel) f2_82
  | 83, _ => f2_of (by decide +kernel) f2_83
  | 84, _ => f2_of (by decide +kernel) f2_84
  | 85, _ => f2_of (by decide +kernel) f2_85
  | 86, _ => f2_of (by decide +kernel) f2_86
  | 87, _ => f2_of (by decide +kernel) f2_87
  | 88, _ => f2_of (by decide +kernel) f2_88
  | 89, _ => f2_of (by decide +kernel) f2_89
  | 90, _ => f2_of (by decide +kernel) f2_90
  | 91, _ => f2_of (by decide +kernel) f2_91
  | 92, _ => f2_of (by decide +kernel) f2_92
  | 93, _ => f2_of (by decide +kernel) f2_93
  | 94, _ => f2_of (by decide +kernel) f2_94
  | 95, _ => f2_of (by decide +kernel) f2_95
  | 96, _ => f2_of (by decide +kernel) f2_96
  | 97, _ => f2_of (by decide +kernel) f2_97
  | 98, _ => f2_of (by decide +kernel) f2_98
  | 99, _ => f2_of (by decide +kernel) f2_99
  | _ + 100, h => absurd h (by omega)
end Mn

namespace Mn
open PySem
/-- 0 -/
def d_is_integer : FnD := ⟨3, 3, false, false,
 (.seq (.ret (.and (.isT (.var 0) [.int] false) (.and (.not (.isT (.var 0) [.bool] false)) (.cmp2 .LtE .LtE (.var 1) (.var 0) (.var 2)))))
 .skip)⟩
def N_is_integer : List Str := ["value", "low", "high"]
/-- 1 -/
def d_is_line : FnD := ⟨1, 1, false, false,
 (.seq (.ife (.or (.not (.isT (.var 0) [.tuple] false)) (.or (.cmp .NotEq (.bi1 .len (.var 0)) (.cst (.int 3))) (.not (.isT (.ix (.var 0) (.cst (.int 0))) [.str] false))))
 (.seq (.ret (.cst (.bool false)))
 .skip)
 .skip)
 (.seq (.ife (.or (.cmp .NotEq (.bi1 .len (.ix (.var 0) (.cst (.int 0)))) (.cst (.int 1))) (.or (.cmp .NotIn (.ix (.var 0) (.cst (.int 0))) (.glb "LABELS" (.str "abcd"))) (.not (.call 0 (.con (.ix (.var 0) (.cst (.int 1))) (.con (.cst (.int 1)) (.con (.glb "LONGEST" (.int 60)) .emp)))))))
 (.seq (.ret (.cst (.bool false)))
 .skip)
 .skip)
 (.seq (.ret (.call 0 (.con (.ix (.var 0) (.cst (.int 2))) (.con (.cst (.int 0)) (.con (.bin .Sub (.ix (.var 0) (.cst (.int 1))) (.cst (.int 1))) .emp)))))
 .skip)))⟩
def N_is_line : List Str := ["value"]
/-- 2 -/
def d_are_lines : FnD := ⟨1, 2, false, false,
 (.seq (.ret (.and (.isT (.var 0) [.tuple] false) (.and (.cmp2 .LtE .LtE (.cst (.int 1)) (.bi1 .len (.var 0)) (.glb "MOST_LINES" (.int 5))) (.bi1 .all (.comp [1] (.nm 1) (.one (.var 0)) .emp (.call 1 (.con (.var 1) .emp)))))))
 .skip)⟩
def N_are_lines : List Str := ["value", "line"]
/-- 3 -/
def d_departs : FnD := ⟨2, 2, false, false,
 (.seq (.ret (.cmp .Eq (.bin .Mod (.var 1) (.ix (.var 0) (.cst (.int 1)))) (.ix (.var 0) (.cst (.int 2)))))
 .skip)⟩
def N_departs : List Str := ["line", "minute"]
/-- 4 -/
def d_word_at : FnD := ⟨2, 3, false, false,
 (.seq (.ret (.join (.cst (.str "")) (.comp [2] (.nm 2) (.one (.var 0)) (.one (.call 3 (.con (.var 2) (.con (.var 1) .emp)))) (.ix (.var 2) (.cst (.int 0))))))
 .skip)⟩
def N_word_at : List Str := ["lines", "minute", "line"]
/-- 5 -/
def d_law_draw : FnD := ⟨2, 5, true, false,
 (.seq (.set 2 (.cst (.int 2305843009213693951)))
 (.seq (.ife (.cmp .Lt (.ix (.var 0) (.cst (.int 2))) (.var 1))
 (.seq (.set 3 (.cst (.int 0)))
 (.seq (.ife (.cmp .Gt (.bi1 .len (.ix (.var 0) (.cst (.int 0)))) (.cst (.int 0)))
 (.seq (.set 3 (.ix (.ix (.var 0) (.cst (.int 0))) (.bin .Mod (.bi1 .int (.ix (.var 0) (.cst (.int 1)))) (.bi1 .len (.ix (.var 0) (.cst (.int 0)))))))
 .skip)
 .skip)
 (.seq (.ife (.or (.cmp .GtE (.ix (.var 0) (.cst (.int 1))) (.bi1 .len (.ix (.var 0) (.cst (.int 0))))) (.cmp .Lt (.var 3) (.bin .Pow (.cst (.int 10)) (.cst (.int 18)))))
 (.seq (.set 3 (.bin .Mod (.bi1 .int (.bin .Add (.var 3) (.bin .Mult (.cst (.int 1000003)) (.ix (.var 0) (.cst (.int 1)))))) (.var 2)))
 (.seq (.set 3 (.bin .Mod (.bi1 .int (.bin .Add (.bin .Add (.bin .Mult (.var 3) (.var 3)) (.bin .Mult (.cst (.int 1181783497276652981)) (.var 3))) (.cst (.int 2049848353892358983)))) (.var 2)))
 (.seq (.set 3 (.bin .Mod (.bi1 .int (.bin .Add (.bin .Mult (.var 3) (.var 3)) (.cst (.int 1442695040888963407)))) (.var 2)))
 .skip)))
 .skip)
 (.seq (.sti 0 (.cst (.int 1)) (.bin .Add (.ix (.var 0) (.cst (.int 1))) (.cst (.int 1))))
 (.seq (.sti 0 (.cst (.int 2)) (.var 3))
 .skip)))))
 .skip)
 (.seq (.set 4 (.bin .Mod (.bi1 .int (.ix (.var 0) (.cst (.int 2)))) (.var 1)))
 (.seq (.sti 0 (.cst (.int 2)) (.bin .FloorDiv (.ix (.var 0) (.cst (.int 2))) (.var 1)))
 (.seq (.ret (.var 4))
 .skip)))))⟩
def N_law_draw : List Str := ["tape", "many", "prime", "cell", "found"]
/-- 6 -/
def d_law_whole : FnD := ⟨1, 1, false, false,
 (.seq (.ret (.and (.isT (.var 0) [.int] false) (.not (.isT (.var 0) [.bool] false))))
 .skip)⟩
def N_law_whole : List Str := ["item"]
/-- 7 -/
def d_law_within : FnD := ⟨3, 3, false, false,
 (.seq (.ret (.and (.call 6 (.con (.var 0) .emp)) (.cmp2 .LtE .LtE (.var 1) (.var 0) (.var 2))))
 .skip)⟩
def N_law_within : List Str := ["item", "low", "high"]
/-- 8 -/
def d_law_like : FnD := ⟨2, 3, false, false,
 (.seq (.ife (.isT (.var 0) [.list, .tuple] true)
 (.seq (.ife (.or (.cmp .NotEq (.isT (.var 0) [.list] false) (.isT (.var 1) [.list] false)) (.cmp .NotEq (.isT (.var 0) [.tuple] false) (.isT (.var 1) [.tuple] false)))
 (.seq (.ret (.cst (.bool false)))
 .skip)
 .skip)
 (.seq (.ife (.cmp .NotEq (.bi1 .len (.var 0)) (.bi1 .len (.var 1)))
 (.seq (.ret (.cst (.bool false)))
 .skip)
 .skip)
 (.seq (.ret (.cmp .Eq (.comp [2] (.nm 2) (.rng (.con (.bi1 .len (.var 0)) .emp)) (.one (.not (.call 8 (.con (.ix (.var 0) (.var 2)) (.con (.ix (.var 1) (.var 2)) .emp))))) (.var 2)) (.lst .emp)))
 .skip)))
 .skip)
 (.seq (.ife (.isT (.var 1) [.list, .tuple] true)
 (.seq (.ret (.cst (.bool false)))
 .skip)
 .skip)
 (.seq (.ret (.and (.cmp .Eq (.isT (.var 0) [.bool] false) (.isT (.var 1) [.bool] false)) (.cmp .Eq (.var 0) (.var 1))))
 .skip)))⟩
def N_law_like : List Str := ["one", "two", "k"]
/-- 9 -/
def d_law_spoilt : FnD := ⟨2, 6, true, false,
 (.seq (.ife (.and (.isT (.var 1) [.tuple, .list] true) (.and (.cmp .Gt (.bi1 .len (.var 1)) (.cst (.int 0))) (.cmp .Gt (.callo 5 0 (.con (.cst (.int 7)) .emp)) (.cst (.int 0)))))
 (.seq (.set 2 (.callo 5 0 (.con (.bi1 .len (.var 1)) .emp)))
 (.seq (.set 3 (.bi1 .list (.var 1)))
 (.seq (.set 4 (.callo 5 0 (.con (.cst (.int 12)) .emp)))
 (.seq (.ife (.cmp .Lt (.var 4) (.cst (.int 8)))
 (.seq (.sti 3 (.var 2) (.callo 9 0 (.con (.ix (.var 3) (.var 2)) .emp)))
 .skip)
 (.seq (.ife (.cmp .Eq (.var 4) (.cst (.int 8)))
 (.seq (.drp (.popAt 3 (.var 2)))
 .skip)
 (.seq (.ife (.cmp .Eq (.var 4) (.cst (.int 9)))
 (.seq (.ins 3 (.var 2) (.ix (.var 3) (.callo 5 0 (.con (.bi1 .len (.var 3)) .emp))))
 .skip)
 (.seq (.ife (.cmp .Eq (.var 4) (.cst (.int 10)))
 (.seq (.set 3 (.rev (.var 3)))
 .skip)
 (.seq (.ins 3 (.var 2) (.callo 10 0 (.con (.cst (.int 1)) .emp)))
 .skip))
 .skip))
 .skip))
 .skip))
 (.seq (.ret (.ife (.isT (.var 1) [.tuple] false) (.bi1 .tuple (.var 3)) (.var 3)))
 .skip)))))
 .skip)
 (.seq (.ife (.and (.call 6 (.con (.var 1) .emp)) (.cmp .Gt (.callo 5 0 (.con (.cst (.int 6)) .emp)) (.cst (.int 0))))
 (.seq (.ret (.bin .Add (.var 1) (.ix (.lst (.con (.cst (.int 1)) (.con (.neg (.cst (.int 1))) (.con (.cst (.int 2)) (.con (.neg (.cst (.int 2))) (.con (.cst (.int 9)) (.con (.cst (.int 1000)) .emp))))))) (.callo 5 0 (.con (.cst (.int 6)) .emp)))))
 .skip)
 .skip)
 (.seq (.ife (.and (.isT (.var 1) [.str] false) (.cmp .Gt (.callo 5 0 (.con (.cst (.int 3)) .emp)) (.cst (.int 0))))
 (.seq (.set 5 (.callo 5 0 (.con (.bin .Add (.bi1 .len (.var 1)) (.cst (.int 1))) .emp)))
 (.seq (.ret (.bin .Add (.bin .Add (.slc (.var 1) .emp (.one (.var 5))) (.ix (.lst (.con (.cst (.str " ")) (.con (.cst (.str "z")) (.con (.cst (.str "A")) (.con (.cst (.str "|")) (.con (.cst (.str "abcdefgh")) (.con (.cst (.str "")) .emp))))))) (.callo 5 0 (.con (.cst (.int 6)) .emp)))) (.slc (.var 1) (.one (.var 5)) .emp)))
 .skip))
 .skip)
 (.seq (.ife (.and (.isT (.var 1) [.tuple, .list] true) (.cmp .Eq (.callo 5 0 (.con (.cst (.int 2)) .emp)) (.cst (.int 0))))
 (.seq (.ret (.ife (.isT (.var 1) [.tuple] false) (.bi1 .list (.var 1)) (.bi1 .tuple (.var 1))))
 .skip)
 .skip)
 (.seq (.ret (.callo 10 0 (.con (.cst (.int 2)) .emp)))
 .skip)))))⟩
def N_law_spoilt : List Str := ["tape", "item", "k", "rest", "course", "at"]
/-- 10 -/
def d_law_any : FnD := ⟨2, 5, true, false,
 (.seq (.set 2 (.callo 5 0 (.con (.cst (.int 13)) .emp)))
 (.seq (.ife (.and (.cmp .Lt (.var 2) (.cst (.int 4))) (.cmp .Gt (.var 1) (.cst (.int 0))))
 (.seq (.set 3 (.comp [4] (.nm 4) (.rng (.con (.callo 5 0 (.con (.cst (.int 4)) .emp)) .emp)) .emp (.callo 10 0 (.con (.bin .Sub (.var 1) (.cst (.int 1))) .emp))))
 (.seq (.ret (.ix (.lst (.con (.var 3) (.con (.bi1 .tuple (.var 3)) (.con (.bi1 .tuple (.var 3)) (.con (.bi1 .tuple (.var 3)) .emp))))) (.var 2)))
 .skip))
 .skip)
 (.seq (.ife (.cmp .Lt (.var 2) (.cst (.int 8)))
 (.seq (.ret (.ix (.lst (.con (.bin .Sub (.callo 5 0 (.con (.cst (.int 12)) .emp)) (.cst (.int 2))) (.con (.callo 5 0 (.con (.bin .Pow (.cst (.int 10)) (.cst (.int 12))) .emp)) (.con (.cst (.int 0)) (.con (.cst (.int 3)) .emp))))) (.bi2 .max2 (.cst (.int 0)) (.bin .Sub (.var 2) (.cst (.int 4))))))
 .skip)
 .skip)
 (.seq (.set 3 (.lst (.con (.cst (.str "")) (.con (.cst (.str "a")) (.con (.cst (.str "d")) (.con (.cst (.str "e")) (.con (.cst (.str "ab")) (.con (.cst (.str " every ")) (.con (.cst (.str "from")) .emp)))))))))
 (.seq (.ret (.ix (.lst (.con (.cst (.bool true)) (.con (.cst (.bool false)) (.con (.cst .none) (.con (.ix (.var 3) (.callo 5 0 (.con (.cst (.int 7)) .emp))) (.con (.tup (.con (.cst (.int 1)) (.con (.cst (.int 2)) .emp))) .emp)))))) (.bin .Sub (.var 2) (.cst (.int 8)))))
 .skip)))))⟩
def N_law_any : List Str := ["tape", "deep", "course", "some", "k"]
/-- 11 -/
def d_law_every : FnD := ⟨2, 4, true, false,
 (.seq (.set 2 (.lst (.con (.cst (.int 1)) (.con (.cst (.int 2)) (.con (.cst (.int 3)) (.con (.cst (.int 4)) (.con (.cst (.int 5)) (.con (.cst (.int 6)) (.con (.cst (.int 7)) (.con (.cst (.int 8)) (.con (.cst (.int 9)) (.con (.cst (.int 10)) (.con (.cst (.int 12)) (.con (.cst (.int 14)) (.con (.cst (.int 15)) (.con (.cst (.int 18)) (.con (.cst (.int 20)) (.con (.cst (.int 21)) (.con (.cst (.int 24)) (.con (.cst (.int 28)) (.con (.cst (.int 30)) (.con (.cst (.int 35)) (.con (.cst (.int 36)) (.con (.cst (.int 40)) (.con (.cst (.int 42)) (.con (.cst (.int 45)) (.con (.cst (.int 56)) (.con (.cst (.int 60)) .emp))))))))))))))))))))))))))))
 (.seq (.ife (.cmp .Eq (.var 1) (.cst (.str "round")))
 (.seq (.ret (.ix (.var 2) (.callo 5 0 (.con (.bi1 .len (.var 2)) .emp))))
 .skip)
 .skip)
 (.seq (.ife (.cmp .Eq (.var 1) (.cst (.str "few")))
 (.seq (.ret (.bin .Add (.cst (.int 1)) (.callo 5 0 (.con (.cst (.int 8)) .emp))))
 .skip)
 .skip)
 (.seq (.set 3 (.ix (.lst (.con (.cst (.int 10)) (.con (.cst (.int 12)) (.con (.cst (.int 15)) (.con (.cst (.int 20)) (.con (.cst (.int 30)) (.con (.cst (.int 60)) .emp))))))) (.callo 5 0 (.con (.cst (.int 6)) .emp))))
 (.seq (.ret (.ix (.lst (.con (.bin .Add (.cst (.int 1)) (.callo 5 0 (.con (.cst (.int 60)) .emp))) (.con (.var 3) (.con (.bin .Add (.cst (.int 1)) (.callo 5 0 (.con (.cst (.int 9)) .emp))) .emp)))) (.callo 5 0 (.con (.cst (.int 3)) .emp))))
 .skip)))))⟩
def N_law_every : List Str := ["tape", "kind", "some", "usual"]
/-- 12 -/
def d_law_line : FnD := ⟨2, 3, true, false,
 (.seq (.set 2 (.callo 11 0 (.con (.var 1) .emp)))
 (.seq (.ret (.tup (.con (.ix (.cst (.str "abcd")) (.callo 5 0 (.con (.cst (.int 4)) .emp))) (.con (.var 2) (.con (.callo 5 0 (.con (.var 2) .emp)) .emp)))))
 .skip))⟩
def N_law_line : List Str := ["tape", "kind", "every"]
/-- 13 -/
def d_law_lines : FnD := ⟨3, 4, true, false,
 (.seq (.ret (.bi1 .tuple (.comp [3] (.nm 3) (.rng (.con (.bin .Add (.cst (.int 1)) (.callo 5 0 (.con (.var 1) .emp))) .emp)) .emp (.callo 12 0 (.con (.var 2) .emp)))))
 .skip)⟩
def N_law_lines : List Str := ["tape", "most", "kind", "turn"]
/-- 14 -/
def d_law_goes : FnD := ⟨2, 2, false, false,
 (.seq (.ret (.cmp .Eq (.bin .Mod (.bi1 .int (.bin .Sub (.var 1) (.ix (.var 0) (.cst (.int 2))))) (.ix (.var 0) (.cst (.int 1)))) (.cst (.int 0))))
 .skip)⟩
def N_law_goes : List Str := ["line", "minute"]
/-- 15 -/
def d_law_word : FnD := ⟨2, 3, false, false,
 (.seq (.ret (.join (.cst (.str "")) (.comp [2] (.nm 2) (.one (.var 0)) (.one (.call 14 (.con (.var 2) (.con (.var 1) .emp)))) (.ix (.var 2) (.cst (.int 0))))))
 .skip)⟩
def N_law_word : List Str := ["lines", "minute", "line"]
/-- 16 -/
def d_law_minute : FnD := ⟨1, 2, true, false,
 (.seq (.set 1 (.ix (.lst (.con (.cst (.int 200)) (.con (.bin .Pow (.cst (.int 10)) (.cst (.int 5))) (.con (.bin .Pow (.cst (.int 10)) (.cst (.int 15))) .emp)))) (.callo 5 0 (.con (.cst (.int 3)) .emp))))
 (.seq (.ret (.callo 5 0 (.con (.var 1) .emp)))
 .skip))⟩
def N_law_minute : List Str := ["tape", "most"]
/-- 17 -/
def d_law_is_line : FnD := ⟨1, 1, false, false,
 (.seq (.ife (.or (.not (.isT (.var 0) [.tuple] false)) (.or (.cmp .NotEq (.bi1 .len (.var 0)) (.cst (.int 3))) (.cmp .NotIn (.ix (.var 0) (.cst (.int 0))) (.lst (.con (.cst (.str "a")) (.con (.cst (.str "b")) (.con (.cst (.str "c")) (.con (.cst (.str "d")) .emp))))))))
 (.seq (.ret (.cst (.bool false)))
 .skip)
 .skip)
 (.seq (.ret (.and (.call 7 (.con (.ix (.var 0) (.cst (.int 1))) (.con (.cst (.int 1)) (.con (.cst (.int 60)) .emp)))) (.call 7 (.con (.ix (.var 0) (.cst (.int 2))) (.con (.cst (.int 0)) (.con (.bin .Sub (.ix (.var 0) (.cst (.int 1))) (.cst (.int 1))) .emp))))))
 .skip))⟩
def N_law_is_line : List Str := ["value"]
/-- 18 -/
def d_next_time : FnD := ⟨2, 2, false, false,
 (.seq (.ret (.bin .Add (.var 1) (.bin .Mod (.bin .Sub (.ix (.var 0) (.cst (.int 2))) (.var 1)) (.ix (.var 0) (.cst (.int 1))))))
 .skip)⟩
def N_next_time : List Str := ["line", "minute"]
/-- 19 -/
def b1_next_ones : Sx :=
 (.seq (.set 6 (.bi1 .min1 (.var 3)))
 (.seq (.set 7 (.index 3 (.var 6)))
 (.seq (.app 4 (.tup (.con (.var 6) (.con (.var 7) (.con (.ix (.ix (.var 0) (.var 7)) (.cst (.int 0))) .emp)))))
 (.seq (.sti 3 (.var 7) (.bin .Add (.var 6) (.ix (.ix (.var 0) (.var 7)) (.cst (.int 1)))))
 .skip))))
def d_next_ones : FnD := ⟨3, 8, false, false,
 (.seq (.par2 3 4 (.comp [5] (.nm 5) (.one (.var 0)) .emp (.call 18 (.con (.var 5) (.con (.var 2) .emp)))) (.lst .emp))
 (.seq (.whl (.cmp .Lt (.bi1 .len (.var 4)) (.var 1)) b1_next_ones)
 (.seq (.ret (.var 4))
 .skip)))⟩
def N_next_ones : List Str := ["lines", "rows", "minute", "times", "found", "line", "time", "at"]
/-- 20 -/
def d_board : FnD := ⟨3, 6, false, false,
 (.seq (.ret (.comp [3, 4, 5] (.cons (.nm 3) (.cons (.nm 4) (.cons (.nm 5) .nil))) (.one (.call 19 (.con (.var 0) (.con (.var 1) (.con (.var 2) .emp))))) .emp (.tup (.con (.var 5) (.con (.bin .Sub (.var 3) (.var 2)) .emp)))))
 .skip)⟩
def N_board : List Str := ["lines", "rows", "minute", "time", "at", "label"]
/-- 21 -/
def d_rounded : FnD := ⟨4, 7, false, false,
 (.seq (.ret (.comp [4, 5, 6] (.cons (.nm 4) (.cons (.nm 5) (.cons (.nm 6) .nil))) (.one (.call 19 (.con (.var 0) (.con (.var 1) (.con (.var 2) .emp))))) .emp (.tup (.con (.var 6) (.con (.bin .Mult (.bin .FloorDiv (.bin .Sub (.var 4) (.var 2)) (.var 3)) (.var 3)) .emp)))))
 .skip)⟩
def N_rounded : List Str := ["lines", "rows", "minute", "step", "time", "at", "label"]
/-- 22 -/
def b1_clocks : Sx :=
 (.seq (.app 3 (.tup (.con (.var 6) (.con (.fst (.con (.fmt2 (.bin .Mod (.bin .FloorDiv (.var 4) (.cst (.int 60))) (.cst (.int 24)))) (.con (.cst (.str ":")) (.con (.fmt2 (.bin .Mod (.var 4) (.cst (.int 60)))) .emp)))) .emp))))
 .skip)
def d_clocks : FnD := ⟨3, 7, false, false,
 (.seq (.set 3 (.lst .emp))
 (.seq (.for (.cons (.nm 4) (.cons (.nm 5) (.cons (.nm 6) .nil))) (.one (.call 19 (.con (.var 0) (.con (.var 1) (.con (.var 2) .emp))))) b1_clocks)
 (.seq (.ret (.var 3))
 .skip)))⟩
def N_clocks : List Str := ["lines", "rows", "minute", "found", "time", "at", "label"]
/-- 23 -/
def b1_law_next : Sx :=
 (.seq (.set 6 (.bin .Add (.var 2) (.bin .Mod (.bi1 .int (.bin .Sub (.ix (.var 5) (.cst (.int 2))) (.var 2))) (.ix (.var 5) (.cst (.int 1))))))
 (.seq (.ext 3 (.comp [7] (.nm 7) (.rng (.con (.var 1) .emp)) .emp (.tup (.con (.bin .Add (.var 6) (.bin .Mult (.ix (.var 5) (.cst (.int 1))) (.var 7))) (.con (.var 4) (.con (.ix (.var 5) (.cst (.int 0))) .emp))))))
 .skip))
def d_law_next : FnD := ⟨3, 8, false, false,
 (.seq (.set 3 (.lst .emp))
 (.seq (.for (.cons (.nm 4) (.cons (.nm 5) .nil)) (.enu (.var 0)) b1_law_next)
 (.seq (.ret (.slc (.bi1 .sorted (.var 3)) .emp (.one (.var 1))))
 .skip)))⟩
def N_law_next : List Str := ["lines", "rows", "minute", "some", "at", "line", "begin", "step"]
/-- 24 -/
def d_law_board : FnD := ⟨3, 6, false, false,
 (.seq (.ret (.comp [3, 4, 5] (.cons (.nm 3) (.cons (.nm 4) (.cons (.nm 5) .nil))) (.one (.call 23 (.con (.var 0) (.con (.var 1) (.con (.var 2) .emp))))) .emp (.tup (.con (.var 5) (.con (.bin .Sub (.var 3) (.var 2)) .emp)))))
 .skip)⟩
def N_law_board : List Str := ["lines", "rows", "minute", "time", "at", "label"]
/-- 25 -/
def d_law_clock : FnD := ⟨1, 3, false, false,
 (.seq (.par2 1 2 (.bin .Mod (.bi1 .int (.bin .FloorDiv (.var 0) (.cst (.int 60)))) (.cst (.int 24))) (.bin .Mod (.bi1 .int (.var 0)) (.cst (.int 60))))
 (.seq (.ret (.bin .Add (.bin .Add (.slc (.bi1 .str (.bin .Add (.cst (.int 100)) (.var 1))) (.one (.cst (.int 1))) .emp) (.cst (.str ":"))) (.slc (.bi1 .str (.bin .Add (.cst (.int 100)) (.var 2))) (.one (.cst (.int 1))) .emp)))
 .skip))⟩
def N_law_clock : List Str := ["minute", "hour", "rest"]
/-- 26 -/
def d_count_below : FnD := ⟨2, 2, false, false,
 (.seq (.ret (.bi2 .max2 (.cst (.int 0)) (.bin .FloorDiv (.bin .Sub (.bin .Add (.bin .Sub (.var 1) (.ix (.var 0) (.cst (.int 2)))) (.ix (.var 0) (.cst (.int 1)))) (.cst (.int 1))) (.ix (.var 0) (.cst (.int 1))))))
 .skip)⟩
def N_count_below : List Str := ["line", "minute"]
/-- 27 -/
def d_count_departures : FnD := ⟨3, 4, false, false,
 (.seq (.ret (.bi1 .sum (.comp [3] (.nm 3) (.one (.var 0)) .emp (.bi2 .max2 (.cst (.int 0)) (.bin .Sub (.call 26 (.con (.var 3) (.con (.bin .Add (.var 2) (.cst (.int 1))) .emp))) (.call 26 (.con (.var 3) (.con (.var 1) .emp))))))))
 .skip)⟩
def N_count_departures : List Str := ["lines", "low", "high", "line"]
/-- 28 -/
def b1_departure_at : Sx :=
 (.seq (.set 4 (.bin .FloorDiv (.bin .Add (.var 2) (.var 3)) (.cst (.int 2))))
 (.seq (.ife (.cmp .Gt (.call 27 (.con (.var 0) (.con (.cst (.int 0)) (.con (.var 4) .emp)))) (.var 1))
 (.seq (.set 3 (.var 4))
 .skip)
 (.seq (.set 2 (.bin .Add (.var 4) (.cst (.int 1))))
 .skip))
 .skip))
def d_departure_at : FnD := ⟨2, 7, false, false,
 (.seq (.par2 2 3 (.cst (.int 0)) (.bin .Mult (.cst (.int 60)) (.bin .Add (.var 1) (.cst (.int 1)))))
 (.seq (.whl (.cmp .Lt (.var 2) (.var 3)) b1_departure_at)
 (.seq (.set 5 (.bin .Sub (.var 1) (.bi1 .sum (.comp [6] (.nm 6) (.one (.var 0)) .emp (.call 26 (.con (.var 6) (.con (.var 2) .emp)))))))
 (.seq (.ret (.tup (.con (.var 2) (.con (.ix (.comp [6] (.nm 6) (.one (.var 0)) (.one (.cmp .Eq (.bin .Mod (.var 2) (.ix (.var 6) (.cst (.int 1)))) (.ix (.var 6) (.cst (.int 2))))) (.ix (.var 6) (.cst (.int 0)))) (.var 5)) .emp))))
 .skip))))⟩
def N_departure_at : List Str := ["lines", "index", "low", "high", "middle", "left", "line"]
/-- 29 -/
def d_law_times : FnD := ⟨3, 4, false, false,
 (.seq (.set 3 (.bin .Add (.var 1) (.bin .Mod (.bi1 .int (.bin .Sub (.ix (.var 0) (.cst (.int 2))) (.var 1))) (.ix (.var 0) (.cst (.int 1))))))
 (.seq (.ret (.ife (.cmp .Lt (.var 2) (.var 3)) (.cst (.int 0)) (.bin .Add (.cst (.int 1)) (.bin .FloorDiv (.bin .Sub (.var 2) (.var 3)) (.ix (.var 0) (.cst (.int 1)))))))
 .skip))⟩
def N_law_times : List Str := ["line", "low", "high", "first"]
/-- 30 -/
def b1_divisor : Sx :=
 (.seq (.par2 2 3 (.var 3) (.bin .Mod (.var 2) (.var 3)))
 .skip)
def d_divisor : FnD := ⟨2, 4, false, false,
 (.seq (.par2 2 3 (.var 0) (.var 1))
 (.seq (.whl (.cmp .Gt (.var 3) (.cst (.int 0))) b1_divisor)
 (.seq (.ret (.var 2))
 .skip)))⟩
def N_divisor : List Str := ["one", "other", "first", "second"]
/-- 31 -/
def b1_meeting_row : Sx :=
 (.seq (.aug 2 .Add (.var 1))
 .skip)
def b2_meeting_row : Sx :=
 (.seq (.set 6 (.call 30 (.con (.var 1) (.con (.var 4) .emp))))
 (.seq (.ife (.cmp .NotEq (.bin .Mod (.bin .Sub (.var 5) (.var 2)) (.var 6)) (.cst (.int 0)))
 (.seq (.ret (.cst .none))
 .skip)
 .skip)
 (.seq (.whl (.cmp .NotEq (.bin .Mod (.var 2) (.var 4)) (.var 5)) b1_meeting_row)
 (.seq (.set 1 (.bin .Mult (.bin .FloorDiv (.var 1) (.var 6)) (.var 4)))
 (.seq (.set 2 (.bin .Mod (.var 2) (.var 1)))
 .skip)))))
def d_meeting_row : FnD := ⟨1, 7, false, false,
 (.seq (.par2 1 2 (.cst (.int 1)) (.cst (.int 0)))
 (.seq (.for (.cons (.nm 3) (.cons (.nm 4) (.cons (.nm 5) .nil))) (.one (.var 0)) b2_meeting_row)
 (.seq (.ret (.tup (.con (.var 1) (.con (.var 2) .emp))))
 .skip)))⟩
def N_meeting_row : List Str := ["lines", "every", "first", "label", "own", "begin", "common"]
/-- 32 -/
def b1_all_sets : Sx :=
 (.seq (.set 1 (.lst (.str (.var 1) (.str (.comp [3] (.nm 3) (.one (.var 1)) .emp (.tup (.str (.var 3) (.con (.var 2) .emp)))) .emp))))
 .skip)
def d_all_sets : FnD := ⟨1, 4, false, false,
 (.seq (.set 1 (.lst (.con (.tup .emp) .emp)))
 (.seq (.for (.nm 2) (.rng (.con (.var 0) .emp)) b1_all_sets)
 (.seq (.ret (.var 1))
 .skip)))⟩
def N_all_sets : List Str := ["many", "found", "at", "row"]
/-- 33 -/
def d_just : FnD := ⟨3, 5, false, false,
 (.seq (.ret (.bi1 .all (.comp [3, 4] (.cons (.nm 3) (.cons (.nm 4) .nil)) (.enu (.var 0)) .emp (.cmp .Eq (.call 3 (.con (.var 4) (.con (.var 2) .emp))) (.cmp .In (.var 3) (.var 1))))))
 .skip)⟩
def N_just : List Str := ["lines", "positions", "minute", "at", "line"]
/-- 34 -/
def b1_first_just : Sx :=
 (.seq (.ife (.call 33 (.con (.var 0) (.con (.var 1) (.con (.bin .Add (.var 7) (.bin .Mult (.var 5) (.var 8))) .emp))))
 (.seq (.ret (.bin .Add (.var 7) (.bin .Mult (.var 5) (.var 8))))
 .skip)
 .skip)
 .skip)
def d_first_just : FnD := ⟨3, 9, false, false,
 (.seq (.set 3 (.call 31 (.con (.comp [4] (.nm 4) (.one (.var 1)) .emp (.ix (.var 0) (.var 4))) .emp)))
 (.seq (.ife (.cmp .Is (.var 3) (.cst .none))
 (.seq (.ret (.cst .none))
 .skip)
 .skip)
 (.seq (.tset (.cons (.nm 5) (.cons (.nm 6) .nil)) (.var 3))
 (.seq (.set 7 (.bin .Add (.var 2) (.bin .Mod (.bin .Sub (.var 6) (.var 2)) (.var 5))))
 (.seq (.for (.nm 8) (.rng (.con (.bin .LShift (.cst (.int 1)) (.bin .Sub (.bi1 .len (.var 0)) (.bi1 .len (.var 1)))) .emp)) b1_first_just)
 (.seq (.ret (.cst .none))
 .skip))))))⟩
def N_first_just : List Str := ["lines", "positions", "low", "row", "at", "every", "first", "begin", "step"]
/-- 35 -/
def d_together : FnD := ⟨1, 2, false, false,
 (.seq (.ret (.bi1 .sorted (.comp [1] (.nm 1) (.one (.call 32 (.con (.bi1 .len (.var 0)) .emp))) (.one (.and (.cmp .NotEq (.var 1) (.tup .emp)) (.cmp .IsNot (.call 34 (.con (.var 0) (.con (.var 1) (.con (.cst (.int 0)) .emp)))) (.cst .none)))) (.var 1))))
 .skip)⟩
def N_together : List Str := ["lines", "row"]
/-- 36 -/
def b1_law_gcd : Sx :=
 (.seq (.par2 2 3 (.var 3) (.bin .Mod (.bi1 .int (.var 2)) (.var 3)))
 .skip)
def d_law_gcd : FnD := ⟨2, 4, false, false,
 (.seq (.par2 2 3 (.var 0) (.var 1))
 (.seq (.whl (.cmp .Gt (.var 3) (.cst (.int 0))) b1_law_gcd)
 (.seq (.ret (.var 2))
 .skip)))⟩
def N_law_gcd : List Str := ["one", "other", "first", "second"]
/-- 37 -/
def b1_law_row : Sx :=
 (.seq (.set 6 (.comp [7] (.nm 7) (.rng (.con (.var 4) .emp)) (.one (.cmp .Eq (.bin .Mod (.bi1 .int (.bin .Sub (.bin .Add (.var 2) (.bin .Mult (.var 1) (.var 7))) (.var 5))) (.var 4)) (.cst (.int 0)))) (.bin .Add (.var 2) (.bin .Mult (.var 1) (.var 7)))))
 (.seq (.ife (.cmp .Eq (.var 6) (.lst .emp))
 (.seq (.ret (.cst .none))
 .skip)
 .skip)
 (.seq (.par2 2 1 (.ix (.var 6) (.cst (.int 0))) (.bin .Mult (.bin .FloorDiv (.var 1) (.call 36 (.con (.var 1) (.con (.var 4) .emp)))) (.var 4)))
 .skip)))
def d_law_row : FnD := ⟨1, 8, false, false,
 (.seq (.par2 1 2 (.cst (.int 1)) (.cst (.int 0)))
 (.seq (.for (.cons (.nm 3) (.cons (.nm 4) (.cons (.nm 5) .nil))) (.one (.var 0)) b1_law_row)
 (.seq (.ret (.tup (.con (.var 1) (.con (.var 2) .emp))))
 .skip)))⟩
def N_law_row : List Str := ["lines", "every", "first", "label", "own", "begin", "some", "step"]
/-- 38 -/
def b1_law_sets : Sx :=
 (.seq (.set 1 (.bin .Add (.var 1) (.comp [3] (.nm 3) (.one (.var 1)) .emp (.bin .Add (.var 3) (.tup (.con (.var 2) .emp))))))
 .skip)
def d_law_sets : FnD := ⟨1, 4, false, false,
 (.seq (.set 1 (.lst (.con (.tup .emp) .emp)))
 (.seq (.for (.nm 2) (.rng (.con (.var 0) .emp)) b1_law_sets)
 (.seq (.ret (.var 1))
 .skip)))⟩
def N_law_sets : List Str := ["many", "found", "at", "row"]
/-- 39 -/
def b1_law_count : Sx :=
 (.seq (.set 7 (.call 37 (.con (.bin .Add (.comp [5] (.nm 5) (.one (.var 1)) .emp (.ix (.var 0) (.var 5))) (.comp [5] (.nm 5) (.one (.var 6)) .emp (.ix (.var 0) (.ix (.var 4) (.var 5))))) .emp)))
 (.seq (.ife (.and (.cmp .IsNot (.var 7) (.cst .none)) (.cmp .LtE (.ix (.var 7) (.cst (.int 1))) (.var 2)))
 (.seq (.set 8 (.bin .Add (.bin .FloorDiv (.bin .Sub (.var 2) (.ix (.var 7) (.cst (.int 1)))) (.ix (.var 7) (.cst (.int 0)))) (.cst (.int 1))))
 (.seq (.set 3 (.bin .Add (.var 3) (.ife (.cmp .Eq (.bin .Mod (.bi1 .int (.bi1 .len (.var 6))) (.cst (.int 2))) (.cst (.int 0))) (.var 8) (.bin .Sub (.cst (.int 0)) (.var 8)))))
 .skip))
 .skip)
 .skip))
def d_law_count : FnD := ⟨3, 9, false, false,
 (.seq (.par2 3 4 (.cst (.int 0)) (.comp [5] (.nm 5) (.rng (.con (.bi1 .len (.var 0)) .emp)) (.one (.cmp .NotIn (.var 5) (.var 1))) (.var 5)))
 (.seq (.for (.nm 6) (.one (.call 38 (.con (.bi1 .len (.var 4)) .emp))) b1_law_count)
 (.seq (.ret (.var 3))
 .skip)))⟩
def N_law_count : List Str := ["lines", "row", "top", "total", "others", "at", "more", "told", "many"]
/-- 40 -/
def d_next_meeting : FnD := ⟨2, 3, false, false,
 (.seq (.set 2 (.call 31 (.con (.var 0) .emp)))
 (.seq (.ret (.ife (.cmp .Is (.var 2) (.cst .none)) (.cst .none) (.bin .Add (.var 1) (.bin .Mod (.bin .Sub (.ix (.var 2) (.cst (.int 1))) (.var 1)) (.ix (.var 2) (.cst (.int 0)))))))
 .skip))⟩
def N_next_meeting : List Str := ["lines", "minute", "row"]
/-- 41 -/
def d_law_just : FnD := ⟨3, 5, false, false,
 (.seq (.ret (.cmp .Eq (.comp [3, 4] (.cons (.nm 3) (.cons (.nm 4) .nil)) (.enu (.var 0)) (.one (.call 14 (.con (.var 4) (.con (.var 2) .emp)))) (.var 3)) (.bi1 .list (.var 1))))
 .skip)⟩
def N_law_just : List Str := ["lines", "row", "minute", "at", "line"]
/-- 42 -/
def d_count_row : FnD := ⟨2, 2, false, false,
 (.seq (.ret (.ife (.or (.cmp .Is (.var 0) (.cst .none)) (.cmp .Lt (.var 1) (.ix (.var 0) (.cst (.int 1))))) (.cst (.int 0)) (.bin .Add (.bin .FloorDiv (.bin .Sub (.var 1) (.ix (.var 0) (.cst (.int 1)))) (.ix (.var 0) (.cst (.int 0)))) (.cst (.int 1)))))
 .skip)⟩
def N_count_row : List Str := ["row", "top"]
/-- 43 -/
def b1_count_with : Sx :=
 (.seq (.set 7 (.call 31 (.con (.comp [5] (.nm 5) (.one (.lst (.str (.var 1) (.str (.comp [5] (.nm 5) (.one (.var 6)) .emp (.ix (.var 3) (.var 5))) .emp)))) .emp (.ix (.var 0) (.var 5))) .emp)))
 (.seq (.aug 4 .Add (.bin .Mult (.call 42 (.con (.var 7) (.con (.var 2) .emp))) (.bin .Sub (.cst (.int 1)) (.bin .Mult (.cst (.int 2)) (.bin .Mod (.bi1 .len (.var 6)) (.cst (.int 2)))))))
 .skip))
def d_count_with : FnD := ⟨3, 8, false, false,
 (.seq (.par2 3 4 (.comp [5] (.nm 5) (.rng (.con (.bi1 .len (.var 0)) .emp)) (.one (.cmp .NotIn (.var 5) (.var 1))) (.var 5)) (.cst (.int 0)))
 (.seq (.for (.nm 6) (.one (.call 32 (.con (.bi1 .len (.var 3)) .emp))) b1_count_with)
 (.seq (.ret (.var 4))
 .skip)))⟩
def N_count_with : List Str := ["lines", "positions", "top", "others", "found", "at", "more", "row"]
/-- 44 -/
def d_count_minutes : FnD := ⟨3, 4, false, false,
 (.seq (.ret (.bi1 .sum (.comp [3] (.nm 3) (.one (.call 32 (.con (.bi1 .len (.var 0)) .emp))) (.one (.cmp .Eq (.bi1 .len (.var 3)) (.var 1))) (.call 43 (.con (.var 0) (.con (.var 3) (.con (.var 2) .emp)))))))
 .skip)⟩
def N_count_minutes : List Str := ["lines", "many", "top", "row"]
/-- 45 -/
def d_next_with : FnD := ⟨3, 7, false, false,
 (.seq (.set 3 (.comp [4] (.nm 4) (.one (.call 32 (.con (.bi1 .len (.var 0)) .emp))) (.one (.cmp .Eq (.bi1 .len (.var 4)) (.var 1))) (.call 34 (.con (.var 0) (.con (.var 4) (.con (.var 2) .emp))))))
 (.seq (.set 5 (.comp [6] (.nm 6) (.one (.var 3)) (.one (.cmp .IsNot (.var 6) (.cst .none))) (.var 6)))
 (.seq (.ret (.ife (.cmp .NotEq (.var 5) (.lst .emp)) (.bi1 .min1 (.var 5)) (.cst .none)))
 .skip)))⟩
def N_next_with : List Str := ["lines", "many", "minute", "some", "row", "good", "time"]
/-- 46 -/
def b1_first_unlike : Sx :=
 (.seq (.set 6 (.lst (.con (.slc (.join (.cst (.str "")) (.comp [7] (.nm 7) (.one (.var 5)) (.one (.cmp .Lt (.var 7) (.bi1 .len (.var 0)))) (.ix (.ix (.var 0) (.var 7)) (.cst (.int 0))))) .emp (.one (.var 2))) .emp)))
 (.seq (.app 6 (.slc (.join (.cst (.str "")) (.comp [7] (.nm 7) (.one (.var 5)) (.one (.cmp .GtE (.var 7) (.bi1 .len (.var 0)))) (.ix (.ix (.var 3) (.var 7)) (.cst (.int 0))))) .emp (.one (.var 2))))
 (.seq (.ife (.cmp .NotEq (.ix (.var 6) (.cst (.int 0))) (.ix (.var 6) (.cst (.int 1))))
 (.seq (.set 8 (.call 34 (.con (.var 3) (.con (.var 5) (.con (.cst (.int 0)) .emp)))))
 (.seq (.set 4 (.ife (.or (.cmp .Is (.var 4) (.cst .none)) (.and (.cmp .IsNot (.var 8) (.cst .none)) (.cmp .Lt (.var 8) (.var 4)))) (.var 8) (.var 4)))
 .skip))
 .skip)
 .skip)))
def d_first_unlike : FnD := ⟨3, 9, false, false,
 (.seq (.par2 3 4 (.tup (.str (.var 0) (.str (.var 1) .emp))) (.cst .none))
 (.seq (.for (.nm 5) (.one (.call 32 (.con (.bi1 .len (.var 3)) .emp))) b1_first_unlike)
 (.seq (.ret (.var 4))
 .skip)))⟩
def N_first_unlike : List Str := ["one", "other", "rows", "both", "best", "row", "words", "at", "minute"]
/-- 47 -/
def d_alike : FnD := ⟨3, 3, false, false,
 (.seq (.ret (.cmp .Is (.call 46 (.con (.var 0) (.con (.var 1) (.con (.var 2) .emp)))) (.cst .none)))
 .skip)⟩
def N_alike : List Str := ["one", "other", "rows"]
/-- 48 -/
def d_parting_minute : FnD := ⟨3, 6, false, false,
 (.seq (.set 3 (.call 46 (.con (.var 0) (.con (.var 1) (.con (.var 2) .emp)))))
 (.seq (.ife (.cmp .Is (.var 3) (.cst .none))
 (.seq (.ret (.cst .none))
 .skip)
 .skip)
 (.seq (.set 4 (.lrng (.con (.bi2 .max2 (.cst (.int 0)) (.bin .Sub (.var 3) (.bin .Mult (.cst (.int 60)) (.var 2)))) (.con (.bin .Add (.var 3) (.cst (.int 1))) .emp))))
 (.seq (.ret (.ix (.comp [5] (.nm 5) (.one (.var 4)) (.one (.cmp .NotEq (.call 20 (.con (.var 0) (.con (.var 2) (.con (.var 5) .emp)))) (.call 20 (.con (.var 1) (.con (.var 2) (.con (.var 5) .emp)))))) (.var 5)) (.cst (.int 0))))
 .skip))))⟩
def N_parting_minute : List Str := ["one", "other", "rows", "last", "some", "time"]
/-- 49 -/
def b1_law_parted : Sx :=
 (.seq (.set 11 (.callo 5 0 (.con (.bin .Add (.bi1 .len (.var 9)) (.cst (.int 1))) .emp)))
 (.seq (.set 9 (.bin .Add (.bin .Add (.slc (.var 9) .emp (.one (.var 11))) (.tup (.con (.var 10) .emp))) (.slc (.var 9) (.one (.var 11)) .emp)))
 .skip))
def d_law_parted : FnD := ⟨2, 12, true, false,
 (.seq (.set 2 (.callo 5 0 (.con (.bi1 .len (.var 1)) .emp)))
 (.seq (.tset (.cons (.nm 3) (.cons (.nm 4) (.cons (.nm 5) .nil))) (.ix (.var 1) (.var 2)))
 (.seq (.set 6 (.bin .Add (.cst (.int 2)) (.callo 5 0 (.con (.cst (.int 3)) .emp))))
 (.seq (.ife (.and (.cmp .LtE (.bin .Mult (.var 4) (.var 6)) (.cst (.int 60))) (.cmp .LtE (.bin .Add (.bi1 .len (.var 1)) (.var 6)) (.cst (.int 6))))
 (.seq (.set 7 (.comp [8] (.nm 8) (.rng (.con (.var 6) .emp)) .emp (.tup (.con (.var 3) (.con (.bin .Mult (.var 4) (.var 6)) (.con (.bin .Add (.var 5) (.bin .Mult (.var 4) (.var 8))) .emp))))))
 (.seq (.set 9 (.bin .Add (.slc (.var 1) .emp (.one (.var 2))) (.slc (.var 1) (.one (.bin .Add (.var 2) (.cst (.int 1)))) .emp)))
 (.seq (.for (.nm 10) (.one (.var 7)) b1_law_parted)
 (.seq (.ret (.var 9))
 .skip))))
 .skip)
 (.seq (.ret (.bin .Add (.slc (.var 1) (.one (.var 2)) .emp) (.slc (.var 1) .emp (.one (.var 2)))))
 .skip)))))⟩
def N_law_parted : List Str := ["tape", "lines", "at", "label", "every", "first", "many", "more", "step", "rest", "line", "spot"]
/-- 50 -/
def d_law_near : FnD := ⟨2, 8, true, false,
 (.seq (.par2 2 3 (.callo 5 0 (.con (.bi1 .len (.var 1)) .emp)) (.callo 5 0 (.con (.cst (.int 4)) .emp)))
 (.seq (.tset (.cons (.nm 4) (.cons (.nm 5) (.cons (.nm 6) .nil))) (.ix (.var 1) (.var 2)))
 (.seq (.ife (.cmp .Eq (.var 3) (.cst (.int 0)))
 (.seq (.set 7 (.tup (.con (.var 4) (.con (.var 5) (.con (.bin .Mod (.bi1 .int (.bin .Add (.var 6) (.cst (.int 1)))) (.var 5)) .emp)))))
 (.seq (.ret (.bin .Add (.bin .Add (.slc (.var 1) .emp (.one (.var 2))) (.tup (.con (.var 7) .emp))) (.slc (.var 1) (.one (.bin .Add (.var 2) (.cst (.int 1)))) .emp)))
 .skip))
 .skip)
 (.seq (.ife (.and (.cmp .Eq (.var 3) (.cst (.int 1))) (.cmp .Gt (.bi1 .len (.var 1)) (.cst (.int 1))))
 (.seq (.ret (.bin .Add (.slc (.var 1) .emp (.one (.var 2))) (.slc (.var 1) (.one (.bin .Add (.var 2) (.cst (.int 1)))) .emp)))
 .skip)
 .skip)
 (.seq (.ife (.cmp .Eq (.var 3) (.cst (.int 2)))
 (.seq (.ret (.bin .Add (.bin .Add (.slc (.var 1) .emp (.one (.var 2))) (.rev (.slc (.var 1) (.one (.var 2)) (.one (.bin .Add (.var 2) (.cst (.int 2))))))) (.slc (.var 1) (.one (.bin .Add (.var 2) (.cst (.int 2)))) .emp)))
 .skip)
 .skip)
 (.seq (.ret (.slc (.bin .Add (.var 1) (.tup (.con (.callo 12 0 (.con (.cst (.str "any")) .emp)) .emp))) (.one (.neg (.cst (.int 5)))) .emp))
 .skip))))))⟩
def N_law_near : List Str := ["tape", "lines", "at", "way", "label", "every", "first", "line"]
/-- 51 -/
def b1_law_met : Sx :=
 (.seq (.set 4 (.call 37 (.con (.comp [5] (.nm 5) (.one (.var 1)) (.one (.cmp .Eq (.callo 5 0 (.con (.cst (.int 2)) .emp)) (.cst (.int 0)))) (.var 5)) .emp)))
 (.seq (.ife (.cmp .IsNot (.var 4) (.cst .none))
 (.seq (.app 2 (.bin .Add (.ix (.var 4) (.cst (.int 1))) (.bin .Mult (.ix (.var 4) (.cst (.int 0))) (.callo 5 0 (.con (.bin .Pow (.cst (.int 10)) (.cst (.int 4))) .emp)))))
 .skip)
 .skip)
 .skip))
def d_law_met : FnD := ⟨2, 6, true, false,
 (.seq (.set 2 (.lst (.con (.callo 16 0 .emp) .emp)))
 (.seq (.for (.nm 3) (.rng (.con (.cst (.int 4)) .emp)) b1_law_met)
 (.seq (.ret (.var 2))
 .skip)))⟩
def N_law_met : List Str := ["tape", "lines", "found", "turn", "row", "line"]
/-- 52 -/
def b1_needless : Sx :=
 (.seq (.set 4 (.tup (.str (.slc (.var 0) .emp (.one (.var 3))) (.str (.slc (.var 0) (.one (.bin .Add (.var 3) (.cst (.int 1)))) .emp) .emp))))
 (.seq (.ife (.and (.cmp .NotEq (.var 4) (.tup .emp)) (.call 47 (.con (.var 0) (.con (.var 4) (.con (.var 1) .emp)))))
 (.seq (.app 2 (.var 3))
 .skip)
 .skip)
 .skip))
def d_needless : FnD := ⟨2, 5, false, false,
 (.seq (.set 2 (.lst .emp))
 (.seq (.for (.nm 3) (.rng (.con (.bi1 .len (.var 0)) .emp)) b1_needless)
 (.seq (.ret (.var 2))
 .skip)))⟩
def N_needless : List Str := ["lines", "rows", "found", "at", "rest"]
/-- 53 -/
def b1_exchangeable : Sx :=
 (.seq (.ife (.call 47 (.con (.var 0) (.con (.tup (.str (.slc (.var 0) .emp (.one (.var 3))) (.con (.ix (.var 0) (.bin .Add (.var 3) (.cst (.int 1)))) (.con (.ix (.var 0) (.var 3)) (.str (.slc (.var 0) (.one (.bin .Add (.var 3) (.cst (.int 2)))) .emp) .emp))))) (.con (.var 1) .emp))))
 (.seq (.app 2 (.var 3))
 .skip)
 .skip)
 .skip)
def d_exchangeable : FnD := ⟨2, 4, false, false,
 (.seq (.set 2 (.lst .emp))
 (.seq (.for (.nm 3) (.rng (.con (.bin .Sub (.bi1 .len (.var 0)) (.cst (.int 1))) .emp)) b1_exchangeable)
 (.seq (.ret (.var 2))
 .skip)))⟩
def N_exchangeable : List Str := ["lines", "rows", "found", "at"]
/-- 54 -/
def d_same_words : FnD := ⟨3, 3, false, false,
 (.seq (.ret (.cmp .Eq (.srts (.call 4 (.con (.var 0) (.con (.var 2) .emp)))) (.srts (.call 4 (.con (.var 1) (.con (.var 2) .emp))))))
 .skip)⟩
def N_same_words : List Str := ["one", "other", "minute"]
/-- 55 -/
def d_same_departures : FnD := ⟨2, 5, false, false,
 (.seq (.set 2 (.bi1 .sum (.comp [3] (.nm 3) (.one (.tup (.str (.var 0) (.str (.var 1) .emp)))) .emp (.ix (.var 3) (.cst (.int 1))))))
 (.seq (.ret (.bi1 .all (.comp [4] (.nm 4) (.rng (.con (.var 2) .emp)) .emp (.call 54 (.con (.var 0) (.con (.var 1) (.con (.var 4) .emp)))))))
 .skip))⟩
def N_same_departures : List Str := ["one", "other", "last", "line", "minute"]
/-- 56 -/
def d_counts_of : FnD := ⟨3, 5, false, false,
 (.seq (.ret (.comp [4] (.nm 4) (.rng (.con (.var 2) .emp)) .emp (.bi1 .len (.comp [3] (.nm 3) (.one (.var 0)) (.one (.and (.cmp .Eq (.ix (.var 3) (.cst (.int 0))) (.var 1)) (.cmp .Eq (.bin .Mod (.var 4) (.ix (.var 3) (.cst (.int 1)))) (.ix (.var 3) (.cst (.int 2)))))) (.var 3)))))
 .skip)⟩
def N_counts_of : List Str := ["lines", "label", "top", "line", "minute"]
/-- 57 -/
def b1_fewest : Sx :=
 (.seq (.augi 11 (.var 10) .Sub (.cst (.int 1)))
 .skip)
def b2_fewest : Sx :=
 (.seq (.set 9 (.lrng (.con (.ix (.var 3) (.cst (.int 0))) (.con (.bi1 .len (.var 0)) (.con (.var 8) .emp)))))
 (.seq (.ife (.and (.cmp .Gt (.var 7) (.cst (.int 0))) (.bi1 .all (.comp [10] (.nm 10) (.one (.var 9)) .emp (.cmp .Gt (.ix (.var 0) (.var 10)) (.cst (.int 0))))))
 (.seq (.set 11 (.bi1 .list (.var 0)))
 (.seq (.for (.nm 10) (.one (.var 9)) b1_fewest)
 (.seq (.set 12 (.call 57 (.con (.var 11) (.con (.var 1) (.con (.bin .Sub (.var 7) (.cst (.int 1))) .emp)))))
 (.seq (.ife (.cmp .IsNot (.var 12) (.cst .none))
 (.seq (.set 6 (.tup (.con (.tup (.con (.var 1) (.con (.var 8) (.con (.ix (.var 3) (.cst (.int 0))) .emp)))) (.str (.var 12) .emp))))
 (.seq (.set 7 (.bin .Sub (.bi1 .len (.var 6)) (.cst (.int 1))))
 .skip))
 .skip)
 .skip))))
 .skip)
 .skip))
def d_fewest : FnD := ⟨3, 13, false, false,
 (.seq (.set 3 (.slc (.comp [4, 5] (.cons (.nm 4) (.cons (.nm 5) .nil)) (.enu (.var 0)) (.one (.cmp .Gt (.var 5) (.cst (.int 0)))) (.var 4)) .emp (.one (.cst (.int 1)))))
 (.seq (.ife (.cmp .Eq (.var 3) (.lst .emp))
 (.seq (.ret (.tup .emp))
 .skip)
 .skip)
 (.seq (.par2 6 7 (.cst .none) (.ife (.cmp .LtE (.bi1 .max1 (.var 0)) (.var 2)) (.var 2) (.cst (.int 0))))
 (.seq (.for (.nm 8) (.rng (.con (.bin .Add (.ix (.var 3) (.cst (.int 0))) (.cst (.int 1))) (.con (.bin .Add (.glb "LONGEST" (.int 60)) (.cst (.int 1))) .emp))) b2_fewest)
 (.seq (.ret (.var 6))
 .skip)))))⟩
def N_fewest : List Str := ["counts", "label", "most", "first", "minute", "many", "best", "limit", "every", "times", "time", "rest", "found"]
/-- 58 -/
def b1_joined : Sx :=
 (.seq (.set 5 (.bi1 .len (.comp [3] (.nm 3) (.one (.var 0)) (.one (.cmp .Eq (.ix (.var 3) (.cst (.int 0))) (.var 4))) (.var 3))))
 (.seq (.ext 1 (.call 57 (.con (.call 56 (.con (.var 0) (.con (.var 4) (.con (.var 2) .emp)))) (.con (.var 4) (.con (.var 5) .emp)))))
 .skip))
def d_joined : FnD := ⟨1, 6, false, false,
 (.seq (.par2 1 2 (.lst .emp) (.bin .Add (.bi1 .sum (.comp [3] (.nm 3) (.one (.var 0)) .emp (.ix (.var 3) (.cst (.int 1))))) (.bin .Mult (.glb "MOST_LINES" (.int 5)) (.glb "LONGEST" (.int 60)))))
 (.seq (.for (.nm 4) (.one (.sset (.comp [3] (.nm 3) (.one (.var 0)) .emp (.ix (.var 3) (.cst (.int 0)))))) b1_joined)
 (.seq (.ret (.bi1 .tuple (.bi1 .sorted (.var 1))))
 .skip)))⟩
def N_joined : List Str := ["lines", "found", "top", "line", "label", "many"]
/-- 59 -/
def d_fewest_lines : FnD := ⟨1, 1, false, false,
 (.seq (.ret (.bi1 .len (.call 58 (.con (.var 0) .emp))))
 .skip)⟩
def N_fewest_lines : List Str := ["lines"]
/-- 60 -/
def b1_law_least : Sx :=
 (.seq (.sti 8 (.var 3) (.bin .Sub (.ix (.var 8) (.var 3)) (.cst (.int 1))))
 .skip)
def b2_law_least : Sx :=
 (.seq (.set 7 (.lrng (.con (.ix (.var 2) (.cst (.int 0))) (.con (.bi1 .len (.var 0)) (.con (.var 6) .emp)))))
 (.seq (.ife (.and (.cmp .Gt (.var 1) (.cst (.int 0))) (.cmp .Eq (.comp [3] (.nm 3) (.one (.var 7)) (.one (.cmp .Eq (.ix (.var 0) (.var 3)) (.cst (.int 0)))) (.var 3)) (.lst .emp)))
 (.seq (.set 8 (.slc (.var 0) .emp .emp))
 (.seq (.for (.nm 3) (.one (.var 7)) b1_law_least)
 (.seq (.set 9 (.call 60 (.con (.var 8) (.con (.bin .Sub (.ife (.cmp .Is (.var 5) (.cst .none)) (.var 1) (.bi2 .min2 (.var 1) (.bin .Sub (.var 5) (.cst (.int 1))))) (.cst (.int 1))) .emp))))
 (.seq (.ife (.and (.cmp .IsNot (.var 9) (.cst .none)) (.or (.cmp .Is (.var 5) (.cst .none)) (.cmp .Lt (.bin .Add (.var 9) (.cst (.int 1))) (.var 5))))
 (.seq (.set 5 (.bin .Add (.var 9) (.cst (.int 1))))
 .skip)
 .skip)
 .skip))))
 .skip)
 .skip))
def d_law_least : FnD := ⟨2, 10, false, false,
 (.seq (.set 2 (.slc (.comp [3, 4] (.cons (.nm 3) (.cons (.nm 4) .nil)) (.enu (.var 0)) (.one (.cmp .Gt (.var 4) (.cst (.int 0)))) (.var 3)) .emp (.one (.cst (.int 1)))))
 (.seq (.ife (.cmp .Eq (.var 2) (.lst .emp))
 (.seq (.ret (.cst (.int 0)))
 .skip)
 .skip)
 (.seq (.ife (.cmp .Gt (.bi1 .max1 (.var 0)) (.var 1))
 (.seq (.ret (.cst .none))
 .skip)
 .skip)
 (.seq (.set 5 (.cst .none))
 (.seq (.for (.nm 6) (.rng (.con (.bin .Add (.ix (.var 2) (.cst (.int 0))) (.cst (.int 1))) (.con (.cst (.int 61)) .emp))) b2_law_least)
 (.seq (.ret (.var 5))
 .skip))))))⟩
def N_law_least : List Str := ["counts", "most", "first", "minute", "many", "best", "every", "times", "rest", "found"]
/-- 61 -/
def d_times_between : FnD := ⟨3, 3, false, false,
 (.seq (.ret (.bin .Sub (.bin .FloorDiv (.bin .Sub (.var 2) (.ix (.var 0) (.cst (.int 2)))) (.ix (.var 0) (.cst (.int 1)))) (.bin .FloorDiv (.bin .Sub (.bin .Sub (.var 1) (.cst (.int 1))) (.ix (.var 0) (.cst (.int 2)))) (.ix (.var 0) (.cst (.int 1))))))
 .skip)⟩
def N_times_between : List Str := ["line", "low", "high"]
/-- 62 -/
def d_window : FnD := ⟨4, 5, false, false,
 (.seq (.set 4 (.ife (.cmp .Lt (.var 2) (.var 1)) (.var 3) (.bin .Sub (.var 3) (.cst (.int 1)))))
 (.seq (.ret (.call 61 (.con (.ix (.var 0) (.var 2)) (.con (.bin .Add (.bin .Sub (.var 3) (.ix (.ix (.var 0) (.var 1)) (.cst (.int 1)))) (.cst (.int 1))) (.con (.var 4) .emp)))))
 .skip))⟩
def N_window : List Str := ["lines", "position", "other", "end", "last"]
/-- 63 -/
def b1_tied : Sx :=
 (.seq (.ife (.cmp .NotEq (.var 3) (.var 1))
 (.seq (.set 5 (.call 30 (.con (.ix (.ix (.var 0) (.var 1)) (.cst (.int 1))) (.con (.ix (.var 4) (.cst (.int 1))) .emp))))
 (.seq (.set 2 (.bin .Mult (.bin .FloorDiv (.var 2) (.call 30 (.con (.var 2) (.con (.var 5) .emp)))) (.var 5)))
 .skip))
 .skip)
 .skip)
def d_tied : FnD := ⟨2, 6, false, false,
 (.seq (.set 2 (.cst (.int 1)))
 (.seq (.for (.cons (.nm 3) (.cons (.nm 4) .nil)) (.enu (.var 0)) b1_tied)
 (.seq (.ret (.var 2))
 .skip)))⟩
def N_tied : List Str := ["lines", "other", "found", "at", "line", "common"]
/-- 64 -/
def b1_choices : Sx :=
 (.seq (.ife (.cmp .Eq (.bin .Mod (.bin .Sub (.var 8) (.ix (.var 3) (.cst (.int 2)))) (.var 7)) (.cst (.int 0)))
 (.seq (.set 9 (.call 62 (.con (.var 0) (.con (.var 1) (.con (.var 2) (.con (.var 8) .emp))))))
 (.seq (.ife (.or (.din true (.bin .Mod (.var 8) (.var 6)) 5) (.cmp .Gt (.var 9) (.ix (.dget 5 (.bin .Mod (.var 8) (.var 6))) (.cst (.int 1)))))
 (.seq (.dset 5 (.bin .Mod (.var 8) (.var 6)) (.tup (.con (.var 8) (.con (.var 9) .emp))))
 .skip)
 .skip)
 .skip))
 .skip)
 .skip)
def d_choices : FnD := ⟨3, 12, false, false,
 (.seq (.par3 3 4 5 (.ix (.var 0) (.var 1)) (.ix (.var 0) (.var 2)) .dnew)
 (.seq (.par2 6 7 (.call 63 (.con (.var 0) (.con (.var 2) .emp))) (.call 30 (.con (.ix (.var 3) (.cst (.int 1))) (.con (.ix (.var 4) (.cst (.int 1))) .emp))))
 (.seq (.for (.nm 8) (.rng (.con (.ix (.var 4) (.cst (.int 1))) .emp)) b1_choices)
 (.seq (.ret (.dvals 5 10 11))
 .skip))))⟩
def N_choices : List Str := ["lines", "position", "other", "own", "line", "best", "share", "common", "rest", "many", "key", "pair"]
/-- 65 -/
def d_agree : FnD := ⟨4, 6, false, false,
 (.seq (.ret (.bi1 .all (.comp [4, 5] (.cons (.nm 4) (.cons (.nm 5) .nil)) (.one (.var 1)) .emp (.cmp .Eq (.bin .Mod (.bin .Sub (.var 3) (.var 5)) (.call 30 (.con (.ix (.ix (.var 0) (.var 2)) (.cst (.int 1))) (.con (.ix (.ix (.var 0) (.var 4)) (.cst (.int 1))) .emp)))) (.cst (.int 0))))))
 .skip)⟩
def N_agree : List Str := ["lines", "chosen", "other", "rest", "at", "own"]
/-- 66 -/
def b1_best_rests : Sx :=
 (.seq (.ife (.call 65 (.con (.var 0) (.con (.var 3) (.con (.var 4) (.con (.var 6) .emp)))))
 (.seq (.set 8 (.call 66 (.con (.var 0) (.con (.var 1) (.con (.slc (.var 2) (.one (.cst (.int 1))) .emp) (.con (.tup (.con (.tup (.con (.var 4) (.con (.var 6) .emp))) (.str (.var 3) .emp))) .emp))))))
 (.seq (.set 5 (.ife (.cmp .GtE (.var 8) (.cst (.int 0))) (.bi2 .max2 (.var 5) (.bin .Add (.var 7) (.var 8))) (.var 5)))
 .skip))
 .skip)
 .skip)
def d_best_rests : FnD := ⟨4, 9, false, false,
 (.seq (.ife (.cmp .Eq (.var 2) (.tup .emp))
 (.seq (.ret (.cst (.int 0)))
 .skip)
 .skip)
 (.seq (.par2 4 5 (.ix (.var 2) (.cst (.int 0))) (.neg (.cst (.int 1))))
 (.seq (.for (.cons (.nm 6) (.cons (.nm 7) .nil)) (.one (.call 64 (.con (.var 0) (.con (.var 1) (.con (.var 4) .emp))))) b1_best_rests)
 (.seq (.ret (.var 5))
 .skip))))⟩
def N_best_rests : List Str := ["lines", "position", "others", "chosen", "other", "best", "rest", "many", "more"]
/-- 67 -/
def d_rows_for : FnD := ⟨2, 4, false, false,
 (.seq (.set 2 (.bi1 .tuple (.comp [3] (.nm 3) (.rng (.con (.bi1 .len (.var 0)) .emp)) (.one (.cmp .NotEq (.var 3) (.var 1))) (.var 3))))
 (.seq (.ret (.bin .Add (.cst (.int 1)) (.call 66 (.con (.var 0) (.con (.var 1) (.con (.var 2) (.con (.tup .emp) .emp)))))))
 .skip))⟩
def N_rows_for : List Str := ["lines", "position", "others", "at"]
/-- 68 -/
def d_rows_for_all : FnD := ⟨1, 2, false, false,
 (.seq (.ret (.bi1 .max1 (.comp [1] (.nm 1) (.rng (.con (.bi1 .len (.var 0)) .emp)) .emp (.call 67 (.con (.var 0) (.con (.var 1) .emp))))))
 .skip)⟩
def N_rows_for_all : List Str := ["lines", "position"]
/-- 69 -/
def d_pushed_lines : FnD := ⟨2, 3, false, false,
 (.seq (.ret (.comp [2] (.nm 2) (.rng (.con (.bi1 .len (.var 0)) .emp)) (.one (.cmp .Gt (.call 67 (.con (.var 0) (.con (.var 2) .emp))) (.var 1))) (.var 2)))
 .skip)⟩
def N_pushed_lines : List Str := ["lines", "rows", "position"]
/-- 70 -/
def b1_law_windows : Sx :=
 (.seq (.ife (.cmp .NotEq (.var 8) (.var 1))
 (.seq (.set 7 (.bin .Add (.var 7) (.call 29 (.con (.var 5) (.con (.bin .Add (.bin .Sub (.var 6) (.ix (.var 4) (.cst (.int 1)))) (.cst (.int 1))) (.con (.ife (.cmp .Lt (.var 8) (.var 1)) (.var 6) (.bin .Sub (.var 6) (.cst (.int 1)))) .emp))))))
 .skip)
 .skip)
 .skip)
def b2_law_windows : Sx :=
 (.seq (.set 7 (.cst (.int 0)))
 (.seq (.for (.cons (.nm 8) (.cons (.nm 5) .nil)) (.enu (.var 0)) b1_law_windows)
 (.seq (.set 3 (.bi2 .max2 (.var 3) (.var 7)))
 .skip)))
def b3_law_windows : Sx :=
 (.seq (.set 2 (.bin .Mult (.bin .FloorDiv (.var 2) (.call 36 (.con (.var 2) (.con (.ix (.var 5) (.cst (.int 1))) .emp)))) (.ix (.var 5) (.cst (.int 1)))))
 .skip)
def d_law_windows : FnD := ⟨2, 9, false, false,
 (.seq (.par3 2 3 4 (.cst (.int 1)) (.cst (.int 0)) (.ix (.var 0) (.var 1)))
 (.seq (.for (.nm 5) (.one (.var 0)) b3_law_windows)
 (.seq (.for (.nm 6) (.rng (.con (.bin .Add (.ix (.var 4) (.cst (.int 2))) (.bin .Mult (.cst (.int 60)) (.ix (.var 4) (.cst (.int 1))))) (.con (.bin .Add (.bin .Add (.ix (.var 4) (.cst (.int 2))) (.bin .Mult (.cst (.int 60)) (.ix (.var 4) (.cst (.int 1))))) (.var 2)) (.con (.ix (.var 4) (.cst (.int 1))) .emp)))) b2_law_windows)
 (.seq (.ret (.var 3))
 .skip))))⟩
def N_law_windows : List Str := ["lines", "position", "every", "best", "own", "line", "end", "many", "at"]
/-- 71 -/
def d_is_on : FnD := ⟨4, 7, false, false,
 (.seq (.ret (.cmp .In (.var 2) (.comp [4, 5, 6] (.cons (.nm 4) (.cons (.nm 5) (.cons (.nm 6) .nil))) (.one (.call 19 (.con (.var 0) (.con (.var 1) (.con (.var 3) .emp))))) .emp (.var 5))))
 .skip)⟩
def N_is_on : List Str := ["lines", "rows", "position", "minute", "time", "at", "label"]
/-- 72 -/
def b1_lowest : Sx :=
 (.seq (.par2 2 3 (.var 3) (.bin .Mod (.var 2) (.var 3)))
 .skip)
def d_lowest : FnD := ⟨2, 4, false, false,
 (.seq (.par2 2 3 (.var 0) (.var 1))
 (.seq (.whl (.cmp .Gt (.var 3) (.cst (.int 0))) b1_lowest)
 (.seq (.ret (.tup (.con (.bin .FloorDiv (.var 0) (.var 2)) (.con (.bin .FloorDiv (.var 1) (.var 2)) .emp))))
 .skip)))⟩
def N_lowest : List Str := ["top", "bottom", "first", "second"]
/-- 73 -/
def d_share_on : FnD := ⟨3, 4, false, false,
 (.seq (.ret (.call 72 (.con (.bi1 .len (.comp [3] (.nm 3) (.rng (.con (.glb "ROUND" (.int 2520)) .emp)) (.one (.call 71 (.con (.var 0) (.con (.var 1) (.con (.var 2) (.con (.var 3) .emp)))))) (.cst (.int 1)))) (.con (.glb "ROUND" (.int 2520)) .emp))))
 .skip)⟩
def N_share_on : List Str := ["lines", "rows", "position", "minute"]
/-- 74 -/
def b1_first_off : Sx :=
 (.seq (.ife (.not (.call 71 (.con (.var 0) (.con (.var 1) (.con (.var 2) (.con (.bin .Add (.var 3) (.var 4)) .emp))))))
 (.seq (.ret (.bin .Add (.var 3) (.var 4)))
 .skip)
 .skip)
 .skip)
def d_first_off : FnD := ⟨4, 5, false, false,
 (.seq (.for (.nm 4) (.rng (.con (.glb "ROUND" (.int 2520)) .emp)) b1_first_off)
 (.seq (.ret (.cst .none))
 .skip))⟩
def N_first_off : List Str := ["lines", "rows", "position", "minute", "more"]
/-- 75 -/
def b1_longest_off : Sx :=
 (.seq (.set 5 (.ife (.var 7) (.cst (.int 0)) (.bin .Add (.var 5) (.cst (.int 1)))))
 (.seq (.set 4 (.bi2 .max2 (.var 4) (.var 5)))
 .skip))
def d_longest_off : FnD := ⟨3, 8, false, false,
 (.seq (.par3 3 4 5 (.comp [6] (.nm 6) (.rng (.con (.glb "ROUND" (.int 2520)) .emp)) .emp (.call 71 (.con (.var 0) (.con (.var 1) (.con (.var 2) (.con (.var 6) .emp)))))) (.cst (.int 0)) (.cst (.int 0)))
 (.seq (.ife (.not (.bi1 .any (.var 3)))
 (.seq (.ret (.cst .none))
 .skip)
 .skip)
 (.seq (.for (.nm 7) (.one (.lst (.str (.var 3) (.str (.var 3) .emp)))) b1_longest_off)
 (.seq (.ret (.var 4))
 .skip))))⟩
def N_longest_off : List Str := ["lines", "rows", "position", "flags", "best", "here", "minute", "good"]
/-- 76 -/
def b1_parting_rounded : Sx :=
 (.seq (.ife (.cmp .NotEq (.call 21 (.con (.var 0) (.con (.var 2) (.con (.var 4) (.con (.var 3) .emp))))) (.call 21 (.con (.var 1) (.con (.var 2) (.con (.var 4) (.con (.var 3) .emp))))))
 (.seq (.ret (.var 4))
 .skip)
 .skip)
 .skip)
def d_parting_rounded : FnD := ⟨4, 5, false, false,
 (.seq (.for (.nm 4) (.rng (.con (.glb "ROUND" (.int 2520)) .emp)) b1_parting_rounded)
 (.seq (.ret (.cst .none))
 .skip))⟩
def N_parting_rounded : List Str := ["one", "other", "rows", "step", "minute"]
/-- 77 -/
def d_alike_rounded : FnD := ⟨4, 4, false, false,
 (.seq (.ret (.cmp .Is (.call 76 (.con (.var 0) (.con (.var 1) (.con (.var 2) (.con (.var 3) .emp))))) (.cst .none)))
 .skip)⟩
def N_alike_rounded : List Str := ["one", "other", "rows", "step"]
/-- 78 -/
def d_law_rounded : FnD := ⟨4, 7, false, false,
 (.seq (.ret (.comp [4, 5, 6] (.cons (.nm 4) (.cons (.nm 5) (.cons (.nm 6) .nil))) (.one (.call 23 (.con (.var 0) (.con (.var 1) (.con (.var 2) .emp))))) .emp (.tup (.con (.var 6) (.con (.bin .Mult (.bin .FloorDiv (.bin .Sub (.var 4) (.var 2)) (.var 3)) (.var 3)) .emp)))))
 .skip)⟩
def N_law_rounded : List Str := ["lines", "rows", "minute", "step", "time", "at", "label"]
/-- 79 -/
def b1_mean_wait : Sx :=
 (.seq (.ife (.cmp .Lt (.var 8) (.glb "ROUND" (.int 2520)))
 (.seq (.set 10 (.bin .Sub (.var 9) (.var 8)))
 (.seq (.aug 7 .Add (.bin .FloorDiv (.bin .Mult (.var 10) (.bin .Sub (.var 10) (.cst (.int 1)))) (.cst (.int 2))))
 .skip))
 .skip)
 .skip)
def d_mean_wait : FnD := ⟨3, 11, false, false,
 (.seq (.set 3 (.comp [4] (.nm 4) (.one (.var 0)) (.one (.cmp .Eq (.ix (.var 4) (.cst (.int 0))) (.var 1))) (.var 4)))
 (.seq (.set 5 (.comp [6] (.nm 6) (.rng (.con (.bin .Mult (.cst (.int 2)) (.glb "ROUND" (.int 2520))) .emp)) (.one (.bi1 .any (.comp [4] (.nm 4) (.one (.var 3)) .emp (.call 3 (.con (.var 4) (.con (.var 6) .emp)))))) (.var 6)))
 (.seq (.ife (.cmp .Eq (.var 5) (.lst .emp))
 (.seq (.ret (.cst .none))
 .skip)
 .skip)
 (.seq (.set 7 (.cst (.int 0)))
 (.seq (.for (.cons (.nm 8) (.cons (.nm 9) .nil)) (.zip (.var 5) (.slc (.var 5) (.one (.cst (.int 1))) .emp)) b1_mean_wait)
 (.seq (.ret (.call 72 (.con (.bin .Add (.var 7) (.bin .Mult (.var 2) (.glb "ROUND" (.int 2520)))) (.con (.glb "ROUND" (.int 2520)) .emp))))
 .skip))))))⟩
def N_mean_wait : List Str := ["lines", "label", "walk", "own", "line", "times", "minute", "total", "one", "other", "gap"]
/-- 80 -/
def d_explains : FnD := ⟨3, 5, false, false,
 (.seq (.ret (.bi1 .all (.comp [3, 4] (.cons (.nm 3) (.cons (.nm 4) .nil)) (.one (.var 2)) .emp (.cmp .Eq (.bi1 .tuple (.call 20 (.con (.var 0) (.con (.var 1) (.con (.var 3) .emp))))) (.var 4)))))
 .skip)⟩
def N_explains : List Str := ["lines", "rows", "seen", "minute", "shown"]
/-- 81 -/
def d_fitting : FnD := ⟨3, 5, false, false,
 (.seq (.ret (.comp [3, 4] (.cons (.nm 3) (.cons (.nm 4) .nil)) (.enu (.var 0)) (.one (.call 80 (.con (.var 4) (.con (.var 1) (.con (.var 2) .emp))))) (.var 3)))
 .skip)⟩
def N_fitting : List Str := ["some", "rows", "seen", "at", "lines"]
/-- 82 -/
def d_single_lines : FnD := ⟨3, 3, false, false,
 (.seq (.ret (.call 83 (.con (.tup (.con (.tup (.con (.var 0) (.con (.cst (.int 1)) (.con (.cst (.int 0)) .emp)))) .emp)) (.con (.cst (.int 0)) (.con (.var 1) (.con (.var 2) .emp))))))
 .skip)⟩
def N_single_lines : List Str := ["label", "rows", "seen"]
/-- 83 -/
def b1_lines_for : Sx :=
 (.seq (.set 7 (.tup (.con (.ix (.ix (.var 0) (.var 1)) (.cst (.int 0))) (.con (.var 5) (.con (.var 6) .emp)))))
 (.seq (.ife (.call 80 (.con (.tup (.str (.slc (.var 0) .emp (.one (.var 1))) (.con (.var 7) (.str (.slc (.var 0) (.one (.bin .Add (.var 1) (.cst (.int 1)))) .emp) .emp)))) (.con (.var 2) (.con (.var 3) .emp))))
 (.seq (.app 4 (.var 7))
 .skip)
 .skip)
 .skip))
def b2_lines_for : Sx :=
 (.seq (.for (.nm 6) (.rng (.con (.var 5) .emp)) b1_lines_for)
 .skip)
def d_lines_for : FnD := ⟨4, 8, false, false,
 (.seq (.set 4 (.lst .emp))
 (.seq (.for (.nm 5) (.rng (.con (.cst (.int 1)) (.con (.bin .Add (.glb "LONGEST" (.int 60)) (.cst (.int 1))) .emp))) b2_lines_for)
 (.seq (.ret (.var 4))
 .skip)))⟩
def N_lines_for : List Str := ["lines", "position", "rows", "seen", "found", "every", "first", "line"]
/-- 84 -/
def d_line_text : FnD := ⟨1, 1, false, false,
 (.seq (.ret (.fst (.con (.fmt (.ix (.var 0) (.cst (.int 0)))) (.con (.cst (.str " every ")) (.con (.fmt (.ix (.var 0) (.cst (.int 1)))) (.con (.cst (.str " from ")) (.con (.fmt (.ix (.var 0) (.cst (.int 2)))) .emp)))))))
 .skip)⟩
def N_line_text : List Str := ["line"]
/-- 85 -/
def d_lines_text : FnD := ⟨1, 2, false, false,
 (.seq (.ret (.join (.cst (.str "; ")) (.comp [1] (.nm 1) (.one (.var 0)) .emp (.call 84 (.con (.var 1) .emp)))))
 .skip)⟩
def N_lines_text : List Str := ["lines", "line"]
/-- 86 -/
def d_read_number : FnD := ⟨1, 2, false, false,
 (.seq (.ife (.or (.cmp .Eq (.var 0) (.cst (.str ""))) (.or (.cmp .Gt (.bi1 .len (.var 0)) (.cst (.int 2))) (.not (.bi1 .all (.comp [1] (.nm 1) (.one (.var 0)) .emp (.cmp .In (.var 1) (.cst (.str "0123456789"))))))))
 (.seq (.ret (.cst .none))
 .skip)
 .skip)
 (.seq (.ret (.ife (.cmp .Eq (.bi1 .str (.bi1 .int (.var 0))) (.var 0)) (.bi1 .int (.var 0)) (.cst .none)))
 .skip))⟩
def N_read_number : List Str := ["word", "sign"]
/-- 87 -/
def b1_read_lines : Sx :=
 (.seq (.set 3 (.split (.var 2) (.cst (.str " "))))
 (.seq (.ife (.or (.cmp .NotEq (.bi1 .len (.var 3)) (.cst (.int 5))) (.or (.cmp .NotEq (.ix (.var 3) (.cst (.int 1))) (.cst (.str "every"))) (.cmp .NotEq (.ix (.var 3) (.cst (.int 3))) (.cst (.str "from")))))
 (.seq (.ret (.cst .none))
 .skip)
 .skip)
 (.seq (.app 1 (.tup (.con (.ix (.var 3) (.cst (.int 0))) (.con (.call 86 (.con (.ix (.var 3) (.cst (.int 2))) .emp)) (.con (.call 86 (.con (.ix (.var 3) (.cst (.int 4))) .emp)) .emp)))))
 .skip)))
def d_read_lines : FnD := ⟨1, 4, false, false,
 (.seq (.ife (.not (.isT (.var 0) [.str] false))
 (.seq (.ret (.cst .none))
 .skip)
 .skip)
 (.seq (.set 1 (.lst .emp))
 (.seq (.for (.nm 2) (.one (.split (.var 0) (.cst (.str "; ")))) b1_read_lines)
 (.seq (.ret (.ife (.call 2 (.con (.bi1 .tuple (.var 1)) .emp)) (.bi1 .tuple (.var 1)) (.cst .none)))
 .skip))))⟩
def N_read_lines : List Str := ["value", "found", "part", "words"]
/-- 88 -/
def d_board_text : FnD := ⟨1, 3, false, false,
 (.seq (.ret (.join (.cst (.str "\n")) (.comp [1, 2] (.cons (.nm 1) (.cons (.nm 2) .nil)) (.one (.var 0)) .emp (.ife (.cmp .Eq (.var 2) (.cst (.int 0))) (.fst (.con (.fmt (.var 1)) (.con (.cst (.str " now")) .emp))) (.fst (.con (.fmt (.var 1)) (.con (.cst (.str " in ")) (.con (.fmt (.var 2)) .emp))))))))
 .skip)⟩
def N_board_text : List Str := ["shown", "label", "left"]
/-- 98 -/
def b1_likes : Sx :=
 (.seq (.par2 7 8 (.call 61 (.con (.var 3) (.con (.var 6) (.con (.bin .Sub (.bin .Add (.var 6) (.var 2)) (.cst (.int 1))) .emp)))) (.bin .Mod (.bin .Sub (.ix (.var 3) (.cst (.int 2))) (.var 6)) (.ix (.var 3) (.cst (.int 1)))))
 (.seq (.tset (.cons (.nm 9) (.cons (.nm 10) (.cons (.nm 11) (.cons (.nm 12) .nil)))) (.ddef 5 (.bin .Mod (.var 6) (.var 4)) (.tup (.con (.var 7) (.con (.var 7) (.con (.var 8) (.con (.var 6) .emp)))))))
 (.seq (.dset 5 (.bin .Mod (.var 6) (.var 4)) (.tup (.con (.bi2 .min2 (.var 9) (.var 7)) (.con (.bi2 .max2 (.var 10) (.var 7)) (.con (.bi2 .max2 (.var 11) (.var 8)) (.con (.var 12) .emp))))))
 .skip)))
def d_likes : FnD := ⟨3, 15, false, false,
 (.seq (.par3 3 4 5 (.ix (.var 0) (.var 1)) (.call 63 (.con (.var 0) (.con (.var 1) .emp))) .dnew)
 (.seq (.for (.nm 6) (.rng (.con (.ix (.var 3) (.cst (.int 1))) .emp)) b1_likes)
 (.seq (.ret (.dvals 5 13 14))
 .skip)))⟩
def N_likes : List Str := ["lines", "at", "size", "line", "share", "found", "rest", "many", "pause", "less", "more", "longest", "own", "key", "values"]
/-- 99 -/
def b1_rows_of : Sx :=
 (.seq (.ife (.bi1 .all (.comp [6, 7] (.cons (.nm 6) (.cons (.nm 7) .nil)) (.enu (.var 3)) .emp (.cmp .Eq (.bin .Mod (.bin .Sub (.ix (.var 5) (.cst (.int 3))) (.var 7)) (.call 30 (.con (.ix (.ix (.var 0) (.var 2)) (.cst (.int 1))) (.con (.ix (.ix (.var 0) (.var 6)) (.cst (.int 1))) .emp)))) (.cst (.int 0)))))
 (.seq (.ext 4 (.comp [8] (.nm 8) (.one (.call 99 (.con (.var 0) (.con (.var 1) (.con (.bin .Add (.var 2) (.cst (.int 1))) (.con (.tup (.str (.var 3) (.con (.ix (.var 5) (.cst (.int 3))) .emp))) .emp)))))) .emp (.tup (.con (.var 5) (.str (.var 8) .emp)))))
 .skip)
 .skip)
 .skip)
def d_rows_of : FnD := ⟨4, 9, false, false,
 (.seq (.ife (.cmp .Eq (.var 2) (.bi1 .len (.var 0)))
 (.seq (.ret (.lst (.con (.tup .emp) .emp)))
 .skip)
 .skip)
 (.seq (.set 4 (.lst .emp))
 (.seq (.for (.nm 5) (.one (.call 98 (.con (.var 0) (.con (.var 2) (.con (.var 1) .emp))))) b1_rows_of)
 (.seq (.ret (.var 4))
 .skip))))⟩
def N_rows_of : List Str := ["lines", "size", "at", "chosen", "found", "values", "other", "own", "row"]
/-- 100 -/
def d_most_within : FnD := ⟨2, 4, false, false,
 (.seq (.ret (.bi1 .max1 (.comp [3] (.nm 3) (.one (.call 99 (.con (.var 0) (.con (.var 1) (.con (.cst (.int 0)) (.con (.tup .emp) .emp)))))) .emp (.bi1 .sum (.comp [2] (.nm 2) (.one (.var 3)) .emp (.ix (.var 2) (.cst (.int 1))))))))
 .skip)⟩
def N_most_within : List Str := ["lines", "size", "values", "row"]
/-- 101 -/
def d_least_within : FnD := ⟨2, 4, false, false,
 (.seq (.ret (.bi1 .min1 (.comp [3] (.nm 3) (.one (.call 99 (.con (.var 0) (.con (.var 1) (.con (.cst (.int 0)) (.con (.tup .emp) .emp)))))) .emp (.bi1 .sum (.comp [2] (.nm 2) (.one (.var 3)) .emp (.ix (.var 2) (.cst (.int 0))))))))
 .skip)⟩
def N_least_within : List Str := ["lines", "size", "values", "row"]
/-- 102 -/
def d_longest_pause : FnD := ⟨1, 3, false, false,
 (.seq (.ret (.bi1 .max1 (.comp [2] (.nm 2) (.one (.call 99 (.con (.var 0) (.con (.cst (.int 1)) (.con (.cst (.int 0)) (.con (.tup .emp) .emp)))))) .emp (.bi1 .min1 (.comp [1] (.nm 1) (.one (.var 2)) .emp (.ix (.var 1) (.cst (.int 2))))))))
 .skip)⟩
def N_longest_pause : List Str := ["lines", "values", "row"]
/-- 103 -/
def b1_shortest_gap : Sx :=
 (.seq (.set 9 (.call 30 (.con (.var 4) (.con (.var 7) .emp))))
 (.seq (.app 1 (.ife (.cmp .Gt (.bin .Mod (.bin .Sub (.var 5) (.var 8)) (.var 9)) (.cst (.int 0))) (.bin .Mod (.bin .Sub (.var 5) (.var 8)) (.var 9)) (.var 9)))
 .skip))
def b2_shortest_gap : Sx :=
 (.seq (.for (.cons (.nm 6) (.cons (.nm 7) (.cons (.nm 8) .nil))) (.one (.var 0)) b1_shortest_gap)
 .skip)
def d_shortest_gap : FnD := ⟨1, 10, false, false,
 (.seq (.set 1 (.comp [2] (.nm 2) (.one (.var 0)) .emp (.ix (.var 2) (.cst (.int 1)))))
 (.seq (.for (.cons (.nm 3) (.cons (.nm 4) (.cons (.nm 5) .nil))) (.one (.var 0)) b2_shortest_gap)
 (.seq (.ret (.bi1 .min1 (.var 1)))
 .skip)))⟩
def N_shortest_gap : List Str := ["lines", "found", "line", "label", "every", "first", "other", "own", "begin", "common"]
end Mn

namespace Mn
open PySem
/-- what a comprehension, a for, a while give (kept whole) -/
def compE (C : CallF) (own : List Nat) (tg : Tg) (cond elt : Ex) (xs : List D) (ρ : Env) : Option (List D × Env) := compL own (bindT tg) (evQ C cond) (fun ρ => frzV (ev C elt ρ)) xs [] ρ
def forE (C : CallF) (tg : Tg) (b : Sx) (xs : List D) (ρ : Env) : Option Res := forL (bindT tg) (evS C b) xs ρ
def whlE (C : CallF) (t : Ex) (b : Sx) (n : Nat) (ρ : Env) : Option Res := whlL (fun ρ => toB (ev C t ρ)) (evS C b) n ρ
section
variable {C : CallF} {ρ : Env}
/-! ## the evaluator, as rules to rewrite by -/
@[simp] theorem at_nil {k : Nat} : Env.at ([] : Env) k = none := rfl
@[simp] theorem at_zero {s : Option Slot} {r : Env} : Env.at (s :: r) 0 = s := rfl
@[simp] theorem at_succ {s : Option Slot} {r : Env} {k : Nat} : Env.at (s :: r) (k + 1) = Env.at r k := by simp [Env.at]
@[simp] theorem put_zero {s : Option Slot} {t : Slot} {r : Env} : Env.put (s :: r) 0 t = some t :: r := rfl
@[simp] theorem put_succ {s : Option Slot} {t : Slot} {r : Env} {k : Nat} : Env.put (s :: r) (k + 1) t = s :: Env.put r k t := rfl
@[simp] theorem ev_var {k : Nat} : ev C (.var k) ρ = rdVar ρ k := by rw [ev]
@[simp] theorem ev_cst {x : D} : ev C (.cst x) ρ = some (.d x, ρ) := by rw [ev]
@[simp] theorem ev_glb {x : Str} {v : D} : ev C (.glb x v) ρ = some (.d v, ρ) := by rw [ev]
@[simp] theorem ev_bin {op : Operator} {a b : Ex} : ev C (.bin op a b) ρ = (look2 a b (ev C a) (ev C b) ρ).bind fun r => (binD op r.1.1 r.1.2).map fun v => (v, r.2) := by rw [ev]
@[simp] theorem ev_neg {a : Ex} : ev C (.neg a) ρ = (frzV (ev C a ρ)).bind fun r => match r.1 with
    | .int i => some (.d (.int (-i)), r.2)
    | _ => none := by rw [ev] <;> rfl
@[simp] theorem ev_cmp {op : CmpOp} {a b : Ex} : ev C (.cmp op a b) ρ = (look2 a b (ev C a) (ev C b) ρ).bind fun r => (cmpD op r.1.1 r.1.2).map fun v => (.d (.bool v), r.2) := by rw [ev]
@[simp] theorem ev_cmp2 {o1 o2 : CmpOp} {a b c : Ex} : ev C (.cmp2 o1 o2 a b c) ρ = (frzV (ev C a ρ)).bind fun x => (frzV (ev C b x.2)).bind fun y => (cmpD o1 x.1 y.1).bind fun v =>
      if v then (frzV (ev C c y.2)).bind fun z => (cmpD o2 y.1 z.1).map fun v => (.d (.bool v), z.2) else some (.d (.bool false), y.2) := by rw [ev]
@[simp] theorem ev_and {a b : Ex} : ev C (.and a b) ρ = (toB (ev C a ρ)).bind fun r => if r.1 then (toB (ev C b r.2)).map fun q => (.d (.bool q.1), q.2) else some (.d (.bool false), r.2) := by rw [ev]
@[simp] theorem ev_or {a b : Ex} : ev C (.or a b) ρ = (toB (ev C a ρ)).bind fun r => if r.1 then some (.d (.bool true), r.2) else (toB (ev C b r.2)).map fun q => (.d (.bool q.1), q.2) := by rw [ev]
@[simp] theorem ev_not {a : Ex} : ev C (.not a) ρ = (toB (ev C a ρ)).map fun r => (.d (.bool (!r.1)), r.2) := by rw [ev]
@[simp] theorem ev_ife {t a b : Ex} : ev C (.ife t a b) ρ = (toB (ev C t ρ)).bind fun r => if r.1 then ev C a r.2 else ev C b r.2 := by rw [ev]
@[simp] theorem ev_ix {a i : Ex} : ev C (.ix a i) ρ = (look2 a i (ev C a) (ev C i) ρ).bind fun r => (ixD r.1.1 r.1.2).map fun v => (.d v, r.2) := by rw [ev]
@[simp] theorem ev_slc {a lo hi : Ex} : ev C (.slc a lo hi) ρ = (match isVar a with
    | some k => (peek ρ k).bind fun _ => (evO C lo ρ).bind fun l => (evO C hi l.2).bind fun h => (peek h.2 k).bind fun x => (slD x l.1 h.1).map fun v => (v, h.2)
    | none => (frzV (ev C a ρ)).bind fun x => (evO C lo x.2).bind fun l => (evO C hi l.2).bind fun h => (slD x.1 l.1 h.1).map fun v => (v, h.2)) := by rw [ev] <;> rfl
@[simp] theorem ev_rev {a : Ex} : ev C (.rev a) ρ = (look a (ev C a) ρ).bind fun r => (revD r.1).map fun v => (v, r.2) := by rw [ev]
@[simp] theorem ev_tup {a : Ex} : ev C (.tup a) ρ = (evD C a ρ).bind fun r => if r.1.length ≤ 16777216 then some (.d (.tuple r.1), r.2) else none := by rw [ev]
@[simp] theorem ev_lst {a : Ex} : ev C (.lst a) ρ = (evD C a ρ).bind fun r => if r.1.length ≤ 16777216 then some (.own r.1, r.2) else none := by rw [ev]
@[simp] theorem ev_call {f : Nat} {args : Ex} : ev C (.call f args) ρ = (evA C args ρ).bind fun r => (argD r.2 r.1).bind fun ds => match C f none ds with
    | some (v, none) => some (v, if v.scalar then r.2 else frzAll r.2 (argK r.1))
    | _ => none := by rw [ev] <;> rfl
@[simp] theorem ev_callo {f k : Nat} {args : Ex} : ev C (.callo f k args) ρ = (mutAt ρ k).bind fun _ => (evA C args ρ).bind fun r => (argD r.2 r.1).bind fun ds => (mutAt (frzAll r.2 (argK r.1)) k).bind fun xs => match C f (some xs) ds with
    | some (v, some ys) => some (v, mutPut (frzAll r.2 (argK r.1)) k ys)
    | _ => none := by rw [ev] <;> rfl
@[simp] theorem ev_bi1 {b : BI} {a : Ex} : ev C (.bi1 b a) ρ = (look a (ev C a) ρ).bind fun r => (bi1D b r.1).map fun v => (v, r.2) := by rw [ev]
@[simp] theorem ev_bi2 {b : BI} {a c : Ex} : ev C (.bi2 b a c) ρ = (frzV (ev C a ρ)).bind fun x => (frzV (ev C c x.2)).bind fun y => (bi2D b x.1 y.1).map fun v => (v, y.2) := by rw [ev]
@[simp] theorem ev_isT {a : Ex} {ts : List TyN} {q : Bool} : ev C (.isT a ts q) ρ = (frzV (ev C a ρ)).map fun r => (.d (.bool (isTD r.1 ts)), r.2) := by rw [ev]
@[simp] theorem ev_lscr {k : Nat} : ev C (.lscr k) ρ = (match ρ.at k with
    | some (.scr ns) => some (.own (ns.map .int), ρ)
    | _ => none) := by rw [ev] <;> rfl
@[simp] theorem ev_lrng {a : Ex} : ev C (.lrng a) ρ = (evD C a ρ).bind fun r => (rngD r.1).map fun xs => (.own xs, r.2) := by rw [ev]
@[simp] theorem ev_join {s a : Ex} : ev C (.join s a) ρ = (frzV (ev C s ρ)).bind fun z => (frzV (ev C a z.2)).bind fun r => (match z.1, r.1 with
    | .str y, .list xs => (dStrs xs).bind fun ws => (joinD y ws).map fun t => (.d (.str t), r.2)
    | _, _ => none) := by rw [ev] <;> rfl
@[simp] theorem ev_index {k : Nat} {x : Ex} : ev C (.index k x) ρ = (listAt ρ k).bind fun _ => (frzV (ev C x ρ)).bind fun r => (listAt r.2 k).bind fun xs => (indexD (.list xs) r.1).map fun j => (.d (.int (j : Nat)), r.2) := by rw [ev]
@[simp] theorem ev_popAt {k : Nat} {i : Ex} : ev C (.popAt k i) ρ = (mutAt ρ k).bind fun _ => (frzV (ev C i ρ)).bind fun r => (mutAt r.2 k).bind fun xs => (match r.1 with
    | .int j => if 0 ≤ j ∧ j < 1000000000 then (xs[j.toNat]?).map fun x => (.d x, mutPut r.2 k (xs.eraseIdx j.toNat)) else none
    | _ => none) := by rw [ev] <;> rfl
@[simp] theorem ev_comp {own : List Nat} {tg : Tg} {it cond elt : Ex} : ev C (.comp own tg it cond elt) ρ = (evI C it ρ).bind fun r => if r.1.length < 16777216 then
      (compE C own tg cond elt r.1 (wipeE r.2 own)).map fun q => (.own q.1, restE r.2 q.2 own)
    else none := by rw [ev] <;> rfl
@[simp] theorem evQ_emp : evQ C .emp ρ = some (true, ρ) := by rw [evQ]
@[simp] theorem evQ_one {e : Ex} : evQ C (.one e) ρ = toB (ev C e ρ) := by rw [evQ]
@[simp] theorem evO_emp : evO C .emp ρ = some (none, ρ) := by rw [evO]
@[simp] theorem evO_one {e : Ex} : evO C (.one e) ρ = (frzV (ev C e ρ)).bind fun r => match r.1 with
    | .int i => some (some i, r.2)
    | _ => none := by rw [evO] <;> rfl
@[simp] theorem evD_emp : evD C .emp ρ = some ([], ρ) := by rw [evD]
@[simp] theorem evD_con {e r : Ex} : evD C (.con e r) ρ = (frzV (ev C e ρ)).bind fun x => (evD C r x.2).map fun y => (x.1 :: y.1, y.2) := by rw [evD]
@[simp] theorem evD_str {e r : Ex} : evD C (.str e r) ρ = (look e (ev C e) ρ).bind fun x => (match x.1 with
    | .list xs => (evD C r x.2).map fun y => (xs ++ y.1, y.2)
    | .tuple xs => (evD C r x.2).map fun y => (xs ++ y.1, y.2)
    | _ => none) := by rw [evD] <;> rfl
@[simp] theorem evA_emp : evA C .emp ρ = some ([], ρ) := by rw [evA]
@[simp] theorem evA_con {e r : Ex} : evA C (.con e r) ρ = (match isVar e with
    | some k => (peekA ρ k).bind fun _ => (evA C r ρ).map fun y => (.v k :: y.1, y.2)
    | none => (frzV (ev C e ρ)).bind fun x => (evA C r x.2).map fun y => (.d x.1 :: y.1, y.2)) := by rw [evA] <;> rfl
@[simp] theorem evI_one {e : Ex} : evI C (.one e) ρ = (frzV (ev C e ρ)).bind fun r => (iterD r.1).map fun xs => (xs, r.2) := by rw [evI]
@[simp] theorem evI_rng {a : Ex} : evI C (.rng a) ρ = (evD C a ρ).bind fun r => (rngD r.1).map fun xs => (xs, r.2) := by rw [evI]
@[simp] theorem evI_enu {a : Ex} : evI C (.enu a) ρ = (frzV (ev C a ρ)).bind fun r => (enuOk r.1).map fun xs => (xs, r.2) := by rw [evI]
@[simp] theorem evS_skip : evS C .skip ρ = some (.nx ρ) := by rw [evS]
@[simp] theorem evS_seq {a b : Sx} : evS C (.seq a b) ρ = (match evS C a ρ with
    | some (.nx ρ1) => evS C b ρ1
    | some (.rt v ρ1) => some (.rt v ρ1)
    | none => none) := by rw [evS] <;> rfl
@[simp] theorem evS_set {i : Nat} {e : Ex} : evS C (.set i e) ρ = (ev C e ρ).bind fun r => (setV i r.1 r.2).map .nx := by rw [evS]
@[simp] theorem evS_tset {tg : Tg} {e : Ex} : evS C (.tset tg e) ρ = (frzV (ev C e ρ)).bind fun r => (bindT tg r.1 r.2).map .nx := by rw [evS]
@[simp] theorem evS_par2 {i j : Nat} {a b : Ex} : evS C (.par2 i j a b) ρ = (ev C a ρ).bind fun x => (ev C b x.2).bind fun y => (setV i x.1 y.2).bind fun ρ1 => (setV j y.1 ρ1).map .nx := by rw [evS]
@[simp] theorem evS_sti {k : Nat} {i e : Ex} : evS C (.sti k i e) ρ = (frzV (ev C e ρ)).bind fun x => (mutAt x.2 k).bind fun _ => (frzV (ev C i x.2)).bind fun r => (mutAt r.2 k).bind fun xs => (match r.1 with
    | .int j => if 0 ≤ j ∧ j.toNat < xs.length then some (.nx (mutPut r.2 k (xs.set j.toNat x.1))) else none
    | _ => none) := by rw [evS] <;> rfl
@[simp] theorem evS_app {k : Nat} {e : Ex} : evS C (.app k e) ρ = (mutAt ρ k).bind fun _ => (frzV (ev C e ρ)).bind fun x => (mutAt x.2 k).bind fun xs => if xs.length < 16777216 then some (.nx (mutPut x.2 k (xs ++ [x.1]))) else none := by rw [evS]
@[simp] theorem evS_ext {k : Nat} {e : Ex} : evS C (.ext k e) ρ = (mutAt ρ k).bind fun _ => (frzV (ev C e ρ)).bind fun x => (mutAt x.2 k).bind fun xs => (match x.1 with
    | .list ys => if xs.length + ys.length ≤ 16777216 then some (.nx (mutPut x.2 k (xs ++ ys))) else none
    | _ => none) := by rw [evS] <;> rfl
@[simp] theorem evS_ins {k : Nat} {i e : Ex} : evS C (.ins k i e) ρ = (mutAt ρ k).bind fun _ => (frzV (ev C i ρ)).bind fun r => (frzV (ev C e r.2)).bind fun x => (mutAt x.2 k).bind fun xs => (match r.1 with
    | .int j => if 0 ≤ j ∧ j < 1000000000 ∧ xs.length < 16777216 then some (.nx (mutPut x.2 k (xs.take j.toNat ++ [x.1] ++ xs.drop j.toNat))) else none
    | _ => none) := by rw [evS] <;> rfl
@[simp] theorem evS_drp {e : Ex} : evS C (.drp e) ρ = (ev C e ρ).map fun r => .nx r.2 := by rw [evS]
@[simp] theorem evS_ife {t : Ex} {a b : Sx} : evS C (.ife t a b) ρ = (toB (ev C t ρ)).bind fun r => if r.1 then evS C a r.2 else evS C b r.2 := by rw [evS]
@[simp] theorem evS_for {tg : Tg} {it : Ex} {b : Sx} : evS C (.for tg it b) ρ = (evI C it ρ).bind fun r => forE C tg b r.1 r.2 := by rw [evS] <;> rfl
@[simp] theorem evS_whl {t : Ex} {b : Sx} : evS C (.whl t b) ρ = whlE C t b 100000 ρ := by rw [evS] <;> rfl
@[simp] theorem evS_ret {e : Ex} : evS C (.ret e) ρ = (retV C e ρ).map fun r => .rt r.1 r.2 := by rw [evS]
@[simp] theorem bindT_nm {i : Nat} {x : D} : bindT (.nm i) x ρ = if i < ρ.length then some (ρ.put i (.d x)) else none := by rw [bindT]
@[simp] theorem frzV_some {v : Val} {ρ : Env} : frzV (some (v, ρ)) = v.frz.map fun x => (x, ρ) := rfl
@[simp] theorem frzV_none : frzV none = none := rfl
@[simp] theorem toB_some {b : Bool} {ρ : Env} : toB (some (.d (.bool b), ρ)) = some (b, ρ) := rfl
@[simp] theorem toB_none : toB none = none := rfl
@[simp] theorem frz_d {x : D} : Val.frz (.d x) = some x := rfl
@[simp] theorem frz_own {xs : List D} : Val.frz (.own xs) = some (.list xs) := rfl
@[simp] theorem slot_d {x : D} : Val.slot (.d x) = .d x := rfl
@[simp] theorem slot_own {xs : List D} : Val.slot (.own xs) = .own xs := rfl
@[simp] theorem slot_dct {xs : List (Int × D)} : Val.slot (.dct xs) = .dct xs := rfl
@[simp] theorem setV_def {i : Nat} {v : Val} {ρ : Env} : setV i v ρ = if i < ρ.length then some (ρ.put i v.slot) else none := rfl
@[simp] theorem wipe_nil {ρ : Env} : wipeE ρ [] = ρ := rfl
@[simp] theorem wipe_cons {ρ : Env} {v : Nat} {vs : List Nat} : wipeE ρ (v :: vs) = (wipeE ρ vs).set v none := rfl
@[simp] theorem rest_nil {ρ₀ ρ : Env} : restE ρ₀ ρ [] = ρ := rfl
@[simp] theorem rest_cons {ρ₀ ρ : Env} {v : Nat} {vs : List Nat} : restE ρ₀ ρ (v :: vs) = (restE ρ₀ ρ vs).set v (ρ₀.at v) := rfl
end
theorem callN_ev {T : Nat → Option FnD} {n f : Nat} {io : Option (List D)} {args : List D} : callN T (n + 1) f io args = (T f).bind fun fd => evFn (callN T n) fd io args := rfl
end Mn

namespace Mn
open PySem
def tapeD (ns : List Int) (p c : Int) : List D := [.list (ns.map .int), .int p, .int c]
def TapeOk (t : List D) : Prop := ∃ ns p c, t = tapeD ns p c ∧ ns.length ≤ 63 ∧ 0 ≤ p ∧ 0 ≤ c
/-! rules for operations -/
@[simp] theorem bin_add {i j : Int} : binD .Add (.int i) (.int j) = some (.d (.int (i + j))) := rfl
@[simp] theorem bin_sub {i j : Int} : binD .Sub (.int i) (.int j) = some (.d (.int (i - j))) := rfl
@[simp] theorem bin_mul {i j : Int} : binD .Mult (.int i) (.int j) = if inW i || inW j then some (.d (.int (i * j))) else none := rfl
@[simp] theorem bin_mod {i j : Int} : binD .Mod (.int i) (.int j) = if 0 < j then some (.d (.int (i % j))) else none := rfl
@[simp] theorem bin_div {i j : Int} : binD .FloorDiv (.int i) (.int j) = if 0 < j ∧ j < 18446744073709551616 then some (.d (.int (i / j))) else none := rfl
@[simp] theorem bin_pow {i j : Int} : binD .Pow (.int i) (.int j) = if 0 ≤ j ∧ j ≤ 1000000 ∧ i.natAbs < 18446744073709551616 then some (.d (.int (i ^ j.toNat))) else none := rfl
@[simp] theorem cmp_lt {i j : Int} : cmpD .Lt (.int i) (.int j) = some (decide (i < j)) := rfl
@[simp] theorem cmp_le {i j : Int} : cmpD .LtE (.int i) (.int j) = some (decide (i ≤ j)) := rfl
@[simp] theorem cmp_gt {i j : Int} : cmpD .Gt (.int i) (.int j) = some (decide (j < i)) := rfl
@[simp] theorem cmp_ge {i j : Int} : cmpD .GtE (.int i) (.int j) = some (decide (j ≤ i)) := rfl
@[simp] theorem ix_l {xs : List D} {k : Int} : ixD (.list xs) (.int k) = L2.atI xs k := rfl
@[simp] theorem ix_t {xs : List D} {k : Int} : ixD (.tuple xs) (.int k) = L2.atI xs k := rfl
@[simp] theorem len_l {xs : List D} : bi1D .len (.list xs) = some (.d (.int xs.length)) := rfl
@[simp] theorem len_t {xs : List D} : bi1D .len (.tuple xs) = some (.d (.int xs.length)) := rfl
@[simp] theorem len_s {z : Str} : bi1D .len (.str z) = some (.d (.int z.length)) := rfl
@[simp] theorem int_i {i : Int} : bi1D .int (.int i) = some (.d (.int i)) := rfl
end Mn

namespace Mn
open PySem
@[simp] theorem atI_of {xs : List D} {k : Int} (h0 : 0 ≤ k) (h1 : k < xs.length) : L2.atI xs k = xs[k.toNat]? := by
  unfold L2.atI L2.ixN
  rw [if_pos h0, if_pos h1]; rfl
@[simp] theorem mutAt_own {xs : List D} {ρ : Env} : mutAt (some (.own xs) :: ρ) 0 = some xs := rfl
@[simp] theorem mutAt_io {xs : List D} {ρ : Env} : mutAt (some (.io xs) :: ρ) 0 = some xs := rfl
@[simp] theorem mutAt_succ {s : Option Slot} {ρ : Env} {k : Nat} : mutAt (s :: ρ) (k + 1) = mutAt ρ k := by simp [mutAt]
@[simp] theorem mutPut_own {xs ys : List D} {ρ : Env} : mutPut (some (.own xs) :: ρ) 0 ys = some (.own ys) :: ρ := rfl
@[simp] theorem mutPut_io {xs ys : List D} {ρ : Env} : mutPut (some (.io xs) :: ρ) 0 ys = some (.io ys) :: ρ := rfl
@[simp] theorem mutPut_succ {s : Option Slot} {ρ : Env} {k : Nat} {ys : List D} : mutPut (s :: ρ) (k + 1) ys = s :: mutPut ρ k ys := by
  unfold mutPut
  rw [at_succ]
  split <;> rfl
variable {T : Nat → Option FnD}
@[simp] theorem prm_0 {x : Int} : 0 ≤ x % 2305843009213693951 := Int.emod_nonneg _ (by decide)
@[simp] theorem prm_1 {x : Int} : x % 2305843009213693951 < 18446744073709551616 := by omega
@[simp] theorem prm_2 {x : Int} : -18446744073709551616 < x % 2305843009213693951 := by omega
theorem draw_spec (h5 : T 5 = some d_law_draw) {n : Nat} {t : List D} (ht : TapeOk t) {m : Int} (hm : 0 < m) (hm2 : m < 18446744073709551616) :
    ∃ r t', callN T (n + 1) 5 (some t) [.int m] = some (.d (.int r), some t') ∧ 0 ≤ r ∧ r < m ∧ TapeOk t' := by
  obtain ⟨ns, p, c, rfl, hl, hp, hc⟩ := ht
  rw [callN_ev, h5]
  have fin : ∀ p' c' : Int, 0 ≤ p' → 0 ≤ c' → 0 ≤ c' % m ∧ c' % m < m ∧ TapeOk (tapeD ns p' (c' / m)) := fun p' c' h1 h2 =>
    ⟨Int.emod_nonneg _ (by omega), Int.emod_lt_of_pos _ hm, ns, p', c' / m, rfl, hl, h1, Int.ediv_nonneg h2 (by omega)⟩
  by_cases h1 : c < m
  · by_cases h2 : 0 < ns.length
    · have hk0 : 0 ≤ p % (ns.length : Int) := Int.emod_nonneg _ (by omega)
      have hk1 : p % (ns.length : Int) < ns.length := Int.emod_lt_of_pos _ (by omega)
      have hk2 : (p % (ns.length : Int)).toNat < ns.length := by omega
      have hg : ns[(p % (ns.length : Int)).toNat]? = some ns[(p % (ns.length : Int)).toNat] := List.getElem?_eq_getElem hk2
      by_cases h3 : (ns.length : Int) ≤ p
      · simp [evFn, d_law_draw, runFn, startE, tapeD, look2, look, isVar, peek, rdVar, h1, h2, hk0, hk1, hk2, hg, h3, outE, ioAt, retV, inW, hm, hm2]
        exact ⟨_, _, ⟨rfl, rfl⟩, fin _ _ (by omega) prm_0⟩
      · by_cases h4 : ns[(p % (ns.length : Int)).toNat] < 1000000000000000000
        · simp [evFn, d_law_draw, runFn, startE, tapeD, look2, look, isVar, peek, rdVar, h1, h2, hk0, hk1, hk2, hg, h3, h4, outE, ioAt, retV, inW, hm, hm2]
          exact ⟨_, _, ⟨rfl, rfl⟩, fin _ _ (by omega) prm_0⟩
        · simp [evFn, d_law_draw, runFn, startE, tapeD, look2, look, isVar, peek, rdVar, h1, h2, hk0, hk1, hk2, hg, h3, h4, outE, ioAt, retV, inW, hm, hm2]
          exact ⟨_, _, ⟨rfl, rfl⟩, fin _ _ (by omega) (by omega)⟩
    · have h3 : (ns.length : Int) ≤ p := by omega
      simp [evFn, d_law_draw, runFn, startE, tapeD, look2, look, isVar, peek, rdVar, h1, h2, h3, outE, ioAt, retV, inW, hm, hm2]
      exact ⟨_, _, ⟨rfl, rfl⟩, fin _ _ (by omega) prm_0⟩
  · simp [evFn, d_law_draw, runFn, startE, tapeD, look2, look, isVar, peek, rdVar, h1, outE, ioAt, retV, hm, hm2]
    exact ⟨_, _, ⟨rfl, rfl⟩, fin p c hp hc⟩
end Mn

namespace Mn
open PySem
/-! ## arbitrary values -/
inductive Vd (s : Nat) : Nat → D → Prop
  | non {n : Nat} : Vd s n .none
  | bl {n : Nat} (b : Bool) : Vd s n (.bool b)
  | int {n : Nat} (i : Int) : Vd s n (.int i)
  | str {n : Nat} (x : Str) (h : x.length ≤ s) (o : PyData.strOk x = true) : Vd s n (.str x)
  | lst {n : Nat} (xs : List D) (h : xs.length ≤ s) (k : ∀ x ∈ xs, Vd s n x) : Vd s (n + 1) (.list xs)
  | tup {n : Nat} (xs : List D) (h : xs.length ≤ s) (k : ∀ x ∈ xs, Vd s n x) : Vd s (n + 1) (.tuple xs)
theorem Vd.mono {s t : Nat} (hs : s ≤ t) : ∀ {n : Nat} {d : D}, Vd s n d → ∀ {m : Nat}, n ≤ m → Vd t m d := by
  intro n d h
  induction h with
  | non => intro m _; exact .non
  | bl b => intro m _; exact .bl b
  | int i => intro m _; exact .int i
  | str x h o => intro m _; exact .str x (by omega) o
  | lst xs h k ih =>
    intro m hm
    obtain ⟨m', rfl⟩ : ∃ m', m = m' + 1 := ⟨m - 1, by omega⟩
    exact .lst xs (by omega) fun x hx => ih x hx (by omega)
  | tup xs h k ih =>
    intro m hm
    obtain ⟨m', rfl⟩ : ∃ m', m = m' + 1 := ⟨m - 1, by omega⟩
    exact .tup xs (by omega) fun x hx => ih x hx (by omega)
theorem depthAll_le {n : Nat} : ∀ {xs : List D}, (∀ x ∈ xs, PyData.depth x ≤ n) → PyData.depthAll xs ≤ n
  | [], _ => by simp [PyData.depthAll]
  | x :: xs, h => by
    rw [PyData.depthAll]
    have h1 := h x List.mem_cons_self
    have h2 := depthAll_le (n := n) (xs := xs) fun y hy => h y (List.mem_cons_of_mem _ hy)
    omega
theorem Vd.depth {s n : Nat} {d : D} (h : Vd s n d) : PyData.depth d ≤ n := by
  induction h with
  | non => simp [PyData.depth]
  | bl b => simp [PyData.depth]
  | int i => simp [PyData.depth]
  | str x h o => simp [PyData.depth]
  | lst xs h k ih =>
    rw [PyData.depth]
    have := depthAll_le ih
    omega
  | tup xs h k ih =>
    rw [PyData.depth]
    have := depthAll_le ih
    omega
/-! ## the program: is_integer, is_line -/
variable {T : Nat → Option FnD}
def isInt (v : D) (lo hi : Int) : Bool := match v with
  | .int i => decide (lo ≤ i) && decide (i ≤ hi)
  | _ => false
@[simp] theorem isTD_one {x : D} {t : TyN} : isTD x [t] = (match tyOf x with | none => false | some u => decide (t = u) || (decide (t = .int) && decide (u = .bool))) := by
  unfold isTD
  cases tyOf x <;> simp
theorem is_integer_spec (h0 : T 0 = some d_is_integer) {n : Nat} {v : D} {lo hi : Int} : callN T (n + 1) 0 none [v, .int lo, .int hi] = some (.d (.bool (isInt v lo hi)), none) := by
  rw [callN_ev, h0]
  cases v <;> simp [evFn, d_is_integer, runFn, startE, look2, look, isVar, peek, rdVar, tyOf, outE, retV, isInt]
  rename_i i
  by_cases h : lo ≤ i <;> simp [h]
end Mn

namespace Mn
open PySem
variable {T : Nat → Option FnD}
def isLab (z : Str) : Bool := decide (z = "a") || decide (z = "b") || decide (z = "c") || decide (z = "d")
def isLine (x : D) : Bool := match x with
  | .tuple [.str z, e, f] => isLab z && isInt e 1 60 && (match e with | .int i => isInt f 0 (i - 1) | _ => false)
  | _ => false
@[simp] theorem str1 {s t : Nat} : ((⟨#[s]⟩ : Str) = ⟨#[t]⟩) ↔ s = t := by simp
theorem lit_a : ("a" : Str) = ⟨#[97]⟩ := by decide +kernel
theorem lit_b : ("b" : Str) = ⟨#[98]⟩ := by decide +kernel
theorem lit_c : ("c" : Str) = ⟨#[99]⟩ := by decide +kernel
theorem lit_d : ("d" : Str) = ⟨#[100]⟩ := by decide +kernel
theorem lit_abcd : ("abcd" : Str).cps.toList = [97, 98, 99, 100] := by decide +kernel
theorem len1 {z : Str} (h : z.length = 1) : ∃ s, z = ⟨#[s]⟩ := by
  obtain ⟨⟨l⟩⟩ := z
  have : l.length = 1 := h
  match l, this with
  | [s], _ => exact ⟨s, rfl⟩
theorem lab_len {z : Str} (h : isLab z = true) : z.length = 1 := by
  unfold isLab at h
  simp only [Bool.or_eq_true, decide_eq_true_eq] at h
  rcases h with ((rfl | rfl) | rfl) | rfl <;> decide +kernel
theorem lab_in {s : Nat} : inD (.str ⟨#[s]⟩) (.str "abcd") = some (isLab ⟨#[s]⟩) := by
  unfold inD
  simp only [lit_abcd, isLab, lit_a, lit_b, lit_c, lit_d, str1]
  simp
  rw [Bool.eq_iff_iff]
  simp [or_assoc]
theorem eqD_of {a b : D} (h1 : a.depth ≤ 64) (h2 : b.depth ≤ 64) : eqD a b = some (PyData.eqv a b) := by
  unfold eqD; rw [if_pos ⟨h1, h2⟩]
@[simp] theorem cmp_eq {a b : D} : cmpD .Eq a b = eqD a b := rfl
@[simp] theorem cmp_ne {a b : D} : cmpD .NotEq a b = (eqD a b).map (!·) := rfl
@[simp] theorem cmp_in {a b : D} : cmpD .In a b = inD a b := rfl
@[simp] theorem cmp_nin {a b : D} : cmpD .NotIn a b = (inD a b).map (!·) := rfl
@[simp] theorem eqD_int {i j : Int} : eqD (.int i) (.int j) = some (decide (i = j)) := by
  rw [eqD_of (by simp [PyData.depth]) (by simp [PyData.depth])]
  simp [PyData.eqv, Bool.beq_eq_decide_eq]
@[simp] theorem eqD_bool {i j : Bool} : eqD (.bool i) (.bool j) = some (i == j) := by
  rw [eqD_of (by simp [PyData.depth]) (by simp [PyData.depth])]
  simp [PyData.eqv]
@[simp] theorem eqD_str {x y : Str} : eqD (.str x) (.str y) = some (decide (x = y)) := by
  rw [eqD_of (by simp [PyData.depth]) (by simp [PyData.depth])]
  simp [PyData.eqv]
  rfl
theorem is_line_spec (h0 : T 0 = some d_is_integer) (h1 : T 1 = some d_is_line) {n : Nat} {v : D} : callN T (n + 2) 1 none [v] = some (.d (.bool (isLine v)), none) := by
  have hi : ∀ (v : D) (lo hi : Int), callN T (n + 1) 0 none [v, .int lo, .int hi] = some (.d (.bool (isInt v lo hi)), none) := fun v lo hi => is_integer_spec h0
  rw [callN_ev, h1]
  cases v with
  | tuple xs =>
    by_cases hl : xs.length = 3
    · match xs, hl with
      | [a, b, c], _ =>
        cases a with
        | str z =>
          by_cases hz : z.length = 1
          · obtain ⟨s, rfl⟩ := len1 hz
            cases hb : isLab ⟨#[s]⟩ with
            | false => simp [evFn, d_is_line, runFn, startE, look2, look, isVar, peek, rdVar, tyOf, outE, retV, isLine, hi, hz, lab_in, hb]
            | true =>
              cases hc : isInt b 1 60 with
              | false => simp [evFn, d_is_line, runFn, startE, look2, look, isVar, peek, rdVar, tyOf, outE, retV, isLine, hi, hz, lab_in, hb, hc, evA_con, argD, peekA, argK]
              | true =>
                cases b with
                | int e => simp [evFn, d_is_line, runFn, startE, look2, look, isVar, peek, rdVar, tyOf, outE, retV, isLine, hi, hz, lab_in, hb, hc, argD, peekA, argK, Val.scalar]
                | _ => simp [isInt] at hc
          · have hb : isLab z = false := by
              cases h : isLab z with
              | false => rfl
              | true => exact absurd (lab_len h) hz
            have hz1 : ¬ ((z.length : Int) = 1) := by omega
            simp [evFn, d_is_line, runFn, startE, look2, look, isVar, peek, rdVar, tyOf, outE, retV, isLine, hi, hz, hb, hz1]
        | _ => simp [evFn, d_is_line, runFn, startE, look2, look, isVar, peek, rdVar, tyOf, outE, retV, isLine]
    · have : isLine (.tuple xs) = false := by
        unfold isLine
        split
        · rename_i heq; cases heq; simp at hl
        · rfl
      have h3 : ¬ (xs.length : Int) = 3 := by omega
      simp [evFn, d_is_line, runFn, startE, look2, look, isVar, peek, rdVar, tyOf, outE, retV, this, h3]
  | _ => simp [evFn, d_is_line, runFn, startE, look2, look, isVar, peek, rdVar, tyOf, outE, retV, isLine]
end Mn

namespace Mn
open PySem
variable {T : Nat → Option FnD}
def labOf (x : D) : Bool := match x with
  | .str z => isLab z
  | _ => false
theorem inD_list {x : D} {ds : List D} : inD x (.list ds) = if x.depth ≤ 64 ∧ (PyData.list ds).depth ≤ 64 then some (ds.any fun z => PyData.eqv z x) else none := rfl
theorem lab_list {x : D} (h : x.depth ≤ 64) : inD x (.list [.str "a", .str "b", .str "c", .str "d"]) = some (labOf x) := by
  rw [inD_list, if_pos ⟨h, by simp [PyData.depth, PyData.depthAll]⟩]
  cases x <;> simp [PyData.eqv, labOf, isLab, Bool.beq_eq_decide_eq, eq_comm, Bool.or_assoc]
theorem whole_spec (h6 : T 6 = some d_law_whole) {n : Nat} {v : D} : callN T (n + 1) 6 none [v] = some (.d (.bool (match v with | .int _ => true | _ => false)), none) := by
  rw [callN_ev, h6]
  cases v <;> simp [evFn, d_law_whole, runFn, startE, look2, look, isVar, peek, rdVar, tyOf, outE, retV]
theorem within_spec (h6 : T 6 = some d_law_whole) (h7 : T 7 = some d_law_within) {n : Nat} {v : D} {lo hi : Int} : callN T (n + 2) 7 none [v, .int lo, .int hi] = some (.d (.bool (isInt v lo hi)), none) := by
  have hw : ∀ v : D, callN T (n + 1) 6 none [v] = some (.d (.bool (match v with | .int _ => true | _ => false)), none) := fun v => whole_spec h6
  rw [callN_ev, h7]
  cases v <;> simp [evFn, d_law_within, runFn, startE, look2, look, isVar, peek, peekA, rdVar, tyOf, outE, retV, isInt, argD, argK, hw, Val.scalar]
  rename_i i
  by_cases h : lo ≤ i <;> simp [h]
theorem isline_tup {xs : List D} (h : xs.length ≠ 3) : isLine (.tuple xs) = false := by
  unfold isLine
  split
  · rename_i heq; cases heq; simp at h
  · rfl
theorem law_is_line_spec (h6 : T 6 = some d_law_whole) (h7 : T 7 = some d_law_within) (h17 : T 17 = some d_law_is_line) {n : Nat} {v : D} (hd : v.depth ≤ 60) : callN T (n + 3) 17 none [v] = some (.d (.bool (isLine v)), none) := by
  have hi : ∀ (v : D) (lo hi : Int), callN T (n + 2) 7 none [v, .int lo, .int hi] = some (.d (.bool (isInt v lo hi)), none) := fun v lo hi => within_spec h6 h7
  rw [callN_ev, h17]
  cases v with
  | tuple xs =>
    by_cases hl : xs.length = 3
    · match xs, hl with
      | [a, b, c], _ =>
        have ha : a.depth ≤ 64 := by
          simp [PyData.depth, PyData.depthAll] at hd
          omega
        have hlab := lab_list ha
        cases hb : labOf a with
        | false =>
          have : isLine (.tuple [a, b, c]) = false := by
            cases a with
            | str z =>
              have h9 : isLab z = false := hb
              simp [isLine, h9]
            | _ => simp [isLine]
          simp [evFn, d_law_is_line, runFn, startE, look2, look, isVar, peek, rdVar, tyOf, outE, retV, this, hlab, hb]
        | true =>
          cases a with
          | str z =>
            have hz : isLab z = true := hb
            cases hc : isInt b 1 60 with
            | false => simp [evFn, d_law_is_line, runFn, startE, look2, look, isVar, peek, rdVar, tyOf, outE, retV, isLine, hlab, hb, hi, hc, hz, argD, argK, Val.scalar]
            | true =>
              cases b with
              | int e => simp [evFn, d_law_is_line, runFn, startE, look2, look, isVar, peek, rdVar, tyOf, outE, retV, isLine, hlab, hb, hi, hc, hz, argD, argK, Val.scalar]
              | _ => simp [isInt] at hc
          | _ => cases hb
    · have h3 : ¬ (xs.length : Int) = 3 := by omega
      simp [evFn, d_law_is_line, runFn, startE, look2, look, isVar, peek, rdVar, tyOf, outE, retV, isline_tup hl, h3]
  | _ => simp [evFn, d_law_is_line, runFn, startE, look2, look, isVar, peek, rdVar, tyOf, outE, retV, isLine]
/-! like -/
theorem like_bool (h8 : T 8 = some d_law_like) {n : Nat} {a b : Bool} : callN T (n + 1) 8 none [.bool a, .bool b] = some (.d (.bool (a == b)), none) := by
  rw [callN_ev, h8]
  simp [evFn, d_law_like, runFn, startE, look2, look, isVar, peek, rdVar, tyOf, outE, retV, isTD]
theorem like_str (h8 : T 8 = some d_law_like) {n : Nat} {a b : Str} : callN T (n + 1) 8 none [.str a, .str b] = some (.d (.bool (decide (a = b))), none) := by
  rw [callN_ev, h8]
  simp [evFn, d_law_like, runFn, startE, look2, look, isVar, peek, rdVar, tyOf, outE, retV, isTD]
/-! comprehensions -/
/-- a comprehension whose parts change nothing -/
theorem comp_pureL {own : List Nat} {bd : D → Env → Option Env} {cd : Env → Option (Bool × Env)} {el : Env → Option (D × Env)} {ρ : Env} {c : D → Bool} {e : D → D} :
    ∀ {xs acc : List D}, (∀ x ∈ xs, ∃ ρ1, bd x ρ = some ρ1 ∧ cd ρ1 = some (c x, ρ1) ∧ (c x = true → el ρ1 = some (e x, ρ1)) ∧ wipeE ρ1 own = ρ) → compL own bd cd el xs acc ρ = some (acc ++ (xs.filter c).map e, ρ)
  | [], acc, _ => by simp [compL]
  | x :: xs, acc, h => by
    obtain ⟨ρ1, h1, h2, h3, h4⟩ := h x List.mem_cons_self
    have ih := fun acc => comp_pureL (acc := acc) (c := c) (e := e) fun y hy => h y (List.mem_cons_of_mem _ hy)
    rw [compL, h1, Option.bind_some, h2, Option.bind_some]
    cases hc : c x with
    | true =>
      simp only [if_true]
      rw [h3 hc, Option.bind_some, h4, ih]
      simp [hc]
    | false =>
      simp only [Bool.false_eq_true, if_false]
      rw [h4, ih]
      simp [hc]
theorem comp_pure {C : CallF} {own : List Nat} {tg : Tg} {cond elt : Ex} {ρ : Env} (c : D → Bool) (e : D → D) {xs : List D}
    (h : ∀ x ∈ xs, ∃ ρ1, bindT tg x ρ = some ρ1 ∧ evQ C cond ρ1 = some (c x, ρ1) ∧ (c x = true → frzV (ev C elt ρ1) = some (e x, ρ1)) ∧ wipeE ρ1 own = ρ) : compE C own tg cond elt xs ρ = some ((xs.filter c).map e, ρ) := by
  have := comp_pureL (own := own) (bd := bindT tg) (cd := evQ C cond) (el := fun ρ => frzV (ev C elt ρ)) (acc := []) (c := c) (e := e) h
  rw [List.nil_append] at this
  exact this
/-- .. where each item gives one -/
theorem comp_allL {own : List Nat} {bd : D → Env → Option Env} {cd : Env → Option (Bool × Env)} {el : Env → Option (D × Env)} (I : Env → Prop) (P : D → Prop) :
    ∀ {xs acc : List D} {ρ : Env}, I ρ → (∀ x ∈ xs, ∀ ρ, I ρ → ∃ ρ1 d ρ3, bd x ρ = some ρ1 ∧ cd ρ1 = some (true, ρ1) ∧ el ρ1 = some (d, ρ3) ∧ P d ∧ I (wipeE ρ3 own)) →
      ∃ ds ρ', compL own bd cd el xs acc ρ = some (acc ++ ds, ρ') ∧ (∀ d ∈ ds, P d) ∧ ds.length = xs.length ∧ I ρ'
  | [], acc, ρ, i, _ => ⟨[], ρ, by simp [compL], by simp, by simp, i⟩
  | x :: xs, acc, ρ, i, h => by
    obtain ⟨ρ1, d, ρ3, h1, h2, h5, h6, h7⟩ := h x List.mem_cons_self ρ i
    have hr := fun y hy => h y (List.mem_cons_of_mem _ hy)
    rw [compL, h1, Option.bind_some, h2, Option.bind_some]
    simp only [if_true]
    rw [h5, Option.bind_some]
    obtain ⟨ds, ρ', q1, q2, q3, q4⟩ := comp_allL I P (acc := acc ++ [d]) h7 hr
    exact ⟨d :: ds, ρ', by rw [q1]; simp, by simpa using ⟨h6, q2⟩, by simp; omega, q4⟩
theorem comp_all {C : CallF} {own : List Nat} {tg : Tg} {cond elt : Ex} (I : Env → Prop) (P : D → Prop) {xs : List D} {ρ : Env} (i : I ρ)
    (h : ∀ x ∈ xs, ∀ ρ, I ρ → ∃ ρ1 d ρ3, bindT tg x ρ = some ρ1 ∧ evQ C cond ρ1 = some (true, ρ1) ∧ frzV (ev C elt ρ1) = some (d, ρ3) ∧ P d ∧ I (wipeE ρ3 own)) :
    ∃ ds ρ', compE C own tg cond elt xs ρ = some (ds, ρ') ∧ (∀ d ∈ ds, P d) ∧ ds.length = xs.length ∧ I ρ' := by
  have := comp_allL (own := own) (bd := bindT tg) (cd := evQ C cond) (el := fun ρ => frzV (ev C elt ρ)) (acc := []) I P i h
  unfold compE
  simpa using this
/-- a for by an invariant, no return -/
theorem for_invL {bd : D → Env → Option Env} {g : Env → Option Res} (I : Env → Prop) : ∀ {xs : List D} {ρ : Env}, I ρ → (∀ x ∈ xs, ∀ ρ, I ρ → ∃ ρ1 ρ2, bd x ρ = some ρ1 ∧ g ρ1 = some (.nx ρ2) ∧ I ρ2) → ∃ ρ', forL bd g xs ρ = some (.nx ρ') ∧ I ρ'
  | [], ρ, i, _ => ⟨ρ, by simp [forL], i⟩
  | x :: xs, ρ, i, h => by
    obtain ⟨ρ1, ρ2, h1, h2, h3⟩ := h x List.mem_cons_self ρ i
    obtain ⟨ρ', q1, q2⟩ := for_invL I (xs := xs) h3 fun y hy => h y (List.mem_cons_of_mem _ hy)
    exact ⟨ρ', by rw [forL, h1, Option.bind_some, h2]; exact q1, q2⟩
theorem for_inv {C : CallF} {tg : Tg} {b : Sx} (I : Env → Prop) {xs : List D} {ρ : Env} (i : I ρ) (h : ∀ x ∈ xs, ∀ ρ, I ρ → ∃ ρ1 ρ2, bindT tg x ρ = some ρ1 ∧ evS C b ρ1 = some (.nx ρ2) ∧ I ρ2) : ∃ ρ', forE C tg b xs ρ = some (.nx ρ') ∧ I ρ' := for_invL I i h
end Mn

namespace Mn
open PySem
variable {T : Nat → Option FnD}
/-- the table holds the draws -/
structure Gen (T : Nat → Option FnD) : Prop where
  h5 : T 5 = some d_law_draw
  h11 : T 11 = some d_law_every
  h12 : T 12 = some d_law_line
  h13 : T 13 = some d_law_lines
theorem pick {xs : List D} {P : D → Prop} (h : ∀ x ∈ xs, P x) {r : Int} (h0 : 0 ≤ r) (h1 : r < xs.length) : ∃ x, L2.atI xs r = some x ∧ P x := by
  have : r.toNat < xs.length := by omega
  exact ⟨xs[r.toNat], by rw [atI_of h0 h1]; exact List.getElem?_eq_getElem this, h _ (List.getElem_mem this)⟩
def IntIn (lo hi : Int) (x : D) : Prop := ∃ i, x = .int i ∧ lo ≤ i ∧ i ≤ hi
theorem every_spec (g : Gen T) {n : Nat} {t : List D} (ht : TapeOk t) {kind : Str} : ∃ e t', callN T (n + 2) 11 (some t) [.str kind] = some (.d (.int e), some t') ∧ 1 ≤ e ∧ e ≤ 60 ∧ TapeOk t' := by
  have dr : ∀ {t : List D}, TapeOk t → ∀ {m : Int}, 0 < m → m < 18446744073709551616 → ∃ r t', callN T (n + 1) 5 (some t) [.int m] = some (.d (.int r), some t') ∧ 0 ≤ r ∧ r < m ∧ TapeOk t' := fun ht _ h1 h2 => draw_spec g.h5 ht h1 h2
  rw [callN_ev, g.h11]
  by_cases h1 : kind = "round"
  · subst h1
    obtain ⟨r, t1, e1, r0, r1, o1⟩ := dr ht (m := 26) (by decide) (by decide)
    obtain ⟨x, hx, i, rfl, i0, i1⟩ := pick (xs := [.int 1, .int 2, .int 3, .int 4, .int 5, .int 6, .int 7, .int 8, .int 9, .int 10, .int 12, .int 14, .int 15, .int 18, .int 20, .int 21, .int 24, .int 28, .int 30, .int 35, .int 36, .int 40, .int 42, .int 45, .int 56, .int 60]) (P := IntIn 1 60) (by simp [IntIn]) r0 (by simpa using r1)
    simp [evFn, runFn, startE, look2, look, isVar, peek, peekA, rdVar, tyOf, outE, ioAt, retV, argD, argK, frzAll, Val.scalar, d_law_every, e1, hx]
    exact ⟨_, _, ⟨rfl, rfl⟩, i0, i1, o1⟩
  · by_cases h2 : kind = "few"
    · subst h2
      obtain ⟨r, t1, e1, r0, r1, o1⟩ := dr ht (m := 8) (by decide) (by decide)
      simp [evFn, runFn, startE, look2, look, isVar, peek, peekA, rdVar, tyOf, outE, ioAt, retV, argD, argK, frzAll, Val.scalar, d_law_every, e1, h1]
      exact ⟨_, _, ⟨rfl, rfl⟩, by omega, by omega, o1⟩
    · obtain ⟨r, t1, e1, r0, r1, o1⟩ := dr ht (m := 6) (by decide) (by decide)
      obtain ⟨x, hx, i, rfl, i0, i1⟩ := pick (xs := [.int 10, .int 12, .int 15, .int 20, .int 30, .int 60]) (P := IntIn 1 60) (by simp [IntIn]) r0 (by simpa using r1)
      obtain ⟨r2, t2, e2, r20, r21, o2⟩ := dr o1 (m := 60) (by decide) (by decide)
      obtain ⟨r3, t3, e3, r30, r31, o3⟩ := dr o2 (m := 9) (by decide) (by decide)
      obtain ⟨r4, t4, e4, r40, r41, o4⟩ := dr o3 (m := 3) (by decide) (by decide)
      obtain ⟨y, hy, j, rfl, j0, j1⟩ := pick (xs := [.int (1 + r2), .int i, .int (1 + r3)]) (P := IntIn 1 60) (by simp [IntIn]; omega) r40 (by simpa using r41)
      simp [evFn, runFn, startE, look2, look, isVar, peek, peekA, rdVar, tyOf, outE, ioAt, retV, argD, argK, frzAll, Val.scalar, d_law_every, e1, e2, e3, e4, h1, h2, hx, hy]
      exact ⟨_, _, ⟨rfl, rfl⟩, j0, j1, o4⟩
def IsLn (d : D) : Prop := ∃ z e f, d = .tuple [.str z, .int e, .int f] ∧ isLab z = true ∧ 1 ≤ e ∧ e ≤ 60 ∧ 0 ≤ f ∧ f < e
theorem abcd_ix {r : Int} : ixD (.str "abcd") (.int r) = (L2.atI [97, 98, 99, 100] r).map fun c => .str ⟨#[c]⟩ := by
  unfold ixD
  simp only [lit_abcd]
theorem line_spec (g : Gen T) {n : Nat} {t : List D} (ht : TapeOk t) {kind : Str} : ∃ l t', callN T (n + 3) 12 (some t) [.str kind] = some (.d l, some t') ∧ IsLn l ∧ TapeOk t' := by
  have dr : ∀ {t : List D}, TapeOk t → ∀ {m : Int}, 0 < m → m < 18446744073709551616 → ∃ r t', callN T (n + 2) 5 (some t) [.int m] = some (.d (.int r), some t') ∧ 0 ≤ r ∧ r < m ∧ TapeOk t' := fun ht _ h1 h2 => draw_spec g.h5 ht h1 h2
  rw [callN_ev, g.h12]
  obtain ⟨e, t1, e1, r0, r1, o1⟩ := every_spec g (n := n) ht (kind := kind)
  obtain ⟨r, t2, e2, r20, r21, o2⟩ := dr o1 (m := 4) (by decide) (by decide)
  obtain ⟨r3, t3, e3, r30, r31, o3⟩ := dr o2 (m := e) (by omega) (by omega)
  have hs : ∃ z, ixD (.str "abcd") (.int r) = some (.str z) ∧ isLab z = true := by
    have : r = 0 ∨ r = 1 ∨ r = 2 ∨ r = 3 := by omega
    rcases this with rfl | rfl | rfl | rfl
    · exact ⟨⟨#[97]⟩, by rw [abcd_ix]; rfl, by simp [isLab, lit_a]⟩
    · exact ⟨⟨#[98]⟩, by rw [abcd_ix]; rfl, by simp [isLab, lit_b]⟩
    · exact ⟨⟨#[99]⟩, by rw [abcd_ix]; rfl, by simp [isLab, lit_c]⟩
    · exact ⟨⟨#[100]⟩, by rw [abcd_ix]; rfl, by simp [isLab, lit_d]⟩
  obtain ⟨z, hz, hl⟩ := hs
  simp [evFn, runFn, startE, look2, look, isVar, peek, peekA, rdVar, tyOf, outE, ioAt, retV, argD, argK, frzAll, Val.scalar, d_law_line, e1, e2, e3, hz]
  exact ⟨_, _, ⟨rfl, rfl⟩, ⟨z, e, r3, rfl, hl, r0, r1, r30, r31⟩, o3⟩
def LnsOk (k : Nat) (ls : List D) : Prop := (∀ l ∈ ls, IsLn l) ∧ 1 ≤ ls.length ∧ ls.length ≤ k
theorem rng1 {k : Int} (h0 : 0 ≤ k) (h1 : k < 16777216) : rngD [.int k] = some (rangeI 0 k 1) := by
  show (if (inR k && decide (k < 16777216)) = true then some (rangeI 0 k 1) else none) = _
  rw [if_pos (by simp [inR]; omega)]
theorem rng_len {k : Int} (h0 : 0 ≤ k) : (rangeI 0 k 1).length = k.toNat := by
  unfold rangeI
  simp
theorem lines_spec (g : Gen T) {n : Nat} {t : List D} (ht : TapeOk t) {kind : Str} {m : Int} (hm : 0 < m) (hm2 : m < 1000) : ∃ ls t', callN T (n + 4) 13 (some t) [.int m, .str kind] = some (.d (.tuple ls), some t') ∧ LnsOk m.toNat ls ∧ TapeOk t' := by
  have dr : ∀ {t : List D}, TapeOk t → ∀ {m : Int}, 0 < m → m < 18446744073709551616 → ∃ r t', callN T (n + 3) 5 (some t) [.int m] = some (.d (.int r), some t') ∧ 0 ≤ r ∧ r < m ∧ TapeOk t' := fun ht _ h1 h2 => draw_spec g.h5 ht h1 h2
  rw [callN_ev, g.h13]
  obtain ⟨r, t1, e1, r0, r1, o1⟩ := dr ht (m := m) hm (by omega)
  obtain ⟨ds, ρ', c1, c2, c3, c4⟩ := comp_all (C := callN T (n + 3)) (own := [3]) (tg := .nm 3) (cond := .emp) (elt := .callo 12 0 (.con (.var 2) .emp)) (xs := rangeI 0 (1 + r) 1)
    (fun ρ => ∃ t, ρ = [some (.io t), some (.d (.int m)), some (.d (.str kind)), none] ∧ TapeOk t) IsLn (ρ := [some (.io t1), some (.d (.int m)), some (.d (.str kind)), none]) ⟨t1, rfl, o1⟩ (fun x _ ρ ⟨t, hρ, ht⟩ => by
      subst hρ
      obtain ⟨l, t2, e2, hl, o2⟩ := line_spec g (n := n) ht (kind := kind)
      exact ⟨_, l, _, by simp; rfl, by simp, by simp [evFn, runFn, startE, look2, look, isVar, peek, peekA, rdVar, tyOf, outE, ioAt, retV, argD, argK, frzAll, Val.scalar, e2]; rfl, hl, t2, by simp, o2⟩)
  obtain ⟨t2, rfl, o2⟩ := c4
  rw [rng_len (by omega)] at c3
  simp [evFn, runFn, startE, look2, look, isVar, peek, peekA, rdVar, tyOf, outE, ioAt, retV, argD, argK, frzAll, Val.scalar, d_law_lines, e1, rng1 (show 0 ≤ 1 + r by omega) (by omega), rng_len (show 0 ≤ 1 + r by omega), c1, bi1D, show 1 + r < 16777216 by omega]
  exact ⟨_, _, ⟨rfl, rfl⟩, ⟨c2, by omega, by omega⟩, o2⟩
end Mn

namespace Mn
open PySem
variable {T : Nat → Option FnD}
@[simp] theorem max2_i {i j : Int} : bi2D .max2 (.int i) (.int j) = some (.d (.int (if j > i then j else i))) := rfl
@[simp] theorem tuple_l {xs : List D} : bi1D .tuple (.list xs) = some (.d (.tuple xs)) := rfl
@[simp] theorem tuple_t {xs : List D} : bi1D .tuple (.tuple xs) = some (.d (.tuple xs)) := rfl
@[simp] theorem list_l {xs : List D} : bi1D .list (.list xs) = some (.own xs) := rfl
@[simp] theorem list_t {xs : List D} : bi1D .list (.tuple xs) = some (.own xs) := rfl
theorem sIx_le {n : Nat} {d : Nat} (hd : d ≤ n) (o : Option Int) : HT.sIx n d o ≤ n := HT.sIx_le _ _ hd o
theorem cutS_len (z : Str) (lo hi : Option Int) : (L2.cutS z lo hi).length ≤ z.length := by
  unfold L2.cutS
  show ((z.cps.toList.drop _).take _).toArray.size ≤ z.cps.size
  simp
  omega
theorem cutA_len {α : Type} (xs : List α) (lo hi : Option Int) : (cutA xs lo hi).length ≤ xs.length := by
  unfold cutA
  simp
  omega
@[simp] theorem cat_str {x y : Str} : binD .Add (.str x) (.str y) = if x.length + y.length ≤ 16777216 then some (.d (.str (x ++ y))) else none := rfl
@[simp] theorem sl_str {z : Str} {lo hi : Option Int} : slD (.str z) lo hi = some (.d (.str (L2.cutS z lo hi))) := rfl
@[simp] theorem sl_list {xs : List D} {lo hi : Option Int} : slD (.list xs) lo hi = some (.own (cutA xs lo hi)) := rfl
@[simp] theorem sl_tup {xs : List D} {lo hi : Option Int} : slD (.tuple xs) lo hi = some (.d (.tuple (cutA xs lo hi))) := rfl
@[simp] theorem rev_l {xs : List D} : revD (.list xs) = some (.own xs.reverse) := rfl
@[simp] theorem rev_t {xs : List D} : revD (.tuple xs) = some (.d (.tuple xs.reverse)) := rfl
@[simp] theorem cat_list {xs ys : List D} : binD .Add (.list xs) (.list ys) = if xs.length + ys.length ≤ 16777216 then some (.own (xs ++ ys)) else none := rfl
@[simp] theorem cat_tup {xs ys : List D} : binD .Add (.tuple xs) (.tuple ys) = if xs.length + ys.length ≤ 16777216 then some (.d (.tuple (xs ++ ys))) else none := rfl
theorem lab_ok {z : Str} (h : isLab z = true) : PyData.strOk z = true := by
  unfold isLab at h
  simp only [Bool.or_eq_true, decide_eq_true_eq] at h
  rcases h with ((rfl | rfl) | rfl) | rfl <;> decide +kernel
end Mn

namespace Mn
open PySem
variable {T : Nat → Option FnD}
/-! ## lines -/
theorem isLine_of {l : D} (h : IsLn l) : isLine l = true := by
  obtain ⟨z, e, f, rfl, h1, h2, h3, h4, h5⟩ := h
  simp [isLine, isInt, h1]
  omega
@[simp] theorem all_l {xs : List D} : bi1D .all (.list xs) = (dBools xs).map fun bs => .d (.bool (bs.all id)) := rfl
theorem dBools_map {α : Type} (f : α → Bool) : ∀ xs : List α, dBools (xs.map fun x => .bool (f x)) = some (xs.map f)
  | [] => rfl
  | x :: xs => by simp [dBools, dBools_map f xs]
def areL (v : D) : Bool := match v with
  | .tuple xs => decide (1 ≤ xs.length) && decide (xs.length ≤ 5) && xs.all isLine
  | _ => false
structure Lns (T : Nat → Option FnD) : Prop where
  h0 : T 0 = some d_is_integer
  h1 : T 1 = some d_is_line
  h2 : T 2 = some d_are_lines
structure Wds (T : Nat → Option FnD) : Prop extends Lns T where
  h3 : T 3 = some d_departs
  h4 : T 4 = some d_word_at
theorem are_lines_spec (g : Lns T) {n : Nat} {v : D} : callN T (n + 3) 2 none [v] = some (.d (.bool (areL v)), none) := by
  have hi : ∀ v : D, callN T (n + 2) 1 none [v] = some (.d (.bool (isLine v)), none) := fun v => is_line_spec g.h0 g.h1
  rw [callN_ev, g.h2]
  cases v with
  | tuple xs =>
    by_cases h1 : 1 ≤ xs.length
    · by_cases h2 : xs.length ≤ 5
      · have hc := comp_pure (C := callN T (n + 2)) (own := [1]) (tg := .nm 1) (cond := .emp) (elt := .call 1 (.con (.var 1) .emp)) (ρ := [some (.d (.tuple xs)), none]) (fun _ => true) (fun x => .bool (isLine x)) (xs := xs) fun x _ =>
          ⟨[some (.d (.tuple xs)), some (.d x)], by simp, by simp, fun _ => by simp [evFn, runFn, startE, look2, look, isVar, peek, peekA, rdVar, tyOf, outE, ioAt, retV, argD, argK, frzAll, Val.scalar, hi], by simp⟩
        simp [evFn, runFn, startE, look2, look, isVar, peek, peekA, rdVar, tyOf, outE, ioAt, retV, argD, argK, frzAll, Val.scalar, d_are_lines, iterD, hc, areL, h1, h2, show xs.length < 16777216 by omega, dBools_map, show (1 : Int) ≤ xs.length by omega, show (xs.length : Int) ≤ 5 by omega]
      · simp [evFn, runFn, startE, look2, look, isVar, peek, peekA, rdVar, tyOf, outE, ioAt, retV, argD, argK, frzAll, Val.scalar, d_are_lines, areL, h1, h2, show (1 : Int) ≤ xs.length by omega, show ¬ (xs.length : Int) ≤ 5 by omega]
    · simp [evFn, runFn, startE, look2, look, isVar, peek, peekA, rdVar, tyOf, outE, ioAt, retV, argD, argK, frzAll, Val.scalar, d_are_lines, areL, h1, show ¬ (1 : Int) ≤ xs.length by omega]
  | _ => simp [evFn, runFn, startE, look2, look, isVar, peek, peekA, rdVar, tyOf, outE, ioAt, retV, argD, argK, frzAll, Val.scalar, d_are_lines, areL]
def goB (l : D) (t : Int) : Bool := match l with
  | .tuple [_, .int e, .int f] => decide (t % e = f)
  | _ => false
theorem departs_spec (g : Wds T) {n : Nat} {l : D} (h : IsLn l) {t : Int} : callN T (n + 1) 3 none [l, .int t] = some (.d (.bool (goB l t)), none) := by
  obtain ⟨z, e, f, rfl, h1, h2, h3, h4, h5⟩ := h
  rw [callN_ev, g.h3]
  simp [evFn, runFn, startE, look2, look, isVar, peek, peekA, rdVar, tyOf, outE, ioAt, retV, argD, argK, frzAll, Val.scalar, d_departs, goB, show 0 < e by omega]
theorem goes_eq {t e f : Int} (h0 : 0 ≤ f) (h1 : f < e) : ((t - f) % e = 0) ↔ (t % e = f) := by
  have e0 : e ≠ 0 := by omega
  constructor
  · intro h
    have h2 := Int.emod_emod_of_dvd t (Int.dvd_refl e)
    have : t % e = ((t - f) + f) % e := by rw [Int.sub_add_cancel]
    rw [this, Int.add_emod, h, Int.zero_add, Int.emod_emod_of_dvd _ (Int.dvd_refl e), Int.emod_eq_of_lt h0 h1]
  · intro h
    rw [Int.sub_emod, h, Int.emod_eq_of_lt h0 h1, Int.sub_self]
    exact Int.zero_emod e
theorem law_goes_spec (h14 : T 14 = some d_law_goes) {n : Nat} {l : D} (h : IsLn l) {t : Int} : callN T (n + 1) 14 none [l, .int t] = some (.d (.bool (goB l t)), none) := by
  obtain ⟨z, e, f, rfl, h1, h2, h3, h4, h5⟩ := h
  rw [callN_ev, h14]
  simp [evFn, runFn, startE, look2, look, isVar, peek, peekA, rdVar, tyOf, outE, ioAt, retV, argD, argK, frzAll, Val.scalar, d_law_goes, goB, show 0 < e by omega, goes_eq h4 h5]
def labS (l : D) : Str := match l with
  | .tuple (.str z :: _) => z
  | _ => ""
def wordS (ls : List D) (t : Int) : Str := Str.join "" ((ls.filter (goB · t)).map labS)
theorem dStrs_map (f : D → Str) : ∀ xs : List D, dStrs (xs.map fun x => .str (f x)) = some (xs.map f)
  | [] => rfl
  | x :: xs => by simp [dStrs, dStrs_map f xs]
theorem join_spec {ws : List Str} (h : ∀ w ∈ ws, w.length ≤ 1) (hl : ws.length ≤ 16777216) : joinD "" ws = some (Str.join "" ws) := by
  have hs : (ws.map (·.length)).sum ≤ ws.length := by
    clear hl
    induction ws with
    | nil => simp
    | cons w r ih =>
      have h1 := h w List.mem_cons_self
      have h2 := ih fun x hx => h x (List.mem_cons_of_mem _ hx)
      simp
      omega
  unfold joinD
  have : ("" : Str).length = 0 := by decide +kernel
  rw [if_pos (by rw [this]; omega)]
theorem ln_lab {l : D} (h : IsLn l) : L2.atI (match l with | .tuple xs => xs | _ => []) 0 = some (.str (labS l)) ∧ (labS l).length = 1 := by
  obtain ⟨z, e, f, rfl, h1, h2, h3, h4, h5⟩ := h
  exact ⟨rfl, lab_len h1⟩
theorem word_at_spec (g : Wds T) {n : Nat} {ls : List D} (h : ∀ l ∈ ls, IsLn l) (hl : ls.length ≤ 1000) {t : Int} : callN T (n + 2) 4 none [.tuple ls, .int t] = some (.d (.str (wordS ls t)), none) := by
  rw [callN_ev, g.h4]
  have hc := comp_pure (C := callN T (n + 1)) (own := [2]) (tg := .nm 2) (cond := .one (.call 3 (.con (.var 2) (.con (.var 1) .emp)))) (elt := .ix (.var 2) (.cst (.int 0))) (ρ := [some (.d (.tuple ls)), some (.d (.int t)), none]) (fun l => goB l t) (fun l => .str (labS l)) (xs := ls) fun l hm => by
    have hd := departs_spec g (n := n) (h l hm) (t := t)
    obtain ⟨z, e, f, rfl, h1, h2, h3, h4, h5⟩ := h l hm
    exact ⟨[some (.d (.tuple ls)), some (.d (.int t)), some (.d (.tuple [.str z, .int e, .int f]))], by simp, by simp [evFn, runFn, startE, look2, look, isVar, peek, peekA, rdVar, tyOf, outE, ioAt, retV, argD, argK, frzAll, Val.scalar, hd], fun _ => by simp [evFn, runFn, startE, look2, look, isVar, peek, peekA, rdVar, tyOf, outE, ioAt, retV, argD, argK, frzAll, Val.scalar, labS], by simp⟩
  have hj := join_spec (ws := (ls.filter (goB · t)).map labS) (fun w hw => by
    obtain ⟨l, hl, rfl⟩ := List.mem_map.mp hw
    rw [(ln_lab (h l (List.mem_filter.mp hl).1)).2]; exact Nat.le_refl _) (by rw [List.length_map]; have := List.length_filter_le (goB · t) ls; omega)
  simp [evFn, runFn, startE, look2, look, isVar, peek, peekA, rdVar, tyOf, outE, ioAt, retV, argD, argK, frzAll, Val.scalar, d_word_at, iterD, hc, show ls.length < 16777216 by omega, dStrs_map, hj, wordS]
theorem law_word_spec (h14 : T 14 = some d_law_goes) (h15 : T 15 = some d_law_word) {n : Nat} {ls : List D} (h : ∀ l ∈ ls, IsLn l) (hl : ls.length ≤ 1000) {t : Int} : callN T (n + 2) 15 none [.tuple ls, .int t] = some (.d (.str (wordS ls t)), none) := by
  rw [callN_ev, h15]
  have hc := comp_pure (C := callN T (n + 1)) (own := [2]) (tg := .nm 2) (cond := .one (.call 14 (.con (.var 2) (.con (.var 1) .emp)))) (elt := .ix (.var 2) (.cst (.int 0))) (ρ := [some (.d (.tuple ls)), some (.d (.int t)), none]) (fun l => goB l t) (fun l => .str (labS l)) (xs := ls) fun l hm => by
    have hd := law_goes_spec h14 (n := n) (h l hm) (t := t)
    obtain ⟨z, e, f, rfl, h1, h2, h3, h4, h5⟩ := h l hm
    exact ⟨[some (.d (.tuple ls)), some (.d (.int t)), some (.d (.tuple [.str z, .int e, .int f]))], by simp, by simp [evFn, runFn, startE, look2, look, isVar, peek, peekA, rdVar, tyOf, outE, ioAt, retV, argD, argK, frzAll, Val.scalar, hd], fun _ => by simp [evFn, runFn, startE, look2, look, isVar, peek, peekA, rdVar, tyOf, outE, ioAt, retV, argD, argK, frzAll, Val.scalar, labS], by simp⟩
  have hj := join_spec (ws := (ls.filter (goB · t)).map labS) (fun w hw => by
    obtain ⟨l, hl, rfl⟩ := List.mem_map.mp hw
    rw [(ln_lab (h l (List.mem_filter.mp hl).1)).2]; exact Nat.le_refl _) (by rw [List.length_map]; have := List.length_filter_le (goB · t) ls; omega)
  simp [evFn, runFn, startE, look2, look, isVar, peek, peekA, rdVar, tyOf, outE, ioAt, retV, argD, argK, frzAll, Val.scalar, d_law_word, iterD, hc, show ls.length < 16777216 by omega, dStrs_map, hj, wordS]
theorem minute_spec (h5 : T 5 = some d_law_draw) (h16 : T 16 = some d_law_minute) {n : Nat} {t : List D} (ht : TapeOk t) : ∃ r t', callN T (n + 2) 16 (some t) [] = some (.d (.int r), some t') ∧ 0 ≤ r ∧ r < 1000000000000000 ∧ TapeOk t' := by
  rw [callN_ev, h16]
  obtain ⟨r, t1, e1, r0, r1, o1⟩ := draw_spec h5 (n := n) ht (m := 3) (by decide) (by decide)
  obtain ⟨x, hx, i, rfl, i0, i1⟩ := pick (xs := [.int 200, .int 100000, .int 1000000000000000]) (P := IntIn 1 1000000000000000) (by simp [IntIn]) r0 (by simpa using r1)
  obtain ⟨r2, t2, e2, r20, r21, o2⟩ := draw_spec h5 (n := n) o1 (m := i) (by omega) (by omega)
  simp [evFn, runFn, startE, look2, look, isVar, peek, peekA, rdVar, tyOf, outE, ioAt, retV, argD, argK, frzAll, Val.scalar, d_law_minute, e1, e2, hx]
  exact ⟨_, _, ⟨rfl, rfl⟩, r20, by omega, o2⟩
end Mn

namespace Mn
open PySem
variable {T : Nat → Option FnD}
theorem comp_map {C : CallF} {own : List Nat} {tg : Tg} {elt : Ex} {ρ : Env} (e : D → D) {xs : List D}
    (h : ∀ x ∈ xs, ∃ ρ1, bindT tg x ρ = some ρ1 ∧ frzV (ev C elt ρ1) = some (e x, ρ1) ∧ wipeE ρ1 own = ρ) : compE C own tg .emp elt xs ρ = some (xs.map e, ρ) := by
  have := comp_pure (C := C) (own := own) (tg := tg) (cond := .emp) (elt := elt) (ρ := ρ) (fun _ => true) e (xs := xs) fun x hx => by
    obtain ⟨ρ1, h1, h2, h3⟩ := h x hx
    exact ⟨ρ1, h1, evQ_emp, fun _ => h2, h3⟩
  rwa [List.filter_eq_self.mpr fun _ _ => rfl] at this
/-! ## texts of lines -/
structure Txs (T : Nat → Option FnD) : Prop where
  l : Lns T
  h84 : T 84 = some d_line_text
  h85 : T 85 = some d_lines_text
def lineS (l : D) : Str := match l with
  | .tuple [.str z, .int e, .int f] => z ++ (" every " ++ (intStr e ++ (" from " ++ (intStr f ++ Str.empty))))
  | _ => ""
theorem log_small {i : Int} (h0 : 0 ≤ i) (h1 : i ≤ 100) : i.natAbs.log2 < 1920 := by
  have := Nat.log2_le_self i.natAbs
  omega
theorem int_len {i : Int} (h0 : 0 ≤ i) (h1 : i < 100) : (intStr i).length ≤ 2 := by
  have key : ∀ n : Fin 100, (intStr ((n.val : Nat) : Int)).length ≤ 2 := by decide +kernel
  have := key ⟨i.toNat, by omega⟩
  simp only at this
  rwa [Int.toNat_of_nonneg h0] at this
theorem every_len : (" every " : Str).length = 7 := by decide +kernel
theorem from_len : (" from " : Str).length = 6 := by decide +kernel
theorem lineS_len {l : D} (h : IsLn l) : (lineS l).length ≤ 18 := by
  obtain ⟨z, e, f, rfl, h1, h2, h3, h4, h5⟩ := h
  simp only [lineS, Str.length_append, every_len, from_len, lab_len h1]
  have a := int_len (show 0 ≤ e by omega) (by omega)
  have b := int_len h4 (by omega)
  have c : Str.empty.length = 0 := rfl
  omega
@[simp] theorem fmt_s {z : Str} : fmtD (.str z) = some z := rfl
theorem fmt_i {i : Int} (h0 : 0 ≤ i) (h1 : i ≤ 100) : fmtD (.int i) = some (intStr i) := by
  show (if i.natAbs.log2 < 1920 then some (intStr i) else none) = _
  rw [if_pos (log_small h0 h1)]
@[simp] theorem ev_fmt {C : CallF} {ρ : Env} {e : Ex} : ev C (.fmt e) ρ = (frzV (ev C e ρ)).bind fun r => (fmtD r.1).map fun t => (.d (.str t), r.2) := by rw [ev]
@[simp] theorem ev_fst {C : CallF} {ρ : Env} {a : Ex} : ev C (.fst a) ρ = (evD C a ρ).bind fun r => (catAll r.1).bind fun t => if t.length ≤ 16777216 then some (.d (.str t), r.2) else none := by rw [ev]
theorem line_text_spec (g : Txs T) {n : Nat} {l : D} (h : IsLn l) : callN T (n + 1) 84 none [l] = some (.d (.str (lineS l)), none) := by
  have hl := lineS_len h
  obtain ⟨z, e, f, rfl, h1, h2, h3, h4, h5⟩ := h
  rw [callN_ev, g.h84]
  simp only [lineS] at hl
  have hl2 := Nat.le_trans hl (by decide : 18 ≤ 16777216)
  simp [evFn, runFn, startE, look2, look, isVar, peek, peekA, rdVar, tyOf, outE, ioAt, retV, argD, argK, frzAll, Val.scalar, d_line_text, fmt_i (show 0 ≤ e by omega) (by omega), fmt_i h4 (by omega), catAll, lineS, hl2]
def textS (ls : List D) : Str := Str.join "; " (ls.map lineS)
theorem joins_spec {sep : Str} {ws : List Str} {k : Nat} (h : ∀ w ∈ ws, w.length ≤ k) (hl : ws.length * k + ws.length * sep.length ≤ 16777216) : joinD sep ws = some (Str.join sep ws) := by
  have hs : (ws.map (·.length)).sum ≤ ws.length * k := by
    clear hl
    induction ws with
    | nil => simp
    | cons w r ih =>
      have h1 := h w List.mem_cons_self
      have h2 := ih fun x hx => h x (List.mem_cons_of_mem _ hx)
      simp [Nat.succ_mul]
      omega
  unfold joinD
  rw [if_pos (by omega)]
theorem semi_len : ("; " : Str).length = 2 := by decide +kernel
theorem lines_text_spec (g : Txs T) {n : Nat} {ls : List D} (h : ∀ l ∈ ls, IsLn l) (hl : ls.length ≤ 1000) : callN T (n + 2) 85 none [.tuple ls] = some (.d (.str (textS ls)), none) := by
  rw [callN_ev, g.h85]
  have hc := comp_map (C := callN T (n + 1)) (own := [1]) (tg := .nm 1) (elt := .call 84 (.con (.var 1) .emp)) (ρ := [some (.d (.tuple ls)), none]) (fun l => .str (lineS l)) (xs := ls) fun l hm =>
    ⟨[some (.d (.tuple ls)), some (.d l)], by simp, by simp [evFn, runFn, startE, look2, look, isVar, peek, peekA, rdVar, tyOf, outE, ioAt, retV, argD, argK, frzAll, Val.scalar, line_text_spec g (h l hm)], by simp⟩
  have hj := joins_spec (sep := "; ") (ws := ls.map lineS) (k := 18) (fun w hw => by
    obtain ⟨l, hl, rfl⟩ := List.mem_map.mp hw
    exact lineS_len (h l hl)) (by rw [List.length_map, semi_len]; omega)
  simp [evFn, runFn, startE, look2, look, isVar, peek, peekA, rdVar, tyOf, outE, ioAt, retV, argD, argK, frzAll, Val.scalar, d_lines_text, iterD, hc, show ls.length < 16777216 by omega, dStrs_map, hj, textS]
/-! reading -/
def isDig (c : Nat) : Bool := decide (48 ≤ c) && decide (c ≤ 57)
def numD (w : Str) : D := if decide (w = "") || decide (2 < w.length) || !(w.cps.toList.all isDig) then .none else match intText? w with
  | some n => if intStr n = w then .int n else .none
  | none => .none
theorem digs : ("0123456789" : Str).cps.toList = [48, 49, 50, 51, 52, 53, 54, 55, 56, 57] := by decide +kernel
theorem dig_in {c : Nat} : inD (.str ⟨#[c]⟩) (.str "0123456789") = some (isDig c) := by
  unfold inD
  simp only [digs, isDig]
  simp
  rw [Bool.eq_iff_iff]
  simp
  omega
def okTxt (w : Str) : Bool := match intText? w with
  | some n => decide (0 ≤ n) && decide (n < 100)
  | none => false
theorem ok1 : ∀ a : Fin 10, okTxt ⟨#[48 + a.val]⟩ = true := by decide +kernel
theorem ok2 : ∀ a b : Fin 10, okTxt ⟨#[48 + a.val, 48 + b.val]⟩ = true := by decide +kernel
theorem ok_dig {w : Str} (h0 : w ≠ "") (h1 : w.length ≤ 2) (h2 : w.cps.toList.all isDig = true) : ∃ n, intText? w = some n ∧ 0 ≤ n ∧ n < 100 := by
  have key : okTxt w = true := by
    obtain ⟨⟨l⟩⟩ := w
    have h1 : l.length ≤ 2 := h1
    simp only [List.all_eq_true] at h2
    have dg : ∀ c ∈ l, ∃ a : Fin 10, c = 48 + a.val := fun c hc => by
      have := h2 c hc
      simp [isDig] at this
      exact ⟨⟨c - 48, by omega⟩, by simp; omega⟩
    match l, h1 with
    | [], _ => exact absurd (by decide +kernel) h0
    | [a], _ =>
      obtain ⟨x, rfl⟩ := dg a (by simp)
      exact ok1 x
    | [a, b], _ =>
      obtain ⟨x, rfl⟩ := dg a (by simp)
      obtain ⟨y, rfl⟩ := dg b (by simp)
      exact ok2 x y
  unfold okTxt at key
  split at key
  · rename_i n e
    simp at key
    exact ⟨n, e, key.1, key.2⟩
  · cases key
def digB (x : D) : Bool := match x with
  | .str z => z.cps.toList.all isDig
  | _ => false
theorem read_number_spec (h86 : T 86 = some d_read_number) {n : Nat} {w : Str} : callN T (n + 1) 86 none [.str w] = some (.d (numD w), none) := by
  rw [callN_ev, h86]
  by_cases h0 : w = ""
  · subst h0
    simp [evFn, runFn, startE, look2, look, isVar, peek, peekA, rdVar, tyOf, outE, ioAt, retV, argD, argK, frzAll, Val.scalar, d_read_number, numD]
  · by_cases h1 : 2 < w.length
    · simp [evFn, runFn, startE, look2, look, isVar, peek, peekA, rdVar, tyOf, outE, ioAt, retV, argD, argK, frzAll, Val.scalar, d_read_number, numD, h0, h1, show (2 : Int) < w.length by omega]
    · have hc := comp_map (C := callN T n) (own := [1]) (tg := .nm 1) (elt := .cmp .In (.var 1) (.cst (.str "0123456789"))) (ρ := [some (.d (.str w)), none]) (fun x => .bool (digB x)) (xs := signs w) fun x hx => by
        obtain ⟨c, _, rfl⟩ := List.mem_map.mp hx
        exact ⟨[some (.d (.str w)), some (.d (.str ⟨#[c]⟩))], by simp, by simp [evFn, runFn, startE, look2, look, isVar, peek, peekA, rdVar, tyOf, outE, ioAt, retV, argD, argK, frzAll, Val.scalar, dig_in, digB], by simp⟩
      have hs : (signs w).length < 16777216 := by
        have : (signs w).length = w.length := by simp [signs]; rfl
        omega
      have hb : dBools ((signs w).map fun x => .bool (digB x)) = some (w.cps.toList.map isDig) := by
        rw [dBools_map]
        unfold signs
        rw [List.map_map]
        simp [Function.comp_def, digB]
      have hall : ((w.cps.toList.map isDig).all id) = w.cps.toList.all isDig := by rw [List.all_map]; rfl
      have h1' : ¬ (2 : Int) < w.length := by omega
      cases h2 : w.cps.toList.all isDig with
      | false =>
        rw [h2] at hall
        have hn : numD w = .none := by unfold numD; simp [h0, h1, h2]
        simp [evFn, runFn, startE, look2, look, isVar, peek, peekA, rdVar, tyOf, outE, ioAt, retV, argD, argK, frzAll, Val.scalar, d_read_number, hn, h0, h1', iterD, hc, hs, hb, hall, -List.all_map]
      | true =>
        rw [h2] at hall
        obtain ⟨i, hi, i0, i1⟩ := ok_dig h0 (by omega) h2
        have hn : numD w = if intStr i = w then .int i else .none := by unfold numD; simp [h0, h1, h2, hi]
        have hlog := log_small i0 (by omega)
        by_cases he : intStr i = w
        · simp [evFn, runFn, startE, look2, look, isVar, peek, peekA, rdVar, tyOf, outE, ioAt, retV, argD, argK, frzAll, Val.scalar, d_read_number, hn, h0, h1', iterD, hc, hs, hb, hall, -List.all_map, bi1D, hi, hlog, he, show w.length ≤ 640 by omega]
        · simp [evFn, runFn, startE, look2, look, isVar, peek, peekA, rdVar, tyOf, outE, ioAt, retV, argD, argK, frzAll, Val.scalar, d_read_number, hn, h0, h1', iterD, hc, hs, hb, hall, -List.all_map, bi1D, hi, hlog, he, show w.length ≤ 640 by omega]
end Mn

namespace Mn
open PySem
variable {T : Nat → Option FnD}
theorem ok_app {a b : Str} (h : PyData.strOk (a ++ b) = true) : PyData.strOk a = true ∧ PyData.strOk b = true := by
  unfold PyData.strOk at *
  simpa [Str.cps_append] using h
theorem join_parts {sep : Str} : ∀ {ws : List Str}, PyData.strOk (Str.join sep ws) = true → ∀ w ∈ ws, PyData.strOk w = true ∧ w.length ≤ (Str.join sep ws).length
  | [], _, w, hw => by cases hw
  | [x], h, w, hw => by
    rw [List.mem_singleton.mp hw]
    exact ⟨h, Nat.le_refl _⟩
  | x :: y :: r, h, w, hw => by
    have h' : PyData.strOk (x ++ sep ++ Str.join sep (y :: r)) = true := h
    obtain ⟨h1, h2⟩ := ok_app h'
    obtain ⟨h3, _⟩ := ok_app h1
    show _ ∧ w.length ≤ (x ++ sep ++ Str.join sep (y :: r)).length
    rw [Str.length_append, Str.length_append]
    rcases List.mem_cons.mp hw with rfl | hw
    · exact ⟨h3, by omega⟩
    · obtain ⟨q1, q2⟩ := join_parts h2 w hw
      exact ⟨q1, by omega⟩
theorem split_parts {x y : Str} (h : PyData.strOk x = true) : ∀ w ∈ Txt.split x y, PyData.strOk w = true ∧ w.length ≤ x.length := by
  have e := StrLaws.join_split x y
  have h' : PyData.strOk (Str.join y (Txt.split x y)) = true := by rw [e]; exact h
  intro w hw
  have := join_parts h' w hw
  rw [e] at this
  exact this
def spOk (x y : Str) : Bool := decide (0 < y.length ∧ x.length ≤ 16777000 ∧ (Txt.split x y).all (fun w => PyData.strOk w && decide (w.length ≤ 16777216)) = true)
@[simp] theorem ev_split {C : CallF} {ρ : Env} {a sep : Ex} : ev C (.split a sep) ρ = (frzV (ev C a ρ)).bind fun z => (frzV (ev C sep z.2)).bind fun r => (match z.1, r.1 with
    | .str x, .str y => if spOk x y = true then some (.own ((Txt.split x y).map .str), r.2) else none
    | _, _ => none) := by
  rw [ev]
  simp only [spOk, decide_eq_true_eq] <;> rfl
theorem split_cond {x y : Str} (h : PyData.strOk x = true) (hl : x.length ≤ 100000) (hy : 0 < y.length) : spOk x y = true := by
  unfold spOk
  refine decide_eq_true ⟨hy, by omega, List.all_eq_true.mpr fun w hw => ?_⟩
  obtain ⟨h1, h2⟩ := split_parts h w hw
  simp [h1]
  omega
def partD (p : Str) : Option D := match Txt.split p " " with
  | [w0, w1, w2, w3, w4] => if w1 = "every" ∧ w3 = "from" then some (.tuple [.str w0, numD w2, numD w4]) else none
  | _ => none
def partsD : List Str → Option (List D)
  | [] => some []
  | p :: ps => (partD p).bind fun d => (partsD ps).map (d :: ·)
structure Rds (T : Nat → Option FnD) : Prop where
  x : Txs T
  h86 : T 86 = some d_read_number
  h87 : T 87 = some d_read_lines
theorem sp_len : (" " : Str).length = 1 := by decide +kernel
theorem part_spec (g : Rds T) {n : Nat} {v : D} {acc : List D} {a3 : Option Slot} {p : Str} (ho : PyData.strOk p = true) (hl : p.length ≤ 100000) (ha : acc.length < 100000) :
    ∃ b3, evS (callN T (n + 1)) b1_read_lines [some (.d v), some (.own acc), some (.d (.str p)), a3] =
      match partD p with
      | some d => some (.nx [some (.d v), some (.own (acc ++ [d])), some (.d (.str p)), b3])
      | none => some (.rt (.d .none) [some (.d v), some (.own acc), some (.d (.str p)), b3]) := by
  have hn : ∀ w : Str, callN T (n + 1) 86 none [.str w] = some (.d (numD w), none) := fun w => read_number_spec g.h86
  have hc := split_cond (y := " ") ho hl (by rw [sp_len]; decide)
  have ha2 : acc.length < 16777216 := by omega
  refine ⟨some (.own ((Txt.split p " ").map .str)), ?_⟩
  by_cases h5 : (Txt.split p " ").length = 5
  · match hs : Txt.split p " ", h5 with
    | [w0, w1, w2, w3, w4], _ =>
      unfold partD
      rw [hs]
      by_cases h1 : w1 = "every"
      · by_cases h3 : w3 = "from"
        · have hp : (numD w2 = numD w2) := rfl
          simp only [h1, h3, and_self, if_true]
          simp [evFn, runFn, startE, look2, look, isVar, peek, peekA, rdVar, tyOf, outE, ioAt, retV, argD, argK, frzAll, Val.scalar, b1_read_lines, hs, hc, h1, h3, hn, ha2]
        · simp [evFn, runFn, startE, look2, look, isVar, peek, peekA, rdVar, tyOf, outE, ioAt, retV, argD, argK, frzAll, Val.scalar, b1_read_lines, hs, hc, h1, h3, hn]
      · simp [evFn, runFn, startE, look2, look, isVar, peek, peekA, rdVar, tyOf, outE, ioAt, retV, argD, argK, frzAll, Val.scalar, b1_read_lines, hs, hc, h1, hn]
  · have hp : partD p = none := by
      unfold partD
      split
      · rename_i e; rw [e] at h5; simp at h5
      · rfl
    rw [hp]
    have h5' : ¬ (((Txt.split p " ").length : Int) = 5) := by omega
    simp [evFn, runFn, startE, look2, look, isVar, peek, peekA, rdVar, tyOf, outE, ioAt, retV, argD, argK, frzAll, Val.scalar, b1_read_lines, hc, h5']
end Mn

namespace Mn
open PySem
variable {T : Nat → Option FnD}
theorem forE_nil {C : CallF} {tg : Tg} {b : Sx} {ρ : Env} : forE C tg b [] ρ = some (.nx ρ) := by simp [forE, forL]
theorem forE_cons {C : CallF} {tg : Tg} {b : Sx} {x : D} {xs : List D} {ρ : Env} : forE C tg b (x :: xs) ρ = (bindT tg x ρ).bind fun ρ1 => match evS C b ρ1 with
    | some (.nx ρ2) => forE C tg b xs ρ2
    | some (.rt v ρ2) => some (.rt v ρ2)
    | none => none := by
  unfold forE
  rw [forL] <;> rfl
theorem parts_spec (g : Rds T) {n : Nat} {v : D} : ∀ (ps : List Str) (acc : List D) (a2 a3 : Option Slot), (∀ p ∈ ps, PyData.strOk p = true ∧ p.length ≤ 100000) → acc.length + ps.length ≤ 100000 →
    (∀ fs, partsD ps = some fs → ∃ b2 b3, forE (callN T (n + 1)) (.nm 2) b1_read_lines (ps.map .str) [some (.d v), some (.own acc), a2, a3] = some (.nx [some (.d v), some (.own (acc ++ fs)), b2, b3])) ∧
      (partsD ps = none → ∃ ρ', forE (callN T (n + 1)) (.nm 2) b1_read_lines (ps.map .str) [some (.d v), some (.own acc), a2, a3] = some (.rt (.d .none) ρ'))
  | [], acc, a2, a3, _, _ => ⟨fun fs h => by cases h; exact ⟨a2, a3, by simp [forE_nil]⟩, fun h => by cases h⟩
  | p :: ps, acc, a2, a3, hp, hl => by
    obtain ⟨h1, h2⟩ := hp p List.mem_cons_self
    obtain ⟨b3, e⟩ := part_spec g (n := n) (v := v) (acc := acc) (a3 := a3) h1 h2 (by simp at hl; omega)
    cases hd : partD p with
    | none =>
      rw [hd] at e
      refine ⟨fun fs h => ?_, fun _ => ?_⟩
      · simp [partsD, hd] at h
      · exact ⟨_, by rw [List.map_cons, forE_cons]; simp [e]; rfl⟩
    | some d =>
      rw [hd] at e
      obtain ⟨i1, i2⟩ := parts_spec g (n := n) (v := v) ps (acc ++ [d]) (some (.d (.str p))) b3 (fun q hq => hp q (List.mem_cons_of_mem _ hq)) (by simp at hl ⊢; omega)
      refine ⟨fun fs h => ?_, fun h => ?_⟩
      · simp only [partsD, hd, Option.bind_some, Option.map_eq_some_iff] at h
        obtain ⟨fs', h3, rfl⟩ := h
        obtain ⟨c2, c3, e2⟩ := i1 fs' h3
        refine ⟨c2, c3, ?_⟩
        rw [List.map_cons, forE_cons]
        simp [e]
        simpa using e2
      · simp only [partsD, hd, Option.bind_some, Option.map_eq_none_iff] at h
        obtain ⟨ρ', e2⟩ := i2 h
        refine ⟨ρ', ?_⟩
        rw [List.map_cons, forE_cons]
        simp [e]
        exact e2
def readD (x : Str) : D := match partsD (Txt.split x "; ") with
  | some fs => if areL (.tuple fs) then .tuple fs else .none
  | none => .none
theorem join_count {sep : Str} : ∀ {ws : List Str}, (ws.length - 1) * sep.length ≤ (Str.join sep ws).length
  | [] => by simp
  | [x] => by simp
  | x :: y :: r => by
    have ih := join_count (sep := sep) (ws := y :: r)
    show _ ≤ (x ++ sep ++ Str.join sep (y :: r)).length
    rw [Str.length_append, Str.length_append]
    simp at ih ⊢
    have : (r.length + 1) * sep.length = r.length * sep.length + sep.length := Nat.succ_mul _ _
    omega
theorem read_lines_spec (g : Rds T) {n : Nat} {x : Str} (ho : PyData.strOk x = true) (hl : x.length ≤ 50000) : callN T (n + 4) 87 none [.str x] = some (.d (readD x), none) := by
  have hsp := split_cond (y := "; ") ho (by omega) (by rw [semi_len]; decide)
  have hc := join_count (sep := "; ") (ws := Txt.split x "; ")
  rw [StrLaws.join_split, semi_len] at hc
  have hpl : (Txt.split x "; ").length ≤ 100000 := by omega
  obtain ⟨i1, i2⟩ := parts_spec g (n := n + 2) (v := .str x) (Txt.split x "; ") [] none none (fun p hp => by
    obtain ⟨h1, h2⟩ := split_parts ho p hp
    exact ⟨h1, by omega⟩) (by simpa using hpl)
  have h2 : ∀ v : D, callN T (n + 3) 2 none [v] = some (.d (.bool (areL v)), none) := fun v => are_lines_spec g.x.l
  rw [callN_ev, g.h87]
  unfold readD
  cases hp : partsD (Txt.split x "; ") with
  | none =>
    obtain ⟨ρ', e⟩ := i2 hp
    simp [evFn, runFn, startE, look2, look, isVar, peek, peekA, rdVar, tyOf, outE, ioAt, retV, argD, argK, frzAll, Val.scalar, d_read_lines, hsp, iterD, e]
  | some fs =>
    obtain ⟨b2, b3, e⟩ := i1 fs hp
    cases ha : areL (.tuple fs) with
    | false => simp [evFn, runFn, startE, look2, look, isVar, peek, peekA, rdVar, tyOf, outE, ioAt, retV, argD, argK, frzAll, Val.scalar, d_read_lines, hsp, iterD, e, h2, ha]
    | true => simp [evFn, runFn, startE, look2, look, isVar, peek, peekA, rdVar, tyOf, outE, ioAt, retV, argD, argK, frzAll, Val.scalar, d_read_lines, hsp, iterD, e, h2, ha]
theorem read_other (g : Rds T) {n : Nat} {v : D} (h : ∀ x, v ≠ .str x) : callN T (n + 4) 87 none [v] = some (.d .none, none) := by
  rw [callN_ev, g.h87]
  cases v with
  | str x => exact absurd rfl (h x)
  | _ => simp [evFn, runFn, startE, look2, look, isVar, peek, peekA, rdVar, tyOf, outE, ioAt, retV, argD, argK, frzAll, Val.scalar, d_read_lines]
/-! what is read is what is told -/
theorem ln_of {l : D} (h : isLine l = true) : IsLn l := by
  unfold isLine at h
  split at h
  · rename_i z e f
    simp only [Bool.and_eq_true] at h
    obtain ⟨⟨h1, h2⟩, h3⟩ := h
    cases e with
    | int i =>
      cases f with
      | int j =>
        simp [isInt] at h2 h3
        exact ⟨z, i, j, rfl, h1, by omega, by omega, by omega, by omega⟩
      | _ => simp [isInt] at h3
    | _ => simp [isInt] at h2
  · cases h
theorem numD_int {w : Str} {i : Int} (h : numD w = .int i) : intStr i = w := by
  unfold numD at h
  split at h
  · cases h
  · split at h
    · split at h
      · cases h; assumption
      · cases h
    · cases h
theorem ap_assoc (a b c : Str) : a ++ b ++ c = a ++ (b ++ c) := Str.append_assoc a b c
theorem part_text {p : Str} {d : D} (h : partD p = some d) (hl : IsLn d) : lineS d = p := by
  have hj := StrLaws.join_split p " "
  unfold partD at h
  split at h
  · rename_i w0 w1 w2 w3 w4 hs
    split at h
    · rename_i hw
      cases h
      rw [hs, hw.1, hw.2] at hj
      obtain ⟨z, e, f, he, _⟩ := hl
      injection he with he
      injection he with e1 he
      injection he with e2 he
      injection he with e3 _
      injection e1 with e1
      subst e1
      have q2 := numD_int e2
      have q3 := numD_int e3
      rw [e2, e3]
      rw [← hj]
      show w0 ++ (" every " ++ (intStr e ++ (" from " ++ (intStr f ++ Str.empty)))) = w0 ++ " " ++ ("every" ++ " " ++ (w2 ++ " " ++ ("from" ++ " " ++ w4)))
      rw [q2, q3, Str.append_empty]
      have k1 : (" every " : Str) = " " ++ "every" ++ " " := by decide +kernel
      have k2 : (" from " : Str) = " " ++ "from" ++ " " := by decide +kernel
      rw [k1, k2]
      simp only [ap_assoc]
    · cases h
  · cases h
theorem parts_text : ∀ {ps : List Str} {fs : List D}, partsD ps = some fs → (∀ l ∈ fs, IsLn l) → fs.map lineS = ps
  | [], fs, h, _ => by cases h; rfl
  | p :: ps, fs, h, hl => by
    simp only [partsD, Option.bind_eq_some_iff, Option.map_eq_some_iff] at h
    obtain ⟨d, h1, fs', h2, rfl⟩ := h
    rw [List.map_cons, part_text h1 (hl d List.mem_cons_self), parts_text h2 fun l h => hl l (List.mem_cons_of_mem _ h)]
theorem read_text {x : Str} (h : readD x ≠ .none) : ∃ fs, readD x = .tuple fs ∧ areL (.tuple fs) = true ∧ (∀ l ∈ fs, IsLn l) ∧ fs.length ≤ 5 ∧ textS fs = x := by
  unfold readD at h ⊢
  cases hp : partsD (Txt.split x "; ") with
  | none => rw [hp] at h; exact absurd rfl h
  | some fs =>
    rw [hp] at h
    simp only at h ⊢
    cases ha : areL (.tuple fs) with
    | false => rw [ha] at h; exact absurd rfl h
    | true =>
      have ha' := ha
      unfold areL at ha
      simp only [Bool.and_eq_true, decide_eq_true_eq, List.all_eq_true] at ha
      have hl : ∀ l ∈ fs, IsLn l := fun l hm => ln_of (ha.2 l hm)
      refine ⟨fs, by simp, ha', hl, ha.1.2, ?_⟩
      unfold textS
      rw [parts_text hp hl, StrLaws.join_split]
end Mn

namespace Mn
open PySem
variable {T : Nat → Option FnD}
section
variable {C : CallF} {ρ : Env}
@[simp] theorem bindT_cons {a b : Tg} {x : D} {xs : List D} : bindT (.cons a b) (.tuple (x :: xs)) ρ = (bindT a x ρ).bind fun ρ1 => bindL b xs ρ1 := by rw [bindT]
@[simp] theorem bindT_nilT : bindT .nil (.tuple []) ρ = some ρ := by rw [bindT]
@[simp] theorem bindL_cons {a b : Tg} {x : D} {xs : List D} : bindL (.cons a b) (x :: xs) ρ = (bindT a x ρ).bind fun ρ1 => bindL b xs ρ1 := by rw [bindL]
@[simp] theorem bindL_nil : bindL .nil [] ρ = some ρ := by rw [bindL]
@[simp] theorem evS_par3 {i j l : Nat} {a b c : Ex} : evS C (.par3 i j l a b c) ρ = (ev C a ρ).bind fun x => (ev C b x.2).bind fun y => (ev C c y.2).bind fun z => (setV i x.1 z.2).bind fun ρ1 => (setV j y.1 ρ1).bind fun ρ2 => (setV l z.1 ρ2).map .nx := by rw [evS]
end
/-! ## the next departures, as the laws tell them -/
def evyI (l : D) : Int := match l with
  | .tuple [_, .int e, _] => e
  | _ => 1
def froI (l : D) : Int := match l with
  | .tuple [_, _, .int f] => f
  | _ => 0
/-- the first departure of a line from a minute on -/
def begI (l : D) (m : Int) : Int := m + (froI l - m) % evyI l
def dep (t : Int) (at_ : Nat) (l : D) : D := .tuple [.int t, .int (at_ : Nat), .str (labS l)]
/-- a departure of a line, by the number of turns -/
def stepD (m : Int) (at_ : Nat) (l : D) (x : D) : D := match x with
  | .int s => dep (begI l m + evyI l * s) at_ l
  | _ => .none
def candL (rows m : Int) : Nat → List D → List D
  | _, [] => []
  | at_, l :: ls => (rangeI 0 rows 1).map (stepD m at_ l) ++ candL rows m (at_ + 1) ls
def nextL (ls : List D) (rows m : Int) : List D := (isortD (candL rows m 0 ls)).take rows.toNat
theorem cand_len {rows m : Int} (h0 : 0 ≤ rows) : ∀ {ls : List D} {k : Nat}, (candL rows m k ls).length = ls.length * rows.toNat
  | [], _ => by simp [candL]
  | l :: ls, k => by
    rw [candL, List.length_append, List.length_map, rng_len h0, cand_len h0, List.length_cons, Nat.succ_mul]
    omega
theorem next_turn (C : CallF) {ls : List D} {rows m : Int} (h0 : 0 ≤ rows) (h1 : rows ≤ 1000) {acc : List D} {l : D} {k : Nat} {a4 a5 a6 : Option Slot} (h : IsLn l) (ha : acc.length ≤ 1000000) :
    ∃ ρ1 b6, bindT (.cons (.nm 4) (.cons (.nm 5) .nil)) (.tuple [.int (k : Nat), l]) [some (.d (.tuple ls)), some (.d (.int rows)), some (.d (.int m)), some (.own acc), a4, a5, a6, none] = some ρ1 ∧
      evS C b1_law_next ρ1 = some (.nx [some (.d (.tuple ls)), some (.d (.int rows)), some (.d (.int m)), some (.own (acc ++ (rangeI 0 rows 1).map (stepD m k l))), some (.d (.int (k : Nat))), some (.d l), b6, none]) := by
  obtain ⟨z, e, f, rfl, q1, q2, q3, q4, q5⟩ := h
  refine ⟨_, some (.d (.int (m + (f - m) % e))), by simp; rfl, ?_⟩
  have he : inW e = true := by unfold inW; simp; omega
  have hc := comp_map (C := C) (own := [7]) (tg := .nm 7) (elt := .tup (.con (.bin .Add (.var 6) (.bin .Mult (.ix (.var 5) (.cst (.int 1))) (.var 7))) (.con (.var 4) (.con (.ix (.var 5) (.cst (.int 0))) .emp))))
    (ρ := [some (.d (.tuple ls)), some (.d (.int rows)), some (.d (.int m)), some (.own acc), some (.d (.int (k : Nat))), some (.d (.tuple [.str z, .int e, .int f])), some (.d (.int (m + (f - m) % e))), none]) (stepD m k (.tuple [.str z, .int e, .int f])) (xs := rangeI 0 rows 1) fun x hx => by
      have hx' : ∃ s : Int, x = .int s := by
        unfold rangeI at hx
        simp at hx
        obtain ⟨i, _, rfl⟩ := hx
        exact ⟨_, rfl⟩
      obtain ⟨s, rfl⟩ := hx'
      exact ⟨_, by simp; rfl, by simp [evFn, runFn, startE, look2, look, isVar, peek, peekA, rdVar, tyOf, outE, ioAt, retV, argD, argK, frzAll, Val.scalar, he, stepD, dep, begI, froI, evyI, labS], by simp⟩
  have hl := rng_len h0
  simp [evFn, runFn, startE, look2, look, isVar, peek, peekA, rdVar, tyOf, outE, ioAt, retV, argD, argK, frzAll, Val.scalar, b1_law_next, show 0 < e by omega, rng1 h0 (by omega), hl, show rows.toNat < 16777216 by omega, hc, show acc.length + rows.toNat ≤ 16777216 by omega]
theorem next_turns (C : CallF) {all : List D} {rows m : Int} (h0 : 0 ≤ rows) (h1 : rows ≤ 1000) : ∀ (ls : List D) (k : Nat) (acc : List D) (a4 a5 a6 : Option Slot), (∀ l ∈ ls, IsLn l) → acc.length + ls.length * rows.toNat ≤ 1000000 →
    ∃ b4 b5 b6, forE C (.cons (.nm 4) (.cons (.nm 5) .nil)) b1_law_next ((ls.zipIdx k).map fun p => .tuple [.int (p.2 : Nat), p.1]) [some (.d (.tuple all)), some (.d (.int rows)), some (.d (.int m)), some (.own acc), a4, a5, a6, none] =
      some (.nx [some (.d (.tuple all)), some (.d (.int rows)), some (.d (.int m)), some (.own (acc ++ candL rows m k ls)), b4, b5, b6, none])
  | [], k, acc, a4, a5, a6, _, _ => ⟨a4, a5, a6, by simp [forE_nil, candL]⟩
  | l :: ls, k, acc, a4, a5, a6, h, hl => by
    rw [List.length_cons, Nat.succ_mul] at hl
    obtain ⟨ρ1, b6, e1, e2⟩ := next_turn C (ls := all) (m := m) h0 h1 (acc := acc) (l := l) (k := k) (a4 := a4) (a5 := a5) (a6 := a6) (h l List.mem_cons_self) (by omega)
    obtain ⟨c4, c5, c6, e3⟩ := next_turns C (all := all) (m := m) h0 h1 ls (k + 1) (acc ++ (rangeI 0 rows 1).map (stepD m k l)) (some (.d (.int (k : Nat)))) (some (.d l)) b6 (fun x hx => h x (List.mem_cons_of_mem _ hx)) (by
      rw [List.length_append, List.length_map, rng_len h0]; omega)
    refine ⟨c4, c5, c6, ?_⟩
    rw [List.zipIdx_cons, List.map_cons, forE_cons, e1, Option.bind_some, e2]
    simp only []
    rw [e3, candL, List.append_assoc]
theorem tup3_sig {t : Int} {k : Nat} {l : D} : tupSig [1, 1, 2] (dep t k l) = true := rfl
theorem sig_long : ∀ {ds : List D}, (∀ d ∈ ds, ∃ t k l, d = dep t k l) → longest (ds.map sigOf) = [1, 1, 2] ∨ ds = []
  | [], _ => .inr rfl
  | d :: ds, h => by
    obtain ⟨t, k, l, rfl⟩ := h d List.mem_cons_self
    refine .inl ?_
    rw [List.map_cons]
    have hs : sigOf (dep t k l) = [1, 1, 2] := rfl
    rw [hs, longest]
    rcases sig_long fun d hd => h d (List.mem_cons_of_mem _ hd) with h2 | rfl
    · rw [h2]; rfl
    · rfl
theorem sort_dep {ds : List D} (h : ∀ d ∈ ds, ∃ t k l, d = dep t k l) : sortOk ds = true := by
  rcases sig_long h with h2 | rfl
  · unfold sortOk
    rw [h2, Bool.or_eq_true]
    exact .inr (List.all_eq_true.mpr fun d hd => by
      obtain ⟨t, k, l, rfl⟩ := h d hd
      rfl)
  · rfl
theorem cand_dep {rows m : Int} : ∀ {ls : List D} {k : Nat}, ∀ d ∈ candL rows m k ls, ∃ t k l, d = dep t k l
  | [], _, d, h => by cases h
  | l :: ls, k, d, h => by
    rw [candL] at h
    rcases List.mem_append.mp h with h | h
    · obtain ⟨x, hx, rfl⟩ := List.mem_map.mp h
      unfold rangeI at hx
      simp at hx
      obtain ⟨i, _, rfl⟩ := hx
      exact ⟨_, _, _, rfl⟩
    · exact cand_dep d h
@[simp] theorem sorted_l {xs : List D} : bi1D .sorted (.list xs) = (sortD xs).map .own := rfl
theorem cut_take {xs : List D} {rows : Int} (h : 0 ≤ rows) : cutA xs none (some rows) = xs.take rows.toNat := by
  unfold cutA
  rw [HT.sIx_none, Nat.sub_zero, List.drop_zero]
  have e : HT.sIx xs.length xs.length (some rows) = min rows.toNat xs.length := by
    have := HT.sIx_nat xs.length xs.length rows.toNat
    rwa [Int.toNat_of_nonneg h] at this
  rw [e]
  rcases Nat.le_total rows.toNat xs.length with h1 | h1
  · rw [Nat.min_eq_left h1]
  · rw [Nat.min_eq_right h1, List.take_of_length_le (Nat.le_refl _), List.take_of_length_le h1]
theorem law_next_spec (h23 : T 23 = some d_law_next) {n : Nat} {ls : List D} {rows m : Int} (h : ∀ l ∈ ls, IsLn l) (hl : ls.length ≤ 100) (h0 : 0 ≤ rows) (h1 : rows ≤ 1000) :
    callN T (n + 1) 23 none [.tuple ls, .int rows, .int m] = some (.own (nextL ls rows m), none) := by
  rw [callN_ev, h23]
  have hm : ls.length * rows.toNat ≤ 100 * 1000 := Nat.mul_le_mul hl (by omega)
  obtain ⟨b4, b5, b6, e⟩ := next_turns (callN T n) (all := ls) (m := m) h0 h1 ls 0 [] none none none h (by simp; omega)
  have hs : sortD (candL rows m 0 ls) = some (isortD (candL rows m 0 ls)) := by
    unfold sortD
    rw [if_pos (sort_dep cand_dep)]
  rw [List.nil_append] at e
  have he : enuOk (.tuple ls) = some ((ls.zipIdx 0).map fun p => .tuple [.int (p.2 : Nat), p.1]) := rfl
  simp [evFn, runFn, startE, look2, look, isVar, peek, peekA, rdVar, tyOf, outE, ioAt, retV, argD, argK, frzAll, Val.scalar, d_law_next, he, e, hs]
  exact cut_take h0
/-! the laws' board -/
def seenD (m : Int) (d : D) : D := match d with
  | .tuple [.int t, _, x] => .tuple [x, .int (t - m)]
  | _ => .none
def boardL (ls : List D) (rows m : Int) : List D := (nextL ls rows m).map (seenD m)
theorem isort_mem {x : D} : ∀ {ds : List D}, x ∈ isortD ds → x ∈ ds
  | [], h => h
  | d :: ds, h => by
    rw [isortD] at h
    have ins : ∀ {ys : List D}, x ∈ insD d ys → x = d ∨ x ∈ ys := by
      intro ys
      induction ys with
      | nil => intro h; simpa [insD] using h
      | cons y ys ih =>
        intro h
        rw [insD] at h
        split at h
        · rcases List.mem_cons.mp h with rfl | h
          · exact .inr List.mem_cons_self
          · rcases ih h with h | h
            · exact .inl h
            · exact .inr (List.mem_cons_of_mem _ h)
        · rcases List.mem_cons.mp h with h | h
          · exact .inl h
          · exact .inr h
    rcases ins h with rfl | h
    · exact List.mem_cons_self
    · exact List.mem_cons_of_mem _ (isort_mem h)
theorem next_dep {ls : List D} {rows m : Int} : ∀ d ∈ nextL ls rows m, ∃ t k l, d = dep t k l := fun d hd => cand_dep d (isort_mem (List.mem_of_mem_take hd))
theorem next_len {ls : List D} {rows m : Int} : (nextL ls rows m).length ≤ rows.toNat := by
  unfold nextL
  rw [List.length_take]
  omega
theorem law_board_spec (h23 : T 23 = some d_law_next) (h24 : T 24 = some d_law_board) {n : Nat} {ls : List D} {rows m : Int} (h : ∀ l ∈ ls, IsLn l) (hl : ls.length ≤ 100) (h0 : 0 ≤ rows) (h1 : rows ≤ 1000) :
    callN T (n + 2) 24 none [.tuple ls, .int rows, .int m] = some (.own (boardL ls rows m), none) := by
  rw [callN_ev, h24]
  have hn := law_next_spec h23 (n := n) (m := m) h hl h0 h1
  have hc := comp_map (C := callN T (n + 1)) (own := [3, 4, 5]) (tg := .cons (.nm 3) (.cons (.nm 4) (.cons (.nm 5) .nil))) (elt := .tup (.con (.var 5) (.con (.bin .Sub (.var 3) (.var 2)) .emp)))
    (ρ := [some (.d (.tuple ls)), some (.d (.int rows)), some (.d (.int m)), none, none, none]) (seenD m) (xs := nextL ls rows m) fun d hd => by
      obtain ⟨t, k, l, rfl⟩ := next_dep d hd
      exact ⟨_, by simp [dep]; rfl, by simp [evFn, runFn, startE, look2, look, isVar, peek, peekA, rdVar, tyOf, outE, ioAt, retV, argD, argK, frzAll, Val.scalar, dep, seenD], by simp⟩
  have hk := next_len (ls := ls) (rows := rows) (m := m)
  simp [evFn, runFn, startE, look2, look, isVar, peek, peekA, rdVar, tyOf, outE, ioAt, retV, argD, argK, frzAll, Val.scalar, d_law_board, hn, iterD, hc, show (nextL ls rows m).length < 16777216 by omega]
  rfl
end Mn

namespace Mn
open PySem
variable {T : Nat → Option FnD}
theorem mem_app {a b : Str} {c : Nat} (h1 : c ∉ TL.tl a) (h2 : c ∉ TL.tl b) : c ∉ TL.tl (a ++ b) := by
  rw [TL.tl_append, List.mem_append]
  exact fun h => h.elim h1 h2
theorem num_signs {i : Int} (h0 : 0 ≤ i) (h1 : i < 100) : 59 ∉ TL.tl (intStr i) ∧ 32 ∉ TL.tl (intStr i) ∧ numD (intStr i) = .int i := by
  have key : ∀ n : Fin 100, 59 ∉ TL.tl (intStr ((n.val : Nat) : Int)) ∧ 32 ∉ TL.tl (intStr ((n.val : Nat) : Int)) ∧ (match numD (intStr ((n.val : Nat) : Int)) with | .int j => decide (j = ((n.val : Nat) : Int)) | _ => false) = true := by decide +kernel
  have := key ⟨i.toNat, by omega⟩
  simp only [Int.toNat_of_nonneg h0] at this
  obtain ⟨k1, k2, k3⟩ := this
  refine ⟨k1, k2, ?_⟩
  split at k3
  · rename_i j e
    rw [e, of_decide_eq_true k3]
  · cases k3
theorem lab_signs {z : Str} (h : isLab z = true) : 59 ∉ TL.tl z ∧ 32 ∉ TL.tl z := by
  unfold isLab at h
  simp only [Bool.or_eq_true, decide_eq_true_eq] at h
  rcases h with ((rfl | rfl) | rfl) | rfl <;> decide +kernel
theorem line_signs {l : D} (h : IsLn l) : 59 ∉ TL.tl (lineS l) := by
  obtain ⟨z, e, f, rfl, h1, h2, h3, h4, h5⟩ := h
  exact mem_app (lab_signs h1).1 (mem_app (by decide +kernel) (mem_app (num_signs (by omega) (by omega)).1 (mem_app (by decide +kernel) (mem_app (num_signs h4 (by omega)).1 (by decide +kernel)))))
theorem line_split {l : D} (h : IsLn l) : partD (lineS l) = some l := by
  obtain ⟨z, e, f, rfl, h1, h2, h3, h4, h5⟩ := h
  have ne := num_signs (show 0 ≤ e by omega) (by omega)
  have nf := num_signs h4 (show f < 100 by omega)
  have hs := TL.split_join (y := " ") (s := 32) (S := []) (by decide +kernel) (by decide +kernel) (parts := [z, "every", intStr e, "from", intStr f]) (by simp) (by
    intro p hp
    simp only [List.mem_cons, List.not_mem_nil, or_false] at hp
    rcases hp with rfl | rfl | rfl | rfl | rfl
    · exact (lab_signs h1).2
    · decide +kernel
    · exact ne.2.1
    · decide +kernel
    · exact nf.2.1)
  have hj : Txt.join " " [z, "every", intStr e, "from", intStr f] = lineS (.tuple [.str z, .int e, .int f]) := by
    rw [TL.join_eq]
    show z ++ " " ++ ("every" ++ " " ++ (intStr e ++ " " ++ ("from" ++ " " ++ intStr f))) = z ++ (" every " ++ (intStr e ++ (" from " ++ (intStr f ++ Str.empty))))
    rw [Str.append_empty]
    have k1 : (" every " : Str) = " " ++ "every" ++ " " := by decide +kernel
    have k2 : (" from " : Str) = " " ++ "from" ++ " " := by decide +kernel
    rw [k1, k2]
    simp only [ap_assoc]
  rw [hj] at hs
  unfold partD
  rw [hs]
  simp [ne.2.2, nf.2.2]
theorem parts_lines : ∀ {ls : List D}, (∀ l ∈ ls, IsLn l) → partsD (ls.map lineS) = some ls
  | [], _ => rfl
  | l :: ls, h => by
    rw [List.map_cons, partsD, line_split (h l List.mem_cons_self), Option.bind_some, parts_lines fun x hx => h x (List.mem_cons_of_mem _ hx)]
    rfl
theorem read_back {ls : List D} (h : ∀ l ∈ ls, IsLn l) (h1 : 1 ≤ ls.length) (h2 : ls.length ≤ 5) : readD (textS ls) = .tuple ls := by
  have hs := TL.split_join (y := "; ") (s := 59) (S := [32]) (by decide +kernel) (by decide +kernel) (parts := ls.map lineS) (by
    intro e
    have := congrArg List.length e
    simp at this
    subst this
    simp at h1) (by
    intro p hp
    obtain ⟨l, hl, rfl⟩ := List.mem_map.mp hp
    exact line_signs (h l hl))
  rw [TL.join_eq] at hs
  unfold readD textS
  rw [hs, parts_lines h]
  have ha : areL (.tuple ls) = true := by
    unfold areL
    simp only [Bool.and_eq_true, decide_eq_true_eq, List.all_eq_true]
    exact ⟨⟨h1, h2⟩, fun l hl => isLine_of (h l hl)⟩
  simp [ha]
end Mn

namespace Bd
/-- a line: the sign of its label, its interval, its first minute -/
structure Ln where
  c : Nat
  e : Int
  f : Int
  deriving DecidableEq
structure Ln.Okz (l : Ln) : Prop where
  e1 : 1 ≤ l.e
  f0 : 0 ≤ l.f
  fe : l.f < l.e
structure Ln.ok (l : Ln) : Prop extends Ln.Okz l where
  c0 : 97 ≤ l.c
  c1 : l.c ≤ 100
  e60 : l.e ≤ 60
def goes (l : Ln) (t : Int) : Bool := decide (t % l.e = l.f)
def beg (l : Ln) (m : Int) : Int := m + (l.f - m) % l.e
/-! ## pairs of a minute and a position, in order -/
abbrev Pr := Int × Nat
def plt (a b : Pr) : Prop := a.1 < b.1 ∨ (a.1 = b.1 ∧ a.2 < b.2)
instance (a b : Pr) : Decidable (plt a b) := by unfold plt; infer_instance
theorem plt_irr (a : Pr) : ¬ plt a a := by unfold plt; omega
theorem plt_asym {a b : Pr} (h : plt a b) : ¬ plt b a := by unfold plt at *; omega
theorem plt_trans {a b c : Pr} (h : plt a b) (k : plt b c) : plt a c := by unfold plt at *; omega
theorem plt_tri (a b : Pr) : plt a b ∨ a = b ∨ plt b a := by
  unfold plt
  obtain ⟨a1, a2⟩ := a
  obtain ⟨b1, b2⟩ := b
  simp only [Prod.mk.injEq]
  omega
def ins (x : Pr) : List Pr → List Pr
  | [] => [x]
  | y :: ys => if plt y x then y :: ins x ys else x :: y :: ys
def isort : List Pr → List Pr
  | [] => []
  | x :: xs => ins x (isort xs)
theorem ins_perm (x : Pr) : ∀ ys : List Pr, (ins x ys).Perm (x :: ys)
  | [] => .refl _
  | y :: ys => by
    rw [ins]
    split
    · exact ((ins_perm x ys).cons y).trans (.swap x y ys)
    · exact .refl _
theorem isort_perm : ∀ xs : List Pr, (isort xs).Perm xs
  | [] => .refl _
  | x :: xs => (ins_perm x _).trans ((isort_perm xs).cons x)
def ple (a b : Pr) : Prop := ¬ plt b a
theorem ins_sorted {x : Pr} : ∀ {ys : List Pr}, ys.Pairwise ple → (ins x ys).Pairwise ple
  | [], _ => by simp [ins]
  | y :: ys, h => by
    rw [List.pairwise_cons] at h
    rw [ins]
    split
    · rename_i hlt
      rw [List.pairwise_cons]
      refine ⟨fun z hz => ?_, ins_sorted h.2⟩
      rcases List.mem_cons.mp ((ins_perm x ys).mem_iff.mp hz) with rfl | hz
      · exact plt_asym hlt
      · exact h.1 z hz
    · rename_i hn
      rw [List.pairwise_cons, List.pairwise_cons]
      refine ⟨fun z hz => ?_, h⟩
      rcases List.mem_cons.mp hz with rfl | hz
      · rcases plt_tri x z with k | rfl | k
        · exact plt_asym k
        · exact plt_irr _
        · exact absurd k hn
      · intro k
        have h1 := h.1 z hz
        unfold ple at h1
        rcases plt_tri y z with a | rfl | a
        · exact hn (plt_trans a k)
        · exact hn k
        · exact h1 a
theorem isort_sorted : ∀ xs : List Pr, (isort xs).Pairwise ple
  | [] => .nil
  | x :: xs => ins_sorted (isort_sorted xs)
theorem sorted_unique : ∀ {xs ys : List Pr}, xs.Perm ys → xs.Pairwise ple → ys.Pairwise ple → xs = ys
  | [], ys, p, _, _ => p.nil_eq
  | x :: xs, [], p, _, _ => absurd p.length_eq (by simp)
  | x :: xs, y :: ys, p, h, k => by
    rw [List.pairwise_cons] at h k
    have hxy : x = y := by
      rcases plt_tri x y with a | a | a
      · have : x ∈ y :: ys := p.mem_iff.mp List.mem_cons_self
        rcases List.mem_cons.mp this with e | e
        · exact e
        · exact absurd a (k.1 x e)
      · exact a
      · have : y ∈ x :: xs := p.mem_iff.mpr List.mem_cons_self
        rcases List.mem_cons.mp this with e | e
        · exact e.symm
        · exact absurd a (h.1 y e)
    subst hxy
    rw [sorted_unique (List.Perm.cons_inv p) h.2 k.2]
theorem isort_congr {xs ys : List Pr} (p : xs.Perm ys) : isort xs = isort ys :=
  sorted_unique ((isort_perm xs).trans (p.trans (isort_perm ys).symm)) (isort_sorted _) (isort_sorted _)
theorem isort_min {x : Pr} {xs : List Pr} (h : ∀ y ∈ xs, ple x y) : isort (x :: xs) = x :: isort xs :=
  sorted_unique ((isort_perm _).trans ((isort_perm xs).symm.cons x)) (isort_sorted _)
    (List.pairwise_cons.mpr ⟨fun y hy => h y ((isort_perm xs).mem_iff.mp hy), isort_sorted _⟩)
/-! ## the next departures, one behind another -/
/-- the first place of the least -/
def mn : List Int → Int
  | [] => 0
  | [x] => x
  | x :: y :: r => min x (mn (y :: r))
def am (ts : List Int) : Nat := ts.findIdx (fun t => decide (t = mn ts))
theorem mn_mem : ∀ {ts : List Int}, ts ≠ [] → mn ts ∈ ts
  | [], h => absurd rfl h
  | [x], _ => by simp [mn]
  | x :: y :: r, _ => by
    rw [mn]
    have := mn_mem (ts := y :: r) (by simp)
    rcases Int.le_total x (mn (y :: r)) with h | h
    · rw [Int.min_eq_left h]; exact List.mem_cons_self
    · rw [Int.min_eq_right h]; exact List.mem_cons_of_mem _ this
theorem mn_le : ∀ {ts : List Int}, ∀ t ∈ ts, mn ts ≤ t
  | [], t, h => absurd h List.not_mem_nil
  | [x], t, h => by simp only [List.mem_singleton] at h; subst h; simp [mn]
  | x :: y :: r, t, h => by
    rw [mn]
    rcases List.mem_cons.mp h with rfl | h
    · exact Int.min_le_left _ _
    · exact Int.le_trans (Int.min_le_right _ _) (mn_le t h)
theorem am_lt {ts : List Int} (h : ts ≠ []) : am ts < ts.length :=
  List.findIdx_lt_length_of_exists ⟨mn ts, mn_mem h, by simp⟩
theorem am_get {ts : List Int} (h : ts ≠ []) : ts[am ts]'(am_lt h) = mn ts := by
  have := List.findIdx_getElem (p := fun t => decide (t = mn ts)) (xs := ts) (w := am_lt h)
  exact of_decide_eq_true this
theorem am_first {ts : List Int} (h : ts ≠ []) {j : Nat} (hj : j < am ts) : mn ts < ts[j]'(Nat.lt_trans hj (am_lt h)) := by
  have h1 := List.not_of_lt_findIdx (p := fun t => decide (t = mn ts)) (xs := ts) hj
  have h2 := mn_le (ts := ts) (ts[j]'(Nat.lt_trans hj (am_lt h))) (List.getElem_mem _)
  have h3 : ¬ ts[j]'(Nat.lt_trans hj (am_lt h)) = mn ts := by simpa using h1
  omega
/-- so many next departures, the lines' next times given -/
def nx (ls : List Ln) : Nat → List Int → List Pr
  | 0, _ => []
  | k + 1, ts => (mn ts, am ts) :: nx ls k (ts.set (am ts) (mn ts + ((ls[am ts]?).map (·.e)).getD 0))
def nextP (ls : List Ln) (rows : Nat) (m : Int) : List Pr := nx ls rows (ls.map (beg · m))
theorem nx_len (ls : List Ln) : ∀ (k : Nat) (ts : List Int), (nx ls k ts).length = k
  | 0, _ => rfl
  | k + 1, ts => by rw [nx, List.length_cons, nx_len ls k]
/-! ## sorted candidates -/
/-- the candidates of the lines from a position on: of each one so many steps from its time -/
def cd : Nat → List (Int × Int × Nat) → List Pr
  | _, [] => []
  | k, (e, t, c) :: r => (List.range c).map (fun s : Nat => (t + e * (s : Int), k)) ++ cd (k + 1) r
def bump : List (Int × Int × Nat) → Nat → List (Int × Int × Nat)
  | [], _ => []
  | (e, t, c) :: r, 0 => (e, t + e, c - 1) :: r
  | x :: r, i + 1 => x :: bump r i
theorem cd_perm : ∀ (st : List (Int × Int × Nat)) (k i : Nat) (e t : Int) (c : Nat), st[i]? = some (e, t, c + 1) → (cd k st).Perm ((t, k + i) :: cd k (bump st i))
  | [], k, i, e, t, c, h => by simp at h
  | (e', t', c') :: r, k, 0, e, t, c, h => by
    simp only [List.getElem?_cons_zero, Option.some.injEq, Prod.mk.injEq] at h
    obtain ⟨rfl, rfl, rfl⟩ := h
    rw [cd, bump, cd, List.range_succ_eq_map, List.map_cons, List.map_map, List.cons_append]
    have e1 : ∀ s : Nat, t' + e' * ((s + 1 : Nat) : Int) = t' + e' + e' * (s : Int) := fun s => by
      rw [Int.natCast_add, Int.mul_add]; simp only [Int.natCast_one, Int.mul_one]; omega
    have e2 : ((fun s : Nat => (t' + e' * (s : Int), k)) ∘ Nat.succ) = fun s : Nat => (t' + e' + e' * (s : Int), k) := by
      funext s
      show (t' + e' * ((s + 1 : Nat) : Int), k) = _
      rw [e1]
    rw [e2]
    simp only [Int.natCast_zero, Int.mul_zero, Int.add_zero, Nat.add_zero, Nat.add_sub_cancel]
    exact .refl _
  | x :: r, k, i + 1, e, t, c, h => by
    obtain ⟨e', t', c'⟩ := x
    rw [List.getElem?_cons_succ] at h
    have ih := cd_perm r (k + 1) i e t c h
    rw [cd, bump, cd]
    have e3 : k + 1 + i = k + (i + 1) := by omega
    rw [e3] at ih
    exact (ih.append_left _).trans List.perm_middle
theorem cd_mem : ∀ (st : List (Int × Int × Nat)) (k : Nat) (y : Pr), y ∈ cd k st → ∃ i e t c s, st[i]? = some (e, t, c) ∧ s < c ∧ y = (t + e * ((s : Nat) : Int), k + i)
  | [], k, y, h => by cases h
  | (e, t, c) :: r, k, y, h => by
    rw [cd] at h
    rcases List.mem_append.mp h with h | h
    · obtain ⟨s, hs, rfl⟩ := List.mem_map.mp h
      exact ⟨0, e, t, c, s, rfl, List.mem_range.mp hs, rfl⟩
    · obtain ⟨i, e', t', c', s, h1, h2, h3⟩ := cd_mem r (k + 1) y h
      exact ⟨i + 1, e', t', c', s, h1, h2, by rw [h3]; congr 1; omega⟩
/-- the state as the sort sees it -/
def stOf (ls : List Ln) (ts : List Int) (cs : List Nat) : List (Int × Int × Nat) := (ls.map (·.e)).zip (ts.zip cs)
theorem bump_get : ∀ (st : List (Int × Int × Nat)) (i : Nat) (e t : Int) (c : Nat), st[i]? = some (e, t, c) → bump st i = st.set i (e, t + e, c - 1)
  | [], i, e, t, c, h => by simp at h
  | x :: r, 0, e, t, c, h => by simp at h; subst h; rfl
  | x :: r, i + 1, e, t, c, h => by
    rw [List.getElem?_cons_succ] at h
    rw [bump, List.set_cons_succ, bump_get r i e t c h]
theorem zip_set {α β : Type} : ∀ (xs : List α) (ys : List β) (i : Nat) (x : α) (y : β), (xs.zip ys).set i (x, y) = (xs.set i x).zip (ys.set i y)
  | [], ys, i, x, y => by simp
  | a :: xs, [], i, x, y => by cases i <;> simp
  | a :: xs, b :: ys, 0, x, y => by simp
  | a :: xs, b :: ys, i + 1, x, y => by simp [zip_set xs ys i x y]
theorem take_sorted (ls : List Ln) (he : ∀ l ∈ ls, 1 ≤ l.e) (hne : ls ≠ []) : ∀ (k : Nat) (ts : List Int) (cs : List Nat), ts.length = ls.length → cs.length = ls.length → (∀ c ∈ cs, k ≤ c) →
    (isort (cd 0 (stOf ls ts cs))).take k = nx ls k ts
  | 0, ts, cs, _, _, _ => by simp [nx]
  | k + 1, ts, cs, h1, h2, h3 => by
    have hn : ts ≠ [] := fun e => by subst e; simp at h1; exact hne (List.length_eq_zero_iff.mp h1.symm)
    have ha := am_lt hn
    have hg : (stOf ls ts cs)[am ts]? = some ((ls[am ts]'(by omega)).e, ts[am ts], cs[am ts]'(by omega)) := by
      unfold stOf
      rw [List.getElem?_eq_getElem (by simp [List.length_zip]; omega)]
      simp
    obtain ⟨c, hc⟩ : ∃ c, cs[am ts]'(by omega) = c + 1 := ⟨cs[am ts]'(by omega) - 1, by have := h3 _ (List.getElem_mem (l := cs) (n := am ts) (by omega)); omega⟩
    rw [hc] at hg
    have p := cd_perm (stOf ls ts cs) 0 (am ts) _ _ _ hg
    have hb := bump_get _ _ _ _ _ hg
    have hs : bump (stOf ls ts cs) (am ts) = stOf ls (ts.set (am ts) (mn ts + (ls[am ts]'(by omega)).e)) (cs.set (am ts) c) := by
      rw [hb, am_get hn]
      unfold stOf
      rw [zip_set, zip_set]
      congr 1
      rw [← List.getElem_map (·.e) (l := ls) (h := by simp; omega)]
      exact List.set_getElem_self _
    rw [hs] at p
    have hmin : ∀ y ∈ cd 0 (stOf ls (ts.set (am ts) (mn ts + (ls[am ts]'(by omega)).e)) (cs.set (am ts) c)), ple (ts[am ts], 0 + am ts) y := by
      intro y hy
      obtain ⟨i, e, t, c', s, q1, q2, rfl⟩ := cd_mem _ _ _ hy
      unfold stOf at q1
      rw [List.getElem?_zip_eq_some, List.getElem?_zip_eq_some] at q1
      obtain ⟨q3, q4, q5⟩ := q1
      rw [List.getElem?_map] at q3
      obtain ⟨l, hl, rfl⟩ := Option.map_eq_some_iff.mp q3
      have hl1 := he l (List.mem_of_getElem? hl)
      have hse : 0 ≤ l.e * (s : Int) := Int.mul_nonneg (by omega) (by omega)
      rw [List.getElem?_set] at q4
      rw [am_get hn]
      unfold ple plt
      simp only [Nat.zero_add]
      split at q4
      · rename_i hi
        injection q4 with q4
        subst hi
        have hl2 : ls[am ts]'(by omega) = l := by rw [List.getElem?_eq_getElem (by omega)] at hl; injection hl
        rw [hl2] at q4
        simp only at q4
        omega
      · rename_i hi
        have ti := mn_le t (List.mem_of_getElem? q4)
        intro hh
        rcases hh with hh | ⟨hh1, hh2⟩
        · omega
        · have := am_first hn hh2
          have hts : ts[i]'(Nat.lt_trans hh2 ha) = t := by
            rw [List.getElem?_eq_getElem (Nat.lt_trans hh2 ha)] at q4; injection q4
          omega
    rw [isort_congr p, isort_min hmin, List.take_succ_cons]
    rw [take_sorted ls he hne k _ _ (by simpa using h1) (by simpa using h2) (fun x hx => ?_)]
    · rw [nx, am_get hn, Nat.zero_add, List.getElem?_eq_getElem (show am ts < ls.length by omega)]
      rfl
    · rcases List.mem_or_eq_of_mem_set hx with hx | rfl
      · have := h3 x hx; omega
      · have := h3 _ (List.getElem_mem (l := cs) (n := am ts) (by omega)); omega
end Bd

namespace Bd
/-! ## all departures, minute by minute -/
def grid (len : Nat) : Int → Nat → List Pr
  | _, 0 => []
  | m, n + 1 => (List.range len).map (fun i => (m, i)) ++ grid len (m + 1) n
theorem grid_mem {len : Nat} : ∀ {n : Nat} {m : Int} {y : Pr}, y ∈ grid len m n ↔ m ≤ y.1 ∧ y.1 < m + n ∧ y.2 < len
  | 0, m, y => by simp [grid]; omega
  | n + 1, m, (u, i) => by
    rw [grid, List.mem_append, grid_mem]
    simp only [List.mem_map, List.mem_range, Prod.mk.injEq]
    constructor
    · rintro (⟨a, h1, rfl, rfl⟩ | h) <;> omega
    · intro h
      by_cases hu : u = m
      · exact .inl ⟨i, h.2.2, hu.symm, rfl⟩
      · exact .inr (by omega)
theorem grid_sorted {len : Nat} : ∀ {n : Nat} {m : Int}, (grid len m n).Pairwise plt
  | 0, m => .nil
  | n + 1, m => by
    rw [grid, List.pairwise_append]
    refine ⟨?_, grid_sorted, fun a ha b hb => ?_⟩
    · rw [List.pairwise_map]
      exact List.pairwise_lt_range.imp fun h => .inr ⟨rfl, h⟩
    · rw [List.mem_map] at ha
      obtain ⟨i, _, rfl⟩ := ha
      have := grid_mem.mp hb
      exact .inl (by show m < b.1; omega)
theorem grid_add {len : Nat} : ∀ (a : Nat) {b : Nat} {m : Int}, grid len m (a + b) = grid len m a ++ grid len (m + a) b
  | 0, b, m => by simp [grid]
  | a + 1, b, m => by
    rw [Nat.add_right_comm, grid, grid, grid_add a, List.append_assoc]
    congr 3
    omega
theorem filter_first {P : Pr → Bool} {x : Pr} : ∀ {G : List Pr}, G.Pairwise plt → x ∈ G → P x = true → (∀ y, P y = true → y = x ∨ plt x y) → G.filter P = x :: G.filter (fun y => P y && decide (y ≠ x))
  | [], _, h, _, _ => absurd h List.not_mem_nil
  | g :: G, hp, hx, hP, hm => by
    rw [List.pairwise_cons] at hp
    by_cases hg : g = x
    · subst hg
      rw [List.filter_cons_of_pos hP, List.filter_cons_of_neg (by simp)]
      congr 1
      refine List.filter_congr fun y hy => ?_
      have h1 := hp.1 y hy
      have : y ≠ g := fun e => by subst e; exact plt_irr _ h1
      simp [this]
    · have hxG : x ∈ G := (List.mem_cons.mp hx).resolve_left (fun e => hg e.symm)
      have hn : P g = false := by
        cases h : P g with
        | false => rfl
        | true => exact absurd ((hm g h).resolve_left hg) (plt_asym (hp.1 x hxG))
      rw [List.filter_cons_of_neg (by simp [hn]), List.filter_cons_of_neg (by simp [hn])]
      exact filter_first hp.2 hxG hP hm
/-- a departure, the lines' next times given -/
def due (ls : List Ln) (ts : List Int) (y : Pr) : Bool := match ls[y.2]?, ts[y.2]? with
  | some l, some t => decide (t ≤ y.1) && decide ((y.1 - t) % l.e = 0)
  | _, _ => false
theorem due_iff {ls : List Ln} {ts : List Int} {y : Pr} : due ls ts y = true ↔ ∃ l t, ls[y.2]? = some l ∧ ts[y.2]? = some t ∧ t ≤ y.1 ∧ (y.1 - t) % l.e = 0 := by
  unfold due
  split
  · rename_i l t h1 h2
    simp [h1, h2]
  · rename_i h
    simp only [Bool.false_eq_true, false_iff, not_exists, not_and]
    intro l t h1 h2
    exact (h l t h1 h2).elim
theorem step_mod {d e : Int} (he : 1 ≤ e) : (e ≤ d ∧ (d - e) % e = 0) ↔ (0 ≤ d ∧ d % e = 0 ∧ d ≠ 0) := by
  have h1 : (d - e) % e = d % e := by rw [Int.sub_emod, Int.emod_self, Int.sub_zero, Int.emod_emod]
  rw [h1]
  constructor
  · intro ⟨a, b⟩; exact ⟨by omega, b, by omega⟩
  · intro ⟨a, b, c⟩
    refine ⟨?_, b⟩
    obtain ⟨k, rfl⟩ := Int.dvd_of_emod_eq_zero b
    have : 1 ≤ k := by
      rcases Int.lt_or_le k 1 with h | h
      · exfalso
        have : k ≤ 0 := by omega
        have h2 : e * k ≤ e * 0 := Int.mul_le_mul_of_nonneg_left this (by omega)
        rw [Int.mul_zero] at h2
        omega
      · exact h
    have h2 : e * 1 ≤ e * k := Int.mul_le_mul_of_nonneg_left this (by omega)
    omega
theorem nx_take {ls : List Ln} (he : ∀ l ∈ ls, 1 ≤ l.e) {len n : Nat} {m : Int} (hlen : len = ls.length) : ∀ (k : Nat) (ts : List Int), ts.length = ls.length → (∀ t ∈ ts, m ≤ t) →
    k ≤ ((grid len m n).filter (due ls ts)).length → nx ls k ts = ((grid len m n).filter (due ls ts)).take k
  | 0, ts, _, _, _ => by simp [nx]
  | k + 1, ts, h1, h2, h3 => by
    obtain ⟨w, hw⟩ := List.exists_mem_of_length_pos (show 0 < ((grid len m n).filter (due ls ts)).length by omega)
    obtain ⟨hw1, hw2⟩ := List.mem_filter.mp hw
    obtain ⟨l0, t0, hl0, ht0, hle0, _⟩ := due_iff.mp hw2
    have hn : ts ≠ [] := fun e => by subst e; simp at ht0
    have ha := am_lt hn
    have hal : am ts < ls.length := by omega
    have hmem := am_get hn
    have hP : due ls ts (mn ts, am ts) = true := due_iff.mpr ⟨ls[am ts], ts[am ts], List.getElem?_eq_getElem hal, List.getElem?_eq_getElem ha, by show ts[am ts] ≤ mn ts; omega, by show (mn ts - ts[am ts]) % _ = 0; rw [hmem, Int.sub_self]; simp⟩
    have hx : (mn ts, am ts) ∈ grid len m n := by
      have := grid_mem.mp hw1
      have h4 := mn_le t0 (List.mem_of_getElem? ht0)
      have h5 := h2 _ (mn_mem hn)
      exact grid_mem.mpr ⟨h5, by show mn ts < m + n; omega, by show am ts < len; omega⟩
    have hmin : ∀ y, due ls ts y = true → y = (mn ts, am ts) ∨ plt (mn ts, am ts) y := by
      intro y hy
      obtain ⟨l, t, hl, ht, hle, hmod⟩ := due_iff.mp hy
      have h4 := mn_le t (List.mem_of_getElem? ht)
      by_cases h5 : mn ts < y.1
      · exact .inr (.inl h5)
      · have h6 : y.1 = mn ts := by omega
        have h7 : t = mn ts := by omega
        rcases Nat.lt_trichotomy y.2 (am ts) with h | h | h
        · have := am_first hn h
          have h8 : ts[y.2]'(Nat.lt_trans h ha) = t := by
            rw [List.getElem?_eq_getElem (Nat.lt_trans h ha)] at ht; injection ht
          omega
        · exact .inl (Prod.ext h6 h)
        · exact .inr (.inr ⟨h6.symm, h⟩)
    have hf := filter_first grid_sorted hx hP hmin
    have hl1 := he _ (List.getElem_mem hal)
    have hnext : (grid len m n).filter (fun y => due ls ts y && decide (y ≠ (mn ts, am ts))) = (grid len m n).filter (due ls (ts.set (am ts) (mn ts + ls[am ts].e))) := by
      refine List.filter_congr fun y hy => ?_
      rw [Bool.eq_iff_iff]
      simp only [Bool.and_eq_true, decide_eq_true_eq]
      rw [due_iff, due_iff]
      by_cases hy2 : y.2 = am ts
      · rw [hy2, List.getElem?_eq_getElem hal, List.getElem?_eq_getElem ha, List.getElem?_set_self ha]
        have key := step_mod (d := y.1 - mn ts) hl1
        have hne : (y ≠ (mn ts, am ts)) ↔ y.1 - mn ts ≠ 0 := by
          rw [ne_eq, Prod.ext_iff]; simp only [hy2, and_true]; omega
        rw [hne]
        simp only [Option.some.injEq, exists_and_left, exists_eq_left', hmem]
        have e1 : y.1 - (mn ts + ls[am ts].e) = y.1 - mn ts - ls[am ts].e := by omega
        rw [e1]
        constructor
        · intro ⟨⟨a, b⟩, c⟩
          have := key.mpr ⟨by omega, b, c⟩
          exact ⟨by omega, this.2⟩
        · intro ⟨a, b⟩
          have := key.mp ⟨by omega, b⟩
          exact ⟨⟨by omega, this.2.1⟩, this.2.2⟩
      · rw [List.getElem?_set_ne (fun e => hy2 e.symm)]
        constructor
        · intro h; exact h.1
        · intro h; exact ⟨h, fun e => hy2 (by rw [e])⟩
    rw [hf, List.length_cons, hnext] at h3
    rw [hf, List.take_succ_cons, hnext, nx, List.getElem?_eq_getElem hal]
    congr 1
    refine nx_take he hlen k _ (by simpa using h1) (fun t ht => ?_) (by simpa using h3)
    rcases List.mem_or_eq_of_mem_set ht with ht | rfl
    · exact h2 t ht
    · have := h2 _ (mn_mem hn)
      simp only [Option.map_some, Option.getD_some]
      omega
/-- the departures at so many minutes, in their order -/
def goesAt (ls : List Ln) (y : Pr) : Bool := (ls[y.2]?).any (goes · y.1)
def stream (ls : List Ln) (m : Int) (n : Nat) : List Pr := (grid ls.length m n).filter (goesAt ls)
theorem stream_add {ls : List Ln} {m : Int} {a b : Nat} : stream ls m (a + b) = stream ls m a ++ stream ls (m + a) b := by
  unfold stream; rw [grid_add, List.filter_append]
theorem mod_first {e f u m : Int} (he : 1 ≤ e) (h0 : 0 ≤ f) (h1 : f < e) (hu : m ≤ u) : (m + (f - m) % e ≤ u ∧ (u - (m + (f - m) % e)) % e = 0) ↔ u % e = f := by
  have hb : (u - (m + (f - m) % e)) % e = (u - f) % e := by
    have : u - (m + (f - m) % e) = u - m - (f - m) % e := by omega
    rw [this, Int.sub_emod, Int.emod_emod, ← Int.sub_emod]
    congr 1
    omega
  have hc : (u - f) % e = 0 ↔ u % e = f := by
    constructor
    · intro h
      have h2 := Int.emod_emod_of_dvd u (Int.dvd_refl e)
      have : u % e = f % e := by
        have h3 := Int.emod_eq_emod_iff_emod_sub_eq_zero (m := u) (n := e) (k := f)
        exact h3.mpr h
      rw [this, Int.emod_eq_of_lt h0 h1]
    · intro h
      have h3 := Int.emod_eq_emod_iff_emod_sub_eq_zero (m := u) (n := e) (k := f)
      exact h3.mp (by rw [h, Int.emod_eq_of_lt h0 h1])
  rw [hb, hc]
  constructor
  · exact fun h => h.2
  · intro h
    refine ⟨?_, h⟩
    have h4 : (f - m) % e = (u - m) % e := by
      rw [← h, Int.sub_emod, Int.emod_emod, ← Int.sub_emod]
    have h5 : (u - m) % e ≤ u - m := by
      have k1 := Int.emod_add_mul_ediv (u - m) e
      have k2 : 0 ≤ (u - m) / e := Int.ediv_nonneg (by omega) (by omega)
      have k3 : 0 ≤ e * ((u - m) / e) := Int.mul_nonneg (by omega) k2
      omega
    omega
theorem due_goes {ls : List Ln} (hk : ∀ l ∈ ls, l.ok) {m : Int} {y : Pr} (hm : m ≤ y.1) : due ls (ls.map (beg · m)) y = goesAt ls y := by
  rw [Bool.eq_iff_iff, due_iff]
  unfold goesAt
  rw [List.getElem?_map]
  cases h : ls[y.2]? with
  | none => simp
  | some l =>
    have o := hk l (List.mem_of_getElem? h)
    simp only [Option.some.injEq, Option.map_some, exists_and_left, exists_eq_left', Option.any_some]
    unfold beg goes
    rw [decide_eq_true_eq]
    exact mod_first o.e1 o.f0 o.fe hm
theorem stream_ne {ls : List Ln} (hk : ∀ l ∈ ls, l.ok) (hne : ls ≠ []) {m : Int} : 1 ≤ (stream ls m 60).length := by
  obtain ⟨l, r, rfl⟩ := List.exists_cons_of_ne_nil hne
  have o := hk l List.mem_cons_self
  have h1 := Int.emod_nonneg (l.f - m) (show l.e ≠ 0 by have := o.e1; omega)
  have h2 := Int.emod_lt_of_pos (l.f - m) (show 0 < l.e by have := o.e1; omega)
  have h3 := o.e60
  have : (beg l m, 0) ∈ stream (l :: r) m 60 := by
    refine List.mem_filter.mpr ⟨grid_mem.mpr ⟨?_, ?_, by simp⟩, ?_⟩
    · show m ≤ m + (l.f - m) % l.e; omega
    · show m + (l.f - m) % l.e < m + 60; omega
    · unfold goesAt
      simp only [List.getElem?_cons_zero, Option.any_some]
      unfold goes beg
      rw [decide_eq_true_eq]
      refine (mod_first o.e1 o.f0 o.fe (m := m) (by omega)).mp ⟨by omega, by rw [Int.sub_self]; simp⟩
  exact List.length_pos_of_mem this
theorem stream_len {ls : List Ln} (hk : ∀ l ∈ ls, l.ok) (hne : ls ≠ []) : ∀ (rows : Nat) {m : Int}, rows ≤ (stream ls m (60 * rows)).length
  | 0, m => by simp
  | r + 1, m => by
    rw [Nat.mul_succ, stream_add, List.length_append]
    exact Nat.add_le_add (stream_len hk hne r) (stream_ne hk hne)
theorem next_stream {ls : List Ln} (hk : ∀ l ∈ ls, l.ok) {rows n : Nat} {m : Int} (h : rows ≤ (stream ls m n).length) : nextP ls rows m = (stream ls m n).take rows := by
  have e : (grid ls.length m n).filter (due ls (ls.map (beg · m))) = stream ls m n := by
    unfold stream
    exact List.filter_congr fun y hy => due_goes hk (grid_mem.mp hy).1
  unfold nextP
  rw [nx_take (m := m) (n := n) (fun l hl => (hk l hl).e1) rfl rows _ (by simp) ?_ (by rw [e]; exact h), e]
  intro t ht
  obtain ⟨l, hl, rfl⟩ := List.mem_map.mp ht
  have := Int.emod_nonneg (l.f - m) (show l.e ≠ 0 by have := (hk l hl).e1; omega)
  show m ≤ m + (l.f - m) % l.e
  omega
end Bd

namespace Bd
/-! ## counts -/
def cb (l : Ln) (m : Int) : Int := max 0 ((m - l.f + l.e - 1) / l.e)
def cq (l : Ln) (m : Int) : Int := (m - l.f + l.e - 1) / l.e
theorem cb_eq {l : Ln} (o : l.Okz) {m : Int} (hm : 0 ≤ m) : cb l m = cq l m := by
  have := o.e1; have := o.fe; have := o.f0
  unfold cb cq
  exact Int.max_eq_right (Int.ediv_nonneg (by omega) (by omega))
theorem div_succ {x e : Int} (he : 1 ≤ e) : (x + 1) / e = x / e + (if (x + 1) % e = 0 then 1 else 0) := by
  have h1 := Int.emod_add_mul_ediv x e
  have h2 := Int.emod_nonneg x (show e ≠ 0 by omega)
  have h3 := Int.emod_lt_of_pos x (show 0 < e by omega)
  by_cases h : x % e + 1 = e
  · have : x + 1 = e * (x / e + 1) := by rw [Int.mul_add]; omega
    have k1 : (x + 1) % e = 0 := by rw [this]; exact Int.mul_emod_right _ _
    have k2 : (x + 1) / e = x / e + 1 := by rw [this]; exact Int.mul_ediv_cancel_left _ (by omega)
    rw [if_pos k1, k2]
  · have k1 : (x + 1) / e = x / e := by
      have : x + 1 = (x % e + 1) + e * (x / e) := by omega
      rw [this, Int.add_mul_ediv_left _ _ (by omega), Int.ediv_eq_zero_of_lt (by omega) (by omega)]
      omega
    have k2 : (x + 1) % e ≠ 0 := by
      have := Int.emod_add_mul_ediv (x + 1) e
      rw [k1] at this
      omega
    rw [if_neg k2, k1]; omega
theorem goes_iff {l : Ln} (o : l.Okz) {t : Int} : goes l t = true ↔ (t - l.f) % l.e = 0 := by
  unfold goes
  rw [decide_eq_true_eq]
  have h3 := Int.emod_eq_emod_iff_emod_sub_eq_zero (m := t) (n := l.e) (k := l.f)
  rw [← h3, Int.emod_eq_of_lt o.f0 o.fe]
theorem cq_succ {l : Ln} (o : l.Okz) {m : Int} : cq l (m + 1) = cq l m + (if goes l m then 1 else 0) := by
  unfold cq
  have he := o.e1
  have e1 : m + 1 - l.f + l.e - 1 = (m - l.f + l.e - 1) + 1 := by omega
  have e2 : m - l.f + l.e - 1 + 1 = m - l.f + l.e := by omega
  rw [e1, div_succ he, e2]
  congr 1
  have e3 : (m - l.f + l.e) % l.e = (m - l.f) % l.e := by rw [Int.add_emod_right]
  rw [e3]
  by_cases h : goes l m = true
  · rw [if_pos ((goes_iff o).mp h), if_pos h]
  · rw [if_neg (fun k => h ((goes_iff o).mpr k)), if_neg h]
theorem cq_zero {l : Ln} (o : l.Okz) : cq l 0 = 0 := by
  have := o.e1; have := o.fe; have := o.f0
  unfold cq
  exact Int.ediv_eq_zero_of_lt (by omega) (by omega)
theorem cq_mono {l : Ln} (o : l.Okz) {a b : Int} (h : a ≤ b) : cq l a ≤ cq l b := by
  unfold cq
  exact Int.ediv_le_ediv (by have := o.e1; omega) (by omega)
/-- how often a line departs at so many minutes from one on -/
def cnt (l : Ln) (m : Int) : Nat → Int
  | 0 => 0
  | n + 1 => (if goes l m then 1 else 0) + cnt l (m + 1) n
theorem cnt_cq {l : Ln} (o : l.Okz) : ∀ (n : Nat) (m : Int), cnt l m n = cq l (m + n) - cq l m
  | 0, m => by simp [cnt]
  | n + 1, m => by
    rw [cnt, cnt_cq o n, cq_succ o]
    have : m + 1 + (n : Int) = m + ((n + 1 : Nat) : Int) := by omega
    rw [this]
    omega
/-- the laws' count -/
def tms (l : Ln) (low high : Int) : Int := if high < low + (l.f - low) % l.e then 0 else 1 + (high - (low + (l.f - low) % l.e)) / l.e
theorem beg_cq {l : Ln} (o : l.Okz) (low : Int) : low + (l.f - low) % l.e = l.f + l.e * cq l low := by
  have he := o.e1
  unfold cq
  have h1 := Int.emod_add_mul_ediv (low - l.f + l.e - 1) l.e
  have h2 := Int.emod_nonneg (low - l.f + l.e - 1) (show l.e ≠ 0 by omega)
  have h3 := Int.emod_lt_of_pos (low - l.f + l.e - 1) (show 0 < l.e by omega)
  have h4 : (l.f - low) % l.e = l.e - 1 - (low - l.f + l.e - 1) % l.e := by
    have e1 : l.f - low = (l.e - 1 - (low - l.f + l.e - 1) % l.e) + l.e * (- ((low - l.f + l.e - 1) / l.e)) := by
      rw [Int.mul_neg]; omega
    rw [e1, Int.add_mul_emod_self_left, Int.emod_eq_of_lt (by omega) (by omega)]
  rw [h4]
  omega
theorem tms_cq {l : Ln} (o : l.Okz) {low high : Int} (h : low ≤ high + 1) : tms l low high = cq l (high + 1) - cq l low := by
  have he := o.e1
  unfold tms
  rw [beg_cq o]
  have e1 : cq l (high + 1) = (high - l.f) / l.e + 1 := by
    unfold cq
    have : high + 1 - l.f + l.e - 1 = (high - l.f) + l.e * 1 := by omega
    rw [this, Int.add_mul_ediv_left _ _ (by omega)]
  have mono := cq_mono o h
  have e2 : (high - (l.f + l.e * cq l low)) / l.e = (high - l.f) / l.e - cq l low := by
    have : high - (l.f + l.e * cq l low) = (high - l.f) + l.e * (- cq l low) := by rw [Int.mul_neg]; omega
    rw [this, Int.add_mul_ediv_left _ _ (by omega)]; rfl
  split
  · rename_i hlt
    have h5 : (high - (l.f + l.e * cq l low)) / l.e < 0 := Int.ediv_neg_of_neg_of_pos (by omega) (by omega)
    omega
  · rw [e2, e1]; omega
/-! ## of all lines -/
/-- the positions of the lines that depart at a minute -/
def pos (ls : List Ln) (t : Int) : List Nat := (List.range ls.length).filter fun i => (ls[i]?).any (goes · t)
theorem stream_succ {ls : List Ln} {m : Int} {n : Nat} : stream ls m (n + 1) = (pos ls m).map (fun i => (m, i)) ++ stream ls (m + 1) n := by
  unfold stream pos
  rw [grid, List.filter_append, List.filter_map]
  rfl
theorem pos_map {α : Type} (g : Nat → Ln → α) (t : Int) : ∀ (ls : List Ln) (k : Nat), ((List.range ls.length).filter fun i => (ls[i]?).any (goes · t)).filterMap (fun i => (ls[i]?).map (g (k + i))) = ((ls.zipIdx k).filter (fun p => goes p.1 t)).map (fun p => g p.2 p.1)
  | [], k => by simp
  | l :: ls, k => by
    have ih := pos_map g t ls (k + 1)
    rw [List.length_cons, List.range_succ_eq_map, List.zipIdx_cons, List.filter_cons]
    have e : (((List.range ls.length).map Nat.succ).filter fun i => ((l :: ls)[i]?).any (goes · t)).filterMap (fun i => ((l :: ls)[i]?).map (g (k + i))) = ((ls.zipIdx (k + 1)).filter (fun p => goes p.1 t)).map (fun p => g p.2 p.1) := by
      rw [← ih, List.filter_map, List.filterMap_map]
      congr 1
      funext i
      simp only [Function.comp_apply, List.getElem?_cons_succ, Nat.succ_eq_add_one]
      congr 2
      omega
    by_cases h : goes l t = true
    · rw [List.filter_cons_of_pos (by simpa using h), if_pos (by simpa using h), List.filterMap_cons, e]
      simp
    · rw [List.filter_cons_of_neg (by simpa using h), if_neg (by simpa using h), e]
theorem fm_congr {α β : Type} {f g : α → Option β} : ∀ {xs : List α}, (∀ x ∈ xs, f x = g x) → xs.filterMap f = xs.filterMap g
  | [], _ => rfl
  | x :: xs, h => by
    rw [List.filterMap_cons, List.filterMap_cons, h x List.mem_cons_self, fm_congr fun y hy => h y (List.mem_cons_of_mem _ hy)]
/-- the word of a minute -/
def wd (ls : List Ln) (t : Int) : List Nat := (ls.filter (goes · t)).map (·.c)
def labAt (ls : List Ln) (i : Nat) : Nat := ((ls[i]?).map (·.c)).getD 0
theorem pos_wd {ls : List Ln} {t : Int} : (pos ls t).map (labAt ls) = wd ls t := by
  have h := pos_map (fun _ l => l.c) t ls 0
  have e1 : ((ls.zipIdx 0).filter (fun p => goes p.1 t)).map (fun p => p.1.c) = wd ls t := by
    unfold wd
    have : ls = (ls.zipIdx 0).map (·.1) := by simp
    conv => rhs; rw [this, List.filter_map, List.map_map]
    rfl
  rw [e1] at h
  rw [← h]
  unfold pos
  rw [← List.filterMap_eq_map]
  refine fm_congr fun i hi => ?_
  have hi := (List.mem_filter.mp hi).2
  unfold labAt
  cases he : ls[i]? with
  | none => rw [he] at hi; cases hi
  | some l => simp [he]
theorem pos_len {ls : List Ln} {t : Int} : (pos ls t).length = (wd ls t).length := by rw [← pos_wd, List.length_map]
theorem wd_len {ls : List Ln} {t : Int} : ((wd ls t).length : Int) = (ls.map fun l => if goes l t then (1 : Int) else 0).sum := by
  unfold wd
  rw [List.length_map]
  induction ls with
  | nil => rfl
  | cons l ls ih =>
    rw [List.map_cons, List.sum_cons, List.filter_cons]
    by_cases h : goes l t = true
    · rw [if_pos h, if_pos h, List.length_cons, ← ih]; omega
    · rw [if_neg h, if_neg h, ← ih]; omega
def tot (ls : List Ln) (m : Int) : Int := (ls.map (cq · m)).sum
theorem sum_add (ls : List Ln) (f g : Ln → Int) : (ls.map fun l => f l + g l).sum = (ls.map f).sum + (ls.map g).sum := by
  induction ls with
  | nil => rfl
  | cons l ls ih => simp only [List.map_cons, List.sum_cons, ih]; omega
theorem tot_succ {ls : List Ln} (hk : ∀ l ∈ ls, l.ok) {m : Int} : tot ls (m + 1) = tot ls m + (wd ls m).length := by
  rw [wd_len]
  unfold tot
  rw [← sum_add]
  congr 1
  exact List.map_congr_left fun l hl => cq_succ (hk l hl).toOkz
theorem tot_zero {ls : List Ln} (hk : ∀ l ∈ ls, l.ok) : tot ls 0 = 0 := by
  unfold tot
  rw [List.map_congr_left (g := fun _ => (0 : Int)) fun l hl => cq_zero (hk l hl).toOkz]
  induction ls with
  | nil => rfl
  | cons l ls ih => simp only [List.map_cons, List.sum_cons, ih fun x hx => hk x (List.mem_cons_of_mem _ hx)]; rfl
theorem stream_tot {ls : List Ln} (hk : ∀ l ∈ ls, l.ok) : ∀ (n : Nat) (m : Int), ((stream ls m n).length : Int) = tot ls (m + n) - tot ls m
  | 0, m => by simp [stream, grid]
  | n + 1, m => by
    rw [stream_succ, List.length_append, List.length_map, pos_len, Int.natCast_add, stream_tot hk n, tot_succ hk]
    have : m + 1 + (n : Int) = m + ((n + 1 : Nat) : Int) := by omega
    rw [this]
    omega
theorem tot_mono {ls : List Ln} (hk : ∀ l ∈ ls, l.ok) {a b : Int} (h : a ≤ b) : tot ls a ≤ tot ls b := by
  have := stream_tot hk (b - a).toNat a
  have e : a + ((b - a).toNat : Int) = b := by omega
  rw [e] at this
  omega
end Bd

namespace Bd
/-! ## divisors, two classes at once -/
theorem bez : ∀ a b : Nat, ∃ x y : Int, (a : Int) * x + b * y = Nat.gcd a b := by
  intro a b
  induction a, b using Nat.gcd.induction with
  | H0 n => exact ⟨0, 1, by simp⟩
  | H1 m n hm ih =>
    obtain ⟨x, y, h⟩ := ih
    refine ⟨y - x * (n / m : Nat), x, ?_⟩
    rw [Nat.gcd_rec m n, ← h]
    have : (n : Int) = (n % m : Nat) + m * (n / m : Nat) := by
      have := Nat.mod_add_div n m
      omega
    conv => lhs; rw [this]
    simp only [Int.mul_sub, Int.add_mul]
    have e1 : (m : Int) * (n / m : Nat) * x = m * (x * (n / m : Nat)) := by rw [Int.mul_assoc, Int.mul_comm x]
    omega
theorem bezI (a b : Int) : ∃ x y : Int, a * x + b * y = Int.gcd a b := by
  obtain ⟨x, y, h⟩ := bez a.natAbs b.natAbs
  have k : ∀ c : Int, ∃ s : Int, (c.natAbs : Int) = c * s := fun c => by
    rcases Int.le_total 0 c with h | h
    · exact ⟨1, by omega⟩
    · exact ⟨-1, by omega⟩
  obtain ⟨s, hs⟩ := k a
  obtain ⟨r, hr⟩ := k b
  refine ⟨s * x, r * y, ?_⟩
  rw [← Int.mul_assoc, ← Int.mul_assoc, ← hs, ← hr]
  exact h
abbrev gc (a b : Int) : Int := (Int.gcd a b : Int)
theorem gc_l (a b : Int) : gc a b ∣ a := Int.gcd_dvd_left a b
theorem gc_r (a b : Int) : gc a b ∣ b := Int.gcd_dvd_right a b
theorem gc_pos {a b : Int} (h : 1 ≤ a) : 1 ≤ gc a b := by
  have : 0 < Int.gcd a b := Int.gcd_pos_of_ne_zero_left b (by omega)
  show (1 : Int) ≤ (Int.gcd a b : Int)
  omega
/-- the least common multiple, as the program tells it -/
def lcmZ (a b : Int) : Int := a / gc a b * b
theorem lcmZ_eq {a b : Int} : lcmZ a b * gc a b = a * b := by
  unfold lcmZ
  rw [Int.mul_right_comm, Int.ediv_mul_cancel (gc_l a b)]
theorem lcmZ_l {a b : Int} : a ∣ lcmZ a b := by
  obtain ⟨k, hk⟩ := gc_r a b
  refine ⟨k, ?_⟩
  unfold lcmZ
  conv => lhs; rhs; rw [hk]
  rw [← Int.mul_assoc, Int.ediv_mul_cancel (gc_l a b)]
theorem lcmZ_r {a b : Int} : b ∣ lcmZ a b := ⟨a / gc a b, by unfold lcmZ; rw [Int.mul_comm]⟩
theorem lcmZ_pos {a b : Int} (ha : 1 ≤ a) (hb : 1 ≤ b) : 1 ≤ lcmZ a b := by
  have h := gc_pos (b := b) ha
  have h1 := gc_l a b
  have h2 : 0 < a / gc a b := Int.ediv_pos_of_pos_of_dvd (by omega) (by omega) h1
  have := Int.mul_pos h2 (show 0 < b by omega)
  unfold lcmZ
  omega
theorem lcmZ_dvd {a b d : Int} (ha : 1 ≤ a) : lcmZ a b ∣ d ↔ a ∣ d ∧ b ∣ d := by
  constructor
  · intro h; exact ⟨Int.dvd_trans lcmZ_l h, Int.dvd_trans lcmZ_r h⟩
  · rintro ⟨⟨p, hp⟩, ⟨q, hq⟩⟩
    obtain ⟨x, y, h⟩ := bezI a b
    have hg := gc_pos (b := b) ha
    have h : a * x + b * y = gc a b := h
    -- d * g = d a x + d b y = b q a x + a p b y = a b (q x + p y)
    have e : d * gc a b = (lcmZ a b * (q * x + p * y)) * gc a b := by
      have e1 : lcmZ a b * (q * x + p * y) * gc a b = a * b * (q * x + p * y) := by
        rw [Int.mul_right_comm, lcmZ_eq]
      rw [e1, ← h, Int.mul_add, Int.mul_add]
      congr 1
      · conv => lhs; rw [hq]
        rw [Int.mul_comm a b, Int.mul_assoc, Int.mul_assoc, Int.mul_left_comm q]
      · conv => lhs; rw [hp]
        rw [Int.mul_assoc, Int.mul_assoc, Int.mul_left_comm p]
    exact ⟨q * x + p * y, Int.eq_of_mul_eq_mul_right (by omega) e⟩
theorem lcmZ_le {a b : Int} (ha : 1 ≤ a) (hb : 1 ≤ b) : lcmZ a b ≤ a * b := by
  have h := gc_pos (b := b) ha
  have h2 := lcmZ_pos ha hb
  rw [← lcmZ_eq]
  calc lcmZ a b = lcmZ a b * 1 := (Int.mul_one _).symm
    _ ≤ lcmZ a b * gc a b := Int.mul_le_mul_of_nonneg_left h (by omega)
theorem crt_ex {E F e f : Int} (he : 1 ≤ e) (h : (f - F) % gc E e = 0) : ∃ s : Nat, (s : Int) < e ∧ (F + E * s - f) % e = 0 := by
  obtain ⟨x, y, hb⟩ := bezI E e
  obtain ⟨k, hk⟩ := Int.dvd_of_emod_eq_zero h
  have hb : E * x + e * y = gc E e := hb
  have h0 := Int.emod_nonneg (x * k) (show e ≠ 0 by omega)
  have h1 := Int.emod_lt_of_pos (x * k) (show 0 < e by omega)
  refine ⟨(x * k % e).toNat, by omega, ?_⟩
  rw [Int.toNat_of_nonneg h0]
  have h2 := Int.emod_add_mul_ediv (x * k) e
  have e1 : F + E * (x * k % e) - f = e * (- (y * k) - E * (x * k / e)) := by
    have e2 : x * k % e = x * k - e * (x * k / e) := by omega
    have e3 : f = F + (E * x + e * y) * k := by rw [hb]; omega
    rw [e2, e3, Int.mul_sub, Int.mul_sub, Int.mul_neg, Int.add_mul, Int.mul_assoc, Int.mul_assoc, Int.mul_left_comm E e]
    omega
  rw [e1]
  exact Int.mul_emod_right _ _
theorem crt_no {E F e f t : Int} (h1 : E ∣ t - F) (h2 : e ∣ t - f) : (f - F) % gc E e = 0 := by
  have a := Int.dvd_trans (gc_l E e) h1
  have b := Int.dvd_trans (gc_r E e) h2
  have : f - F = (t - F) - (t - f) := by omega
  rw [this]
  exact Int.emod_eq_zero_of_dvd (Int.dvd_sub a b)
/-! ## the minutes at which all lines depart -/
def solP (E F : Int) (l : Ln) (s : Nat) : Bool := decide ((F + E * s - l.f) % l.e = 0)
def rowS (r : Int × Int) (l : Ln) : Option (Int × Int) := ((List.range l.e.toNat).find? (solP r.1 r.2 l)).map fun s => (lcmZ r.1 l.e, r.2 + r.1 * (s : Nat))
def rowG : List Ln → Int × Int → Option (Int × Int)
  | [], r => some r
  | l :: ls, r => (rowS r l).bind (rowG ls)
def rowF (ls : List Ln) : Option (Int × Int) := rowG ls (1, 0)
structure RowOk (r : Int × Int) : Prop where
  e1 : 1 ≤ r.1
  f0 : 0 ≤ r.2
  fe : r.2 < r.1
def inRow (r : Int × Int) (t : Int) : Prop := r.1 ∣ t - r.2
theorem goes_dvd {l : Ln} (o : l.Okz) {t : Int} : goes l t = true ↔ l.e ∣ t - l.f := by
  rw [goes_iff o]
  exact ⟨Int.dvd_of_emod_eq_zero, Int.emod_eq_zero_of_dvd⟩
theorem rowS_none {r : Int × Int} {l : Ln} (o : l.Okz) : rowS r l = none ↔ ¬ (l.f - r.2) % gc r.1 l.e = 0 := by
  unfold rowS
  rw [Option.map_eq_none_iff, List.find?_eq_none]
  constructor
  · intro h hh
    obtain ⟨s, h1, h2⟩ := crt_ex o.e1 hh
    exact h s (List.mem_range.mpr (by omega)) (by unfold solP; exact decide_eq_true h2)
  · intro h s _ hs
    have hs := of_decide_eq_true hs
    refine h (crt_no (t := r.2 + r.1 * s) ?_ (Int.dvd_of_emod_eq_zero hs))
    exact ⟨s, by omega⟩
/-- the least step lies ahead of the common multiple -/
theorem least_lt {E F : Int} {l : Ln} (o : l.Okz) (hE : 1 ≤ E) {s : Nat} (h : solP E F l s = true) (hm : ∀ u, u < s → solP E F l u = false) : E * s + E ≤ lcmZ E l.e := by
  have hg := gc_pos (b := l.e) hE
  obtain ⟨k, hk⟩ := gc_r E l.e
  have he := o.e1
  have hk1 : 1 ≤ k := by
    rcases Int.lt_or_le k 1 with h | h
    · have : gc E l.e * k ≤ gc E l.e * 0 := Int.mul_le_mul_of_nonneg_left (by omega) (by omega)
      omega
    · exact h
  have hl : lcmZ E l.e = E * k := by
    unfold lcmZ
    conv => lhs; rhs; rw [hk]
    rw [← Int.mul_assoc, Int.ediv_mul_cancel (gc_l E l.e)]
  have hs : (s : Int) < k := by
    rcases Int.lt_or_le (s : Int) k with h1 | h1
    · exact h1
    · exfalso
      have h2 := hm (s - k.toNat) (by omega)
      have h3 := of_decide_eq_true h
      have h4 : solP E F l (s - k.toNat) = true := by
        unfold solP
        refine decide_eq_true ?_
        have e1 : ((s - k.toNat : Nat) : Int) = s - k := by omega
        rw [e1, Int.mul_sub, ← hl]
        have e2 : F + (E * s - lcmZ E l.e) - l.f = (F + E * s - l.f) - lcmZ E l.e := by omega
        rw [e2]
        exact Int.emod_eq_zero_of_dvd (Int.dvd_sub (Int.dvd_of_emod_eq_zero h3) lcmZ_r)
      rw [h2] at h4
      cases h4
  rw [hl]
  have : E * ((s : Int) + 1) ≤ E * k := Int.mul_le_mul_of_nonneg_left (by omega) (by omega)
  rw [Int.mul_add] at this
  omega
theorem find_least {p : Nat → Bool} {n s : Nat} (h : (List.range n).find? p = some s) : p s = true ∧ s < n ∧ ∀ u, u < s → p u = false := by
  rw [List.find?_range_eq_some] at h
  refine ⟨h.1, List.mem_range.mp h.2.1, fun u hu => ?_⟩
  have := h.2.2 u hu
  simpa using this
theorem rowS_some {r q : Int × Int} {l : Ln} (o : l.Okz) (hr : RowOk r) (h : rowS r l = some q) : RowOk q ∧ q.1 = lcmZ r.1 l.e ∧ ∀ t, inRow q t ↔ inRow r t ∧ goes l t = true := by
  unfold rowS at h
  obtain ⟨s, hs, rfl⟩ := Option.map_eq_some_iff.mp h
  obtain ⟨h1, h2, h3⟩ := find_least hs
  have hl := least_lt o hr.e1 h1 h3
  have h4 := of_decide_eq_true h1
  have hp : 0 ≤ r.1 * (s : Int) := Int.mul_nonneg (by have := hr.e1; omega) (by omega)
  refine ⟨⟨lcmZ_pos hr.e1 o.e1, by have := hr.f0; show 0 ≤ r.2 + r.1 * (s : Int); omega, by have := hr.fe; show r.2 + r.1 * (s : Int) < lcmZ r.1 l.e; omega⟩, rfl, fun t => ?_⟩
  unfold inRow
  rw [goes_dvd o, lcmZ_dvd hr.e1]
  have d1 : r.1 ∣ r.1 * (s : Int) := ⟨s, rfl⟩
  have d2 : l.e ∣ r.2 + r.1 * (s : Int) - l.f := Int.dvd_of_emod_eq_zero h4
  constructor
  · rintro ⟨a, b⟩
    refine ⟨?_, ?_⟩
    · have := Int.dvd_add a d1
      have e : t - (r.2 + r.1 * (s : Int)) + r.1 * (s : Int) = t - r.2 := by omega
      rwa [e] at this
    · have := Int.dvd_add b d2
      have e : t - (r.2 + r.1 * (s : Int)) + (r.2 + r.1 * (s : Int) - l.f) = t - l.f := by omega
      rwa [e] at this
  · rintro ⟨a, b⟩
    refine ⟨?_, ?_⟩
    · have := Int.dvd_sub a d1
      have e : t - r.2 - r.1 * (s : Int) = t - (r.2 + r.1 * (s : Int)) := by omega
      rwa [e] at this
    · have := Int.dvd_sub b d2
      have e : t - l.f - (r.2 + r.1 * (s : Int) - l.f) = t - (r.2 + r.1 * (s : Int)) := by omega
      rwa [e] at this
theorem rowG_spec : ∀ (ls : List Ln) (r : Int × Int), (∀ l ∈ ls, l.Okz) → RowOk r →
    match rowG ls r with
    | none => ∀ t, ¬ (inRow r t ∧ ∀ l ∈ ls, goes l t = true)
    | some q => RowOk q ∧ ∀ t, inRow q t ↔ (inRow r t ∧ ∀ l ∈ ls, goes l t = true)
  | [], r, _, hr => by simpa [rowG] using hr
  | l :: ls, r, hk, hr => by
    have o := hk l List.mem_cons_self
    have hk' : ∀ x ∈ ls, x.Okz := fun x hx => hk x (List.mem_cons_of_mem _ hx)
    rw [rowG]
    cases h : rowS r l with
    | none =>
      rw [Option.bind_none]
      intro t ⟨h1, h2⟩
      have h3 := (goes_dvd o).mp (h2 l List.mem_cons_self)
      exact (rowS_none o).mp h (crt_no h1 h3)
    | some q =>
      obtain ⟨h1, _, h2⟩ := rowS_some o hr h
      have ih := rowG_spec ls q hk' h1
      rw [Option.bind_some]
      cases h3 : rowG ls q with
      | none =>
        rw [h3] at ih
        intro t ⟨h4, h5⟩
        exact ih t ⟨(h2 t).mpr ⟨h4, h5 l List.mem_cons_self⟩, fun x hx => h5 x (List.mem_cons_of_mem _ hx)⟩
      | some p =>
        rw [h3] at ih
        refine ⟨ih.1, fun t => ?_⟩
        rw [ih.2 t, h2 t, List.forall_mem_cons, and_assoc]
theorem row0 : RowOk (1, 0) := ⟨by decide, by decide, by decide⟩
theorem inRow0 (t : Int) : inRow (1, 0) t := Int.one_dvd _
theorem rowF_none {ls : List Ln} (hk : ∀ l ∈ ls, l.Okz) (h : rowF ls = none) (t : Int) : ¬ ∀ l ∈ ls, goes l t = true := by
  have := rowG_spec ls (1, 0) hk row0
  unfold rowF at h
  rw [h] at this
  exact fun k => this t ⟨inRow0 t, k⟩
theorem rowF_some {ls : List Ln} (hk : ∀ l ∈ ls, l.Okz) {q : Int × Int} (h : rowF ls = some q) : RowOk q ∧ ∀ t, inRow q t ↔ ∀ l ∈ ls, goes l t = true := by
  have := rowG_spec ls (1, 0) hk row0
  unfold rowF at h
  rw [h] at this
  refine ⟨this.1, fun t => ?_⟩
  rw [this.2 t]
  exact ⟨fun h => h.2, fun h => ⟨inRow0 t, h⟩⟩
theorem rowG_le : ∀ (ls : List Ln) (r q : Int × Int), (∀ l ∈ ls, l.ok) → RowOk r → rowG ls r = some q → q.1 ≤ r.1 * 60 ^ ls.length
  | [], r, q, _, _, h => by simp [rowG] at h; subst h; simp
  | l :: ls, r, q, hk, hr, h => by
    have o := hk l List.mem_cons_self
    rw [rowG] at h
    obtain ⟨p, h1, h2⟩ := Option.bind_eq_some_iff.mp h
    obtain ⟨k1, k2, _⟩ := rowS_some o.toOkz hr h1
    have ih := rowG_le ls p q (fun x hx => hk x (List.mem_cons_of_mem _ hx)) k1 h2
    have h3 : p.1 ≤ r.1 * 60 := by
      rw [k2]
      exact Int.le_trans (lcmZ_le hr.e1 o.e1) (Int.mul_le_mul_of_nonneg_left o.e60 (by have := hr.e1; omega))
    have h4 : (0 : Int) ≤ 60 ^ ls.length := Int.le_of_lt (Int.pow_pos (by decide))
    have h5 := Int.mul_le_mul_of_nonneg_right h3 h4
    rw [List.length_cons, Int.pow_succ, Int.mul_comm (60 ^ ls.length) 60, ← Int.mul_assoc]
    omega
/-! ## counting minutes -/
def nb (p : Int → Bool) (m : Int) : Nat → Int
  | 0 => 0
  | n + 1 => (if p m then 1 else 0) + nb p (m + 1) n
theorem cnt_nb (l : Ln) : ∀ (n : Nat) (m : Int), cnt l m n = nb (goes l) m n
  | 0, m => rfl
  | n + 1, m => by rw [cnt, nb, cnt_nb l n]
theorem nb_congr {p q : Int → Bool} : ∀ (n : Nat) (m : Int), (∀ t, m ≤ t → t < m + n → p t = q t) → nb p m n = nb q m n
  | 0, m, _ => rfl
  | n + 1, m, h => by
    rw [nb, nb, h m (by omega) (by omega), nb_congr n (m + 1) fun t h1 h2 => h t (by omega) (by omega)]
def cntR (r : Option (Int × Int)) (top : Int) : Int := match r with
  | none => 0
  | some (e, f) => if top < f then 0 else (top - f) / e + 1
theorem nb_zero {p : Int → Bool} : ∀ (n : Nat) (m : Int), (∀ t, m ≤ t → t < m + n → p t = false) → nb p m n = 0
  | 0, m, _ => rfl
  | n + 1, m, h => by
    rw [nb, h m (by omega) (by omega), nb_zero n (m + 1) fun t h1 h2 => h t (by omega) (by omega)]
    rfl
theorem cntR_nb {ls : List Ln} (hk : ∀ l ∈ ls, l.Okz) {top : Int} (h0 : 0 ≤ top + 1) : cntR (rowF ls) top = nb (fun t => ls.all (goes · t)) 0 (top + 1).toNat := by
  cases h : rowF ls with
  | none =>
    rw [nb_zero]
    · rfl
    · intro t _ _
      have := rowF_none hk h t
      cases h1 : ls.all (goes · t) with
      | false => rfl
      | true => exact absurd (List.all_eq_true.mp h1) this
  | some q =>
    obtain ⟨E, F⟩ := q
    obtain ⟨h1, h2⟩ := rowF_some hk h
    have o : (⟨0, E, F⟩ : Ln).Okz := ⟨h1.e1, h1.f0, h1.fe⟩
    have e : nb (fun t => ls.all (goes · t)) 0 (top + 1).toNat = nb (goes ⟨0, E, F⟩) 0 (top + 1).toNat := by
      refine nb_congr _ _ fun t _ _ => ?_
      rw [Bool.eq_iff_iff, List.all_eq_true, goes_dvd o]
      exact (h2 t).symm
    rw [e, ← cnt_nb, cnt_cq o, cq_zero o, Int.sub_zero]
    have e2 : (0 : Int) + ((top + 1).toNat : Int) = top + 1 := by omega
    rw [e2]
    have := h1.e1; have := h1.f0; have := h1.fe
    unfold cntR cq
    simp only
    have e3 : top + 1 - F + E - 1 = (top - F) + E * 1 := by omega
    rw [e3, Int.add_mul_ediv_left _ _ (by omega)]
    split
    · have : (top - F) / E = -1 := by
        have e4 : top - F = (top - F + E) + E * (-1) := by omega
        rw [e4, Int.add_mul_ediv_left _ _ (by omega), Int.ediv_eq_zero_of_lt (by omega) (by omega)]
        rfl
      omega
    · rfl
end Bd

namespace Bd
/-! ## classes that leave out 2 ^ n numbers one after another leave out none: by sums of powers modulo a prime -/
def pr : Nat := 19381424329554463401825601
def roots : List Nat := [1, 19381424329554463401825600, 14793389854850548000290484, 12851250440798834819606383, 2572412659349543687803345, 14793389854850548000290485, 6510665996743917042321837, 16507520056693789159070484, 6825147049309344913044296, 3372663049777041325398706, 9761789700533912217240506, 6693136289776235298687873, 15137773735249277263679234, 17460536881549999329425205, 13428720733362730918109625, 6880909909930574582432235, 11004760845140001374824958, 4276638538068510839691683, 14196494647029082260891257, 12737809205057390218070736, 14923024804569661983351158, 15889591693320232812145458, 16773447239001240721877053, 4905163579187714139739079, 7045015321181499832567976, 470016687650963694402089, 19358007430127540733534789, 16016190416669691784530129, 3423597576149506303732947, 6122683379598139153419930, 9314030705017250726515194, 14228459347340822438701673, 10392301035297174533192828, 3293837494569372894563694, 9628662031564071340528495, 3128941380143745229305775, 13450368827585193750924325, 3264952499509750238911912, 10921178923824975113242845, 8350489234313315088292586, 10144217646573116472962332, 16583792261745870549072670, 12645261261934599875736872, 5508438920309112819838027, 2271790265917061340912450, 8575801497963522361818212, 10616901733801050046193513, 16401902931814406293904347, 8594205161607238587180010, 10129378632183437769805047, 17221370390494846925384481, 16922947655771815529216067, 7578399999698717745617541, 8299201452982217707806469, 7146290553635065875566008, 10265354284054656741298352, 10180310068546646561245852, 7503950152037766120718509, 2663661865887079785101984, 6951039584865037160881695]
def okd (w : Nat) : Nat → Bool
  | 0 => true
  | n + 1 => Nat.beq (Nat.gcd (Nat.add (Nat.mod (Nat.pow w (n + 1)) pr) (Nat.sub pr 1)) pr) 1 && okd w n
def okr : Nat → List Nat → Bool
  | _, [] => true
  | i, w :: ws => Nat.beq (Nat.mod (Nat.pow w (i + 1)) pr) 1 && (okd w i && okr (i + 1) ws)
theorem roots_ok : okr 0 roots = true := by decide +kernel
theorem okd_iff {w : Nat} : ∀ {n : Nat}, okd w n = true → ∀ j, j < n → Nat.gcd (w ^ (j + 1) % pr + (pr - 1)) pr = 1
  | 0, _, j, hj => absurd hj (by omega)
  | n + 1, h, j, hj => by
    rw [okd, Bool.and_eq_true] at h
    by_cases hjn : j = n
    · subst hjn; exact Nat.eq_of_beq_eq_true h.1
    · exact okd_iff h.2 j (by omega)
theorem okr_get : ∀ {ws : List Nat} {i : Nat}, okr i ws = true → ∀ k, k < ws.length → (ws.getD k 0) ^ (i + k + 1) % pr = 1 ∧ ∀ j, j < i + k → Nat.gcd ((ws.getD k 0) ^ (j + 1) % pr + (pr - 1)) pr = 1
  | [], i, _, k, hk => absurd hk (by simp)
  | w :: ws, i, h, k, hk => by
    rw [okr, Bool.and_eq_true, Bool.and_eq_true] at h
    match k with
    | 0 => exact ⟨Nat.eq_of_beq_eq_true h.1, okd_iff h.2.1⟩
    | k + 1 =>
      have := okr_get h.2.2 k (by simpa using hk)
      rw [List.getD_cons_succ]
      have e : i + 1 + k = i + (k + 1) := by omega
      rwa [e] at this
abbrev P : Int := (pr : Int)
theorem root_ex1 {N k w : Nat} (hp : 1 < N) (a : w ^ (k + 1) % N = 1) (b : ∀ j, j < k → Nat.gcd (w ^ (j + 1) % N + (N - 1)) N = 1) :
    ∃ w : Int, (∀ n : Nat, (k : Int) + 1 ∣ n → (N : Int) ∣ 1 - w ^ n) ∧ ∀ n : Nat, ¬ (k : Int) + 1 ∣ n → Int.gcd (1 - w ^ n) (N : Int) = 1 := by
  have base : ∀ q : Nat, (w ^ ((k + 1) * q)) % N = 1 := fun q => by
    rw [Nat.pow_mul, Nat.pow_mod, a, Nat.one_pow, Nat.mod_eq_of_lt hp]
  have cong : ∀ n : Nat, (w ^ n) % N = (w ^ (n % (k + 1))) % N := fun n => by
    conv => lhs; rw [← Nat.mod_add_div n (k + 1)]
    rw [Nat.pow_add, Nat.mul_mod, base, Nat.mul_one, Nat.mod_mod]
  have toInt : ∀ n : Nat, ((w : Int) ^ n) = ((w ^ n : Nat) : Int) := fun n => by simp
  have split : ∀ n : Nat, ∃ q : Int, (1 : Int) - (w : Int) ^ n = 1 - ((w ^ n % N : Nat) : Int) + (N : Int) * q := fun n => by
    refine ⟨-((w ^ n / N : Nat) : Int), ?_⟩
    have := Nat.mod_add_div (w ^ n) N
    rw [toInt, Int.mul_neg]
    have e2 : ((w ^ n : Nat) : Int) = ((w ^ n % N : Nat) : Int) + (N : Int) * ((w ^ n / N : Nat) : Int) := by
      rw [← Int.natCast_mul, ← Int.natCast_add, this]
    omega
  refine ⟨(w : Int), fun n hn => ?_, fun n hn => ?_⟩
  · have hn' : (k + 1) ∣ n := by exact_mod_cast hn
    obtain ⟨q, rfl⟩ := hn'
    obtain ⟨q', hq⟩ := split ((k + 1) * q)
    rw [hq, base]
    exact ⟨q', by simp⟩
  · have hn' : ¬ (k + 1) ∣ n := fun h => hn (by exact_mod_cast h)
    obtain ⟨q', hq⟩ := split n
    rw [cong] at hq
    have hd : n % (k + 1) ≠ 0 := fun h => hn' (Nat.dvd_of_mod_eq_zero h)
    have hd2 := Nat.mod_lt n (show 0 < k + 1 by omega)
    have hb := b (n % (k + 1) - 1) (by omega)
    rw [show n % (k + 1) - 1 + 1 = n % (k + 1) by omega] at hb
    rw [hq, Int.mul_comm (N : Int) q', Int.gcd_add_mul_right_left]
    generalize w ^ (n % (k + 1)) % N = v at hb
    have e3 : (1 : Int) - (v : Int) = -(((v + (N - 1) : Nat) : Int) - (N : Int)) := by
      have : ((v + (N - 1) : Nat) : Int) = (v : Int) + ((N : Int) - 1) := by
        rw [Int.natCast_add, Int.natCast_sub (by omega)]; rfl
      omega
    rw [e3, Int.neg_gcd, Int.gcd_sub_self_left]
    exact hb
theorem root_ex {e : Int} (h1 : 1 ≤ e) (h2 : e ≤ 60) : ∃ w : Int, (∀ n : Nat, e ∣ n → P ∣ 1 - w ^ n) ∧ ∀ n : Nat, ¬ e ∣ n → Int.gcd (1 - w ^ n) P = 1 := by
  obtain ⟨k, rfl⟩ : ∃ k : Nat, e = (k : Int) + 1 := ⟨(e - 1).toNat, by omega⟩
  obtain ⟨a, b⟩ := okr_get roots_ok k (by show k < 60; omega)
  rw [Nat.zero_add] at a b
  exact root_ex1 (by decide) a b
/-! sums of powers -/
def val (L : List (Int × Int)) (k : Nat) : Int := (L.map fun x => x.1 * x.2 ^ k).sum
theorem val_shift (w : Int) : ∀ (L : List (Int × Int)) (k : Nat), val (L.map fun x => (x.1 * (x.2 - w), x.2)) k = val L (k + 1) - w * val L k
  | [], k => by simp [val]
  | x :: L, k => by
    have ih := val_shift w L k
    unfold val at *
    simp only [List.map_cons, List.sum_cons]
    rw [ih, Int.pow_succ, Int.mul_add, Int.mul_sub, Int.sub_mul]
    have e1 : x.1 * (x.2 ^ k * x.2) = x.1 * x.2 * x.2 ^ k := by rw [Int.mul_comm (x.2 ^ k), Int.mul_assoc]
    have e2 : w * (x.1 * x.2 ^ k) = x.1 * w * x.2 ^ k := by rw [Int.mul_left_comm, Int.mul_assoc]
    omega
theorem vanish : ∀ (m : Nat) (L : List (Int × Int)) (k : Nat), L.length = m → (∀ i, i < m → P ∣ val L (k + i)) → ∀ n, P ∣ val L (k + n)
  | 0, L, k, hl, _, n => by
    rw [List.length_eq_zero_iff.mp hl]
    exact ⟨0, rfl⟩
  | m + 1, L, k, hl, h, n => by
    obtain ⟨x, r, rfl⟩ : ∃ x r, L = x :: r := by
      cases L with
      | nil => cases hl
      | cons x r => exact ⟨x, r, rfl⟩
    have hs : ∀ j, val (r.map fun y => (y.1 * (y.2 - x.2), y.2)) j = val (x :: r) (j + 1) - x.2 * val (x :: r) j := fun j => by
      have := val_shift x.2 (x :: r) j
      rw [List.map_cons] at this
      rw [← this]
      unfold val
      simp
    have ih := vanish m (r.map fun y => (y.1 * (y.2 - x.2), y.2)) k (by simpa using hl) (fun i hi => by
      rw [hs]
      exact Int.dvd_sub (h (i + 1) (by omega)) (Int.dvd_mul_of_dvd_right (h i (by omega))))
    induction n with
    | zero => exact h 0 (by omega)
    | succ n ihn =>
      have h1 := ih n
      rw [hs] at h1
      have h2 : P ∣ x.2 * val (x :: r) (k + n) := Int.dvd_mul_of_dvd_right ihn
      have := Int.dvd_add h1 h2
      rwa [Int.sub_add_cancel] at this
def mulL (L : List (Int × Int)) (c w : Int) : List (Int × Int) := L ++ L.map fun x => (-(c * x.1), w * x.2)
theorem val_mul (c w : Int) (L : List (Int × Int)) (k : Nat) : val (mulL L c w) k = val L k * (1 - c * w ^ k) := by
  have h : ∀ L : List (Int × Int), val (L.map fun x => (-(c * x.1), w * x.2)) k = - (val L k * (c * w ^ k)) := fun L => by
    induction L with
    | nil => simp [val]
    | cons x L ih =>
      unfold val at *
      simp only [List.map_cons, List.sum_cons]
      rw [ih, Int.add_mul, Int.mul_pow]
      have : -(c * x.1) * (w ^ k * x.2 ^ k) = -(x.1 * x.2 ^ k * (c * w ^ k)) := by
        rw [Int.neg_mul]
        congr 1
        rw [Int.mul_comm c x.1, Int.mul_assoc, Int.mul_assoc, Int.mul_left_comm c, Int.mul_comm (w ^ k), Int.mul_left_comm (x.2 ^ k), Int.mul_assoc]
      omega
  have e : val (mulL L c w) k = val L k + val (L.map fun x => (-(c * x.1), w * x.2)) k := by
    unfold mulL val
    rw [List.map_append, List.sum_append]
  rw [e, h, Int.mul_sub, Int.mul_one]
  omega
theorem mulL_len (L : List (Int × Int)) (c w : Int) : (mulL L c w).length = 2 * L.length := by
  unfold mulL; simp; omega
/-- numbers of lines that depart at a minute, as a product -/
theorem prod_ex {b E : Nat} : ∀ (ls : List Ln), (∀ l ∈ ls, l.ok) → ∃ L : List (Int × Int), L.length = 2 ^ ls.length ∧
    (∀ k : Nat, (∃ l ∈ ls, goes l ((b + E * k : Nat) : Int) = true) → P ∣ val L k) ∧ (∀ k : Nat, (∀ l ∈ ls, goes l ((b + E * k : Nat) : Int) = false) → Int.gcd (val L k) P = 1)
  | [], _ => ⟨[(1, 1)], rfl, fun k ⟨l, hl, _⟩ => absurd hl List.not_mem_nil, fun k _ => by simp [val, Int.one_pow]⟩
  | l :: ls, hk => by
    obtain ⟨L, h1, h2, h3⟩ := prod_ex (b := b) (E := E) ls fun x hx => hk x (List.mem_cons_of_mem _ hx)
    have o := hk l List.mem_cons_self
    obtain ⟨w, w1, w2⟩ := root_ex o.e1 o.e60
    obtain ⟨g, hg⟩ : ∃ g : Nat, (g : Int) = l.e - l.f := ⟨(l.e - l.f).toNat, by have := o.fe; omega⟩
    have hgo : ∀ k : Nat, goes l ((b + E * k : Nat) : Int) = true ↔ l.e ∣ ((b + g + E * k : Nat) : Int) := fun k => by
      rw [goes_dvd o.toOkz]
      have : ((b + g + E * k : Nat) : Int) = ((b + E * k : Nat) : Int) - l.f + l.e := by omega
      rw [this]
      exact (Int.dvd_add_left (Int.dvd_refl _)).symm
    have hv : ∀ k : Nat, 1 - w ^ (b + g) * (w ^ E) ^ k = 1 - w ^ (b + g + E * k) := fun k => by
      rw [← Int.pow_mul, ← Int.pow_add]
    refine ⟨mulL L (w ^ (b + g)) (w ^ E), by rw [mulL_len, h1, List.length_cons, Nat.pow_succ]; omega, fun k hk => ?_, fun k hk => ?_⟩
    · rw [val_mul, hv]
      obtain ⟨x, hx, hx2⟩ := hk
      rcases List.mem_cons.mp hx with rfl | hx
      · exact Int.dvd_mul_of_dvd_right (w1 _ ((hgo k).mp hx2))
      · exact Int.dvd_mul_of_dvd_left (h2 k ⟨x, hx, hx2⟩)
    · rw [val_mul, hv]
      have a := h3 k fun x hx => hk x (List.mem_cons_of_mem _ hx)
      have c := w2 (b + g + E * k) (fun h => by
        have := (hgo k).mpr h
        rw [hk l List.mem_cons_self] at this
        cases this)
      rw [Int.gcd_eq_natAbs_gcd_natAbs, Int.natAbs_mul]
      exact Nat.Coprime.mul_left a c
theorem covering {ls : List Ln} (hk : ∀ l ∈ ls, l.ok) {b E : Int} (hb : 0 ≤ b) (hE : 0 ≤ E)
    (h : ∀ k : Nat, k < 2 ^ ls.length → ∃ l ∈ ls, goes l (b + E * k) = true) (k : Nat) : ∃ l ∈ ls, goes l (b + E * k) = true := by
  obtain ⟨b, rfl⟩ : ∃ n : Nat, b = n := ⟨b.toNat, by omega⟩
  obtain ⟨E, rfl⟩ : ∃ n : Nat, E = n := ⟨E.toNat, by omega⟩
  obtain ⟨L, h1, h2, h3⟩ := prod_ex (b := b) (E := E) ls hk
  have hc : ∀ k : Nat, (b : Int) + E * k = ((b + E * k : Nat) : Int) := fun k => by simp
  have hz := vanish _ L 0 rfl (fun i hi => h2 _ (by
    obtain ⟨l, hl, hg⟩ := h i (by omega)
    rw [hc] at hg
    rw [Nat.zero_add]
    exact ⟨l, hl, hg⟩)) k
  rw [Nat.zero_add] at hz
  cases hall : ls.any fun l => goes l (b + E * k) with
  | true =>
    obtain ⟨l, hl, hg⟩ := List.any_eq_true.mp hall
    exact ⟨l, hl, hg⟩
  | false =>
    exfalso
    have h4 := h3 k (fun l hl => by
      have := List.any_eq_false.mp hall l hl
      rw [hc] at this
      simpa using this)
    have h5 : (P.natAbs) ∣ 1 := by
      rw [← h4]
      exact Int.dvd_gcd (by simpa using hz) (by simp)
    have : P.natAbs = 1 := Nat.dvd_one.mp h5
    exact absurd this (by decide)
end Bd

namespace Bd
/-! ## sets of positions -/
def sets : Nat → List (List Nat)
  | 0 => [[]]
  | n + 1 => sets n ++ (sets n).map (· ++ [n])
theorem sets_len : ∀ n, (sets n).length = 2 ^ n
  | 0 => rfl
  | n + 1 => by rw [sets, List.length_append, List.length_map, sets_len n, Nat.pow_succ]; omega
theorem sets_lt : ∀ {n : Nat} {row : List Nat}, row ∈ sets n → ∀ i ∈ row, i < n
  | 0, row, h, i, hi => by simp [sets] at h; subst h; cases hi
  | n + 1, row, h, i, hi => by
    rw [sets] at h
    rcases List.mem_append.mp h with h | h
    · have := sets_lt h i hi; omega
    · obtain ⟨r, hr, rfl⟩ := List.mem_map.mp h
      rcases List.mem_append.mp hi with hi | hi
      · have := sets_lt hr i hi; omega
      · simp at hi; omega
theorem sets_asc : ∀ {n : Nat} {row : List Nat}, row ∈ sets n → row.Pairwise (· < ·)
  | 0, row, h => by simp [sets] at h; subst h; exact .nil
  | n + 1, row, h => by
    rw [sets] at h
    rcases List.mem_append.mp h with h | h
    · exact sets_asc h
    · obtain ⟨r, hr, rfl⟩ := List.mem_map.mp h
      rw [List.pairwise_append]
      exact ⟨sets_asc hr, by simp, fun a ha b hb => by simp at hb; subst hb; exact sets_lt hr a ha⟩
theorem sets_mem : ∀ {n : Nat} {row : List Nat}, row.Pairwise (· < ·) → (∀ i ∈ row, i < n) → row ∈ sets n
  | 0, row, _, h => by
    cases row with
    | nil => simp [sets]
    | cons a r => exact absurd (h a List.mem_cons_self) (by omega)
  | n + 1, row, hp, h => by
    rw [sets, List.mem_append]
    rcases List.eq_nil_or_concat row with rfl | ⟨r, a, rfl⟩
    · exact .inl (sets_mem .nil (by simp))
    · rw [List.concat_eq_append] at *
      rw [List.pairwise_append] at hp
      have ha : a < n + 1 := h a (by simp)
      have hr : ∀ i ∈ r, i < a := fun i hi => hp.2.2 i hi a (by simp)
      by_cases e : a = n
      · subst e
        exact .inr (List.mem_map.mpr ⟨r, sets_mem hp.1 hr, rfl⟩)
      · refine .inl (sets_mem ?_ fun i hi => ?_)
        · rw [List.pairwise_append]; exact hp
        · rcases List.mem_append.mp hi with hi | hi
          · have := hr i hi; omega
          · simp at hi; omega
theorem sets_nodup : ∀ n, (sets n).Nodup
  | 0 => by simp [sets]
  | n + 1 => by
    rw [sets, List.nodup_append]
    refine ⟨sets_nodup n, ?_, fun a ha b hb => ?_⟩
    · exact List.Pairwise.map _ (fun a b hab h => hab (List.append_cancel_right h)) (sets_nodup n)
    · obtain ⟨r, hr, rfl⟩ := List.mem_map.mp hb
      intro e
      subst e
      exact absurd (sets_lt ha n (by simp)) (by omega)
theorem pos_asc {ls : List Ln} {t : Int} : (pos ls t).Pairwise (· < ·) := List.Pairwise.filter _ List.pairwise_lt_range
theorem pos_lt {ls : List Ln} {t : Int} : ∀ i ∈ pos ls t, i < ls.length := fun i hi => List.mem_range.mp (List.mem_filter.mp hi).1
theorem pos_sets {ls : List Ln} {t : Int} : pos ls t ∈ sets ls.length := sets_mem pos_asc pos_lt
/-- sums over a list of integers -/
theorem sum_zero {α : Type} {f : α → Int} : ∀ {xs : List α}, (∀ x ∈ xs, f x = 0) → (xs.map f).sum = 0
  | [], _ => rfl
  | x :: xs, h => by rw [List.map_cons, List.sum_cons, h x List.mem_cons_self, sum_zero fun y hy => h y (List.mem_cons_of_mem _ hy)]; rfl
theorem sum_one {α : Type} [DecidableEq α] {f : α → Int} {a : α} : ∀ {xs : List α}, xs.Nodup → a ∈ xs → (∀ x ∈ xs, x ≠ a → f x = 0) → (xs.map f).sum = f a
  | [], _, h, _ => absurd h List.not_mem_nil
  | x :: xs, hn, ha, h => by
    rw [List.nodup_cons] at hn
    rw [List.map_cons, List.sum_cons]
    rcases List.mem_cons.mp ha with rfl | ha
    · rw [sum_zero fun y hy => h y (List.mem_cons_of_mem _ hy) fun e => hn.1 (e ▸ hy)]; omega
    · have : x ≠ a := fun e => hn.1 (e ▸ ha)
      rw [h x List.mem_cons_self this, sum_one hn.2 ha fun y hy => h y (List.mem_cons_of_mem _ hy)]; omega
theorem sum_map_add {α : Type} (xs : List α) (f g : α → Int) : (xs.map fun l => f l + g l).sum = (xs.map f).sum + (xs.map g).sum := by
  induction xs with
  | nil => rfl
  | cons l ls ih => simp only [List.map_cons, List.sum_cons, ih]; omega
theorem sum_map_mul {α : Type} (xs : List α) (f : α → Int) (c : Int) : (xs.map fun l => c * f l).sum = c * (xs.map f).sum := by
  induction xs with
  | nil => simp
  | cons l ls ih => simp only [List.map_cons, List.sum_cons, ih, Int.mul_add]
/-- sums over minutes -/
def ns (g : Int → Int) (m : Int) : Nat → Int
  | 0 => 0
  | n + 1 => g m + ns g (m + 1) n
theorem nb_ns (p : Int → Bool) : ∀ (n : Nat) (m : Int), nb p m n = ns (fun t => if p t then 1 else 0) m n
  | 0, _ => rfl
  | n + 1, m => by rw [nb, ns, nb_ns p n]
theorem ns_congr {p q : Int → Int} : ∀ (n : Nat) (m : Int), (∀ t, m ≤ t → t < m + n → p t = q t) → ns p m n = ns q m n
  | 0, m, _ => rfl
  | n + 1, m, h => by
    rw [ns, ns, h m (by omega) (by omega), ns_congr n (m + 1) fun t h1 h2 => h t (by omega) (by omega)]
theorem ns_add (f g : Int → Int) : ∀ (n : Nat) (m : Int), ns (fun t => f t + g t) m n = ns f m n + ns g m n
  | 0, _ => rfl
  | n + 1, m => by rw [ns, ns, ns, ns_add f g n]; omega
theorem ns_mul (c : Int) (f : Int → Int) : ∀ (n : Nat) (m : Int), ns (fun t => c * f t) m n = c * ns f m n
  | 0, _ => by simp [ns]
  | n + 1, m => by rw [ns, ns, ns_mul c f n, Int.mul_add]
theorem ns_sum {α : Type} (xs : List α) (f : α → Int → Int) (n : Nat) (m : Int) : ns (fun t => (xs.map fun x => f x t).sum) m n = (xs.map fun x => ns (f x) m n).sum := by
  induction xs with
  | nil =>
    simp only [List.map_nil, List.sum_nil]
    induction n generalizing m with
    | zero => rfl
    | succ n ih => rw [ns, ih]; rfl
  | cons x xs ih => simp only [List.map_cons, List.sum_cons]; rw [ns_add, ih]
theorem ns_one (n : Nat) (m : Int) : ns (fun _ => 1) m n = n := by
  induction n generalizing m with
  | zero => rfl
  | succ n ih => rw [ns, ih]; omega
/-! ## in and out -/
def sgn (more : List Nat) : Int := 1 - 2 * ((more.length % 2 : Nat) : Int)
theorem sgn_app (more : List Nat) (n : Nat) : sgn (more ++ [n]) = - sgn more := by
  unfold sgn
  rw [List.length_append, List.length_singleton]
  omega
theorem in_out (x : Nat → Bool) : ∀ n, ((sets n).map fun more => sgn more * (if more.all x then 1 else 0)).sum = if (List.range n).all (fun i => !x i) then 1 else 0
  | 0 => by simp [sets, sgn]
  | n + 1 => by
    rw [sets, List.map_append, List.sum_append, in_out x n, List.map_map]
    have e : ((sets n).map ((fun more => sgn more * (if more.all x then 1 else 0)) ∘ fun r => r ++ [n])) = (sets n).map fun more => (if x n then -1 else 0) * (sgn more * (if more.all x then 1 else 0)) := by
      refine List.map_congr_left fun more _ => ?_
      simp only [Function.comp_apply, sgn_app, List.all_append, List.all_cons, List.all_nil, Bool.and_true]
      cases hx : x n <;> cases hm : more.all x <;> simp
    rw [e, sum_map_mul, in_out x n, List.range_succ, List.all_append]
    cases hx : x n <;> cases hm : (List.range n).all (fun i => !x i) <;> simp [hx]
/-! ## just the lines at some positions -/
def goAt (ls : List Ln) (t : Int) (i : Nat) : Bool := (ls[i]?).any (goes · t)
theorem mem_pos {ls : List Ln} {t : Int} {i : Nat} : i ∈ pos ls t ↔ goAt ls t i = true := by
  unfold pos
  rw [List.mem_filter, List.mem_range]
  constructor
  · exact fun h => h.2
  · intro h
    refine ⟨?_, h⟩
    unfold goAt at h
    cases e : ls[i]? with
    | none => rw [e] at h; cases h
    | some l => exact (List.getElem?_eq_some_iff.mp e).1
def othersOf (n : Nat) (row : List Nat) : List Nat := (List.range n).filter fun i => decide (i ∉ row)
theorem asc_ext : ∀ {a b : List Nat}, a.Pairwise (· < ·) → b.Pairwise (· < ·) → (∀ i, i ∈ a ↔ i ∈ b) → a = b
  | [], [], _, _, _ => rfl
  | [], y :: b, _, _, h => absurd ((h y).mpr List.mem_cons_self) List.not_mem_nil
  | x :: a, [], _, _, h => absurd ((h x).mp List.mem_cons_self) List.not_mem_nil
  | x :: a, y :: b, ha, hb, h => by
    rw [List.pairwise_cons] at ha hb
    have hxy : x = y := by
      rcases List.mem_cons.mp ((h x).mp List.mem_cons_self) with e | e
      · exact e
      · rcases List.mem_cons.mp ((h y).mpr List.mem_cons_self) with e' | e'
        · exact e'.symm
        · have := hb.1 x e; have := ha.1 y e'; omega
    subst hxy
    congr 1
    refine asc_ext ha.2 hb.2 fun i => ?_
    constructor
    · intro hi
      rcases List.mem_cons.mp ((h i).mp (List.mem_cons_of_mem _ hi)) with e | e
      · have := ha.1 i hi; omega
      · exact e
    · intro hi
      rcases List.mem_cons.mp ((h i).mpr (List.mem_cons_of_mem _ hi)) with e | e
      · have := hb.1 i hi; omega
      · exact e
theorem just_iff {ls : List Ln} {t : Int} {row : List Nat} (hr : row ∈ sets ls.length) :
    pos ls t = row ↔ row.all (goAt ls t) = true ∧ (othersOf ls.length row).all (fun i => !goAt ls t i) = true := by
  rw [List.all_eq_true, List.all_eq_true]
  unfold othersOf
  constructor
  · rintro rfl
    refine ⟨fun i hi => mem_pos.mp hi, fun i hi => ?_⟩
    have := of_decide_eq_true (List.mem_filter.mp hi).2
    rw [mem_pos] at this
    simpa using this
  · rintro ⟨h1, h2⟩
    refine asc_ext pos_asc (sets_asc hr) fun i => ?_
    rw [mem_pos]
    constructor
    · intro h
      by_cases hi : i ∈ row
      · exact hi
      · have := h2 i (List.mem_filter.mpr ⟨List.mem_range.mpr (pos_lt i (mem_pos.mpr h)), decide_eq_true hi⟩)
        rw [h] at this
        cases this
    · exact fun h => h1 i h
/-- the lines at positions -/
def pick (ls : List Ln) (row : List Nat) : List Ln := row.filterMap fun i => ls[i]?
theorem pick_all {ls : List Ln} {t : Int} : ∀ {row : List Nat}, (∀ i ∈ row, i < ls.length) → (pick ls row).all (goes · t) = row.all (goAt ls t)
  | [], _ => rfl
  | i :: row, h => by
    have hi := h i List.mem_cons_self
    have ih := pick_all (ls := ls) (t := t) (row := row) fun j hj => h j (List.mem_cons_of_mem _ hj)
    unfold pick at *
    rw [List.filterMap_cons, List.getElem?_eq_getElem hi, List.all_cons, List.all_cons, ih]
    congr 1
    unfold goAt
    rw [List.getElem?_eq_getElem hi]
    rfl
theorem pick_ok {ls : List Ln} {Q : Ln → Prop} (h : ∀ l ∈ ls, Q l) {row : List Nat} : ∀ l ∈ pick ls row, Q l := fun l hl => by
  obtain ⟨i, _, hi⟩ := List.mem_filterMap.mp hl
  exact h l (List.mem_of_getElem? hi)
theorem pick_append (ls : List Ln) (a b : List Nat) : pick ls (a ++ b) = pick ls a ++ pick ls b := List.filterMap_append
/-- how many minutes, by sets -/
def cntW (ls : List Ln) (row : List Nat) (top : Int) : Int :=
  ((sets (othersOf ls.length row).length).map fun more => sgn more * cntR (rowF (pick ls row ++ pick ls (more.map fun j => (othersOf ls.length row).getD j 0))) top).sum
def nJust (ls : List Ln) (row : List Nat) (top : Int) : Int := nb (fun t => decide (pos ls t = row)) 0 (top + 1).toNat
theorem all_range (o : List Nat) (p : Nat → Bool) : (List.range o.length).all (fun j => p (o.getD j 0)) = o.all p := by
  rw [Bool.eq_iff_iff, List.all_eq_true, List.all_eq_true]
  constructor
  · intro h i hi
    obtain ⟨j, hj, rfl⟩ := List.mem_iff_getElem.mp hi
    have := h j (List.mem_range.mpr hj)
    rwa [List.getD_eq_getElem?_getD, List.getElem?_eq_getElem hj] at this
  · intro h j hj
    have hj := List.mem_range.mp hj
    rw [List.getD_eq_getElem?_getD, List.getElem?_eq_getElem hj]
    exact h _ (List.getElem_mem hj)
theorem cntW_just {ls : List Ln} (hk : ∀ l ∈ ls, l.Okz) {row : List Nat} (hr : row ∈ sets ls.length) {top : Int} (h0 : 0 ≤ top + 1) : cntW ls row top = nJust ls row top := by
  unfold cntW nJust
  have ho : ∀ i ∈ othersOf ls.length row, i < ls.length := fun i hi => List.mem_range.mp (List.mem_filter.mp hi).1
  generalize hoo : othersOf ls.length row = o at ho
  have e : ∀ more ∈ sets o.length, sgn more * cntR (rowF (pick ls row ++ pick ls (more.map fun j => o.getD j 0))) top =
      ns (fun t => (if row.all (goAt ls t) then 1 else 0) * (sgn more * (if more.all (fun j => goAt ls t (o.getD j 0)) then 1 else 0))) 0 (top + 1).toNat := by
    intro more hm
    have hlt : ∀ i ∈ more.map (fun j => o.getD j 0), i < ls.length := fun i hi => by
      obtain ⟨j, hj, rfl⟩ := List.mem_map.mp hi
      have := sets_lt hm j hj
      rw [List.getD_eq_getElem?_getD, List.getElem?_eq_getElem this]
      exact ho _ (List.getElem_mem this)
    rw [← pick_append, cntR_nb (pick_ok hk) h0, nb_ns, ← ns_mul]
    refine ns_congr _ _ fun t _ _ => ?_
    rw [pick_all (fun i hi => ?_), List.all_append, List.all_map]
    · cases row.all (goAt ls t) <;> simp [Function.comp_def]
    · rcases List.mem_append.mp hi with hi | hi
      · exact sets_lt hr i hi
      · exact hlt i hi
  rw [List.map_congr_left e, ← ns_sum, nb_ns]
  refine ns_congr _ _ fun t _ _ => ?_
  rw [sum_map_mul, in_out (fun j => goAt ls t (o.getD j 0)), all_range o (fun i => !goAt ls t i)]
  have hj := just_iff (ls := ls) (t := t) hr
  rw [hoo] at hj
  by_cases h : pos ls t = row
  · obtain ⟨a, b⟩ := hj.mp h
    rw [a, b, decide_eq_true h]
    rfl
  · rw [decide_eq_false h]
    cases a : row.all (goAt ls t) with
    | false => simp
    | true =>
      cases b : o.all (fun i => !goAt ls t i) with
      | false => simp
      | true => exact absurd (hj.mpr ⟨a, b⟩) h
end Bd

namespace Bd
/-! ## the first minutes -/
def begR (r : Int × Int) (low : Int) : Int := low + (r.2 - low) % r.1
theorem begR_in {r : Int × Int} (h : RowOk r) (low : Int) : inRow r (begR r low) ∧ low ≤ begR r low ∧ begR r low < low + r.1 := by
  have h1 := Int.emod_nonneg (r.2 - low) (show r.1 ≠ 0 by have := h.e1; omega)
  have h2 := Int.emod_lt_of_pos (r.2 - low) (show 0 < r.1 by have := h.e1; omega)
  have h3 := Int.emod_add_mul_ediv (r.2 - low) r.1
  unfold begR inRow
  refine ⟨⟨-((r.2 - low) / r.1), ?_⟩, by omega, by omega⟩
  rw [Int.mul_neg]
  omega
theorem inRow_step {r : Int × Int} {t : Int} (h : inRow r t) (s : Int) : inRow r (t + r.1 * s) := by
  unfold inRow at *
  have : t + r.1 * s - r.2 = t - r.2 + r.1 * s := by omega
  rw [this]
  exact Int.dvd_add h ⟨s, rfl⟩
theorem begR_all {r : Int × Int} (h : RowOk r) {low u : Int} (hu : low ≤ u) (hi : inRow r u) : ∃ k : Nat, u = begR r low + r.1 * k := by
  obtain ⟨h1, h2, h3⟩ := begR_in h low
  have hd : r.1 ∣ u - begR r low := by
    unfold inRow at *
    have := Int.dvd_sub hi h1
    have e : u - r.2 - (begR r low - r.2) = u - begR r low := by omega
    rwa [e] at this
  obtain ⟨k, hk⟩ := hd
  have hE := h.e1
  have : 0 ≤ k := by
    rcases Int.lt_or_le k 0 with h | h
    · exfalso
      have h4 : r.1 * k ≤ r.1 * (-1) := Int.mul_le_mul_of_nonneg_left (by omega) (by omega)
      omega
    · exact h
  exact ⟨k.toNat, by rw [Int.toNat_of_nonneg this]; omega⟩
def firstJ (ls : List Ln) (row : List Nat) (low : Int) : Option Int := (rowF (pick ls row)).bind fun r =>
  ((List.range (2 ^ (ls.length - row.length))).find? fun s : Nat => decide (pos ls (begR r low + r.1 * s) = row)).map fun s => begR r low + r.1 * (s : Nat)
theorem others_len {n : Nat} {row : List Nat} (hr : row ∈ sets n) : (othersOf n row).length = n - row.length := by
  have h1 : (List.range n).filter (fun i => decide (i ∈ row)) = row := by
    refine asc_ext (List.Pairwise.filter _ List.pairwise_lt_range) (sets_asc hr) fun i => ?_
    rw [List.mem_filter, List.mem_range, decide_eq_true_eq]
    exact ⟨fun h => h.2, fun h => ⟨sets_lt hr i h, h⟩⟩
  have h2 := List.length_eq_countP_add_countP (l := List.range n) (fun i => decide (i ∈ row))
  rw [List.countP_eq_length_filter, List.countP_eq_length_filter, h1, List.length_range] at h2
  have h3 : (List.range n).filter (fun i => decide ¬(decide (i ∈ row) = true)) = othersOf n row := by
    unfold othersOf
    refine List.filter_congr fun i _ => ?_
    simp
  rw [h3] at h2
  omega
theorem pos_go {ls : List Ln} {row : List Nat} (hr : row ∈ sets ls.length) {t : Int} (h : pos ls t = row) : ∀ l ∈ pick ls row, goes l t = true := by
  have := (just_iff hr).mp h
  have h1 := pick_all (ls := ls) (t := t) (row := row) (fun i hi => sets_lt hr i hi)
  rw [this.1, List.all_eq_true] at h1
  exact h1
theorem firstJ_some {ls : List Ln} (hk : ∀ l ∈ ls, l.ok) {row : List Nat} (hr : row ∈ sets ls.length) {low t : Int} (h : firstJ ls row low = some t) :
    low ≤ t ∧ pos ls t = row ∧ ∀ u, low ≤ u → u < t → pos ls u ≠ row := by
  unfold firstJ at h
  obtain ⟨r, hr1, h⟩ := Option.bind_eq_some_iff.mp h
  obtain ⟨s, hs, rfl⟩ := Option.map_eq_some_iff.mp h
  obtain ⟨h1, h2, h3⟩ := find_least hs
  obtain ⟨k1, k2⟩ := rowF_some (pick_ok fun l hl => (hk l hl).toOkz) hr1
  obtain ⟨b1, b2, b3⟩ := begR_in k1 low
  have hE := k1.e1
  have hp : 0 ≤ r.1 * (s : Int) := Int.mul_nonneg (by omega) (by omega)
  refine ⟨by omega, of_decide_eq_true h1, fun u hu1 hu2 hu3 => ?_⟩
  obtain ⟨k, rfl⟩ := begR_all k1 hu1 ((k2 u).mpr (pos_go hr hu3))
  have : k < s := by
    rcases Nat.lt_or_ge k s with h | h
    · exact h
    · exfalso
      have : r.1 * (s : Int) ≤ r.1 * (k : Int) := Int.mul_le_mul_of_nonneg_left (by omega) (by omega)
      omega
  have h4 := h3 k this
  exact absurd hu3 (of_decide_eq_false h4)
theorem firstJ_none {ls : List Ln} (hk : ∀ l ∈ ls, l.ok) {row : List Nat} (hr : row ∈ sets ls.length) {low : Int} (h0 : 0 ≤ low) (h : firstJ ls row low = none) :
    ∀ u, low ≤ u → pos ls u ≠ row := by
  intro u hu hp
  unfold firstJ at h
  have hgo := pos_go hr hp
  cases hr1 : rowF (pick ls row) with
  | none => exact rowF_none (pick_ok fun l hl => (hk l hl).toOkz) hr1 u hgo
  | some r =>
    rw [hr1, Option.bind_some, Option.map_eq_none_iff, List.find?_eq_none] at h
    obtain ⟨k1, k2⟩ := rowF_some (pick_ok fun l hl => (hk l hl).toOkz) hr1
    obtain ⟨b1, b2, b3⟩ := begR_in k1 low
    obtain ⟨k, rfl⟩ := begR_all k1 hu ((k2 u).mpr hgo)
    have hol : ∀ i ∈ othersOf ls.length row, i < ls.length := fun i hi => List.mem_range.mp (List.mem_filter.mp hi).1
    have hlen : (pick ls (othersOf ls.length row)).length = ls.length - row.length := by
      rw [← others_len hr]
      unfold pick
      generalize othersOf ls.length row = o at hol
      induction o with
      | nil => rfl
      | cons i o ih =>
        have hi := hol i List.mem_cons_self
        rw [List.filterMap_cons, List.getElem?_eq_getElem hi, List.length_cons, List.length_cons, ih fun j hj => hol j (List.mem_cons_of_mem _ hj)]
    have hall : ∀ s : Nat, row.all (goAt ls (begR r low + r.1 * s)) = true := fun s => by
      rw [← pick_all (fun i hi => sets_lt hr i hi), List.all_eq_true]
      exact (k2 _).mp (inRow_step b1 s)
    have hcov := covering (ls := pick ls (othersOf ls.length row)) (pick_ok hk) (b := begR r low) (E := r.1) (by omega) (by have := k1.e1; omega) (fun s hs => by
      rw [hlen] at hs
      have h1 := h s (List.mem_range.mpr hs)
      have h2 : ¬ pos ls (begR r low + r.1 * s) = row := by simpa using h1
      rw [just_iff hr] at h2
      have h3 : ¬ (othersOf ls.length row).all (fun i => !goAt ls (begR r low + r.1 * s) i) = true := fun h => h2 ⟨hall s, h⟩
      rw [List.all_eq_true] at h3
      have : ∃ i ∈ othersOf ls.length row, goAt ls (begR r low + r.1 * s) i = true := by
        refine Classical.byContradiction fun hn => h3 fun i hi => ?_
        cases hg : goAt ls (begR r low + r.1 * s) i with
        | false => rfl
        | true => exact absurd ⟨i, hi, hg⟩ hn
      obtain ⟨i, hi, hg⟩ := this
      have hil := hol i hi
      refine ⟨ls[i], List.mem_filterMap.mpr ⟨i, hi, List.getElem?_eq_getElem hil⟩, ?_⟩
      unfold goAt at hg
      rw [List.getElem?_eq_getElem hil] at hg
      exact hg) k
    obtain ⟨l, hl, hg⟩ := hcov
    obtain ⟨i, hi, hi2⟩ := List.mem_filterMap.mp hl
    have h5 := ((just_iff hr).mp hp).2
    rw [List.all_eq_true] at h5
    have h6 := h5 i hi
    have : goAt ls (begR r low + r.1 * k) i = true := by unfold goAt; rw [hi2]; exact hg
    rw [this] at h6
    cases h6
/-- the first minute at which all depart -/
def nextM (ls : List Ln) (m : Int) : Option Int := (rowF ls).map fun r => begR r m
/-! ## counts, stretch by stretch -/
theorem nb_add (p : Int → Bool) : ∀ (a b : Nat) (m : Int), nb p m (a + b) = nb p m a + nb p (m + a) b
  | 0, b, m => by simp [nb]
  | a + 1, b, m => by
    rw [Nat.add_right_comm, nb, nb, nb_add p a b]
    have : m + 1 + (a : Int) = m + ((a + 1 : Nat) : Int) := by omega
    rw [this]
    omega
theorem nb_nonneg (p : Int → Bool) : ∀ (n : Nat) (m : Int), 0 ≤ nb p m n
  | 0, m => by simp [nb]
  | n + 1, m => by
    have := nb_nonneg p n (m + 1)
    rw [nb]
    split <;> omega
theorem nb_pos {p : Int → Bool} : ∀ {n : Nat} {m : Int}, 0 < nb p m n ↔ ∃ t, m ≤ t ∧ t < m + n ∧ p t = true
  | 0, m => by simp [nb]; omega
  | n + 1, m => by
    rw [nb]
    have ih := nb_pos (p := p) (n := n) (m := m + 1)
    have h0 := nb_nonneg p n (m + 1)
    cases hp : p m with
    | true =>
      simp only [if_true]
      exact ⟨fun _ => ⟨m, by omega, by omega, hp⟩, fun _ => by omega⟩
    | false =>
      simp only [Bool.false_eq_true, if_false, Int.zero_add]
      rw [ih]
      constructor
      · rintro ⟨t, h1, h2, h3⟩; exact ⟨t, by omega, by omega, h3⟩
      · rintro ⟨t, h1, h2, h3⟩
        have : t ≠ m := fun e => by subst e; rw [hp] at h3; cases h3
        exact ⟨t, by omega, by omega, h3⟩
/-- how many there are up to a minute -/
def upTo (p : Int → Bool) (top : Int) : Int := nb p 0 (top + 1).toNat
theorem upTo_same {p : Int → Bool} {a b : Int} (ha : -1 ≤ a) (hab : a ≤ b) (h : ∀ t, a < t → t ≤ b → p t = false) : upTo p b = upTo p a := by
  unfold upTo
  have e : (b + 1).toNat = (a + 1).toNat + (b - a).toNat := by omega
  rw [e, nb_add, nb_zero (b - a).toNat (0 + ((a + 1).toNat : Int)) fun t h1 h2 => h t (by omega) (by omega)]
  omega
theorem upTo_next {p : Int → Bool} {a b : Int} (ha : -1 ≤ a) (hab : a < b) (h : ∀ t, a < t → t < b → p t = false) (hb : p b = true) : upTo p b = upTo p a + 1 := by
  unfold upTo
  have e : (b + 1).toNat = (a + 1).toNat + ((b - 1 - a).toNat + 1) := by omega
  rw [e, nb_add, nb_add, nb_zero (b - 1 - a).toNat (0 + ((a + 1).toNat : Int)) fun t h1 h2 => h t (by omega) (by omega)]
  have : (0 : Int) + ((a + 1).toNat : Int) + ((b - 1 - a).toNat : Int) = b := by omega
  rw [nb, nb, this, hb]
  simp
theorem upTo_neg (p : Int → Bool) : upTo p (-1) = 0 := rfl
theorem nJust_up (ls : List Ln) (row : List Nat) (top : Int) : nJust ls row top = upTo (fun t => decide (pos ls t = row)) top := rfl
/-- how many minutes there are at which just so many lines depart -/
def cntM (ls : List Ln) (many : Nat) (top : Int) : Int := (((sets ls.length).filter fun row => decide (row.length = many)).map fun row => cntW ls row top).sum
theorem cntM_eq {ls : List Ln} (hk : ∀ l ∈ ls, l.Okz) {many : Nat} {top : Int} (h0 : 0 ≤ top + 1) : cntM ls many top = upTo (fun t => decide ((pos ls t).length = many)) top := by
  unfold cntM upTo
  have e : ∀ row ∈ (sets ls.length).filter (fun row => decide (row.length = many)), cntW ls row top = ns (fun t => if pos ls t = row then 1 else 0) 0 (top + 1).toNat := fun row hr => by
    rw [cntW_just hk (List.mem_filter.mp hr).1 h0]
    unfold nJust
    rw [nb_ns]
    refine ns_congr _ _ fun t _ _ => ?_
    simp
  rw [List.map_congr_left e, ← ns_sum, nb_ns]
  refine ns_congr _ _ fun t _ _ => ?_
  by_cases h : (pos ls t).length = many
  · rw [if_pos (decide_eq_true h), sum_one (f := fun row => if pos ls t = row then 1 else 0) (a := pos ls t) (List.Pairwise.filter _ (sets_nodup _)) (List.mem_filter.mpr ⟨pos_sets, decide_eq_true h⟩) (fun x _ hx => if_neg (fun e : pos ls t = x => hx e.symm)), if_pos rfl]
  · rw [if_neg (by simpa using h)]
    exact sum_zero fun x hx => if_neg fun e => by
      subst e
      exact h (of_decide_eq_true (List.mem_filter.mp hx).2)
/-- the first minute at which just so many depart -/
def minO : List Int → Option Int
  | [] => none
  | x :: r => some (r.foldl min x)
def nextW (ls : List Ln) (many : Nat) (m : Int) : Option Int := minO ((((sets ls.length).filter fun row => decide (row.length = many)).map fun row => firstJ ls row m).filterMap id)
theorem foldl_min : ∀ (r : List Int) (x : Int), (r.foldl min x = x ∨ r.foldl min x ∈ r) ∧ r.foldl min x ≤ x ∧ ∀ y ∈ r, r.foldl min x ≤ y
  | [], x => by simp
  | y :: r, x => by
    have h := foldl_min r (min x y)
    rw [List.foldl_cons]
    refine ⟨?_, ?_, fun z hz => ?_⟩
    · rcases h.1 with h1 | h1
      · rw [h1]
        rcases Int.le_total x y with k | k
        · rw [Int.min_eq_left k]; exact .inl rfl
        · rw [Int.min_eq_right k]; exact .inr List.mem_cons_self
      · exact .inr (List.mem_cons_of_mem _ h1)
    · have := Int.min_le_left x y; omega
    · rcases List.mem_cons.mp hz with rfl | hz
      · have := Int.min_le_right x z; omega
      · exact h.2.2 z hz
theorem minO_some {xs : List Int} {m : Int} (h : minO xs = some m) : m ∈ xs ∧ ∀ y ∈ xs, m ≤ y := by
  cases xs with
  | nil => cases h
  | cons x r =>
    simp only [minO, Option.some.injEq] at h
    obtain ⟨a, b, c⟩ := foldl_min r x
    rw [h] at a b c
    refine ⟨?_, fun y hy => ?_⟩
    · rcases a with rfl | a
      · exact List.mem_cons_self
      · exact List.mem_cons_of_mem _ a
    · rcases List.mem_cons.mp hy with rfl | hy
      · exact b
      · exact c y hy
theorem nextW_some {ls : List Ln} (hk : ∀ l ∈ ls, l.ok) {many : Nat} {low t : Int} (h0 : 0 ≤ low) (h : nextW ls many low = some t) :
    low ≤ t ∧ (pos ls t).length = many ∧ ∀ u, low ≤ u → u < t → (pos ls u).length ≠ many := by
  obtain ⟨h1, h2⟩ := minO_some h
  obtain ⟨o, ho, ho2⟩ := List.mem_filterMap.mp h1
  simp only [id] at ho2
  subst ho2
  obtain ⟨row, hr, hr2⟩ := List.mem_map.mp ho
  obtain ⟨hs, hm⟩ := List.mem_filter.mp hr
  obtain ⟨k1, k2, k3⟩ := firstJ_some hk hs hr2
  refine ⟨k1, by rw [k2]; exact of_decide_eq_true hm, fun u hu1 hu2 hu3 => ?_⟩
  cases hf : firstJ ls (pos ls u) low with
  | none => exact firstJ_none hk pos_sets h0 hf u hu1 rfl
  | some v =>
    obtain ⟨q1, q2, q3⟩ := firstJ_some hk pos_sets hf
    have hv : v ≤ u := by
      rcases Int.lt_or_le u v with h | h
      · exact absurd rfl (q3 u hu1 h)
      · exact h
    have := h2 v (List.mem_filterMap.mpr ⟨some v, List.mem_map.mpr ⟨pos ls u, List.mem_filter.mpr ⟨pos_sets, decide_eq_true hu3⟩, hf⟩, rfl⟩)
    omega
theorem nextW_none {ls : List Ln} (hk : ∀ l ∈ ls, l.ok) {many : Nat} {low : Int} (h0 : 0 ≤ low) (h : nextW ls many low = none) :
    ∀ u, low ≤ u → (pos ls u).length ≠ many := by
  intro u hu hm
  have he : (((sets ls.length).filter fun row => decide (row.length = many)).map fun row => firstJ ls row low).filterMap id = [] := by
    unfold nextW at h
    cases hx : (((sets ls.length).filter fun row => decide (row.length = many)).map fun row => firstJ ls row low).filterMap id with
    | nil => rfl
    | cons a r => rw [hx] at h; cases h
  cases hf : firstJ ls (pos ls u) low with
  | none => exact firstJ_none hk pos_sets h0 hf u hu rfl
  | some v =>
    have : v ∈ (((sets ls.length).filter fun row => decide (row.length = many)).map fun row => firstJ ls row low).filterMap id :=
      List.mem_filterMap.mpr ⟨some v, List.mem_map.mpr ⟨pos ls u, List.mem_filter.mpr ⟨pos_sets, decide_eq_true hm⟩, hf⟩, rfl⟩
    rw [he] at this
    cases this
end Bd

namespace Bd
/-! ## boards, and boards that are the same -/
def bdP (ls : List Ln) (rows : Nat) (m : Int) : List (Nat × Int) := (nextP ls rows m).map fun p => (labAt ls p.2, p.1 - m)
def rowsOf (ls : List Ln) (m0 : Int) : Int → Nat → List (Nat × Int)
  | _, 0 => []
  | m, n + 1 => (wd ls m).map (fun c => (c, m - m0)) ++ rowsOf ls m0 (m + 1) n
theorem rowsOf_stream {ls : List Ln} {m0 : Int} : ∀ (n : Nat) (m : Int), (stream ls m n).map (fun p => (labAt ls p.2, p.1 - m0)) = rowsOf ls m0 m n
  | 0, m => by simp [stream, grid, rowsOf]
  | n + 1, m => by
    rw [stream_succ, List.map_append, rowsOf_stream n, rowsOf, ← pos_wd, List.map_map, List.map_map]
    rfl
theorem bdP_rows {ls : List Ln} (hk : ∀ l ∈ ls, l.ok) (hne : ls ≠ []) {rows : Nat} {m : Int} : bdP ls rows m = (rowsOf ls m m (60 * rows)).take rows := by
  unfold bdP
  rw [next_stream hk (stream_len hk hne rows), List.map_take, rowsOf_stream]
theorem take_same {α : Type} {r r' : Nat} {X Y : List α} (h : X.take r = Y.take r) (hr : r' ≤ r) : X.take r' = Y.take r' := by
  have := congrArg (List.take r') h
  rwa [List.take_take, List.take_take, Nat.min_eq_left hr] at this
theorem rows_same {a b : List Ln} {r : Nat} {m0 : Int} : ∀ (n : Nat) (m : Int) (r' : Nat), r' ≤ r → (∀ t, m ≤ t → t < m + n → (wd a t).take r = (wd b t).take r) →
    (rowsOf a m0 m n).take r' = (rowsOf b m0 m n).take r'
  | 0, m, r', _, _ => rfl
  | n + 1, m, r', hr, h => by
    have h0 := take_same (h m (by omega) (by omega)) hr
    rw [rowsOf, rowsOf, List.take_append, List.take_append, ← List.map_take, ← List.map_take, h0]
    congr 1
    have hl : r' - ((wd a m).map fun c => (c, m - m0)).length = r' - ((wd b m).map fun c => (c, m - m0)).length := by
      have := congrArg List.length h0
      rw [List.length_take, List.length_take] at this
      rw [List.length_map, List.length_map]
      omega
    rw [hl]
    exact rows_same n (m + 1) _ (by omega) fun t h1 h2 => h t (by omega) (by omega)
theorem board_same {a b : List Ln} (ha : ∀ l ∈ a, l.ok) (hna : a ≠ []) (hb : ∀ l ∈ b, l.ok) (hnb : b ≠ []) {rows : Nat} {m : Int}
    (h : ∀ t, m ≤ t → t < m + 60 * rows → (wd a t).take rows = (wd b t).take rows) : bdP a rows m = bdP b rows m := by
  rw [bdP_rows ha hna, bdP_rows hb hnb]
  exact rows_same _ m rows (Nat.le_refl _) fun t h1 h2 => h t h1 (by omega)
theorem rowsOf_later {ls : List Ln} {m0 : Int} : ∀ (n : Nat) (m : Int), m0 < m → ∀ x ∈ rowsOf ls m0 m n, x.2 ≠ 0
  | 0, m, _, x, h => by cases h
  | n + 1, m, hm, x, h => by
    rw [rowsOf] at h
    rcases List.mem_append.mp h with h | h
    · obtain ⟨c, _, rfl⟩ := List.mem_map.mp h
      show m - m0 ≠ 0
      omega
    · exact rowsOf_later n (m + 1) (by omega) x h
theorem word_of_board {ls : List Ln} (hk : ∀ l ∈ ls, l.ok) (hne : ls ≠ []) {rows : Nat} {m : Int} : ((bdP ls rows m).filter fun x => decide (x.2 = 0)).map (·.1) = (wd ls m).take rows := by
  rw [bdP_rows hk hne]
  cases rows with
  | zero => simp
  | succ r =>
    have e : 60 * (r + 1) = (60 * r + 59) + 1 := by omega
    rw [e, rowsOf, List.take_append, List.filter_append, List.map_append, ← List.map_take]
    have h1 : ((rowsOf ls m (m + 1) (60 * r + 59)).take (r + 1 - ((wd ls m).map fun c => (c, m - m)).length)).filter (fun x => decide (x.2 = 0)) = [] := by
      rw [List.filter_eq_nil_iff]
      intro x hx
      have := rowsOf_later _ _ (by omega) x (List.mem_of_mem_take hx)
      simpa using this
    rw [h1, List.map_nil, List.append_nil]
    have h2 : (((wd ls m).take (r + 1)).map fun c => (c, m - m)).filter (fun x => decide (x.2 = 0)) = ((wd ls m).take (r + 1)).map fun c => (c, m - m) := by
      rw [List.filter_eq_self]
      intro x hx
      obtain ⟨c, _, rfl⟩ := List.mem_map.mp hx
      simp
    rw [h2, List.map_map]
    simp [Function.comp_def]
theorem words_same {a b : List Ln} (ha : ∀ l ∈ a, l.ok) (hna : a ≠ []) (hb : ∀ l ∈ b, l.ok) (hnb : b ≠ []) {rows : Nat} {m : Int} (h : bdP a rows m = bdP b rows m) :
    (wd a m).take rows = (wd b m).take rows := by
  rw [← word_of_board ha hna, ← word_of_board hb hnb, h]
/-! ## the first minute with other first departures -/
theorem pos_append {a b : List Ln} {t : Int} : pos (a ++ b) t = pos a t ++ (pos b t).map (a.length + ·) := by
  unfold pos
  rw [List.length_append, List.range_add, List.filter_append, List.filter_map]
  congr 1
  · refine List.filter_congr fun i hi => ?_
    rw [List.getElem?_append_left (List.mem_range.mp hi)]
  · congr 1
    refine List.filter_congr fun i _ => ?_
    simp only [Function.comp_apply]
    rw [List.getElem?_append_right (by omega)]
    congr 2
    omega
def fw0 (one : List Ln) (rows : Nat) (row : List Nat) : List Nat := ((row.filter fun at_ => decide (at_ < one.length)).map (labAt one)).take rows
def fw1 (one both : List Ln) (rows : Nat) (row : List Nat) : List Nat := ((row.filter fun at_ => decide (one.length ≤ at_)).map (labAt both)).take rows
theorem fw0_pos {a b : List Ln} {rows : Nat} {t : Int} : fw0 a rows (pos (a ++ b) t) = (wd a t).take rows := by
  unfold fw0
  rw [pos_append, List.filter_append]
  have h1 : (pos a t).filter (fun at_ => decide (at_ < a.length)) = pos a t := List.filter_eq_self.mpr fun i hi => decide_eq_true (pos_lt i hi)
  have h2 : ((pos b t).map (a.length + ·)).filter (fun at_ => decide (at_ < a.length)) = [] := List.filter_eq_nil_iff.mpr fun i hi => by
    obtain ⟨j, _, rfl⟩ := List.mem_map.mp hi
    simp
  rw [h1, h2, List.append_nil, pos_wd]
theorem fw1_pos {a b : List Ln} {rows : Nat} {t : Int} : fw1 a (a ++ b) rows (pos (a ++ b) t) = (wd b t).take rows := by
  unfold fw1
  rw [pos_append, List.filter_append]
  have h1 : (pos a t).filter (fun at_ => decide (a.length ≤ at_)) = [] := List.filter_eq_nil_iff.mpr fun i hi => by
    have := pos_lt i hi
    simpa using this
  have h2 : ((pos b t).map (a.length + ·)).filter (fun at_ => decide (a.length ≤ at_)) = (pos b t).map (a.length + ·) := List.filter_eq_self.mpr fun i hi => by
    obtain ⟨j, _, rfl⟩ := List.mem_map.mp hi
    simp
  rw [h1, h2, List.nil_append, List.map_map, ← pos_wd]
  congr 1
  refine List.map_congr_left fun i _ => ?_
  unfold labAt
  simp only [Function.comp_apply]
  rw [List.getElem?_append_right (by omega)]
  congr 3
  omega
def stepU (best : Option Int) (m : Option Int) : Option Int := match best, m with
  | none, m => m
  | some b, none => some b
  | some b, some m => if m < b then some m else some b
theorem foldU : ∀ (xs : List (Option Int)) (b : Option Int), match xs.foldl stepU b with
    | none => b = none ∧ ∀ x ∈ xs, x = none
    | some v => (b = some v ∨ some v ∈ xs) ∧ (∀ y, b = some y → v ≤ y) ∧ ∀ y, some y ∈ xs → v ≤ y
  | [], none => by simp
  | [], some v => by simp
  | x :: xs, b => by
    have ih := foldU xs (stepU b x)
    rw [List.foldl_cons]
    cases h : xs.foldl stepU (stepU b x) with
    | none =>
      rw [h] at ih
      simp only at ih ⊢
      obtain ⟨h1, h2⟩ := ih
      cases b with
      | none => exact ⟨rfl, List.forall_mem_cons.mpr ⟨h1, h2⟩⟩
      | some b =>
        cases x with
        | none => cases h1
        | some m => simp only [stepU] at h1; split at h1 <;> cases h1
    | some v =>
      rw [h] at ih
      simp only at ih ⊢
      obtain ⟨h1, h2, h3⟩ := ih
      cases b with
      | none =>
        have e : stepU none x = x := rfl
        rw [e] at h1 h2
        refine ⟨.inr (h1.elim (fun h => by rw [h]; exact List.mem_cons_self) (List.mem_cons_of_mem _)), (fun y hy => by cases hy), fun y hy => ?_⟩
        rcases List.mem_cons.mp hy with hy | hy
        · exact h2 y hy.symm
        · exact h3 y hy
      | some b =>
        cases x with
        | none =>
          have e : stepU (some b) none = some b := rfl
          rw [e] at h1 h2
          refine ⟨h1.elim .inl fun h => .inr (List.mem_cons_of_mem _ h), h2, fun y hy => ?_⟩
          rcases List.mem_cons.mp hy with hy | hy
          · cases hy
          · exact h3 y hy
        | some m =>
          by_cases hm : m < b
          · have e : stepU (some b) (some m) = some m := by simp [stepU, hm]
            rw [e] at h1 h2
            have hv := h2 m rfl
            refine ⟨h1.elim (fun h => .inr (by rw [h]; exact List.mem_cons_self)) fun h => .inr (List.mem_cons_of_mem _ h), fun y hy => ?_, fun y hy => ?_⟩
            · injection hy with hy; omega
            · rcases List.mem_cons.mp hy with hy | hy
              · injection hy with hy; omega
              · exact h3 y hy
          · have e : stepU (some b) (some m) = some b := by simp [stepU, hm]
            rw [e] at h1 h2
            have hv := h2 b rfl
            refine ⟨h1.elim .inl fun h => .inr (List.mem_cons_of_mem _ h), h2, fun y hy => ?_⟩
            rcases List.mem_cons.mp hy with hy | hy
            · injection hy with hy; omega
            · exact h3 y hy
def unl (one both : List Ln) (rows : Nat) (row : List Nat) : Bool := decide (fw0 one rows row ≠ fw1 one both rows row)
def firstU (one other : List Ln) (rows : Nat) : Option Int :=
  (((sets (one ++ other).length).filter (unl one (one ++ other) rows)).map fun row => firstJ (one ++ other) row 0).foldl stepU none
theorem firstU_none {a b : List Ln} (ha : ∀ l ∈ a, l.ok) (hb : ∀ l ∈ b, l.ok) {rows : Nat} (h : firstU a b rows = none) {t : Int} (h0 : 0 ≤ t) : (wd a t).take rows = (wd b t).take rows := by
  have hk : ∀ l ∈ a ++ b, l.ok := fun l hl => (List.mem_append.mp hl).elim (ha l) (hb l)
  have f := foldU (((sets (a ++ b).length).filter (unl a (a ++ b) rows)).map fun row => firstJ (a ++ b) row 0) none
  unfold firstU at h
  rw [h] at f
  simp only [true_and] at f
  refine Classical.byContradiction fun hn => ?_
  have hu : unl a (a ++ b) rows (pos (a ++ b) t) = true := by
    unfold unl
    rw [fw0_pos, fw1_pos]
    exact decide_eq_true hn
  have := f _ (List.mem_map.mpr ⟨pos (a ++ b) t, List.mem_filter.mpr ⟨pos_sets, hu⟩, rfl⟩)
  exact firstJ_none hk pos_sets (by omega) this t h0 rfl
theorem firstU_some {a b : List Ln} (ha : ∀ l ∈ a, l.ok) (hb : ∀ l ∈ b, l.ok) {rows : Nat} {v : Int} (h : firstU a b rows = some v) :
    0 ≤ v ∧ (wd a v).take rows ≠ (wd b v).take rows ∧ ∀ t, 0 ≤ t → t < v → (wd a t).take rows = (wd b t).take rows := by
  have hk : ∀ l ∈ a ++ b, l.ok := fun l hl => (List.mem_append.mp hl).elim (ha l) (hb l)
  have f := foldU (((sets (a ++ b).length).filter (unl a (a ++ b) rows)).map fun row => firstJ (a ++ b) row 0) none
  unfold firstU at h
  rw [h] at f
  simp only [reduceCtorEq, false_or, false_implies, implies_true, true_and] at f
  obtain ⟨h1, h2⟩ := f
  obtain ⟨row, hr, hr2⟩ := List.mem_map.mp h1
  obtain ⟨hs, hu⟩ := List.mem_filter.mp hr
  obtain ⟨k1, k2, k3⟩ := firstJ_some hk hs hr2
  refine ⟨k1, ?_, fun t h0 hv => ?_⟩
  · have := of_decide_eq_true hu
    rw [← k2, fw0_pos, fw1_pos] at this
    exact this
  · refine Classical.byContradiction fun hn => ?_
    have hu : unl a (a ++ b) rows (pos (a ++ b) t) = true := by
      unfold unl
      rw [fw0_pos, fw1_pos]
      exact decide_eq_true hn
    cases hf : firstJ (a ++ b) (pos (a ++ b) t) 0 with
    | none => exact firstJ_none hk pos_sets (by omega) hf t h0 rfl
    | some w =>
      obtain ⟨q1, q2, q3⟩ := firstJ_some hk pos_sets hf
      have hw : w ≤ t := by
        rcases Int.lt_or_le t w with h | h
        · exact absurd rfl (q3 t h0 h)
        · exact h
      have := h2 w (List.mem_map.mpr ⟨pos (a ++ b) t, List.mem_filter.mpr ⟨pos_sets, hu⟩, hf⟩)
      omega
/-- whole numbers from one on, ahead of another -/
def rI (a b : Int) : List Int := (List.range (b - a).toNat).map fun i : Nat => a + i
theorem mem_rI {a b t : Int} : t ∈ rI a b ↔ a ≤ t ∧ t < b := by
  unfold rI
  rw [List.mem_map]
  constructor
  · rintro ⟨i, hi, rfl⟩
    have := List.mem_range.mp hi
    omega
  · intro h
    exact ⟨(t - a).toNat, List.mem_range.mpr (by omega), by omega⟩
theorem rI_len {a b : Int} : (rI a b).length = (b - a).toNat := by unfold rI; simp
theorem rI_lt {a b : Int} : (rI a b).Pairwise (· < ·) := by
  unfold rI
  rw [List.pairwise_map]
  exact List.pairwise_lt_range.imp fun h => by omega
/-- the first one with a property -/
theorem filter_head {p : Int → Bool} {a b t : Int} (h : ((rI a b).filter p)[0]? = some t) : a ≤ t ∧ t < b ∧ p t = true ∧ ∀ u, a ≤ u → u < t → p u = false := by
  have hm := List.mem_of_getElem? h
  obtain ⟨h1, h2⟩ := List.mem_filter.mp hm
  have h3 := mem_rI.mp h1
  refine ⟨h3.1, h3.2, h2, fun u hu1 hu2 => ?_⟩
  cases hp : p u with
  | false => rfl
  | true =>
    have hu : u ∈ (rI a b).filter p := List.mem_filter.mpr ⟨mem_rI.mpr ⟨hu1, by omega⟩, hp⟩
    have hs : ((rI a b).filter p).Pairwise (· < ·) := List.Pairwise.filter _ rI_lt
    cases hl : (rI a b).filter p with
    | nil => rw [hl] at hu; cases hu
    | cons x r =>
      rw [hl] at h hu hs
      simp only [List.getElem?_cons_zero, Option.some.injEq] at h
      subst h
      rw [List.pairwise_cons] at hs
      rcases List.mem_cons.mp hu with rfl | hu
      · omega
      · have := hs.1 u hu; omega
def partL (a b : List Ln) (rows : Nat) (last : Int) : List Int := (rI (max 0 (last - 60 * rows)) (last + 1)).filter fun t => decide (bdP a rows t ≠ bdP b rows t)
theorem partL_ok {a b : List Ln} (ha : ∀ l ∈ a, l.ok) (hna : a ≠ []) (hb : ∀ l ∈ b, l.ok) (hnb : b ≠ []) {rows : Nat} {last : Int} (h : firstU a b rows = some last) :
    ∃ t, (partL a b rows last)[0]? = some t ∧ 0 ≤ t ∧ bdP a rows t ≠ bdP b rows t ∧ ∀ u, 0 ≤ u → u < t → bdP a rows u = bdP b rows u := by
  obtain ⟨h1, h2, h3⟩ := firstU_some ha hb h
  have hl : last ∈ partL a b rows last := List.mem_filter.mpr ⟨mem_rI.mpr ⟨by omega, by omega⟩, decide_eq_true fun e => h2 (words_same ha hna hb hnb e)⟩
  cases hp : partL a b rows last with
  | nil => rw [hp] at hl; cases hl
  | cons t r =>
    have ht : ((rI (max 0 (last - 60 * rows)) (last + 1)).filter fun t => decide (bdP a rows t ≠ bdP b rows t))[0]? = some t := by
      show (partL a b rows last)[0]? = some t
      rw [hp]; rfl
    obtain ⟨q1, q2, q3, q4⟩ := filter_head ht
    refine ⟨t, rfl, by omega, of_decide_eq_true q3, fun u hu0 hut => ?_⟩
    by_cases hm : max 0 (last - 60 * rows) ≤ u
    · have := of_decide_eq_false (q4 u hm hut)
      exact Classical.byContradiction this
    · exact board_same ha hna hb hnb fun v hv1 hv2 => h3 v (by omega) (by omega)
theorem unlike_none {a b : List Ln} (ha : ∀ l ∈ a, l.ok) (hna : a ≠ []) (hb : ∀ l ∈ b, l.ok) (hnb : b ≠ []) {rows : Nat} (h : firstU a b rows = none) {t : Int} (h0 : 0 ≤ t) : bdP a rows t = bdP b rows t :=
  board_same ha hna hb hnb fun v hv1 _ => firstU_none ha hb h (by omega)
end Bd

namespace Bd
/-! ## the departure with an index -/
theorem dep_ex {ls : List Ln} (hk : ∀ l ∈ ls, l.ok) (hne : ls ≠ []) {idx : Nat} : (idx : Int) < tot ls (60 * ((idx : Int) + 1)) := by
  have h := stream_tot hk (60 * (idx + 1)) 0
  have h2 := stream_len hk hne (idx + 1) (m := 0)
  rw [tot_zero hk] at h
  have e : (0 : Int) + ((60 * (idx + 1) : Nat) : Int) = 60 * ((idx : Int) + 1) := by omega
  rw [e] at h
  omega
theorem dep_unique {ls : List Ln} (hk : ∀ l ∈ ls, l.ok) {idx t u : Int} (h1 : tot ls t ≤ idx) (h2 : idx < tot ls (t + 1)) (k1 : tot ls u ≤ idx) (k2 : idx < tot ls (u + 1)) : t = u := by
  rcases Int.lt_trichotomy t u with h | h | h
  · have := tot_mono hk (show t + 1 ≤ u by omega); omega
  · exact h
  · have := tot_mono hk (show u + 1 ≤ t by omega); omega
theorem dep_lab {ls : List Ln} (hk : ∀ l ∈ ls, l.ok) {idx t : Int} (h1 : tot ls t ≤ idx) (h2 : idx < tot ls (t + 1)) : (idx - tot ls t).toNat < (wd ls t).length := by
  rw [tot_succ hk] at h2
  omega
theorem next_at {ls : List Ln} (hk : ∀ l ∈ ls, l.ok) (hne : ls ≠ []) {idx : Nat} {t : Int} (h0 : 0 ≤ t) (h1 : tot ls t ≤ idx) (h2 : (idx : Int) < tot ls (t + 1)) :
    ∃ i, (nextP ls (idx + 1) 0)[idx]? = some (t, i) ∧ (wd ls t)[((idx : Int) - tot ls t).toNat]? = some (labAt ls i) := by
  have hl := dep_lab hk h1 h2
  have hs : ((stream ls 0 (t.toNat + 1)).length : Int) = tot ls (t + 1) := by
    rw [stream_tot hk, tot_zero hk]
    have : (0 : Int) + ((t.toNat + 1 : Nat) : Int) = t + 1 := by omega
    rw [this]; omega
  have hs0 : ((stream ls 0 t.toNat).length : Int) = tot ls t := by
    rw [stream_tot hk, tot_zero hk]
    have : (0 : Int) + (t.toNat : Int) = t := by omega
    rw [this]; omega
  rw [next_stream hk (n := t.toNat + 1) (by omega), stream_add]
  have e1 : stream ls (0 + (t.toNat : Int)) 1 = (pos ls t).map fun i => (t, i) := by
    have : (0 : Int) + (t.toNat : Int) = t := by omega
    rw [this, stream_succ]
    simp [stream, grid]
  rw [e1, List.getElem?_take_of_lt (by omega), List.getElem?_append_right (by omega), List.getElem?_map]
  have e2 : idx - (stream ls 0 t.toNat).length = ((idx : Int) - tot ls t).toNat := by omega
  rw [e2]
  rw [← pos_len] at hl
  refine ⟨(pos ls t)[((idx : Int) - tot ls t).toNat], by rw [List.getElem?_eq_getElem hl]; rfl, ?_⟩
  rw [← pos_wd, List.getElem?_map, List.getElem?_eq_getElem hl]
  rfl
/-- how many departures there are, as the program counts -/
theorem cnt_dep {ls : List Ln} (hk : ∀ l ∈ ls, l.ok) {low high : Int} (h0 : 0 ≤ low) (h1 : 0 ≤ high + 1) :
    (ls.map fun l => max 0 (cb l (high + 1) - cb l low)).sum = if low ≤ high then tot ls (high + 1) - tot ls low else 0 := by
  split
  · rename_i h
    have e : ∀ l ∈ ls, max 0 (cb l (high + 1) - cb l low) = cq l (high + 1) + (-1) * cq l low := fun l hl => by
      have o := (hk l hl).toOkz
      rw [cb_eq o h1, cb_eq o h0]
      have := cq_mono o (show low ≤ high + 1 by omega)
      omega
    rw [List.map_congr_left e, sum_map_add, sum_map_mul]
    unfold tot
    omega
  · rename_i h
    refine sum_zero fun l hl => ?_
    have o := (hk l hl).toOkz
    rw [cb_eq o h1, cb_eq o h0]
    have := cq_mono o (show high + 1 ≤ low by omega)
    omega
theorem tms_sum {ls : List Ln} (hk : ∀ l ∈ ls, l.ok) {low high : Int} (h : low ≤ high + 1) : (ls.map fun l => tms l low high).sum = tot ls (high + 1) - tot ls low := by
  have e : ∀ l ∈ ls, tms l low high = cq l (high + 1) + (-1) * cq l low := fun l hl => by
    rw [tms_cq (hk l hl).toOkz h]; omega
  rw [List.map_congr_left e, sum_map_add, sum_map_mul]
  unfold tot
  omega
end Bd

namespace Bd
/-! ## all numbers of lines together -/
theorem sum_pick (k : Nat) : ∀ n, k < n → ((List.range n).map fun m => if k = m then (1 : Int) else 0).sum = 1
  | 0, h => absurd h (by omega)
  | n + 1, h => by
    rw [List.range_succ, List.map_append, List.sum_append]
    by_cases e : k = n
    · subst e
      rw [sum_zero fun m hm => if_neg fun e => by have := List.mem_range.mp hm; omega]
      simp
    · rw [sum_pick k n (by omega)]
      simp [e]
theorem cntM_all {ls : List Ln} (hk : ∀ l ∈ ls, l.Okz) {far : Int} (h0 : 0 ≤ far + 1) : ((List.range (ls.length + 1)).map fun m => cntM ls m far).sum = far + 1 := by
  have e : ∀ m ∈ List.range (ls.length + 1), cntM ls m far = ns (fun t => if (pos ls t).length = m then 1 else 0) 0 (far + 1).toNat := fun m _ => by
    rw [cntM_eq hk h0]
    unfold upTo
    rw [nb_ns]
    refine ns_congr _ _ fun t _ _ => ?_
    simp
  rw [List.map_congr_left e, ← ns_sum]
  have e2 : ns (fun t => ((List.range (ls.length + 1)).map fun m => if (pos ls t).length = m then (1 : Int) else 0).sum) 0 (far + 1).toNat = ns (fun _ => 1) 0 (far + 1).toNat := by
    refine ns_congr _ _ fun t _ _ => sum_pick _ _ ?_
    have : (pos ls t).length ≤ ls.length := by
      unfold pos
      have := List.length_filter_le (fun i => (ls[i]?).any (goes · t)) (List.range ls.length)
      rw [List.length_range] at this
      exact this
    omega
  rw [e2, ns_one]
  omega
theorem filter_nb (p : Int → Bool) : ∀ (n : Nat) (m : Int), ((((List.range n).map fun i : Nat => m + i).filter p).length : Int) = nb p m n
  | 0, m => by simp [nb]
  | n + 1, m => by
    rw [List.range_succ_eq_map, List.map_cons, List.map_map, nb, ← filter_nb p n (m + 1)]
    have e : ((fun i : Nat => m + (i : Int)) ∘ Nat.succ) = fun i : Nat => m + 1 + (i : Int) := by
      funext i
      simp only [Function.comp_apply, Nat.succ_eq_add_one]
      omega
    rw [e]
    have e0 : m + ((0 : Nat) : Int) = m := by omega
    rw [e0, List.filter_cons]
    cases p m with
    | true => simp; omega
    | false => simp
theorem rI_up {p : Int → Bool} {top : Int} : (((rI 0 (top + 1)).filter p).length : Int) = upTo p top := by
  unfold rI upTo
  rw [filter_nb]
  congr 1
  omega
theorem cntM_wd {ls : List Ln} (hk : ∀ l ∈ ls, l.Okz) {many : Nat} {top : Int} (h0 : 0 ≤ top + 1) : cntM ls many top = upTo (fun t => decide ((wd ls t).length = many)) top := by
  rw [cntM_eq hk h0]
  congr 1
  funext t
  rw [pos_len]
end Bd

namespace Bd
/-! ## how great the first minutes can be -/
theorem pick_len' {ls : List Ln} : ∀ {row : List Nat}, (pick ls row).length ≤ row.length
  | [] => by simp [pick]
  | i :: row => by
    have := pick_len' (ls := ls) (row := row)
    unfold pick at *
    rw [List.filterMap_cons]
    split <;> simp <;> omega
theorem firstJ_lt {ls : List Ln} (hk : ∀ l ∈ ls, l.ok) {row : List Nat} (hr : row.length ≤ ls.length) {t : Int} (h : firstJ ls row 0 = some t) : t < 60 ^ ls.length := by
  unfold firstJ at h
  obtain ⟨r, hr1, h⟩ := Option.bind_eq_some_iff.mp h
  obtain ⟨s, hs, rfl⟩ := Option.map_eq_some_iff.mp h
  obtain ⟨h1, h2, h3⟩ := find_least hs
  obtain ⟨k1, k2⟩ := rowF_some (pick_ok fun l hl => (hk l hl).toOkz) hr1
  obtain ⟨b1, b2, b3⟩ := begR_in k1 0
  have hE := k1.e1
  have hle := rowG_le (pick ls row) (1, 0) r (pick_ok hk) row0 hr1
  simp only [Int.one_mul] at hle
  have hpl := pick_len' (ls := ls) (row := row)
  have e1 : (60 : Int) ^ (pick ls row).length ≤ 60 ^ row.length := by
    have : (60 : Nat) ^ (pick ls row).length ≤ 60 ^ row.length := Nat.pow_le_pow_right (by decide) hpl
    exact_mod_cast this
  have e2 : ((2 ^ (ls.length - row.length) : Nat) : Int) ≤ 60 ^ (ls.length - row.length) := by
    have : 2 ^ (ls.length - row.length) ≤ 60 ^ (ls.length - row.length) := Nat.pow_le_pow_left (by decide) _
    exact_mod_cast this
  have e3 : r.1 * ((s : Int) + 1) ≤ 60 ^ row.length * 60 ^ (ls.length - row.length) := by
    have a : r.1 * ((s : Int) + 1) ≤ 60 ^ row.length * ((s : Int) + 1) := Int.mul_le_mul_of_nonneg_right (by omega) (by omega)
    have b : (60 : Int) ^ row.length * ((s : Int) + 1) ≤ 60 ^ row.length * 60 ^ (ls.length - row.length) := Int.mul_le_mul_of_nonneg_left (by omega) (Int.le_of_lt (Int.pow_pos (by decide)))
    omega
  rw [← Int.pow_add] at e3
  have e4 : row.length + (ls.length - row.length) = ls.length := by omega
  rw [e4, Int.mul_add, Int.mul_one] at e3
  omega
theorem sets_row_le : ∀ {n : Nat} {row : List Nat}, row ∈ sets n → row.length ≤ n
  | 0, row, h => by simp [sets] at h; subst h; simp
  | n + 1, row, h => by
    rw [sets] at h
    rcases List.mem_append.mp h with h | h
    · have := sets_row_le h; omega
    · obtain ⟨r, hr, rfl⟩ := List.mem_map.mp h
      have := sets_row_le hr
      simp
      omega
theorem firstU_lt {a b : List Ln} (ha : ∀ l ∈ a ++ b, l.ok) {rows : Nat} {v : Int} (h : firstU a b rows = some v) : v < 60 ^ (a ++ b).length := by
  have f := foldU (((sets (a ++ b).length).filter (unl a (a ++ b) rows)).map fun row => firstJ (a ++ b) row 0) none
  unfold firstU at h
  rw [h] at f
  simp only [reduceCtorEq, false_or, false_implies, implies_true, true_and] at f
  obtain ⟨row, hr, hr2⟩ := List.mem_map.mp f.1
  exact firstJ_lt ha (sets_row_le (List.mem_filter.mp hr).1) hr2
/-- the first minute at which two boards are not the same -/
def partM (a b : List Ln) (rows : Nat) : Option Int := (firstU a b rows).bind fun last => (partL a b rows last)[0]?
theorem partM_none {a b : List Ln} (ha : ∀ l ∈ a, l.ok) (hna : a ≠ []) (hb : ∀ l ∈ b, l.ok) (hnb : b ≠ []) {rows : Nat} (h : partM a b rows = none) : firstU a b rows = none ∧ ∀ t, 0 ≤ t → bdP a rows t = bdP b rows t := by
  cases hf : firstU a b rows with
  | none => exact ⟨rfl, fun t h0 => unlike_none ha hna hb hnb hf h0⟩
  | some last =>
    obtain ⟨t, h1, _⟩ := partL_ok ha hna hb hnb hf
    unfold partM at h
    rw [hf, Option.bind_some, h1] at h
    cases h
theorem partM_some {a b : List Ln} (ha : ∀ l ∈ a, l.ok) (hna : a ≠ []) (hb : ∀ l ∈ b, l.ok) (hnb : b ≠ []) {rows : Nat} {t : Int} (h : partM a b rows = some t) :
    (firstU a b rows).isSome = true ∧ 0 ≤ t ∧ bdP a rows t ≠ bdP b rows t ∧ ∀ u, 0 ≤ u → u < t → bdP a rows u = bdP b rows u := by
  cases hf : firstU a b rows with
  | none => unfold partM at h; rw [hf] at h; cases h
  | some last =>
    obtain ⟨u, h1, h2⟩ := partL_ok ha hna hb hnb hf
    unfold partM at h
    rw [hf, Option.bind_some, h1] at h
    injection h with h
    subst h
    exact ⟨rfl, h2⟩
theorem partM_lt {a b : List Ln} (hk : ∀ l ∈ a ++ b, l.ok) {rows : Nat} {t : Int} (h : partM a b rows = some t) (hl : (a ++ b).length ≤ 10) : t < 604661760000000000 := by
  unfold partM at h
  obtain ⟨last, h1, h2⟩ := Option.bind_eq_some_iff.mp h
  have h3 := firstU_lt hk h1
  have h4 := mem_rI.mp (List.mem_filter.mp (List.mem_of_getElem? h2)).1
  have hp : (60 : Int) ^ (a ++ b).length ≤ 60 ^ 10 := by
    have : (60 : Nat) ^ (a ++ b).length ≤ 60 ^ 10 := Nat.pow_le_pow_right (by decide) hl
    exact_mod_cast this
  have h10 : (60 : Int) ^ 10 = 604661760000000000 := by decide
  omega
end Bd

namespace Bd
/-! ## words come again; boards that are alike, by the words -/
theorem goes_add {l : Ln} {L t : Int} (h : l.e ∣ L) : goes l (t + L) = goes l t := by
  obtain ⟨k, rfl⟩ := h
  unfold goes
  rw [Int.add_mul_emod_self_left]
theorem wd_add {ls : List Ln} {L t : Int} (h : ∀ l ∈ ls, l.e ∣ L) : wd ls (t + L) = wd ls t := by
  unfold wd
  congr 1
  exact List.filter_congr fun l hl => goes_add (h l hl)
theorem goes_mod {l : Ln} {L t : Int} (h : l.e ∣ L) : goes l (t % L) = goes l t := by
  unfold goes
  rw [Int.emod_emod_of_dvd t h]
theorem wd_mod {ls : List Ln} {L t : Int} (h : ∀ l ∈ ls, l.e ∣ L) : wd ls (t % L) = wd ls t := by
  unfold wd
  congr 1
  exact List.filter_congr fun l hl => goes_mod (h l hl)
theorem firstU_iff {a b : List Ln} (ha : ∀ l ∈ a, l.ok) (hb : ∀ l ∈ b, l.ok) {rows : Nat} : (firstU a b rows).isNone = true ↔ ∀ t, 0 ≤ t → (wd a t).take rows = (wd b t).take rows := by
  constructor
  · intro h t h0
    cases e : firstU a b rows with
    | none => exact firstU_none ha hb e h0
    | some v => rw [e] at h; cases h
  · intro h
    cases e : firstU a b rows with
    | none => rfl
    | some v =>
      obtain ⟨h0, h1, _⟩ := firstU_some ha hb e
      exact absurd (h v h0) h1
/-- by the words of the minutes until all comes again -/
theorem firstU_per {a b : List Ln} (ha : ∀ l ∈ a, l.ok) (hb : ∀ l ∈ b, l.ok) {L : Int} (hL : 0 < L) (da : ∀ l ∈ a, l.e ∣ L) (db : ∀ l ∈ b, l.e ∣ L) {rows : Nat} :
    (firstU a b rows).isNone = (rI 0 L).all fun t => decide ((wd a t).take rows = (wd b t).take rows) := by
  rw [Bool.eq_iff_iff, firstU_iff ha hb, List.all_eq_true]
  constructor
  · intro h t ht
    rw [decide_eq_true_eq]
    exact h t (mem_rI.mp ht).1
  · intro h t h0
    have := h (t % L) (mem_rI.mpr ⟨Int.emod_nonneg _ (by omega), Int.emod_lt_of_pos _ hL⟩)
    rw [decide_eq_true_eq, wd_mod da, wd_mod db] at this
    exact this
theorem firstU_comm {a b : List Ln} (ha : ∀ l ∈ a, l.ok) (hb : ∀ l ∈ b, l.ok) {rows : Nat} : (firstU b a rows).isNone = (firstU a b rows).isNone := by
  rw [Bool.eq_iff_iff, firstU_iff ha hb, firstU_iff hb ha]
  exact ⟨fun h t h0 => (h t h0).symm, fun h t h0 => (h t h0).symm⟩
theorem firstU_less {a b : List Ln} (ha : ∀ l ∈ a, l.ok) (hb : ∀ l ∈ b, l.ok) {r r' : Nat} (hr : r' ≤ r) (h : (firstU a b r).isNone = true) : (firstU a b r').isNone = true := by
  rw [firstU_iff ha hb] at h ⊢
  exact fun t h0 => take_same (h t h0) hr
end Bd

namespace Bd
/-! ## one line in a board -/
/-- a line's own next departure, where it is ahead of the last one that is shown, is shown -/
theorem shown_own {ls : List Ln} (hk : ∀ l ∈ ls, l.ok) (hne : ls ≠ []) {rows : Nat} {m : Int} {i : Nat} {l : Ln} (hl : ls[i]? = some l) {c : Nat} {last : Int} (hlast : (bdP ls rows m).getLast? = some (c, last))
    (h : (l.f - m) % l.e < last) : (l.c, (l.f - m) % l.e) ∈ bdP ls rows m := by
  have hi : i < ls.length := (List.getElem?_eq_some_iff.mp hl).1
  have o := hk l (List.mem_of_getElem? hl)
  have h0 := Int.emod_nonneg (l.f - m) (show l.e ≠ 0 by have := o.e1; omega)
  have hlt := Int.emod_lt_of_pos (l.f - m) (show 0 < l.e by have := o.e1; omega)
  have e60 := o.e60
  obtain ⟨N, hN⟩ : ∃ N, N = 60 * rows + 60 := ⟨_, rfl⟩
  have hs : nextP ls rows m = (stream ls m N).take rows := next_stream hk (by rw [hN, stream_add, List.length_append]; have := stream_len hk hne rows (m := m); omega)
  unfold bdP at hlast ⊢
  rw [hs] at hlast ⊢
  obtain ⟨y, hy⟩ : ∃ y, y = (m + (l.f - m) % l.e, i) := ⟨_, rfl⟩
  have hmem : y ∈ stream ls m N := by
    refine List.mem_filter.mpr ⟨grid_mem.mpr ⟨by rw [hy]; show m ≤ m + _; omega, by rw [hy]; show m + _ < m + _; omega, by rw [hy]; exact hi⟩, ?_⟩
    rw [hy]
    unfold goesAt
    simp only [hl, Option.any_some]
    rw [goes_iff o.toOkz, Int.add_comm, Int.add_sub_assoc, Int.add_comm]
    have := Int.emod_add_emod (l.f - m) l.e (m - l.f)
    rw [Int.add_comm ((l.f - m) % l.e)] at this
    rw [this]
    have e : m - l.f + (l.f - m) = 0 := by omega
    have e2 : l.f - m + (m - l.f) = 0 := by omega
    first | rw [e] | rw [e2]
    simp
  have hp : (stream ls m N).Pairwise plt := List.Pairwise.sublist List.filter_sublist grid_sorted
  generalize stream ls m N = S at *
  rw [← List.take_append_drop rows S] at hmem hp
  rcases List.mem_append.mp hmem with hm | hm
  · refine List.mem_map.mpr ⟨y, hm, ?_⟩
    rw [hy]
    unfold labAt
    rw [hl]
    simp
    omega
  · exfalso
    rw [List.getLast?_map] at hlast
    cases hz : (S.take rows).getLast? with
    | none => rw [hz] at hlast; cases hlast
    | some z =>
      rw [hz] at hlast
      simp only [Option.map_some, Option.some.injEq, Prod.mk.injEq] at hlast
      have hzm := List.mem_of_getLast? hz
      have hlt := (List.pairwise_append.mp hp).2.2 z hzm y hm
      unfold plt at hlt
      rw [hy] at hlt
      simp only at hlt
      omega
/-- a line alone: its next departure is the first that is shown -/
theorem shown_alone {l : Ln} {rows : Nat} {m : Int} {x : Nat × Int} {r : List (Nat × Int)} (h : bdP [l] rows m = x :: r) : x = (l.c, (l.f - m) % l.e) := by
  cases rows with
  | zero => cases h
  | succ rows =>
    unfold bdP nextP at h
    simp only [List.map_cons, List.map_nil, nx] at h
    have := (List.cons.inj h).1
    rw [← this]
    simp [mn, am, labAt, beg]
    omega
/-! ## all lines with a label -/
def allLn (c : Nat) : List Ln := (rI 1 61).flatMap fun e => (rI 0 e).map fun f => ⟨c, e, f⟩
theorem allLn_mem {c : Nat} {l : Ln} (o : l.ok) (hc : l.c = c) : l ∈ allLn c := by
  unfold allLn
  rw [List.mem_flatMap]
  refine ⟨l.e, mem_rI.mpr ⟨o.e1, by have := o.e60; omega⟩, List.mem_map.mpr ⟨l.f, mem_rI.mpr ⟨o.f0, o.fe⟩, ?_⟩⟩
  rw [← hc]
theorem allLn_ok {c : Nat} (h0 : 97 ≤ c) (h1 : c ≤ 100) : ∀ l ∈ allLn c, l.ok := fun l hl => by
  unfold allLn at hl
  obtain ⟨e, he, hl⟩ := List.mem_flatMap.mp hl
  obtain ⟨f, hf, rfl⟩ := List.mem_map.mp hl
  have he := mem_rI.mp he
  have hf := mem_rI.mp hf
  exact ⟨⟨he.1, hf.1, hf.2⟩, h0, h1, by show e ≤ 60; omega⟩
def putL (ls : List Ln) (p : Nat) (l : Ln) : List Ln := ls.take p ++ l :: ls.drop (p + 1)
theorem putL_self {ls : List Ln} {p : Nat} (h : p < ls.length) : putL ls p ls[p] = ls := by
  unfold putL
  rw [← List.drop_eq_getElem_cons h, List.take_append_drop]
theorem putL_get {ls : List Ln} {p : Nat} (h : p < ls.length) (l : Ln) : (putL ls p l)[p]? = some l := by
  unfold putL
  rw [List.getElem?_append_right (by rw [List.length_take]; omega), List.length_take, Nat.min_eq_left (by omega), Nat.sub_self]
  rfl
theorem putL_ok {ls : List Ln} (hk : ∀ l ∈ ls, l.ok) {p : Nat} {l : Ln} (o : l.ok) : ∀ x ∈ putL ls p l, x.ok := fun x hx => by
  unfold putL at hx
  rcases List.mem_append.mp hx with hx | hx
  · exact hk x (List.mem_of_mem_take hx)
  · rcases List.mem_cons.mp hx with rfl | hx
    · exact o
    · exact hk x (List.mem_of_mem_drop hx)
theorem putL_len {ls : List Ln} {p : Nat} (h : p < ls.length) {l : Ln} : (putL ls p l).length = ls.length := by
  unfold putL
  simp
  omega
theorem putL_ne {ls : List Ln} {p : Nat} {l : Ln} : putL ls p l ≠ [] := by unfold putL; simp
end Bd

namespace Bd
/-! ## mean waits -/
theorem ns_app (g : Int → Int) : ∀ (a b : Nat) (m : Int), ns g m (a + b) = ns g m a + ns g (m + a) b
  | 0, b, m => by simp [ns]
  | a + 1, b, m => by
    have e : a + 1 + b = (a + b) + 1 := by omega
    rw [e, ns, ns, ns_app g a b (m + 1)]
    have e2 : m + 1 + (a : Int) = m + ((a + 1 : Nat) : Int) := by omega
    rw [e2]
    omega
theorem ns_last (g : Int → Int) (n : Nat) (m : Int) : ns g m (n + 1) = ns g m n + g (m + n) := by
  rw [ns_app, ns, ns, Int.add_zero]
theorem ns_comp (g : Int → Int) (w : Int) : ∀ (n : Nat) (m : Int), ns (fun t => g (t + w)) m n = ns g (m + w) n
  | 0, m => rfl
  | n + 1, m => by
    rw [ns, ns, ns_comp g w n (m + 1)]
    have : m + 1 + w = m + w + 1 := by omega
    rw [this]
theorem ns_per {g : Int → Int} {n : Nat} (h : ∀ t, g (t + n) = g t) (a : Int) : ∀ k : Nat, ns g (a + k) n = ns g a n
  | 0 => by simp
  | k + 1 => by
    have h1 := ns_last g n (a + k)
    have h2 : ns g (a + k) (n + 1) = g (a + k) + ns g (a + k + 1) n := rfl
    have h3 := h (a + k)
    have h4 := ns_per h a k
    have e : a + ((k + 1 : Nat) : Int) = a + k + 1 := by omega
    rw [e]
    omega
/-- some line departs -/
def anyG (own : List Ln) (t : Int) : Bool := own.any (goes · t)
/-- the minutes up to the next departure -/
def wt (own : List Ln) (t : Int) : Int := mn (own.map fun l => (l.f - t) % l.e)
theorem goes_wait {l : Ln} (o : l.Okz) (t : Int) : goes l (t + (l.f - t) % l.e) = true := by
  rw [goes_dvd o]
  have h := Int.emod_add_mul_ediv (l.f - t) l.e
  refine ⟨-((l.f - t) / l.e), ?_⟩
  rw [Int.mul_neg]
  omega
theorem emod_le' {d : Int} (hd : 0 ≤ d) (e : Int) (he : 1 ≤ e) : d % e ≤ d := by
  have h := Int.emod_add_mul_ediv d e
  have := Int.mul_nonneg (show 0 ≤ e by omega) (Int.ediv_nonneg hd (show 0 ≤ e by omega))
  omega
theorem wait_le {l : Ln} (o : l.Okz) {t d : Int} (hd : 0 ≤ d) (h : goes l (t + d) = true) : (l.f - t) % l.e ≤ d := by
  rw [goes_dvd o] at h
  obtain ⟨k, hk⟩ := h
  have e : l.f - t = d + l.e * (-k) := by rw [Int.mul_neg]; omega
  rw [e, Int.add_mul_emod_self_left]
  exact emod_le' hd l.e o.e1
theorem wt_eq {own : List Ln} (hk : ∀ l ∈ own, l.Okz) {t d : Int} (hd : 0 ≤ d) (h : anyG own (t + d) = true) (hn : ∀ u, t ≤ u → u < t + d → anyG own u = false) : wt own t = d := by
  unfold anyG at h
  obtain ⟨l, hl, hg⟩ := List.any_eq_true.mp h
  have hne : own.map (fun l => (l.f - t) % l.e) ≠ [] := by
    intro e
    rw [List.map_eq_nil_iff] at e
    subst e
    cases hl
  have h1 : wt own t ≤ d := Int.le_trans (mn_le _ (List.mem_map.mpr ⟨l, hl, rfl⟩)) (wait_le (hk l hl) hd hg)
  have h2 := mn_mem hne
  obtain ⟨l', hl', he⟩ := List.mem_map.mp h2
  have h3 : wt own t = (l'.f - t) % l'.e := he.symm
  have h4 := goes_wait (hk l' hl') t
  have h0 := Int.emod_nonneg (l'.f - t) (show l'.e ≠ 0 by have := (hk l' hl').e1; omega)
  rw [← h3] at h4 h0
  refine Int.le_antisymm h1 (Int.not_lt.mp fun hlt => ?_)
  have := hn (t + wt own t) (by omega) (by omega)
  unfold anyG at this
  have h5 : (own.any (goes · (t + wt own t))) = true := List.any_eq_true.mpr ⟨l', hl', h4⟩
  rw [this] at h5
  cases h5
theorem wt_per {own : List Ln} {L t : Int} (h : ∀ l ∈ own, l.e ∣ L) : wt own (t + L) = wt own t := by
  unfold wt
  congr 1
  refine List.map_congr_left fun l hl => ?_
  obtain ⟨k, hk⟩ := h l hl
  have : l.f - (t + L) = (l.f - t) + l.e * (-k) := by rw [Int.mul_neg]; omega
  rw [this, Int.add_mul_emod_self_left]
theorem anyG_per {own : List Ln} {L t : Int} (h : ∀ l ∈ own, l.e ∣ L) : anyG own (t + L) = anyG own t := by
  unfold anyG
  rw [Bool.eq_iff_iff, List.any_eq_true, List.any_eq_true]
  constructor
  · rintro ⟨l, hl, hg⟩; exact ⟨l, hl, by rwa [goes_add (h l hl)] at hg⟩
  · rintro ⟨l, hl, hg⟩; exact ⟨l, hl, by rwa [goes_add (h l hl)]⟩
/-- the waits in a gap -/
theorem gap_ns {own : List Ln} (hk : ∀ l ∈ own, l.Okz) {x y : Int} (hD : anyG own y = true) (hn : ∀ u, x < u → u < y → anyG own u = false) : ∀ g : Nat, (g : Int) ≤ y - x → 2 * ns (wt own) (y + 1 - g) g = g * (g - 1)
  | 0, _ => by simp [ns]
  | g + 1, h => by
    have ih := gap_ns hk hD hn g (by omega)
    have e : y + 1 - ((g + 1 : Nat) : Int) = y - g := by omega
    rw [e, ns]
    have e2 : y - (g : Int) + 1 = y + 1 - g := by omega
    have hw : wt own (y - g) = g := wt_eq hk (by omega) (by rw [show y - (g : Int) + g = y by omega]; exact hD) fun u h1 h2 => hn u (by omega) (by omega)
    rw [e2, hw, Int.mul_add, ih, Int.natCast_add, Int.natCast_one, Int.add_sub_cancel]
    rw [Int.add_mul, Int.mul_sub]
    omega
def gp (x y : Int) : Int := if x < 2520 then (y - x) * (y - x - 1) / 2 else 0
def gsum : Int → List Int → Int
  | _, [] => 0
  | x, y :: r => gp x y + gsum y r
theorem gsum_zip : ∀ (L : List Int) (x : Int), (((x :: L).zip L).map fun p => gp p.1 p.2).sum = gsum x L
  | [], x => rfl
  | y :: r, x => by
    have := gsum_zip r y
    rw [List.zip_cons_cons, List.map_cons, List.sum_cons, this, gsum]
theorem gsum_zero : ∀ (L : List Int) (x : Int), 2520 ≤ x → (∀ t ∈ L, x < t) → L.Pairwise (· < ·) → gsum x L = 0
  | [], _, _, _, _ => rfl
  | y :: r, x, hx, hl, hp => by
    rw [gsum, gp, if_neg (by omega), gsum_zero r y (by have := hl y List.mem_cons_self; omega) (List.pairwise_cons.mp hp).1 (List.pairwise_cons.mp hp).2]
    rfl
theorem gap_sum {own : List Ln} (hk : ∀ l ∈ own, l.Okz) {T b : Int} (hT : 2520 ≤ T) (hTb : T < b) (hTD : anyG own T = true) (hno : ∀ u, 2520 ≤ u → u < T → anyG own u = false) : ∀ (L : List Int) (x : Int), x < 2520 → L.Pairwise (· < ·) → (∀ t ∈ L, x < t) →
    (∀ t, x < t → t < b → (anyG own t = true ↔ t ∈ L)) → gsum x L = ns (wt own) (x + 1) (T - x).toNat
  | [], x, hx, _, _, h => by
    have := (h T (by omega) hTb).mp hTD
    cases this
  | y :: r, x, hx, hp, hl, h => by
    obtain ⟨h1, h2⟩ := List.pairwise_cons.mp hp
    have hxy := hl y List.mem_cons_self
    have hTm := (h T (by omega) hTb).mp hTD
    have hyT : y ≤ T := by
      rcases List.mem_cons.mp hTm with e | e
      · omega
      · have := h1 T e; omega
    have hDy : anyG own y = true := (h y hxy (by omega)).mpr List.mem_cons_self
    have hn : ∀ u, x < u → u < y → anyG own u = false := fun u hu1 hu2 => by
      cases hd : anyG own u with
      | false => rfl
      | true =>
        rcases List.mem_cons.mp ((h u hu1 (by omega)).mp hd) with e | e
        · omega
        · have := h1 u e; omega
    have hg := gap_ns hk hDy hn (y - x).toNat (by omega)
    have e1 : y + 1 - (((y - x).toNat : Nat) : Int) = x + 1 := by omega
    have e2 : (((y - x).toNat : Nat) : Int) = y - x := by omega
    rw [e1, e2] at hg
    have hgp : gp x y = ns (wt own) (x + 1) (y - x).toNat := by
      unfold gp
      rw [if_pos hx, ← hg]
      omega
    rw [gsum, hgp]
    by_cases hy : y < 2520
    · rw [gap_sum hk hT hTb hTD hno r y hy h2 h1 fun t ht1 ht2 => ?_]
      · have e3 : (T - x).toNat = (y - x).toNat + (T - y).toNat := by omega
        have e4 : x + 1 + (((y - x).toNat : Nat) : Int) = y + 1 := by omega
        rw [e3, ns_app, e4]
      · rw [h t (by omega) ht2, List.mem_cons]
        constructor
        · rintro (e | e)
          · omega
          · exact e
        · exact .inr
    · have hyT2 : y = T := by
        refine Int.le_antisymm hyT (Int.not_lt.mp fun hlt => ?_)
        rw [hno y (by omega) hlt] at hDy
        cases hDy
      rw [gsum_zero r y (by omega) h1 h2, hyT2, Int.add_zero]
def timesL (own : List Ln) : List Int := (rI 0 5040).filter (anyG own)
def gapsL (own : List Ln) : Int := (((timesL own).zip ((timesL own).drop 1)).map fun p => gp p.1 p.2).sum
theorem times_nil {own : List Ln} (hk : ∀ l ∈ own, l.ok) : timesL own = [] ↔ own = [] := by
  constructor
  · intro h
    cases own with
    | nil => rfl
    | cons l r =>
      have o := hk l List.mem_cons_self
      unfold timesL at h
      rw [List.filter_eq_nil_iff] at h
      have := h l.f (mem_rI.mpr ⟨o.f0, by have := o.fe; have := o.e60; omega⟩)
      refine absurd ?_ this
      unfold anyG
      rw [List.any_cons]
      have : goes l l.f = true := by unfold goes; rw [decide_eq_true_eq]; exact Int.emod_eq_of_lt o.f0 o.fe
      rw [this, Bool.true_or]
  · rintro rfl
    unfold timesL
    rw [List.filter_eq_nil_iff]
    intro t _
    simp [anyG]
theorem gaps_eq {own : List Ln} (hk : ∀ l ∈ own, l.ok) (hne : own ≠ []) (hd : ∀ l ∈ own, l.e ∣ 2520) (w : Nat) : gapsL own = ns (fun m => wt own (m + w)) 0 2520 := by
  have hz : ∀ l ∈ own, l.Okz := fun l hl => (hk l hl).toOkz
  have hper : ∀ t, wt own (t + ((2520 : Nat) : Int)) = wt own t := fun t => wt_per hd
  have hs : (timesL own).Pairwise (· < ·) := List.Pairwise.sublist List.filter_sublist rI_lt
  have hm : ∀ t, t ∈ timesL own ↔ (0 ≤ t ∧ t < 5040) ∧ anyG own t = true := fun t => by unfold timesL; rw [List.mem_filter, mem_rI]
  rw [ns_comp, Int.zero_add]
  have hw := ns_per (g := wt own) (n := 2520) hper 0 w
  rw [Int.zero_add] at hw
  rw [hw]
  unfold gapsL
  cases hL : timesL own with
  | nil => exact absurd ((times_nil hk).mp hL) hne
  | cons x L =>
    rw [hL] at hs hm
    rw [List.drop_one, List.tail_cons, gsum_zip]
    obtain ⟨s1, s2⟩ := List.pairwise_cons.mp hs
    have hx := (hm x).mp List.mem_cons_self
    have hx2 : x < 2520 := by
      refine Int.not_le.mp fun hle => ?_
      have := (hm (x - 2520)).mpr ⟨by omega, by
        have e := anyG_per (own := own) (t := x - 2520) hd
        rw [show x - 2520 + 2520 = x by omega] at e
        rw [← e]; exact hx.2⟩
      rcases List.mem_cons.mp this with e | e
      · omega
      · have := s1 _ e; omega
    have hper2 := fun t => anyG_per (own := own) (t := t) hd
    rw [gap_sum hz (T := x + 2520) (b := 5040) (by omega) (by omega) (by rw [hper2]; exact hx.2) (fun u h1 h2 => ?_) L x hx2 s2 s1 fun t h1 h2 => ?_]
    · have e : (x + 2520 - x).toNat = 2520 := by omega
      rw [e]
      have h := ns_per (g := wt own) (n := 2520) hper 0 (x + 1).toNat
      have e2 : 0 + (((x + 1).toNat : Nat) : Int) = x + 1 := by omega
      rw [e2] at h
      exact h
    · cases hd2 : anyG own u with
      | false => rfl
      | true =>
        have := (hm (u - 2520)).mpr ⟨by omega, by
          have e := hper2 (u - 2520)
          rw [show u - 2520 + 2520 = u by omega] at e
          rw [← e]; exact hd2⟩
        rcases List.mem_cons.mp this with e | e
        · omega
        · have := s1 _ e; omega
    · constructor
      · intro hd2
        rcases List.mem_cons.mp ((hm t).mpr ⟨by omega, hd2⟩) with e | e
        · omega
        · exact e
      · intro hd2
        exact ((hm t).mp (List.mem_cons_of_mem _ hd2)).2
end Bd

namespace Mn
open PySem
open Bd
variable {T : Nat → Option FnD}
/-! ## lines, typed -/
def eS (c : Nat) : Str := ⟨#[c]⟩
def eL (l : Ln) : D := .tuple [.str (eS l.c), .int l.e, .int l.f]
abbrev eLs (ls : List Ln) : D := .tuple (ls.map eL)
theorem eS_inj {a b : Nat} : eS a = eS b ↔ a = b := str1
@[simp] theorem eS_len {c : Nat} : (eS c).length = 1 := rfl
theorem lab_c {c : Nat} : isLab (eS c) = true ↔ 97 ≤ c ∧ c ≤ 100 := by
  unfold isLab eS
  rw [lit_a, lit_b, lit_c, lit_d]
  simp only [str1, Bool.or_eq_true, decide_eq_true_eq]
  omega
theorem isLn_eL {l : Ln} (o : l.ok) : IsLn (eL l) := ⟨eS l.c, l.e, l.f, rfl, lab_c.mpr ⟨o.c0, o.c1⟩, o.e1, o.e60, o.f0, o.fe⟩
theorem isLn_ex {d : D} (h : IsLn d) : ∃ l : Ln, d = eL l ∧ l.ok := by
  obtain ⟨z, e, f, rfl, h1, h2, h3, h4, h5⟩ := h
  obtain ⟨c, rfl⟩ := len1 (lab_len h1)
  have := lab_c.mp h1
  exact ⟨⟨c, e, f⟩, rfl, ⟨⟨h2, h4, h5⟩, this.1, this.2, h3⟩⟩
def OkLs (k : Nat) (ls : List Ln) : Prop := (∀ l ∈ ls, l.ok) ∧ 1 ≤ ls.length ∧ ls.length ≤ k
theorem lns_ex : ∀ {ds : List D}, (∀ d ∈ ds, IsLn d) → ∃ ls : List Ln, ds = ls.map eL ∧ ∀ l ∈ ls, l.ok
  | [], _ => ⟨[], rfl, by simp⟩
  | d :: ds, h => by
    obtain ⟨l, rfl, o⟩ := isLn_ex (h d List.mem_cons_self)
    obtain ⟨ls, rfl, os⟩ := lns_ex fun x hx => h x (List.mem_cons_of_mem _ hx)
    exact ⟨l :: ls, rfl, List.forall_mem_cons.mpr ⟨o, os⟩⟩
theorem lnsOk_ex {k : Nat} {ds : List D} (h : LnsOk k ds) : ∃ ls : List Ln, ds = ls.map eL ∧ OkLs k ls := by
  obtain ⟨ls, rfl, o⟩ := lns_ex h.1
  exact ⟨ls, rfl, o, by simpa using h.2.1, by simpa using h.2.2⟩
theorem isLn_all {ls : List Ln} (h : ∀ l ∈ ls, l.ok) : ∀ d ∈ ls.map eL, IsLn d := fun d hd => by
  obtain ⟨l, hl, rfl⟩ := List.mem_map.mp hd
  exact isLn_eL (h l hl)
/-! ## more rules of the evaluator -/
section
variable {C : CallF} {ρ : Env}
@[simp] theorem evS_aug {i : Nat} {op : Operator} {e : Ex} : evS C (.aug i op e) ρ = (match ρ.at i with
    | some (.d x) => (frzV (ev C e ρ)).bind fun r => (match op, x, r.1 with
      | .Add, .int a, .int b => some (.nx (r.2.put i (.d (.int (a + b)))))
      | _, _, _ => none)
    | _ => none) := by rw [evS] <;> rfl
@[simp] theorem evS_augi {k : Nat} {i e : Ex} {op : Operator} : evS C (.augi k i op e) ρ = (mutAt ρ k).bind fun _ => (frzV (ev C i ρ)).bind fun r => (mutAt r.2 k).bind fun xs => (match r.1 with
    | .int j => if 0 ≤ j ∧ j < 1000000000 then (match xs[j.toNat]? with
      | some (.int a) => (frzV (ev C e r.2)).bind fun x => (mutAt x.2 k).bind fun ys => (match op, x.1 with
        | .Sub, .int b => if j.toNat < ys.length then some (.nx (mutPut x.2 k (ys.set j.toNat (.int (a - b))))) else none
        | _, _ => none)
      | _ => none) else none
    | _ => none) := by rw [evS] <;> rfl
@[simp] theorem evS_dset {k : Nat} {i e : Ex} : evS C (.dset k i e) ρ = (frzV (ev C e ρ)).bind fun x => (dctAt x.2 k).bind fun _ => (frzV (ev C i x.2)).bind fun r => (dctAt r.2 k).bind fun kvs => (match r.1 with
    | .int j => if kvs.length < 100000 then some (.nx (r.2.put k (.dct (dPut kvs j x.1)))) else none
    | _ => none) := by rw [evS] <;> rfl
@[simp] theorem ev_dnew : ev C .dnew ρ = some (.dct [], ρ) := by rw [ev]
@[simp] theorem ev_dget {k : Nat} {i : Ex} : ev C (.dget k i) ρ = (dctAt ρ k).bind fun _ => (frzV (ev C i ρ)).bind fun r => (dctAt r.2 k).bind fun kvs => (match r.1 with
    | .int j => (dLook kvs j).map fun v => (.d v, r.2)
    | _ => none) := by rw [ev] <;> rfl
@[simp] theorem ev_din {neg : Bool} {i : Ex} {k : Nat} : ev C (.din neg i k) ρ = (frzV (ev C i ρ)).bind fun r => (dctAt r.2 k).bind fun kvs => (match r.1 with
    | .int j => some (.d (.bool (if neg then !(dLook kvs j).isSome else (dLook kvs j).isSome)), r.2)
    | _ => none) := by rw [ev] <;> rfl
@[simp] theorem ev_ddef {k : Nat} {i dflt : Ex} : ev C (.ddef k i dflt) ρ = (dctAt ρ k).bind fun _ => (frzV (ev C i ρ)).bind fun r => (frzV (ev C dflt r.2)).bind fun q => (dctAt q.2 k).bind fun kvs => (match r.1 with
    | .int j => some (.d ((dLook kvs j).getD q.1), q.2)
    | _ => none) := by rw [ev] <;> rfl
@[simp] theorem ev_dvals {k a b : Nat} : ev C (.dvals k a b) ρ = (dctAt ρ k).bind fun kvs => if a < ρ.length ∧ b < ρ.length ∧ kvs.length < 16777216 then some (.own (kvs.map (·.2)), ρ) else none := by rw [ev]
@[simp] theorem ev_dnewT : ev C .dnewT ρ = some (.dtt [], ρ) := by rw [ev]
@[simp] theorem ev_dkT {k j : Nat} : ev C (.dkT k j) ρ = (dttAt ρ k).bind fun kvs => if j < ρ.length ∧ kvs.length < 16777216 then some (.own ((kvs.filter fun p => !p.1.isEmpty).map fun p => .tuple (p.1.map .int)), ρ) else none := by rw [ev]
@[simp] theorem ev_sset {a : Ex} : ev C (.sset a) ρ = (frzV (ev C a ρ)).bind fun r => (match r.1 with
    | .list xs => (dStrs xs).bind fun ws => if ws.length < 64 ∧ ws.all (fun w => decide (w.length = 1)) = true then some (.own (ssD ws), r.2) else none
    | _ => none) := by rw [ev] <;> rfl
@[simp] theorem ev_srts {a : Ex} : ev C (.srts a) ρ = (frzV (ev C a ρ)).bind fun r => (match r.1 with
    | .str z => if z.length < 1000000 then some (.own (isortD (signs z)), r.2) else none
    | _ => none) := by rw [ev] <;> rfl
@[simp] theorem evS_dsetT {k : Nat} {i e : Ex} : evS C (.dsetT k i e) ρ = (frzV (ev C e ρ)).bind fun x => (dttAt x.2 k).bind fun _ => (frzV (ev C i x.2)).bind fun r => (dttAt r.2 k).bind fun kvs => (match r.1 with
    | .tuple ds => (dInts ds).bind fun ns => if kvs.length < 100000 ∧ ns.length < 1000 then some (.nx (r.2.put k (.dtt (tPut kvs ns x.1)))) else none
    | _ => none) := by rw [evS] <;> rfl
@[simp] theorem slot_dtt {xs : List (List Int × D)} : Val.slot (.dtt xs) = .dtt xs := rfl
@[simp] theorem ev_pop {k : Nat} : ev C (.pop k) ρ = (mutAt ρ k).bind fun xs => (xs[xs.length - 1]?).map fun x => (.d x, mutPut ρ k xs.dropLast) := by rw [ev]
@[simp] theorem ev_fmt2 {e : Ex} : ev C (.fmt2 e) ρ = (frzV (ev C e ρ)).bind fun r => (fmt2D r.1).map fun t => (.d (.str t), r.2) := by rw [ev]
@[simp] theorem evI_zip {a b : Ex} : evI C (.zip a b) ρ = (frzV (ev C a ρ)).bind fun x => (frzV (ev C b x.2)).bind fun y => (match x.1, y.1 with
    | .list xs, .list ys => some (zipD xs ys, y.2)
    | _, _ => none) := by rw [evI] <;> rfl
end
@[simp] theorem cmp_is_n {a : D} : cmpD .Is a .none = some (isNon a) := rfl
@[simp] theorem cmp_isn_n {a : D} : cmpD .IsNot a .none = some (!isNon a) := rfl
@[simp] theorem isNon_n : isNon .none = true := rfl
@[simp] theorem isNon_i {i : Int} : isNon (.int i) = false := rfl
@[simp] theorem isNon_t {xs : List D} : isNon (.tuple xs) = false := rfl
@[simp] theorem isNon_l {xs : List D} : isNon (.list xs) = false := rfl
/-! ## a body in parts -/
def dropS : Nat → Sx → Sx
  | 0, s => s
  | n + 1, .seq _ b => dropS n b
  | _ + 1, s => s
def takeS : Nat → Sx → Sx
  | 0, _ => .skip
  | n + 1, .seq a b => .seq a (takeS n b)
  | _ + 1, _ => .skip
theorem evS_split {C : CallF} : ∀ (n : Nat) {s : Sx} {ρ ρ1 : Env}, evS C (takeS n s) ρ = some (.nx ρ1) → evS C s ρ = evS C (dropS n s) ρ1
  | 0, s, ρ, ρ1, h => by
    rw [takeS, evS_skip] at h
    cases h
    rfl
  | n + 1, s, ρ, ρ1, h => by
    cases s with
    | seq a b =>
      rw [takeS, evS_seq] at h
      rw [dropS, evS_seq]
      cases ha : evS C a ρ with
      | none => rw [ha] at h; cases h
      | some r =>
        rw [ha] at h
        cases r with
        | nx ρ2 => exact evS_split n h
        | rt v ρ2 => cases h
    | _ =>
      have h : evS C .skip ρ = some (.nx ρ1) := h
      rw [evS_skip] at h
      cases h
      rfl
/-- a call whose body is known -/
theorem call_rt {T : Nat → Option FnD} {f n : Nat} {fd : FnD} {args : List D} {v : Val} {ρ' : Env} (h : T f = some fd) (hio : fd.io = false) (hnp : args.length = fd.np)
    (e : evS (callN T n) fd.body (startE fd.n (args.map .d)) = some (.rt v ρ')) : callN T (n + 1) f none args = some (v, none) := by
  rw [callN_ev, h, Option.bind_some]
  unfold evFn
  rw [hio]
  simp only [hnp, if_true]
  unfold runFn
  rw [e]
  simp only [outE, hio]
  rfl
theorem call_io {T : Nat → Option FnD} {f n : Nat} {fd : FnD} {args xs ys : List D} {v : Val} {ρ' : Env} (h : T f = some fd) (hio : fd.io = true) (hnp : args.length + 1 = fd.np)
    (e : evS (callN T n) fd.body (startE fd.n (.io xs :: args.map .d)) = some (.rt v ρ')) (e0 : ioAt ρ' = some ys) : callN T (n + 1) f (some xs) args = some (v, some ys) := by
  rw [callN_ev, h, Option.bind_some]
  unfold evFn
  rw [hio]
  simp only [hnp, if_true]
  unfold runFn
  rw [e]
  simp only [outE, hio, e0]
  rfl
/-! ## limits -/
section
variable {β : Type} {x y : β}
theorem iteA {a b : Nat} (h : a ≤ b) : (if a ≤ b then x else y) = x := if_pos h
theorem iteB {a b : Nat} (h : a < b) : (if a < b then x else y) = x := if_pos h
theorem iteC {a b : Int} (h : a ≤ b) : (if a ≤ b then x else y) = x := if_pos h
theorem iteD {a b : Int} (h : a < b) : (if a < b then x else y) = x := if_pos h
theorem iteE {a b c : Int} (h : a < b ∧ b < c) : (if a < b ∧ b < c then x else y) = x := if_pos h
theorem iteF {a b c d e : Int} (h : a ≤ b ∧ b < c) : (if a ≤ b ∧ b < c then x else y) = x := if_pos h
end
/-! ## loops, typed -/
section
variable {C : CallF}
/-- one turn of a comprehension -/
def comp1 (C : CallF) (own : List Nat) (tg : Tg) (cond elt : Ex) (x : D) (ρ : Env) : Option (Option D × Env) :=
  (bindT tg x ρ).bind fun ρ1 => (evQ C cond ρ1).bind fun r => if r.1 then (frzV (ev C elt r.2)).map fun q => (some q.1, wipeE q.2 own) else some (none, wipeE r.2 own)
theorem compL_1 {C : CallF} {own : List Nat} {tg : Tg} {cond elt : Ex} {x : D} {xs acc : List D} {ρ : Env} :
    compL own (bindT tg) (evQ C cond) (fun ρ => frzV (ev C elt ρ)) (x :: xs) acc ρ = (comp1 C own tg cond elt x ρ).bind fun q => compL own (bindT tg) (evQ C cond) (fun ρ => frzV (ev C elt ρ)) xs (acc ++ q.1.toList) q.2 := by
  unfold comp1
  rw [compL]
  cases bindT tg x ρ with
  | none => rfl
  | some ρ1 =>
    simp only [Option.bind_some]
    cases evQ C cond ρ1 with
    | none => rfl
    | some r =>
      simp only [Option.bind_some]
      obtain ⟨b, ρ2⟩ := r
      cases b with
      | true =>
        simp only [if_true]
        cases frzV (ev C elt ρ2) with
        | none => rfl
        | some q => rfl
      | false => simp
theorem comp_oL {α : Type} {own : List Nat} {tg : Tg} {cond elt : Ex} {ρ : Env} (enc : α → D) (g : α → Option D) : ∀ {xs : List α} {acc : List D},
    (∀ x ∈ xs, comp1 C own tg cond elt (enc x) ρ = some (g x, ρ)) → compL own (bindT tg) (evQ C cond) (fun ρ => frzV (ev C elt ρ)) (xs.map enc) acc ρ = some (acc ++ xs.filterMap g, ρ)
  | [], acc, _ => by simp [compL]
  | x :: xs, acc, h => by
    rw [List.map_cons, compL_1, h x List.mem_cons_self, Option.bind_some, comp_oL enc g fun y hy => h y (List.mem_cons_of_mem _ hy), List.filterMap_cons]
    cases g x <;> simp
/-- a comprehension, its items one by one -/
theorem comp_o {α : Type} {own : List Nat} {tg : Tg} {cond elt : Ex} {ρ : Env} {enc : α → D} (g : α → Option D) {xs : List α}
    (h : ∀ x ∈ xs, comp1 C own tg cond elt (enc x) ρ = some (g x, ρ)) : compE C own tg cond elt (xs.map enc) ρ = some (xs.filterMap g, ρ) := by
  have := comp_oL (C := C) (own := own) (tg := tg) (cond := cond) (elt := elt) enc g (acc := []) h
  rw [List.nil_append] at this
  exact this
theorem comp_m {α : Type} {own : List Nat} {tg : Tg} {cond elt : Ex} {ρ : Env} {enc : α → D} (g : α → D) {xs : List α}
    (h : ∀ x ∈ xs, comp1 C own tg cond elt (enc x) ρ = some (some (g x), ρ)) : compE C own tg cond elt (xs.map enc) ρ = some (xs.map g, ρ) := by
  rw [comp_o (fun x => some (g x)) h]
  simp
theorem comp_c {α : Type} {own : List Nat} {tg : Tg} {cond elt : Ex} {ρ : Env} {enc : α → D} (c : α → Bool) (g : α → D) {xs : List α}
    (h : ∀ x ∈ xs, comp1 C own tg cond elt (enc x) ρ = some (if c x then some (g x) else none, ρ)) : compE C own tg cond elt (xs.map enc) ρ = some ((xs.filter c).map g, ρ) := by
  rw [comp_o (fun x => if c x then some (g x) else none) h]
  congr 1
  congr 1
  induction xs with
  | nil => rfl
  | cons x xs ih =>
    have := ih fun y hy => h y (List.mem_cons_of_mem _ hy)
    rw [List.filterMap_cons, List.filter_cons, this]
    cases c x <;> simp
/-- one turn of a for -/
def for1 (C : CallF) (tg : Tg) (b : Sx) (x : D) (ρ : Env) : Option Res := (bindT tg x ρ).bind fun ρ1 => evS C b ρ1
theorem forE_1 {tg : Tg} {b : Sx} {x : D} {xs : List D} {ρ : Env} : forE C tg b (x :: xs) ρ = match for1 C tg b x ρ with
    | some (.nx ρ2) => forE C tg b xs ρ2
    | some (.rt v ρ2) => some (.rt v ρ2)
    | none => none := by
  rw [forE_cons]
  unfold for1
  cases bindT tg x ρ <;> rfl
/-- a for by a relation of a state and the frame -/
theorem for_r {α σ : Type} {tg : Tg} {b : Sx} {enc : α → D} (I : σ → Env → Prop) (step : σ → α → σ) : ∀ {xs : List α} {s : σ} {ρ : Env}, I s ρ →
    (∀ x ∈ xs, ∀ s ρ, I s ρ → ∃ ρ', for1 C tg b (enc x) ρ = some (.nx ρ') ∧ I (step s x) ρ') → ∃ ρ', forE C tg b (xs.map enc) ρ = some (.nx ρ') ∧ I (xs.foldl step s) ρ'
  | [], s, ρ, i, _ => ⟨ρ, by rw [List.map_nil, forE_nil], i⟩
  | x :: xs, s, ρ, i, h => by
    obtain ⟨ρ1, e1, i1⟩ := h x List.mem_cons_self s ρ i
    obtain ⟨ρ2, e2, i2⟩ := for_r I step (xs := xs) i1 fun y hy => h y (List.mem_cons_of_mem _ hy)
    refine ⟨ρ2, ?_, i2⟩
    rw [List.map_cons, forE_1, e1]
    exact e2
/-- .. with the number of turns done -/
theorem for_n {α σ : Type} {tg : Tg} {b : Sx} {enc : α → D} (I : Nat → σ → Env → Prop) (step : σ → α → σ) : ∀ {xs : List α} {k : Nat} {s : σ} {ρ : Env}, I k s ρ →
    (∀ x ∈ xs, ∀ k s ρ, I k s ρ → ∃ ρ', for1 C tg b (enc x) ρ = some (.nx ρ') ∧ I (k + 1) (step s x) ρ') → ∃ ρ', forE C tg b (xs.map enc) ρ = some (.nx ρ') ∧ I (k + xs.length) (xs.foldl step s) ρ'
  | [], k, s, ρ, i, _ => ⟨ρ, by rw [List.map_nil, forE_nil], i⟩
  | x :: xs, k, s, ρ, i, h => by
    obtain ⟨ρ1, e1, i1⟩ := h x List.mem_cons_self k s ρ i
    obtain ⟨ρ2, e2, i2⟩ := for_n I step (xs := xs) i1 fun y hy => h y (List.mem_cons_of_mem _ hy)
    refine ⟨ρ2, ?_, ?_⟩
    · rw [List.map_cons, forE_1, e1]
      exact e2
    · rw [List.length_cons, Nat.add_comm xs.length 1, ← Nat.add_assoc]; exact i2
/-- .. by what has been walked -/
theorem for_p {α : Type} {tg : Tg} {b : Sx} {enc : α → D} (I : List α → Env → Prop) {all : List α} {ρ : Env} (i : I [] ρ)
    (h : ∀ pre x post, all = pre ++ x :: post → ∀ ρ, I pre ρ → ∃ ρ', for1 C tg b (enc x) ρ = some (.nx ρ') ∧ I (pre ++ [x]) ρ') : ∃ ρ', forE C tg b (all.map enc) ρ = some (.nx ρ') ∧ I all ρ' := by
  have key : ∀ (xs pre : List α) (ρ : Env), all = pre ++ xs → I pre ρ → ∃ ρ', forE C tg b (xs.map enc) ρ = some (.nx ρ') ∧ I all ρ' := by
    intro xs
    induction xs with
    | nil => intro pre ρ e i; rw [List.append_nil] at e; subst e; exact ⟨ρ, by rw [List.map_nil, forE_nil], i⟩
    | cons x xs ih =>
      intro pre ρ e i
      obtain ⟨ρ1, e1, i1⟩ := h pre x xs e ρ i
      obtain ⟨ρ2, e2, i2⟩ := ih (pre ++ [x]) ρ1 (by rw [e]; simp) i1
      exact ⟨ρ2, by rw [List.map_cons, forE_1, e1]; exact e2, i2⟩
  exact key all [] ρ rfl i
/-- a for that may return at the first item found -/
theorem for_f {α : Type} {tg : Tg} {b : Sx} {enc : α → D} (p : α → Bool) (v : α → Val) (I : Env → Prop) : ∀ {xs : List α} {ρ : Env}, I ρ →
    (∀ x ∈ xs, ∀ ρ, I ρ → if p x then ∃ ρ', for1 C tg b (enc x) ρ = some (.rt (v x) ρ') else ∃ ρ', for1 C tg b (enc x) ρ = some (.nx ρ') ∧ I ρ') →
    match xs.find? p with
    | none => ∃ ρ', forE C tg b (xs.map enc) ρ = some (.nx ρ') ∧ I ρ'
    | some x => ∃ ρ', forE C tg b (xs.map enc) ρ = some (.rt (v x) ρ')
  | [], ρ, i, _ => ⟨ρ, by rw [List.map_nil, forE_nil], i⟩
  | x :: xs, ρ, i, h => by
    have h1 := h x List.mem_cons_self ρ i
    rw [List.find?_cons]
    cases hp : p x with
    | true =>
      rw [hp, if_pos rfl] at h1
      obtain ⟨ρ1, e1⟩ := h1
      exact ⟨ρ1, by rw [List.map_cons, forE_1, e1]⟩
    | false =>
      rw [hp, if_neg (by simp)] at h1
      obtain ⟨ρ1, e1, i1⟩ := h1
      have ih := for_f p v I (xs := xs) i1 fun y hy => h y (List.mem_cons_of_mem _ hy)
      have e : forE C tg b ((x :: xs).map enc) ρ = forE C tg b (xs.map enc) ρ1 := by rw [List.map_cons, forE_1, e1]
      simp only [e]
      exact ih
theorem whl_stop {t : Ex} {b : Sx} {n : Nat} {ρ ρ1 : Env} (h : toB (ev C t ρ) = some (false, ρ1)) : whlE C t b (n + 1) ρ = some (.nx ρ1) := by
  unfold whlE
  rw [whlL, h]
  rfl
theorem whl_go {t : Ex} {b : Sx} {n : Nat} {ρ ρ1 ρ2 : Env} (h : toB (ev C t ρ) = some (true, ρ1)) (h2 : evS C b ρ1 = some (.nx ρ2)) : whlE C t b (n + 1) ρ = whlE C t b n ρ2 := by
  unfold whlE
  rw [whlL, h]
  simp [h2]
theorem obind {α β : Type} {a : α} {f : α → Option β} : (some a).bind f = f a := Eq.trans (Option.bind_some a f) (Eq.refl (f a))
theorem omap {α β : Type} {a : α} {f : α → β} : (some a).map f = some (f a) := Eq.trans (Option.map_some ..) (Eq.refl (some (f a)))
/-- what a range gives, the arguments given -/
def rngV (o : Option (List D × Env)) : Option (List D × Env) := o.bind fun r => (rngD r.1).map fun xs => (xs, r.2)
theorem evI_rngV {a : Ex} {ρ : Env} : evI C (.rng a) ρ = rngV (evD C a ρ) := evI_rng
@[simp] theorem rngV_some {ds : List D} {ρ : Env} : rngV (some (ds, ρ)) = (rngD ds).map fun xs => (xs, ρ) := Eq.trans (Option.bind_some ..) (Eq.refl _)
/-- a while by a measure -/
theorem whl_r {σ : Type} {t : Ex} {b : Sx} (I : σ → Env → Prop) (c : σ → Bool) (step : σ → σ) (μ : σ → Nat)
    (ht : ∀ s ρ, I s ρ → toB (ev C t ρ) = some (c s, ρ)) (hb : ∀ s ρ, I s ρ → c s = true → ∃ ρ', evS C b ρ = some (.nx ρ') ∧ I (step s) ρ' ∧ μ (step s) < μ s) :
    ∀ (n : Nat) (s : σ) (ρ : Env), I s ρ → μ s < n → ∃ s' ρ', whlE C t b n ρ = some (.nx ρ') ∧ I s' ρ' ∧ c s' = false
  | 0, s, ρ, _, h => absurd h (by omega)
  | n + 1, s, ρ, i, h => by
    have e := ht s ρ i
    unfold whlE
    rw [whlL, e, Option.bind_some]
    cases hc : c s with
    | false => exact ⟨s, ρ, by simp, i, hc⟩
    | true =>
      obtain ⟨ρ1, e1, i1, m1⟩ := hb s ρ i hc
      obtain ⟨s', ρ', e2, i2, c2⟩ := whl_r I c step μ ht hb n (step s) ρ1 i1 (by omega)
      refine ⟨s', ρ', ?_, i2, c2⟩
      simp only [if_true, e1]
      exact e2
end
theorem rangeI_rI (a b : Int) : rangeI a b 1 = (rI a b).map .int := by
  unfold rangeI rI
  rw [if_pos (by decide), List.map_map]
  have : (b - a + 1 - 1) / 1 = b - a := by rw [Int.ediv_one]; omega
  rw [this]
  refine List.map_congr_left fun i _ => ?_
  simp
theorem rng_1 {k : Int} (h0 : -1000 ≤ k) (h1 : k < 16777216) : rngD [.int k] = some ((rI 0 k).map .int) := by
  rw [← rangeI_rI]
  show (if (inR k && decide (k < 16777216)) = true then some (rangeI 0 k 1) else none) = _
  rw [if_pos (by simp [inR]; omega)]
theorem rng_2 {a b : Int} (h0 : -1000 ≤ a) (h2 : -1000 ≤ b) (h3 : a < 1152921504606846976) (h4 : b < 1152921504606846976) (h1 : b - a < 16777216) : rngD [.int a, .int b] = some ((rI a b).map .int) := by
  rw [← rangeI_rI]
  show (if (inR a && inR b && decide (b - a < 16777216)) = true then some (rangeI a b 1) else none) = _
  rw [if_pos (by simp [inR]; omega)]
theorem enu_map {α : Type} (enc : α → D) (xs : List α) : enuD (xs.map enc) = xs.zipIdx.map fun p => .tuple [.int (p.2 : Nat), enc p.1] := by
  unfold enuD
  rw [List.zipIdx_map, List.map_map]
  rfl
end Mn

namespace Mn
open PySem
open Bd
variable {T : Nat → Option FnD}
theorem next_time_spec (h18 : T 18 = some d_next_time) {n : Nat} {l : Ln} (o : l.ok) {m : Int} : callN T (n + 1) 18 none [eL l, .int m] = some (.d (.int (beg l m)), none) := by
  have := o.e1
  rw [callN_ev, h18]
  simp [-List.map_map, -evI_rng, evI_rngV, -Option.bind_some, -Option.map_some, obind, omap, evFn, runFn, startE, look2, look, isVar, peek, peekA, rdVar, tyOf, outE, ioAt, retV, argD, argK, frzAll, Val.scalar, d_next_time, eL, beg, show 0 < l.e by omega]
theorem minL_mn : ∀ {ts : List Int}, ts ≠ [] → minL ts = some (mn ts)
  | [], h => absurd rfl h
  | [x], _ => rfl
  | x :: y :: r, _ => by
    have ih := minL_mn (ts := y :: r) (by simp)
    simp only [minL, List.foldl_cons, Option.some.injEq] at ih ⊢
    rw [mn, ← ih]
    have : ∀ (r : List Int) (a b : Int), r.foldl min (min a b) = min a (r.foldl min b) := by
      intro r
      induction r with
      | nil => intros; rfl
      | cons c r ih => intro a b; rw [List.foldl_cons, List.foldl_cons, ← ih]; congr 1; omega
    exact this r x y
theorem indexL_int (t : Int) : ∀ (ts : List Int) (k : Nat), indexL (.int t) (ts.map .int) k = if t ∈ ts then some (k + ts.findIdx (fun x => decide (x = t))) else none
  | [], k => by simp [indexL]
  | x :: ts, k => by
    rw [List.map_cons, indexL, indexL_int t ts (k + 1), List.findIdx_cons]
    by_cases h : x = t
    · subst h; simp [PyData.eqv]
    · have h2 : ¬ t = x := fun e => h e.symm
      have h3 : (PyData.int x).eqv (.int t) = false := by simp [PyData.eqv, h]
      rw [h3]
      simp only [Bool.false_eq_true, if_false, List.mem_cons, h2, false_or, h, decide_false, cond_false]
      split
      · congr 1; omega
      · rfl
theorem depth_ints (ts : List Int) : (PyData.list (ts.map .int)).depth ≤ 64 := by
  rw [PyData.depth]
  have : PyData.depthAll (ts.map .int) ≤ 0 := depthAll_le fun x hx => by
    obtain ⟨i, _, rfl⟩ := List.mem_map.mp hx
    simp [PyData.depth]
  omega
theorem index_am {ts : List Int} (h : ts ≠ []) : indexD (.list (ts.map .int)) (.int (mn ts)) = some (am ts) := by
  unfold indexD
  simp only
  rw [if_pos ⟨by simp [PyData.depth], depth_ints ts⟩, indexL_int, if_pos (mn_mem h), Nat.zero_add]
  rfl
theorem dInts_map : ∀ ts : List Int, dInts (ts.map .int) = some ts
  | [] => rfl
  | t :: ts => by rw [List.map_cons, dInts, dInts_map ts]; rfl
@[simp] theorem min1_l {ts : List Int} : bi1D .min1 (.list (ts.map .int)) = (minL ts).map fun m => .d (.int m) := by
  show ((dInts (ts.map .int)).bind fun ns => (minL ns).map fun m => Val.d (.int m)) = _
  rw [dInts_map]; rfl
@[simp] theorem max1_l {ts : List Int} : bi1D .max1 (.list (ts.map .int)) = (maxL ts).map fun m => .d (.int m) := by
  show ((dInts (ts.map .int)).bind fun ns => (maxL ns).map fun m => Val.d (.int m)) = _
  rw [dInts_map]; rfl
@[simp] theorem sum_l {ts : List Int} : bi1D .sum (.list (ts.map .int)) = some (.d (.int ts.sum)) := by
  show ((dInts (ts.map .int)).map fun ns => Val.d (.int ns.sum)) = _
  rw [dInts_map]; rfl
/-- a departure as the program tells it -/
def eDep (ls : List Ln) (p : Pr) : D := .tuple [.int p.1, .int (p.2 : Nat), .str (eS (labAt ls p.2))]
structure Nxt (T : Nat → Option FnD) : Prop where
  h18 : T 18 = some d_next_time
  h19 : T 19 = some d_next_ones
theorem nx_turn (C : CallF) {ls : List Ln} (hne : ls ≠ []) {rows m : Int} {ts : List Int} (hl : ts.length = ls.length) {acc : List D} {a5 a6 a7 : Option Slot} (ha : acc.length < 1000) :
    ∃ b6 b7, evS C b1_next_ones [some (.d (eLs ls)), some (.d (.int rows)), some (.d (.int m)), some (.own (ts.map .int)), some (.own acc), a5, a6, a7] =
      some (.nx [some (.d (eLs ls)), some (.d (.int rows)), some (.d (.int m)), some (.own ((ts.set (am ts) (mn ts + ((ls[am ts]?).map (·.e)).getD 0)).map .int)), some (.own (acc ++ [eDep ls (mn ts, am ts)])), a5, b6, b7]) := by
  have hn : ts ≠ [] := fun e => by subst e; exact hne (List.length_eq_zero_iff.mp hl.symm)
  have ha1 := am_lt hn
  have hal : am ts < ls.length := by omega
  have e1 : ls[am ts]? = some ls[am ts] := List.getElem?_eq_getElem hal
  refine ⟨some (.d (.int (mn ts))), some (.d (.int (am ts))), ?_⟩
  simp [-List.map_map, -evI_rng, evI_rngV, -Option.bind_some, -Option.map_some, obind, omap, evFn, runFn, startE, look2, look, isVar, peek, peekA, rdVar, tyOf, outE, ioAt, retV, argD, argK, frzAll, Val.scalar, b1_next_ones, minL_mn hn, index_am hn, listAt, eLs, hal, eL, eDep, labAt, show acc.length < 16777216 by omega, ha1]
theorem next_ones_spec (g : Nxt T) {n : Nat} {ls : List Ln} (hk : ∀ l ∈ ls, l.ok) (hne : ls ≠ []) (hll : ls.length ≤ 1000) {rows m : Int} (h0 : 0 ≤ rows) (h1 : rows ≤ 999) :
    callN T (n + 2) 19 none [eLs ls, .int rows, .int m] = some (.own ((nextP ls rows.toNat m).map (eDep ls)), none) := by
  rw [callN_ev, g.h19]
  have hw : ∀ (k : Nat) (ts : List Int) (acc : List D) (a5 a6 a7 : Option Slot) (N : Nat), ts.length = ls.length → acc.length + k = rows.toNat → k < N →
      ∃ ρ', whlE (callN T (n + 1)) (.cmp .Lt (.bi1 .len (.var 4)) (.var 1)) b1_next_ones N [some (.d (eLs ls)), some (.d (.int rows)), some (.d (.int m)), some (.own (ts.map .int)), some (.own acc), a5, a6, a7] = some (.nx ρ') ∧ ρ'.at 4 = some (.own (acc ++ (nx ls k ts).map (eDep ls))) := by
    intro k
    induction k with
    | zero =>
      intro ts acc a5 a6 a7 N hl ha hN
      obtain ⟨N, rfl⟩ : ∃ M, N = M + 1 := ⟨N - 1, by omega⟩
      exact ⟨_, whl_stop (by simp [-List.map_map, -evI_rng, evI_rngV, -Option.bind_some, -Option.map_some, obind, omap, evFn, runFn, startE, look2, look, isVar, peek, peekA, rdVar, tyOf, outE, ioAt, retV, argD, argK, frzAll, Val.scalar, show ¬ (acc.length : Int) < rows by omega]; rfl), by simp [nx]⟩
    | succ k ih =>
      intro ts acc a5 a6 a7 N hl ha hN
      obtain ⟨N, rfl⟩ : ∃ M, N = M + 1 := ⟨N - 1, by omega⟩
      obtain ⟨b6, b7, e1⟩ := nx_turn (callN T (n + 1)) hne (rows := rows) (m := m) hl (acc := acc) (a5 := a5) (a6 := a6) (a7 := a7) (by omega)
      obtain ⟨ρ', e2, e3⟩ := ih (ts.set (am ts) (mn ts + ((ls[am ts]?).map (·.e)).getD 0)) (acc ++ [eDep ls (mn ts, am ts)]) a5 b6 b7 N (by simpa using hl) (by simp; omega) (by omega)
      refine ⟨ρ', ?_, ?_⟩
      · rw [whl_go (by simp [-List.map_map, -evI_rng, evI_rngV, -Option.bind_some, -Option.map_some, obind, omap, evFn, runFn, startE, look2, look, isVar, peek, peekA, rdVar, tyOf, outE, ioAt, retV, argD, argK, frzAll, Val.scalar, show (acc.length : Int) < rows by omega]) e1]
        exact e2
      · rw [e3, nx]
        simp
  obtain ⟨ρ', e1, e2⟩ := hw rows.toNat (ls.map (beg · m)) [] none none none 100000 (by simp) (by simp) (by omega)
  have hc := comp_m (C := callN T (n + 1)) (own := [5]) (tg := .nm 5) (cond := .emp) (elt := .call 18 (.con (.var 5) (.con (.var 2) .emp))) (enc := eL)
    (ρ := [some (.d (eLs ls)), some (.d (.int rows)), some (.d (.int m)), none, none, none, none, none]) (fun l => .int (beg l m)) (xs := ls) fun l hl => by
      simp [comp1, -List.map_map, -evI_rng, evI_rngV, -Option.bind_some, -Option.map_some, obind, omap, evFn, runFn, startE, look2, look, isVar, peek, peekA, rdVar, tyOf, outE, ioAt, retV, argD, argK, frzAll, Val.scalar, next_time_spec g.h18 (n := n) (hk l hl)]
  have hm : (ls.map fun l => PyData.int (beg l m)) = (ls.map (beg · m)).map .int := by rw [List.map_map]; rfl
  rw [hm] at hc
  simp [-List.map_map, -evI_rng, evI_rngV, -Option.bind_some, -Option.map_some, obind, omap, evFn, runFn, startE, look2, look, isVar, peek, peekA, rdVar, tyOf, outE, ioAt, retV, argD, argK, frzAll, Val.scalar, d_next_ones, iterD, show ls.length < 16777216 by omega, hc, e1, e2]
  rfl
end Mn

namespace Mn
open PySem
open Bd
variable {T : Nat → Option FnD}
/-! ## the laws' next departures -/
theorem labS_eL {l : Ln} : labS (eL l) = eS l.c := rfl
theorem dep_eDep {ls : List Ln} {t : Int} {i : Nat} {l : Ln} (h : ls[i]? = some l) : dep t i (eL l) = eDep ls (t, i) := by
  unfold dep eDep labAt
  rw [labS_eL, h]
  rfl
theorem cand_cd {rows m : Int} {all : List Ln} : ∀ (ls : List Ln) (k : Nat), (∀ i, i < ls.length → all[k + i]? = ls[i]?) →
    candL rows m k (ls.map eL) = (cd k (stOf ls (ls.map (beg · m)) (ls.map fun _ => rows.toNat))).map (eDep all)
  | [], k, _ => rfl
  | l :: ls, k, h => by
    have h0 := h 0 (by simp)
    simp only [Nat.add_zero, List.getElem?_cons_zero] at h0
    have ih := cand_cd (rows := rows) (m := m) (all := all) ls (k + 1) fun i hi => by
      have := h (i + 1) (by simpa using hi)
      rw [List.getElem?_cons_succ] at this
      rw [← this]
      congr 1
      omega
    unfold stOf at ih ⊢
    simp only [List.map_cons, List.zip_cons_cons]
    rw [candL, cd, List.map_append, ih]
    congr 1
    rw [rangeI_rI]
    unfold rI
    simp only [List.map_map]
    rw [Int.sub_zero]
    refine List.map_congr_left fun s hs => ?_
    simp only [Function.comp_apply, Int.zero_add]
    exact dep_eDep h0
theorem ltB_dep {ls : List Ln} {a b : Pr} : ltB (eDep ls a) (eDep ls b) = decide (plt a b) := by
  obtain ⟨t, i⟩ := a
  obtain ⟨u, j⟩ := b
  unfold eDep plt
  simp only [ltB, ltBs, PyData.eqv, beq_iff_eq]
  by_cases h1 : t = u
  · subst h1
    by_cases h2 : (i : Int) = j
    · have : i = j := by omega
      subst this
      simp
    · have h3 : ¬ i = j := by omega
      simp [h2]
  · simp [h1]
theorem insD_ins {ls : List Ln} (x : Pr) : ∀ ys : List Pr, insD (eDep ls x) (ys.map (eDep ls)) = (ins x ys).map (eDep ls)
  | [] => rfl
  | y :: ys => by
    rw [List.map_cons, insD, ltB_dep, ins]
    by_cases h : plt y x
    · simp [h, insD_ins x ys]
    · simp [h]
theorem isortD_isort {ls : List Ln} : ∀ ys : List Pr, isortD (ys.map (eDep ls)) = (isort ys).map (eDep ls)
  | [] => rfl
  | y :: ys => by rw [List.map_cons, isortD, isortD_isort ys, insD_ins]; rfl
theorem nextL_eq {ls : List Ln} (hk : ∀ l ∈ ls, l.ok) (hne : ls ≠ []) {rows m : Int} : nextL (ls.map eL) rows m = (nextP ls rows.toNat m).map (eDep ls) := by
  unfold nextL
  rw [cand_cd (all := ls) ls 0 (fun i hi => by rw [Nat.zero_add]), isortD_isort, ← List.map_take,
    take_sorted ls (fun l hl => (hk l hl).e1) hne rows.toNat _ _ (by simp) (by simp) (fun c hc => by
      obtain ⟨_, _, rfl⟩ := List.mem_map.mp hc
      exact Nat.le_refl _)]
  rfl
theorem law_next_t (h23 : T 23 = some d_law_next) {n : Nat} {ls : List Ln} (hk : ∀ l ∈ ls, l.ok) (hne : ls ≠ []) (hl : ls.length ≤ 100) {rows m : Int} (h0 : 0 ≤ rows) (h1 : rows ≤ 1000) :
    callN T (n + 1) 23 none [eLs ls, .int rows, .int m] = some (.own ((nextP ls rows.toNat m).map (eDep ls)), none) := by
  rw [law_next_spec h23 (isLn_all hk) (by simpa using hl) h0 h1, nextL_eq hk hne]
/-! ## boards -/
/-- a row of a board -/
def eRow (p : Nat × Int) : D := .tuple [.str (eS p.1), .int p.2]
structure Brd (T : Nat → Option FnD) : Prop extends Nxt T where
  h20 : T 20 = some d_board
theorem board_spec (g : Brd T) {n : Nat} {ls : List Ln} (hk : ∀ l ∈ ls, l.ok) (hne : ls ≠ []) (hll : ls.length ≤ 1000) {rows m : Int} (h0 : 0 ≤ rows) (h1 : rows ≤ 999) :
    callN T (n + 3) 20 none [eLs ls, .int rows, .int m] = some (.own ((bdP ls rows.toNat m).map eRow), none) := by
  rw [callN_ev, g.h20]
  have hn := next_ones_spec g.toNxt (n := n) hk hne hll (m := m) h0 h1
  have hc := comp_m (C := callN T (n + 2)) (own := [3, 4, 5]) (tg := .cons (.nm 3) (.cons (.nm 4) (.cons (.nm 5) .nil))) (cond := .emp) (elt := .tup (.con (.var 5) (.con (.bin .Sub (.var 3) (.var 2)) .emp))) (enc := eDep ls)
    (ρ := [some (.d (eLs ls)), some (.d (.int rows)), some (.d (.int m)), none, none, none]) (fun p => eRow (labAt ls p.2, p.1 - m)) (xs := nextP ls rows.toNat m) fun p hp => by
      simp [comp1, -List.map_map, -evI_rng, evI_rngV, -Option.bind_some, -Option.map_some, obind, omap, evFn, runFn, startE, look2, look, isVar, peek, peekA, rdVar, tyOf, outE, ioAt, retV, argD, argK, frzAll, Val.scalar, eDep, eRow]
  have hlen : (nextP ls rows.toNat m).length < 16777216 := by unfold nextP; rw [nx_len]; omega
  simp [-List.map_map, -evI_rng, evI_rngV, -Option.bind_some, -Option.map_some, obind, omap, evFn, runFn, startE, look2, look, isVar, peek, peekA, rdVar, tyOf, outE, ioAt, retV, argD, argK, frzAll, Val.scalar, d_board, hn, iterD, hlen, hc]
  unfold bdP
  rw [List.map_map]
  rfl
theorem law_board_t (h23 : T 23 = some d_law_next) (h24 : T 24 = some d_law_board) {n : Nat} {ls : List Ln} (hk : ∀ l ∈ ls, l.ok) (hne : ls ≠ []) (hl : ls.length ≤ 100) {rows m : Int} (h0 : 0 ≤ rows) (h1 : rows ≤ 1000) :
    callN T (n + 2) 24 none [eLs ls, .int rows, .int m] = some (.own ((bdP ls rows.toNat m).map eRow), none) := by
  rw [law_board_spec h23 h24 (isLn_all hk) (by simpa using hl) h0 h1]
  unfold boardL bdP
  rw [nextL_eq hk hne, List.map_map, List.map_map]
  rfl
theorem bdP_len {ls : List Ln} {rows : Nat} {m : Int} : (bdP ls rows m).length = rows := by unfold bdP nextP; rw [List.length_map, nx_len]
/-- with rounded minutes -/
structure Rnd (T : Nat → Option FnD) : Prop extends Nxt T where
  h21 : T 21 = some d_rounded
def rdP (ls : List Ln) (rows : Nat) (m step : Int) : List (Nat × Int) := (bdP ls rows m).map fun p => (p.1, p.2 / step * step)
theorem rounded_spec (g : Rnd T) {n : Nat} {ls : List Ln} (hk : ∀ l ∈ ls, l.ok) (hne : ls ≠ []) (hll : ls.length ≤ 1000) {rows m step : Int} (h0 : 0 ≤ rows) (h1 : rows ≤ 999) (h2 : 1 ≤ step) (h3 : step ≤ 1000) :
    callN T (n + 3) 21 none [eLs ls, .int rows, .int m, .int step] = some (.own ((rdP ls rows.toNat m step).map eRow), none) := by
  rw [callN_ev, g.h21]
  have hn := next_ones_spec g.toNxt (n := n) hk hne hll (m := m) h0 h1
  have hi : inW step = true := by simp [inW]; omega
  have hc := comp_m (C := callN T (n + 2)) (own := [4, 5, 6]) (tg := .cons (.nm 4) (.cons (.nm 5) (.cons (.nm 6) .nil))) (cond := .emp) (elt := .tup (.con (.var 6) (.con (.bin .Mult (.bin .FloorDiv (.bin .Sub (.var 4) (.var 2)) (.var 3)) (.var 3)) .emp))) (enc := eDep ls)
    (ρ := [some (.d (eLs ls)), some (.d (.int rows)), some (.d (.int m)), some (.d (.int step)), none, none, none]) (fun p => eRow (labAt ls p.2, (p.1 - m) / step * step)) (xs := nextP ls rows.toNat m) fun p hp => by
      simp [comp1, -List.map_map, -evI_rng, evI_rngV, -Option.bind_some, -Option.map_some, obind, omap, evFn, runFn, startE, look2, look, isVar, peek, peekA, rdVar, tyOf, outE, ioAt, retV, argD, argK, frzAll, Val.scalar, eDep, eRow, show 0 < step by omega, show step < 18446744073709551616 by omega, hi]
  have hlen : (nextP ls rows.toNat m).length < 16777216 := by unfold nextP; rw [nx_len]; omega
  simp [-List.map_map, -evI_rng, evI_rngV, -Option.bind_some, -Option.map_some, obind, omap, evFn, runFn, startE, look2, look, isVar, peek, peekA, rdVar, tyOf, outE, ioAt, retV, argD, argK, frzAll, Val.scalar, d_rounded, hn, iterD, hlen, hc]
  unfold rdP bdP
  rw [List.map_map, List.map_map]
  rfl
/-! ## like, of a thing and itself or another -/
end Mn

namespace Mn
open PySem
open Bd
variable {T : Nat → Option FnD}
@[simp] theorem eqD_non : eqD .none .none = some true := by
  rw [eqD_of (by simp [PyData.depth]) (by simp [PyData.depth])]
  simp [PyData.eqv]
@[simp] theorem eqD_nil : eqD (.list []) (.list []) = some true := by
  rw [eqD_of (by simp [PyData.depth, PyData.depthAll]) (by simp [PyData.depth, PyData.depthAll])]
  rfl
theorem like_comp {C : CallF} {xs : List D} {a b : D} (ha : a = .tuple xs ∨ a = .list xs) (hl : xs.length ≤ 100000) (hC : ∀ y ∈ xs, C 8 none [y, y] = some (.d (.bool true), none)) :
    compE C [2] (.nm 2) (.one (.not (.call 8 (.con (.ix (.var 0) (.var 2)) (.con (.ix (.var 1) (.var 2)) .emp))))) (.var 2) ((rI 0 (xs.length : Int)).map .int) [some (.d a), some (.d a), none] = some ([], [some (.d a), some (.d a), none]) := by
  rw [comp_c (C := C) (enc := PyData.int) (fun _ => false) (fun i => .int i) (xs := rI 0 (xs.length : Int)) fun i hi => ?_]
  · simp
  · have hi := mem_rI.mp hi
    have h2 : i.toNat < xs.length := by omega
    have h3 := hC _ (List.getElem_mem h2)
    rcases ha with rfl | rfl <;> simp [comp1, -List.map_map, -evI_rng, evI_rngV, -Option.bind_some, -Option.map_some, obind, omap, evFn, runFn, startE, look2, look, isVar, peek, peekA, rdVar, tyOf, outE, ioAt, retV, argD, argK, frzAll, Val.scalar, hi.1, hi.2, h2, h3]
theorem like_tup {C : CallF} {xs : List D} (hl : xs.length ≤ 100000) (hC : ∀ y ∈ xs, C 8 none [y, y] = some (.d (.bool true), none)) : evFn C d_law_like none [.tuple xs, .tuple xs] = some (.d (.bool true), none) := by
  have hc := like_comp (C := C) (b := .none) (.inl rfl) hl hC
  have hr : rngD [.int (xs.length : Int)] = some ((rI 0 (xs.length : Int)).map .int) := rng_1 (by omega) (by omega)
  have hlen : (rI 0 (xs.length : Int)).length < 16777216 := by rw [rI_len]; omega
  generalize rI 0 (xs.length : Int) = rs at hc hr hlen
  simp [-List.map_map, -evI_rng, evI_rngV, -Option.bind_some, -Option.map_some, obind, omap, evFn, runFn, startE, look2, look, isVar, peek, peekA, rdVar, tyOf, outE, ioAt, retV, argD, argK, frzAll, Val.scalar, d_law_like, isTD, hr, hlen, hc]
theorem like_lst {C : CallF} {xs : List D} (hl : xs.length ≤ 100000) (hC : ∀ y ∈ xs, C 8 none [y, y] = some (.d (.bool true), none)) : evFn C d_law_like none [.list xs, .list xs] = some (.d (.bool true), none) := by
  have hc := like_comp (C := C) (b := .none) (.inr rfl) hl hC
  have hr : rngD [.int (xs.length : Int)] = some ((rI 0 (xs.length : Int)).map .int) := rng_1 (by omega) (by omega)
  have hlen : (rI 0 (xs.length : Int)).length < 16777216 := by rw [rI_len]; omega
  generalize rI 0 (xs.length : Int) = rs at hc hr hlen
  simp [-List.map_map, -evI_rng, evI_rngV, -Option.bind_some, -Option.map_some, obind, omap, evFn, runFn, startE, look2, look, isVar, peek, peekA, rdVar, tyOf, outE, ioAt, retV, argD, argK, frzAll, Val.scalar, d_law_like, isTD, hr, hlen, hc]
inductive Lk : Nat → D → Prop
  | non {n : Nat} : Lk n .none
  | bl {n : Nat} (b : Bool) : Lk n (.bool b)
  | int {n : Nat} (i : Int) : Lk n (.int i)
  | str {n : Nat} (x : Str) : Lk n (.str x)
  | lst {n : Nat} (xs : List D) (h : xs.length ≤ 100000) (k : ∀ x ∈ xs, Lk n x) : Lk (n + 1) (.list xs)
  | tup {n : Nat} (xs : List D) (h : xs.length ≤ 100000) (k : ∀ x ∈ xs, Lk n x) : Lk (n + 1) (.tuple xs)
theorem like_refl (h8 : T 8 = some d_law_like) {k : Nat} {x : D} (h : Lk k x) : ∀ {n : Nat}, callN T (n + k + 1) 8 none [x, x] = some (.d (.bool true), none) := by
  induction h with
  | non => intro n; rw [callN_ev, h8]; simp [-List.map_map, -evI_rng, evI_rngV, -Option.bind_some, -Option.map_some, obind, omap, evFn, runFn, startE, look2, look, isVar, peek, peekA, rdVar, tyOf, outE, ioAt, retV, argD, argK, frzAll, Val.scalar, d_law_like, isTD]
  | bl b => intro n; rw [callN_ev, h8]; simp [-List.map_map, -evI_rng, evI_rngV, -Option.bind_some, -Option.map_some, obind, omap, evFn, runFn, startE, look2, look, isVar, peek, peekA, rdVar, tyOf, outE, ioAt, retV, argD, argK, frzAll, Val.scalar, d_law_like, isTD]
  | int i => intro n; rw [callN_ev, h8]; simp [-List.map_map, -evI_rng, evI_rngV, -Option.bind_some, -Option.map_some, obind, omap, evFn, runFn, startE, look2, look, isVar, peek, peekA, rdVar, tyOf, outE, ioAt, retV, argD, argK, frzAll, Val.scalar, d_law_like, isTD]
  | str x => intro n; rw [callN_ev, h8]; simp [-List.map_map, -evI_rng, evI_rngV, -Option.bind_some, -Option.map_some, obind, omap, evFn, runFn, startE, look2, look, isVar, peek, peekA, rdVar, tyOf, outE, ioAt, retV, argD, argK, frzAll, Val.scalar, d_law_like, isTD]
  | lst xs h k ih => intro n; rw [callN_ev, h8, Option.bind_some]; exact like_lst h fun y hy => ih y hy
  | tup xs h k ih => intro n; rw [callN_ev, h8, Option.bind_some]; exact like_tup h fun y hy => ih y hy
theorem lk_l {α : Type} {n : Nat} {enc : α → D} {xs : List α} (h : xs.length ≤ 100000) (k : ∀ x ∈ xs, Lk n (enc x)) : Lk (n + 1) (.list (xs.map enc)) :=
  .lst _ (by simpa using h) fun d hd => by
    obtain ⟨x, hx, rfl⟩ := List.mem_map.mp hd
    exact k x hx
theorem lk_t {α : Type} {n : Nat} {enc : α → D} {xs : List α} (h : xs.length ≤ 100000) (k : ∀ x ∈ xs, Lk n (enc x)) : Lk (n + 1) (.tuple (xs.map enc)) :=
  .tup _ (by simpa using h) fun d hd => by
    obtain ⟨x, hx, rfl⟩ := List.mem_map.mp hd
    exact k x hx
theorem lk_row (p : Nat × Int) : Lk 1 (eRow p) := .tup _ (by simp) fun x hx => by
  simp only [List.mem_cons, List.not_mem_nil, or_false] at hx
  rcases hx with rfl | rfl
  · exact .str _
  · exact .int _
theorem lk_line (l : Ln) : Lk 1 (eL l) := .tup _ (by simp) fun x hx => by
  simp only [List.mem_cons, List.not_mem_nil, or_false] at hx
  rcases hx with rfl | rfl | rfl
  · exact .str _
  · exact .int _
  · exact .int _
theorem like_board (h8 : T 8 = some d_law_like) {n : Nat} {xs : List (Nat × Int)} (h : xs.length ≤ 1000) : callN T (n + 3) 8 none [.list (xs.map eRow), .list (xs.map eRow)] = some (.d (.bool true), none) :=
  like_refl h8 (lk_l (by omega) fun x _ => lk_row x)
theorem like_lines (h8 : T 8 = some d_law_like) {n : Nat} {ls : List Ln} (h : ls.length ≤ 1000) : callN T (n + 3) 8 none [eLs ls, eLs ls] = some (.d (.bool true), none) :=
  like_refl h8 (lk_t (by omega) fun x _ => lk_line x)
theorem like_int (h8 : T 8 = some d_law_like) {n : Nat} {i : Int} : callN T (n + 1) 8 none [.int i, .int i] = some (.d (.bool true), none) := like_refl h8 (k := 0) (.int i)
theorem like_b (h8 : T 8 = some d_law_like) {n : Nat} {b : Bool} : callN T (n + 1) 8 none [.bool b, .bool b] = some (.d (.bool true), none) := like_refl h8 (k := 0) (.bl b)
/-! ## draws -/
theorem draw_t (h5 : T 5 = some d_law_draw) (n : Nat) {t : List D} (ht : TapeOk t) (m : Int) (hm : 0 < m) (hm2 : m < 18446744073709551616) :
    ∃ r t', callN T (n + 1) 5 (some t) [.int m] = some (.d (.int r), some t') ∧ 0 ≤ r ∧ r < m ∧ TapeOk t' := draw_spec h5 ht hm hm2
theorem lines_t (g : Gen T) (n : Nat) {t : List D} (ht : TapeOk t) (kind : Str) (m : Int) (hm : 0 < m) (hm2 : m < 1000) :
    ∃ ls t', callN T (n + 4) 13 (some t) [.int m, .str kind] = some (.d (eLs ls), some t') ∧ OkLs m.toNat ls ∧ TapeOk t' := by
  obtain ⟨ds, t', e, h, o⟩ := lines_spec g (n := n) ht (kind := kind) hm hm2
  obtain ⟨ls, rfl, h2⟩ := lnsOk_ex h
  exact ⟨ls, t', e, h2, o⟩
theorem line_t (g : Gen T) (n : Nat) {t : List D} (ht : TapeOk t) (kind : Str) : ∃ l t', callN T (n + 3) 12 (some t) [.str kind] = some (.d (eL l), some t') ∧ l.ok ∧ TapeOk t' := by
  obtain ⟨d, t', e, h, o⟩ := line_spec g (n := n) ht (kind := kind)
  obtain ⟨l, rfl, h2⟩ := isLn_ex h
  exact ⟨l, t', e, h2, o⟩
theorem minute_t (h5 : T 5 = some d_law_draw) (h16 : T 16 = some d_law_minute) (n : Nat) {t : List D} (ht : TapeOk t) : ∃ r t', callN T (n + 2) 16 (some t) [] = some (.d (.int r), some t') ∧ 0 ≤ r ∧ r < 1000000000000000 ∧ TapeOk t' := by
  obtain ⟨r, t', e, h⟩ := minute_spec h5 h16 (n := n) ht
  exact ⟨r, t', e, h⟩
end Mn

namespace Mn
open PySem
open Bd
variable {T : Nat → Option FnD}
theorem lineS_ok {l : D} (h : IsLn l) : PyData.strOk (lineS l) = true := by
  obtain ⟨z, e, f, rfl, h1, h2, h3, h4, h5⟩ := h
  have a := (strOk_str (log_small (show 0 ≤ e by omega) (by omega))).1
  have b := (strOk_str (log_small h4 (by omega))).1
  have c := lab_ok h1
  exact strOk_append c (strOk_append (by decide +kernel) (strOk_append a (strOk_append (by decide +kernel) (strOk_append b (by decide +kernel)))))
theorem textS_ok {ls : List D} (h : ∀ l ∈ ls, IsLn l) (hl : ls.length ≤ 5) : PyData.strOk (textS ls) = true ∧ (textS ls).length ≤ 100 := by
  refine ⟨join_ok (by decide +kernel) fun w hw => ?_, ?_⟩
  · obtain ⟨l, hm, rfl⟩ := List.mem_map.mp hw
    exact lineS_ok (h l hm)
  · have h1 := join_len "; " (ls.map lineS)
    rw [semi_len, List.length_map] at h1
    have hs : ((ls.map lineS).map (·.length)).sum ≤ ls.length * 18 := by
      clear h1 hl
      induction ls with
      | nil => simp
      | cons w r ih =>
        have h1 := lineS_len (h w List.mem_cons_self)
        have h2 := ih fun x hx => h x (List.mem_cons_of_mem _ hx)
        simp [Nat.succ_mul] at h2 ⊢
        omega
    show (Str.join "; " (ls.map lineS)).length ≤ 100
    omega
theorem int_len3 {i : Int} (h0 : 0 ≤ i) (h1 : i < 1000) : (intStr i).length ≤ 3 := by
  have key : ∀ n : Fin 1000, (intStr ((n.val : Nat) : Int)).length ≤ 3 := by decide +kernel
  have := key ⟨i.toNat, by omega⟩
  simp only at this
  rwa [Int.toNat_of_nonneg h0] at this
theorem log_small3 {i : Int} (h0 : 0 ≤ i) (h1 : i < 1000) : i.natAbs.log2 < 1920 := by
  have := Nat.log2_le_self i.natAbs
  omega
theorem lns_str {l : Ln} : lineS (eL l) = eS l.c ++ (" every " ++ (intStr l.e ++ (" from " ++ (intStr l.f ++ Str.empty)))) := rfl
/-! ## boards as texts -/
theorem bdP_mem {ls : List Ln} (hk : ∀ l ∈ ls, l.ok) (hne : ls ≠ []) {rows : Nat} {m : Int} : ∀ p ∈ bdP ls rows m, 0 ≤ p.2 ∧ p.2 < 60 * (rows : Int) ∧ 97 ≤ p.1 ∧ p.1 ≤ 100 := by
  intro p hp
  unfold bdP at hp
  rw [next_stream hk (stream_len hk hne rows)] at hp
  obtain ⟨q, hq, rfl⟩ := List.mem_map.mp hp
  obtain ⟨h1, h2⟩ := List.mem_filter.mp (List.mem_of_mem_take hq)
  have h3 := grid_mem.mp h1
  unfold goesAt at h2
  have hl : ls[q.2]? = some ls[q.2] := List.getElem?_eq_getElem h3.2.2
  have o := hk _ (List.getElem_mem h3.2.2)
  have e : labAt ls q.2 = (ls[q.2]).c := by unfold labAt; rw [hl]; rfl
  refine ⟨by show 0 ≤ q.1 - m; omega, by show q.1 - m < _; omega, ?_, ?_⟩
  · show 97 ≤ labAt ls q.2; rw [e]; exact o.c0
  · show labAt ls q.2 ≤ 100; rw [e]; exact o.c1
def rwS (p : Nat × Int) : Str := eS p.1 ++ (if p.2 = 0 then (" now" : Str) else (" in " : Str) ++ intStr p.2)
theorem now_len : (" now" : Str).length = 4 := by decide +kernel
theorem in_len : (" in " : Str).length = 4 := by decide +kernel
theorem nl_len : ("\n" : Str).length = 1 := by decide +kernel
def RowsOk (xs : List (Nat × Int)) : Prop := xs.length ≤ 1000 ∧ ∀ p ∈ xs, 0 ≤ p.2 ∧ p.2 < 1000
theorem rwS_len {p : Nat × Int} (h : 0 ≤ p.2 ∧ p.2 < 1000) : (rwS p).length ≤ 8 := by
  unfold rwS
  rw [Str.length_append]
  split
  · rw [now_len]; simp
  · rw [Str.length_append, in_len]
    have := int_len3 h.1 h.2
    simp
    omega
theorem board_rows {ls : List Ln} (hk : ∀ l ∈ ls, l.ok) (hne : ls ≠ []) {rows : Nat} (hr : rows ≤ 16) {m : Int} : RowsOk (bdP ls rows m) :=
  ⟨by rw [bdP_len]; omega, fun p hp => by
    have := bdP_mem hk hne p hp
    omega⟩
theorem fmt_i3 {i : Int} (h0 : 0 ≤ i) (h1 : i < 1000) : fmtD (.int i) = some (intStr i) := by
  unfold fmtD
  simp only
  rw [if_pos (log_small3 h0 h1)]
def boardS (xs : List (Nat × Int)) : Str := Str.join "\n" (xs.map rwS)
theorem join_rows {xs : List (Nat × Int)} (h : RowsOk xs) : joinD "\n" (xs.map rwS) = some (boardS xs) := joins_spec (k := 8) (fun w hw => by
  obtain ⟨p, hp, rfl⟩ := List.mem_map.mp hw
  exact rwS_len (h.2 p hp)) (by rw [List.length_map, nl_len]; have := h.1; omega)
theorem board_text_spec (h88 : T 88 = some d_board_text) {n : Nat} {xs : List (Nat × Int)} (h : RowsOk xs) : callN T (n + 1) 88 none [.list (xs.map eRow)] = some (.d (.str (boardS xs)), none) := by
  rw [callN_ev, h88]
  have hc := comp_m (C := callN T n) (own := [1, 2]) (tg := .cons (.nm 1) (.cons (.nm 2) .nil)) (cond := .emp) (elt := .ife (.cmp .Eq (.var 2) (.cst (.int 0))) (.fst (.con (.fmt (.var 1)) (.con (.cst (.str " now")) .emp))) (.fst (.con (.fmt (.var 1)) (.con (.cst (.str " in ")) (.con (.fmt (.var 2)) .emp))))) (enc := eRow)
    (ρ := [some (.d (.list (xs.map eRow))), none, none]) (fun p => .str (rwS p)) (xs := xs) fun p hp => by
      have hp := h.2 p hp
      have hl := rwS_len hp
      unfold rwS at hl ⊢
      by_cases h0 : p.2 = 0
      · rw [if_pos h0] at hl ⊢
        simp [comp1, -List.map_map, -evI_rng, evI_rngV, -Option.bind_some, -Option.map_some, obind, omap, evFn, runFn, startE, look2, look, isVar, peek, peekA, rdVar, tyOf, outE, ioAt, retV, argD, argK, frzAll, Val.scalar, eRow, h0, catAll, Str.append_empty, show (eS p.1 ++ (" now" : Str)).length ≤ 16777216 by omega]
      · rw [if_neg h0] at hl ⊢
        have := int_len3 hp.1 hp.2
        simp [comp1, -List.map_map, -evI_rng, evI_rngV, -Option.bind_some, -Option.map_some, obind, omap, evFn, runFn, startE, look2, look, isVar, peek, peekA, rdVar, tyOf, outE, ioAt, retV, argD, argK, frzAll, Val.scalar, eRow, h0, catAll, Str.append_empty, fmt_i3 hp.1 hp.2, show (eS p.1 ++ ((" in " : Str) ++ intStr p.2)).length ≤ 16777216 by omega]
  have hx := h.1
  have hj := join_rows h
  have hs : dStrs (xs.map fun p => .str (rwS p)) = some (xs.map rwS) := by
    clear hc hx hj h
    induction xs with
    | nil => rfl
    | cons x xs ih => rw [List.map_cons, dStrs, ih]; rfl
  simp [-List.map_map, -evI_rng, evI_rngV, -Option.bind_some, -Option.map_some, obind, omap, evFn, runFn, startE, look2, look, isVar, peek, peekA, rdVar, tyOf, outE, ioAt, retV, argD, argK, frzAll, Val.scalar, d_board_text, iterD, show xs.length < 16777216 by omega, hc, hs, hj]
end Mn

namespace Mn
open PySem
open Bd
variable {T : Nat → Option FnD}
/-! ## slices -/
theorem cutA_map {α β : Type} (f : α → β) (xs : List α) (lo hi : Option Int) : cutA (xs.map f) lo hi = (cutA xs lo hi).map f := by
  unfold cutA
  rw [List.length_map, List.map_take, List.map_drop]
theorem sIx_of {n d k : Nat} : HT.sIx n d (some (k : Int)) = min k n := HT.sIx_nat n d k
theorem cut_to {α : Type} {xs : List α} {k : Int} (h : 0 ≤ k) : cutA xs none (some k) = xs.take k.toNat := by
  obtain ⟨k, rfl⟩ : ∃ n : Nat, k = n := ⟨k.toNat, by omega⟩
  unfold cutA
  rw [HT.sIx_none, Nat.sub_zero, List.drop_zero, sIx_of, Int.toNat_natCast]
  rcases Nat.le_total k xs.length with h1 | h1
  · rw [Nat.min_eq_left h1]
  · rw [Nat.min_eq_right h1, List.take_of_length_le (Nat.le_refl _), List.take_of_length_le h1]
theorem cut_from {α : Type} {xs : List α} {k : Int} (h : 0 ≤ k) : cutA xs (some k) none = xs.drop k.toNat := by
  obtain ⟨k, rfl⟩ : ∃ n : Nat, k = n := ⟨k.toNat, by omega⟩
  unfold cutA
  rw [HT.sIx_none, sIx_of, Int.toNat_natCast]
  rcases Nat.le_total k xs.length with h1 | h1
  · rw [Nat.min_eq_left h1, List.take_of_length_le (by rw [List.length_drop]; omega)]
  · rw [Nat.min_eq_right h1, List.drop_of_length_le (Nat.le_refl _), List.drop_of_length_le h1, List.take_nil]
theorem cut_mid {α : Type} {xs : List α} {a b : Int} (h : 0 ≤ a) (h2 : a ≤ b) : cutA xs (some a) (some b) = (xs.drop a.toNat).take (b.toNat - a.toNat) := by
  obtain ⟨a, rfl⟩ : ∃ n : Nat, a = n := ⟨a.toNat, by omega⟩
  obtain ⟨b, rfl⟩ : ∃ n : Nat, b = n := ⟨b.toNat, by omega⟩
  unfold cutA
  rw [sIx_of, sIx_of, Int.toNat_natCast, Int.toNat_natCast]
  rcases Nat.le_total a xs.length with h1 | h1
  · rw [Nat.min_eq_left h1]
    rcases Nat.le_total b xs.length with h3 | h3
    · rw [Nat.min_eq_left h3]
    · rw [Nat.min_eq_right h3, List.take_of_length_le (by rw [List.length_drop]; omega), List.take_of_length_le (by rw [List.length_drop]; omega)]
  · rw [Nat.min_eq_right h1, List.drop_of_length_le (Nat.le_refl _), List.drop_of_length_le h1, List.take_nil, List.take_nil]
theorem cut_last5 {α : Type} {xs : List α} : cutA xs (some (-5)) none = xs.drop (xs.length - 5) := by
  have e : HT.sIx xs.length 0 (some (-5)) = xs.length - 5 := by
    unfold HT.sIx
    simp
    omega
  unfold cutA
  rw [HT.sIx_none, e]
  exact List.take_of_length_le (by rw [List.length_drop]; omega)
theorem okl_take {k : Nat} {ls : List Ln} (h : ∀ l ∈ ls, l.ok) : ∀ l ∈ ls.take k, l.ok := fun l hl => h l (List.mem_of_mem_take hl)
theorem okl_drop {k : Nat} {ls : List Ln} (h : ∀ l ∈ ls, l.ok) : ∀ l ∈ ls.drop k, l.ok := fun l hl => h l (List.mem_of_mem_drop hl)
theorem okl_app {a b : List Ln} (h : ∀ l ∈ a, l.ok) (k : ∀ l ∈ b, l.ok) : ∀ l ∈ a ++ b, l.ok := fun l hl => (List.mem_append.mp hl).elim (h l) (k l)
theorem near_t (g : Gen T) (h50 : T 50 = some d_law_near) (n : Nat) {t : List D} (ht : TapeOk t) {ls : List Ln} (ho : OkLs 5 ls) :
    ∃ ls' t', callN T (n + 4) 50 (some t) [eLs ls] = some (.d (eLs ls'), some t') ∧ OkLs 5 ls' ∧ TapeOk t' := by
  obtain ⟨hk, hl1, hl5⟩ := ho
  rw [callN_ev, h50]
  obtain ⟨at_, t1, e1, a0, a1, o1⟩ := draw_t g.h5 (n + 2) ht (ls.length : Int) (by omega) (by omega)
  obtain ⟨way, t2, e2, w0, w1, o2⟩ := draw_t g.h5 (n + 2) o1 4 (by decide) (by decide)
  have hal : at_.toNat < ls.length := by omega
  have hg : L2.atI (ls.map eL) at_ = some (eL ls[at_.toNat]) := by
    rw [atI_of a0 (by simpa using a1)]; simp [hal]
  have o := hk _ (List.getElem_mem hal)
  generalize ls[at_.toNat] = l at hg o
  have hg : L2.atI (ls.map eL) at_ = some (.tuple [.str (eS l.c), .int l.e, .int l.f]) := hg
  have c1 : cutA (ls.map eL) none (some at_) = (ls.take at_.toNat).map eL := by rw [cut_to a0, List.map_take]
  have c2 : cutA (ls.map eL) (some (at_ + 1)) none = (ls.drop (at_ + 1).toNat).map eL := by rw [cut_from (by omega), List.map_drop]
  have le : l.f + 1 < 100 := by have := o.fe; have := o.e60; omega
  have he := o.e1
  obtain ⟨A, hA⟩ : ∃ A, A = ls.take at_.toNat := ⟨_, rfl⟩
  obtain ⟨B, hB⟩ : ∃ B, B = ls.drop (at_ + 1).toNat := ⟨_, rfl⟩
  have lA : A.length ≤ 5 := by rw [hA]; simp; omega
  have lB : B.length ≤ 5 := by rw [hB]; simp; omega
  have f1 : A.length ≤ 16777215 := by omega
  have f2 : A.length + 1 + B.length ≤ 16777216 := by omega
  have f3 : A.length + B.length ≤ 16777216 := by omega
  rw [← hA] at c1
  rw [← hB] at c2
  by_cases h0 : way = 0
  · subst h0
    refine ⟨ls.take at_.toNat ++ [⟨l.c, l.e, (l.f + 1) % l.e⟩] ++ ls.drop (at_ + 1).toNat, t2, ?_, ⟨okl_app (okl_app (okl_take hk) fun x hx => ?_) (okl_drop hk), by simp; omega, by simp; omega⟩, o2⟩
    · rw [← hA, ← hB]
      simp [-List.map_map, -evI_rng, evI_rngV, -Option.bind_some, -Option.map_some, obind, omap, evFn, runFn, startE, look2, look, isVar, peek, peekA, rdVar, tyOf, outE, ioAt, retV, argD, argK, frzAll, Val.scalar, d_law_near, e1, e2, hg, eL, c1, c2, f1, f2, f3, show 0 < l.e by omega]
    · rw [List.mem_singleton.mp hx]
      exact ⟨⟨he, Int.emod_nonneg _ (by show l.e ≠ 0; omega), Int.emod_lt_of_pos _ (by show 0 < l.e; omega)⟩, o.c0, o.c1, o.e60⟩
  · by_cases h1 : way = 1 ∧ 1 < ls.length
    · obtain ⟨rfl, h2⟩ := h1
      refine ⟨ls.take at_.toNat ++ ls.drop (at_ + 1).toNat, t2, ?_, ⟨okl_app (okl_take hk) (okl_drop hk), by simp; omega, by simp; omega⟩, o2⟩
      rw [← hA, ← hB]
      simp [-List.map_map, -evI_rng, evI_rngV, -Option.bind_some, -Option.map_some, obind, omap, evFn, runFn, startE, look2, look, isVar, peek, peekA, rdVar, tyOf, outE, ioAt, retV, argD, argK, frzAll, Val.scalar, d_law_near, e1, e2, hg, eL, c1, c2, show (1 : Int) < ls.length by omega, f1, f2, f3]
    · by_cases h2 : way = 2
      · subst h2
        have c3 : cutA (ls.map eL) (some at_) (some (at_ + 2)) = ((ls.drop at_.toNat).take 2).map eL := by
          rw [cut_mid a0 (by omega), List.map_take, List.map_drop]
          congr 1
          omega
        have c4 : cutA (ls.map eL) (some (at_ + 2)) none = (ls.drop (at_ + 2).toNat).map eL := by rw [cut_from (by omega), List.map_drop]
        refine ⟨ls.take at_.toNat ++ ((ls.drop at_.toNat).take 2).reverse ++ ls.drop (at_ + 2).toNat, t2, ?_, ⟨okl_app (okl_app (okl_take hk) fun x hx => ?_) (okl_drop hk), by simp; omega, by simp; omega⟩, o2⟩
        · obtain ⟨M, hM⟩ : ∃ M, M = (ls.drop at_.toNat).take 2 := ⟨_, rfl⟩
          obtain ⟨E, hE⟩ : ∃ E, E = ls.drop (at_ + 2).toNat := ⟨_, rfl⟩
          have lM : M.length ≤ 5 := by rw [hM]; simp; omega
          have lE : E.length ≤ 5 := by rw [hE]; simp; omega
          rw [← hM] at c3
          rw [← hE] at c4
          rw [← hA, ← hM, ← hE]
          simp [-List.map_map, -evI_rng, evI_rngV, -Option.bind_some, -Option.map_some, obind, omap, evFn, runFn, startE, look2, look, isVar, peek, peekA, rdVar, tyOf, outE, ioAt, retV, argD, argK, frzAll, Val.scalar, d_law_near, e1, e2, hg, eL, c1, c3, c4, look, show A.length + M.length ≤ 16777216 by omega, show A.length + M.length + E.length ≤ 16777216 by omega]
        · exact hk x (List.mem_of_mem_drop (List.mem_of_mem_take (List.mem_reverse.mp hx)))
      · obtain ⟨l2, t3, e3, o3, ot3⟩ := line_t g n o2 "any"
        have c5 : cutA ((ls ++ [l2]).map eL) (some (-5)) none = ((ls ++ [l2]).drop ((ls ++ [l2]).length - 5)).map eL := by rw [cut_last5, List.map_drop, List.length_map]
        refine ⟨(ls ++ [l2]).drop ((ls ++ [l2]).length - 5), t3, ?_, ⟨okl_drop (okl_app hk fun x hx => by rw [List.mem_singleton.mp hx]; exact o3), by simp; omega, by simp; omega⟩, ot3⟩
        have c6 : cutA (ls.map eL ++ [eL l2]) (some (-5)) none = ((ls ++ [l2]).drop ((ls ++ [l2]).length - 5)).map eL := by rw [← c5]; simp
        have h3 : ¬ (way = 1 ∧ 1 < (ls.length : Int)) := fun h => h1 ⟨h.1, by omega⟩
        by_cases h4 : way = 1
        · simp [-List.map_map, -evI_rng, evI_rngV, -Option.bind_some, -Option.map_some, obind, omap, evFn, runFn, startE, look2, look, isVar, peek, peekA, rdVar, tyOf, outE, ioAt, retV, argD, argK, frzAll, Val.scalar, d_law_near, e1, e2, hg, h4, show ls.length ≤ 16777215 by omega, show ¬ (1 : Int) < ls.length by omega, e3, c6]
        · simp [-List.map_map, -evI_rng, evI_rngV, -Option.bind_some, -Option.map_some, obind, omap, evFn, runFn, startE, look2, look, isVar, peek, peekA, rdVar, tyOf, outE, ioAt, retV, argD, argK, frzAll, Val.scalar, d_law_near, e1, e2, hg, h0, h2, h4, show ls.length ≤ 16777215 by omega, e3, c6]
end Mn

namespace Mn
open PySem
open Bd
variable {T : Nat → Option FnD}
theorem parted_t (g : Gen T) (h49 : T 49 = some d_law_parted) (n : Nat) {t : List D} (ht : TapeOk t) {ls : List Ln} (ho : OkLs 5 ls) :
    ∃ ls' t', callN T (n + 2) 49 (some t) [eLs ls] = some (.d (eLs ls'), some t') ∧ OkLs 5 ls' ∧ TapeOk t' := by
  obtain ⟨hk, hl1, hl5⟩ := ho
  rw [callN_ev, h49]
  obtain ⟨at_, t1, e1, a0, a1, o1⟩ := draw_t g.h5 n ht (ls.length : Int) (by omega) (by omega)
  obtain ⟨r, t2, e2, w0, w1, o2⟩ := draw_t g.h5 n o1 3 (by decide) (by decide)
  have hal : at_.toNat < ls.length := by omega
  have hg : L2.atI (ls.map eL) at_ = some (eL ls[at_.toNat]) := by
    rw [atI_of a0 (by simpa using a1)]; simp [hal]
  have o := hk _ (List.getElem_mem hal)
  generalize ls[at_.toNat] = l at hg o
  have hg : L2.atI (ls.map eL) at_ = some (.tuple [.str (eS l.c), .int l.e, .int l.f]) := hg
  have c1 : cutA (ls.map eL) none (some at_) = (ls.take at_.toNat).map eL := by rw [cut_to a0, List.map_take]
  have c2 : cutA (ls.map eL) (some (at_ + 1)) none = (ls.drop (at_ + 1).toNat).map eL := by rw [cut_from (by omega), List.map_drop]
  have c3 : cutA (ls.map eL) (some at_) none = (ls.drop at_.toNat).map eL := by rw [cut_from (by omega), List.map_drop]
  have he := o.e1
  have hiw : inW (2 + r) = true := by simp [inW]; omega
  have hiw2 : inW l.e = true := by have := o.e60; simp [inW]; omega
  have hA := okl_take (k := at_.toNat) hk
  have hB := okl_drop (k := (at_ + 1).toNat) hk
  have hE := okl_drop (k := at_.toNat) hk
  have lA : (ls.take at_.toNat).length = at_.toNat := by simp; omega
  have lB : (ls.drop (at_ + 1).toNat).length = ls.length - at_.toNat - 1 := by simp; omega
  have lE : (ls.drop at_.toNat).length = ls.length - at_.toNat := by simp
  generalize ls.take at_.toNat = A at c1 hA lA
  generalize ls.drop (at_ + 1).toNat = B at c2 hB lB
  generalize ls.drop at_.toNat = E at c3 hE lE
  by_cases hc : l.e * (2 + r) ≤ 60 ∧ (ls.length : Int) + (2 + r) ≤ 6
  · obtain ⟨hc1, hc2⟩ := hc
    have hr : rngD [.int (2 + r)] = some ((rI 0 (2 + r)).map .int) := rng_1 (by omega) (by omega)
    let mk : Int → Ln := fun s => ⟨l.c, l.e * (2 + r), l.f + l.e * s⟩
    have hcm := comp_m (C := callN T (n + 1)) (own := [8]) (tg := .nm 8) (cond := .emp) (elt := .tup (.con (.var 3) (.con (.bin .Mult (.var 4) (.var 6)) (.con (.bin .Add (.var 5) (.bin .Mult (.var 4) (.var 8))) .emp)))) (enc := PyData.int)
      (ρ := [some (.io t2), some (.d (eLs ls)), some (.d (.int at_)), some (.d (.str (eS l.c))), some (.d (.int l.e)), some (.d (.int l.f)), some (.d (.int (2 + r))), none, none, none, none, none]) (fun s => eL (mk s)) (xs := rI 0 (2 + r)) fun s hs => by
        simp [comp1, -List.map_map, -evI_rng, evI_rngV, -Option.bind_some, -Option.map_some, obind, omap, evFn, runFn, startE, look2, look, isVar, peek, peekA, rdVar, tyOf, outE, ioAt, retV, argD, argK, frzAll, Val.scalar, eL, mk, hiw, hiw2]
    have hml : (rI 0 (2 + r)).length = (2 + r).toNat := by rw [rI_len, Int.sub_zero]
    have hmk : ∀ s ∈ rI 0 (2 + r), (mk s).ok := fun s hs => by
      have hs := mem_rI.mp hs
      have e1 : l.e * s ≤ l.e * (1 + r) := Int.mul_le_mul_of_nonneg_left (by omega) (by omega)
      have e2 : l.e * (2 + r) = l.e * (1 + r) + l.e := by rw [Int.mul_add, Int.mul_add]; omega
      have e3 : 0 ≤ l.e * s := Int.mul_nonneg (by omega) hs.1
      have e4 : 0 ≤ l.e * (1 + r) := Int.mul_nonneg (by omega) (by omega)
      have := o.f0; have := o.fe
      exact ⟨⟨by show 1 ≤ l.e * (2 + r); omega, by show 0 ≤ l.f + l.e * s; omega, by show l.f + l.e * s < l.e * (2 + r); omega⟩, o.c0, o.c1, hc1⟩
    have hmm : (rI 0 (2 + r)).map (fun s => eL (mk s)) = ((rI 0 (2 + r)).map mk).map eL := by rw [List.map_map]; rfl
    rw [hmm] at hcm
    have hM : ∀ l ∈ (rI 0 (2 + r)).map mk, l.ok := fun l hl => by
      obtain ⟨s, hs, rfl⟩ := List.mem_map.mp hl
      exact hmk s hs
    have lM : ((rI 0 (2 + r)).map mk).length = (2 + r).toNat := by rw [List.length_map, hml]
    generalize (rI 0 (2 + r)).map mk = M at hcm hM lM
    obtain ⟨ρ', f1, t3, rest, b10, b11, rfl, o3, hR, lR⟩ := for_p (C := callN T (n + 1)) (tg := .nm 10) (b := b1_law_parted) (enc := eL)
      (fun pre ρ => ∃ t rest b10 b11, ρ = [some (.io t), some (.d (eLs ls)), some (.d (.int at_)), some (.d (.str (eS l.c))), some (.d (.int l.e)), some (.d (.int l.f)), some (.d (.int (2 + r))), some (.d (.list (M.map eL))), none, some (.d (eLs rest)), b10, b11] ∧ TapeOk t ∧ (∀ l ∈ rest, l.ok) ∧ rest.length = A.length + B.length + pre.length)
      (all := M) (ρ := [some (.io t2), some (.d (eLs ls)), some (.d (.int at_)), some (.d (.str (eS l.c))), some (.d (.int l.e)), some (.d (.int l.f)), some (.d (.int (2 + r))), some (.d (.list (M.map eL))), none, some (.d (.tuple (A.map eL ++ B.map eL))), none, none])
      ⟨t2, A ++ B, none, none, by simp [eLs], o2, okl_app hA hB, by simp⟩ (fun pre x post hp ρ ⟨t, rest, b10, b11, hρ, ot, hR, lR⟩ => by
        subst hρ
        have hpl : pre.length < M.length := by rw [hp]; simp
        obtain ⟨sp, t4, e4, s0, s1, o4⟩ := draw_t g.h5 n ot ((rest.length : Int) + 1) (by omega) (by omega)
        have d1 : cutA (rest.map eL) none (some sp) = (rest.take sp.toNat).map eL := by rw [cut_to s0, List.map_take]
        have d2 : cutA (rest.map eL) (some sp) none = (rest.drop sp.toNat).map eL := by rw [cut_from s0, List.map_drop]
        have m1 := okl_take (k := sp.toNat) hR
        have m2 := okl_drop (k := sp.toNat) hR
        have n1 : (rest.take sp.toNat).length = sp.toNat := by simp; omega
        have n2 : (rest.drop sp.toNat).length = rest.length - sp.toNat := by simp
        generalize rest.take sp.toNat = P1 at d1 m1 n1
        generalize rest.drop sp.toNat = P2 at d2 m2 n2
        exact ⟨_, by simp [for1, -List.map_map, -evI_rng, evI_rngV, -Option.bind_some, -Option.map_some, obind, omap, evFn, runFn, startE, look2, look, isVar, peek, peekA, rdVar, tyOf, outE, ioAt, retV, argD, argK, frzAll, Val.scalar, b1_law_parted, e4, d1, d2, show P1.length ≤ 16777215 by omega, show P1.length + 1 + P2.length ≤ 16777216 by omega]; rfl, t4, P1 ++ [x] ++ P2, _, _, by simp [eLs]; exact ⟨rfl, rfl⟩, o4, okl_app (okl_app m1 fun y hy => by rw [List.mem_singleton.mp hy]; exact hM x (by rw [hp]; simp)) m2, by simp; omega⟩)
    refine ⟨rest, t3, ?_, ⟨hR, by omega, by omega⟩, o3⟩
    simp [-List.map_map, -evI_rng, evI_rngV, -Option.bind_some, -Option.map_some, obind, omap, evFn, runFn, startE, look2, look, isVar, peek, peekA, rdVar, tyOf, outE, ioAt, retV, argD, argK, frzAll, Val.scalar, d_law_parted, e1, e2, hg, hiw, hiw2, hc1, hc2, hr, hml, hcm, c1, c2, iterD, show (2 + r).toNat < 16777216 by omega, show A.length + B.length ≤ 16777216 by omega, f1]
  · refine ⟨E ++ A, t2, ?_, ⟨okl_app hE hA, by simp; omega, by simp; omega⟩, o2⟩
    by_cases hc1 : l.e * (2 + r) ≤ 60
    · simp [-List.map_map, -evI_rng, evI_rngV, -Option.bind_some, -Option.map_some, obind, omap, evFn, runFn, startE, look2, look, isVar, peek, peekA, rdVar, tyOf, outE, ioAt, retV, argD, argK, frzAll, Val.scalar, d_law_parted, e1, e2, hg, hiw, hiw2, hc1, show ¬ (ls.length : Int) + (2 + r) ≤ 6 by omega, c1, c3, show E.length + A.length ≤ 16777216 by omega]
    · simp [-List.map_map, -evI_rng, evI_rngV, -Option.bind_some, -Option.map_some, obind, omap, evFn, runFn, startE, look2, look, isVar, peek, peekA, rdVar, tyOf, outE, ioAt, retV, argD, argK, frzAll, Val.scalar, d_law_parted, e1, e2, hg, hiw, hiw2, hc1, c1, c3, show E.length + A.length ≤ 16777216 by omega]
end Mn

namespace Mn
open PySem
open Bd
variable {T : Nat → Option FnD}
/-! ## equality, typed -/
/-- an encoding that `==` sees through -/
structure EqE {α : Type} [DecidableEq α] (k : Nat) (enc : α → D) : Prop where
  eq : ∀ x y, PyData.eqv (enc x) (enc y) = decide (x = y)
  dp : ∀ x, (enc x).depth ≤ k
theorem eqvAll_map {α : Type} [DecidableEq α] {enc : α → D} (h : ∀ x y, PyData.eqv (enc x) (enc y) = decide (x = y)) : ∀ xs ys : List α, PyData.eqvAll (xs.map enc) (ys.map enc) = decide (xs = ys)
  | [], [] => rfl
  | [], y :: ys => rfl
  | x :: xs, [] => rfl
  | x :: xs, y :: ys => by
    rw [List.map_cons, List.map_cons, PyData.eqvAll, h, eqvAll_map h xs ys]
    by_cases h1 : x = y <;> by_cases h2 : xs = ys <;> simp [h1, h2]
theorem dp_all {α : Type} {k : Nat} {enc : α → D} (h : ∀ x, (enc x).depth ≤ k) (xs : List α) : PyData.depthAll (xs.map enc) ≤ k := depthAll_le fun d hd => by
  obtain ⟨x, _, rfl⟩ := List.mem_map.mp hd
  exact h x
theorem EqE.lst {α : Type} [DecidableEq α] {k : Nat} {enc : α → D} (h : EqE k enc) : EqE (k + 1) (fun xs : List α => PyData.list (xs.map enc)) :=
  ⟨fun xs ys => by show PyData.eqv (.list _) (.list _) = _; rw [PyData.eqv]; exact eqvAll_map h.eq xs ys, fun xs => by show (PyData.list _).depth ≤ _; rw [PyData.depth]; have := dp_all h.dp xs; omega⟩
theorem EqE.tup {α : Type} [DecidableEq α] {k : Nat} {enc : α → D} (h : EqE k enc) : EqE (k + 1) (fun xs : List α => PyData.tuple (xs.map enc)) :=
  ⟨fun xs ys => by show PyData.eqv (.tuple _) (.tuple _) = _; rw [PyData.eqv]; exact eqvAll_map h.eq xs ys, fun xs => by show (PyData.tuple _).depth ≤ _; rw [PyData.depth]; have := dp_all h.dp xs; omega⟩
theorem eqE_int : EqE 0 PyData.int := ⟨fun x y => by simp [PyData.eqv, Bool.beq_eq_decide_eq], fun x => by simp [PyData.depth]⟩
theorem eqE_nat : EqE 0 (fun n : Nat => PyData.int n) := ⟨fun x y => by simp [PyData.eqv, Bool.beq_eq_decide_eq]; omega, fun x => by simp [PyData.depth]⟩
theorem eqv_eS (a b : Nat) : PyData.eqv (.str (eS a)) (.str (eS b)) = decide (a = b) := by
  simp only [PyData.eqv]
  have : (eS a == eS b) = decide (eS a = eS b) := Bool.beq_eq_decide_eq _ _
  rw [this, Bool.eq_iff_iff, decide_eq_true_eq, decide_eq_true_eq, eS_inj]
theorem eqE_row : EqE 1 eRow := ⟨fun x y => by
    unfold eRow
    rw [PyData.eqv, PyData.eqvAll, PyData.eqvAll, PyData.eqvAll, eqv_eS, eqE_int.eq]
    obtain ⟨a, b⟩ := x
    obtain ⟨c, d⟩ := y
    by_cases h1 : a = c <;> by_cases h2 : b = d <;> simp [h1, h2], fun x => by simp [eRow, PyData.depth, PyData.depthAll]⟩
theorem eqE_line : EqE 1 eL := ⟨fun x y => by
    unfold eL
    rw [PyData.eqv, PyData.eqvAll, PyData.eqvAll, PyData.eqvAll, PyData.eqvAll, eqv_eS, eqE_int.eq, eqE_int.eq]
    obtain ⟨a, b, c⟩ := x
    obtain ⟨d, e, f⟩ := y
    by_cases h1 : a = d <;> by_cases h2 : b = e <;> by_cases h3 : c = f <;> simp [h1, h2, h3], fun x => by simp [eL, PyData.depth, PyData.depthAll]⟩
theorem eqD_t {α : Type} [DecidableEq α] {k : Nat} {enc : α → D} (h : EqE k enc) (hk : k ≤ 60) (x y : α) : eqD (enc x) (enc y) = some (decide (x = y)) := by
  rw [eqD_of (by have := h.dp x; omega) (by have := h.dp y; omega), h.eq]
theorem eqD_rowsT (xs ys : List (Nat × Int)) : eqD (.tuple (xs.map eRow)) (.tuple (ys.map eRow)) = some (decide (xs = ys)) := eqD_t eqE_row.tup (by decide) xs ys
theorem eqD_rowsL (xs ys : List (Nat × Int)) : eqD (.list (xs.map eRow)) (.list (ys.map eRow)) = some (decide (xs = ys)) := eqD_t eqE_row.lst (by decide) xs ys
theorem eqD_linesT (xs ys : List Ln) : eqD (.tuple (xs.map eL)) (.tuple (ys.map eL)) = some (decide (xs = ys)) := eqD_t eqE_line.tup (by decide) xs ys
theorem eqD_intsL (xs ys : List Int) : eqD (.list (xs.map .int)) (.list (ys.map .int)) = some (decide (xs = ys)) := eqD_t eqE_int.lst (by decide) xs ys
/-- a list and the empty one -/
theorem eqD_nilL {xs : List D} (h : (PyData.list xs).depth ≤ 64) : eqD (.list xs) (.list []) = some (decide (xs = [])) := by
  rw [eqD_of h (by simp [PyData.depth, PyData.depthAll])]
  cases xs <;> simp [PyData.eqv, PyData.eqvAll]
theorem eqD_nilI (xs : List Int) : eqD (.list (xs.map .int)) (.list []) = some (decide (xs = [])) := by
  have := eqD_intsL xs []
  simpa using this
/-! ## told -/
def eSeen (s : Int × List (Nat × Int)) : D := .tuple [.int s.1, .tuple (s.2.map eRow)]
def expl (ls : List Ln) (rows : Nat) (seen : List (Int × List (Nat × Int))) : Bool := seen.all fun s => decide (bdP ls rows s.1 = s.2)
structure Tld (T : Nat → Option FnD) : Prop extends Brd T where
  h80 : T 80 = some d_explains
theorem explains_spec (g : Tld T) {n : Nat} {ls : List Ln} (hk : ∀ l ∈ ls, l.ok) (hne : ls ≠ []) (hll : ls.length ≤ 1000) {rows : Int} (h0 : 0 ≤ rows) (h1 : rows ≤ 999) {seen : List (Int × List (Nat × Int))} (hs : seen.length ≤ 1000) :
    callN T (n + 4) 80 none [eLs ls, .int rows, .tuple (seen.map eSeen)] = some (.d (.bool (expl ls rows.toNat seen)), none) := by
  rw [callN_ev, g.h80]
  have hc := comp_m (C := callN T (n + 3)) (own := [3, 4]) (tg := .cons (.nm 3) (.cons (.nm 4) .nil)) (cond := .emp) (elt := .cmp .Eq (.bi1 .tuple (.call 20 (.con (.var 0) (.con (.var 1) (.con (.var 3) .emp))))) (.var 4)) (enc := eSeen)
    (ρ := [some (.d (eLs ls)), some (.d (.int rows)), some (.d (.tuple (seen.map eSeen))), none, none]) (fun s => .bool (decide (bdP ls rows.toNat s.1 = s.2))) (xs := seen) fun s hs => by
      simp [comp1, -List.map_map, -evI_rng, evI_rngV, -Option.bind_some, -Option.map_some, obind, omap, evFn, runFn, startE, look2, look, isVar, peek, peekA, rdVar, tyOf, outE, ioAt, retV, argD, argK, frzAll, Val.scalar, eSeen, board_spec g.toBrd (n := n) hk hne hll h0 h1, eqD_rowsT]
  have hm : (seen.map fun s => PyData.bool (decide (bdP ls rows.toNat s.1 = s.2))) = seen.map fun s => .bool ((fun s : Int × List (Nat × Int) => decide (bdP ls rows.toNat s.1 = s.2)) s) := rfl
  have hb : dBools (seen.map fun s => PyData.bool (decide (bdP ls rows.toNat s.1 = s.2))) = some (seen.map fun s => decide (bdP ls rows.toNat s.1 = s.2)) := dBools_map _ _
  simp [-List.map_map, -evI_rng, evI_rngV, -Option.bind_some, -Option.map_some, obind, omap, evFn, runFn, startE, look2, look, isVar, peek, peekA, rdVar, tyOf, outE, ioAt, retV, argD, argK, frzAll, Val.scalar, d_explains, iterD, show seen.length < 16777216 by omega, hc, hb, expl]
/-- the positions of the lots that explain what was seen -/
def fitP (some_ : List (List Ln)) (rows : Nat) (seen : List (Int × List (Nat × Int))) : List Nat := ((some_.zipIdx).filter fun p => expl p.1 rows seen).map (·.2)
structure Fit (T : Nat → Option FnD) : Prop extends Tld T where
  h81 : T 81 = some d_fitting
theorem fitting_spec (g : Fit T) {n : Nat} {sm : List (List Ln)} (hk : ∀ ls ∈ sm, OkLs 5 ls) (hsm : sm.length ≤ 1000) {rows : Int} (h0 : 0 ≤ rows) (h1 : rows ≤ 999) {seen : List (Int × List (Nat × Int))} (hs : seen.length ≤ 1000) :
    callN T (n + 5) 81 none [.tuple (sm.map fun ls => eLs ls), .int rows, .tuple (seen.map eSeen)] = some (.own ((fitP sm rows.toNat seen).map fun k => .int (k : Nat)), none) := by
  rw [callN_ev, g.h81]
  have hc := comp_c (C := callN T (n + 4)) (own := [3, 4]) (tg := .cons (.nm 3) (.cons (.nm 4) .nil)) (cond := .one (.call 80 (.con (.var 4) (.con (.var 1) (.con (.var 2) .emp))))) (elt := .var 3) (enc := fun p : List Ln × Nat => .tuple [.int (p.2 : Nat), eLs p.1])
    (ρ := [some (.d (.tuple (sm.map fun ls => eLs ls))), some (.d (.int rows)), some (.d (.tuple (seen.map eSeen))), none, none]) (fun p => expl p.1 rows.toNat seen) (fun p => .int (p.2 : Nat)) (xs := sm.zipIdx) fun p hp => by
      have ho := hk p.1 (List.fst_mem_of_mem_zipIdx hp)
      have hne : p.1 ≠ [] := fun e => by have := ho.2.1; rw [e] at this; simp at this
      have := explains_spec g.toTld (n := n) ho.1 hne (by have := ho.2.2; omega) h0 h1 hs
      cases he : expl p.1 rows.toNat seen <;> rw [he] at this <;> simp [comp1, -List.map_map, -evI_rng, evI_rngV, -Option.bind_some, -Option.map_some, obind, omap, evFn, runFn, startE, look2, look, isVar, peek, peekA, rdVar, tyOf, outE, ioAt, retV, argD, argK, frzAll, Val.scalar, this]
  have he : enuOk (.tuple (sm.map fun ls => eLs ls)) = some (sm.zipIdx.map fun p => .tuple [.int (p.2 : Nat), eLs p.1]) := by
    show some (enuD _) = _
    rw [enu_map]
  simp [-List.map_map, -evI_rng, evI_rngV, -Option.bind_some, -Option.map_some, obind, omap, evFn, runFn, startE, look2, look, isVar, peek, peekA, rdVar, tyOf, outE, ioAt, retV, argD, argK, frzAll, Val.scalar, d_fitting, he, show sm.length < 16777216 by omega, hc]
  unfold fitP
  rw [List.map_map]
  rfl
end Mn

namespace Mn
open PySem
open Bd
variable {T : Nat → Option FnD}
/-! ## counts -/
theorem count_below_t (h26 : T 26 = some d_count_below) {n : Nat} {l : Ln} (o : l.ok) {m : Int} : callN T (n + 1) 26 none [eL l, .int m] = some (.d (.int (cb l m)), none) := by
  have := o.e1
  have := o.e60
  rw [callN_ev, h26]
  simp [-List.map_map, -evI_rng, evI_rngV, -Option.bind_some, -Option.map_some, obind, omap, evFn, runFn, startE, look2, look, isVar, peek, peekA, rdVar, tyOf, outE, ioAt, retV, argD, argK, frzAll, Val.scalar, d_count_below, eL, show 0 < l.e by omega, show l.e < 18446744073709551616 by omega]
  unfold cb
  split <;> omega
structure Cnt (T : Nat → Option FnD) : Prop where
  h26 : T 26 = some d_count_below
  h27 : T 27 = some d_count_departures
theorem ints_map {α : Type} (f : α → Int) (xs : List α) : (xs.map fun x => PyData.int (f x)) = (xs.map f).map .int := by rw [List.map_map]; rfl
theorem count_dep_t (g : Cnt T) {n : Nat} {ls : List Ln} (hk : ∀ l ∈ ls, l.ok) (hll : ls.length ≤ 1000) {low high : Int} (h0 : 0 ≤ low) (h1 : 0 ≤ high + 1) :
    callN T (n + 2) 27 none [eLs ls, .int low, .int high] = some (.d (.int (if low ≤ high then tot ls (high + 1) - tot ls low else 0)), none) := by
  rw [callN_ev, g.h27]
  have hc := comp_m (C := callN T (n + 1)) (own := [3]) (tg := .nm 3) (cond := .emp) (elt := .bi2 .max2 (.cst (.int 0)) (.bin .Sub (.call 26 (.con (.var 3) (.con (.bin .Add (.var 2) (.cst (.int 1))) .emp))) (.call 26 (.con (.var 3) (.con (.var 1) .emp))))) (enc := eL)
    (ρ := [some (.d (eLs ls)), some (.d (.int low)), some (.d (.int high)), none]) (fun l => .int (max 0 (cb l (high + 1) - cb l low))) (xs := ls) fun l hl => by
      have e1 := count_below_t g.h26 (n := n) (hk l hl) (m := high + 1)
      have e2 := count_below_t g.h26 (n := n) (hk l hl) (m := low)
      simp [comp1, -List.map_map, -evI_rng, evI_rngV, -Option.bind_some, -Option.map_some, obind, omap, evFn, runFn, startE, look2, look, isVar, peek, peekA, rdVar, tyOf, outE, ioAt, retV, argD, argK, frzAll, Val.scalar, e1, e2]
      rw [Int.max_def]
      split <;> split <;> omega
  rw [ints_map] at hc
  simp [-List.map_map, -evI_rng, evI_rngV, -Option.bind_some, -Option.map_some, obind, omap, evFn, runFn, startE, look2, look, isVar, peek, peekA, rdVar, tyOf, outE, ioAt, retV, argD, argK, frzAll, Val.scalar, d_count_departures, iterD, show ls.length < 16777216 by omega, hc, cnt_dep hk h0 h1]
theorem law_times_t (h29 : T 29 = some d_law_times) {n : Nat} {l : Ln} (o : l.ok) {low high : Int} : callN T (n + 1) 29 none [eL l, .int low, .int high] = some (.d (.int (tms l low high)), none) := by
  have := o.e1
  have := o.e60
  rw [callN_ev, h29]
  unfold tms
  split <;> rename_i h <;> simp [-List.map_map, -evI_rng, evI_rngV, -Option.bind_some, -Option.map_some, obind, omap, evFn, runFn, startE, look2, look, isVar, peek, peekA, rdVar, tyOf, outE, ioAt, retV, argD, argK, frzAll, Val.scalar, d_law_times, eL, show 0 < l.e by omega, show l.e < 18446744073709551616 by omega, h]
theorem times_comp {C : CallF} {own : Nat} {lo hi : Ex} {ρ : Env} {ls : List Ln} {n : Nat} : True := trivial
/-! ## words, typed -/
def wS (w : List Nat) : Str := ⟨w.toArray⟩
theorem wS_len (w : List Nat) : (wS w).length = w.length := by show w.toArray.size = _; simp
theorem wS_nil : wS [] = ("" : Str) := by decide +kernel
theorem goB_eL {l : Ln} {t : Int} : goB (eL l) t = goes l t := rfl
theorem join_signs : ∀ w : List Nat, Str.join "" (w.map eS) = wS w
  | [] => by decide +kernel
  | [c] => rfl
  | c :: d :: w => by
    have ih := join_signs (d :: w)
    rw [List.map_cons] at ih
    rw [List.map_cons, List.map_cons, Str.join, ih]
    · have : ("" : Str) = ⟨#[]⟩ := by decide +kernel
      rw [this]
      show (⟨_⟩ : Str) = ⟨_⟩
      congr 1
      apply Array.ext'
      show (#[c] ++ #[] ++ _ : Array Nat).toList = _
      simp [wS]
    · intro h; cases h
  termination_by w => w.length
theorem wordS_wd {ls : List Ln} {t : Int} : wordS (ls.map eL) t = wS (wd ls t) := by
  unfold wordS wd
  rw [List.filter_map, List.map_map, ← join_signs, List.map_map]
  rfl
theorem word_at_t (g : Wds T) {n : Nat} {ls : List Ln} (hk : ∀ l ∈ ls, l.ok) (hll : ls.length ≤ 1000) {t : Int} : callN T (n + 2) 4 none [eLs ls, .int t] = some (.d (.str (wS (wd ls t))), none) := by
  rw [word_at_spec g (isLn_all hk) (by simpa using hll), wordS_wd]
theorem law_word_t (h14 : T 14 = some d_law_goes) (h15 : T 15 = some d_law_word) {n : Nat} {ls : List Ln} (hk : ∀ l ∈ ls, l.ok) (hll : ls.length ≤ 1000) {t : Int} : callN T (n + 2) 15 none [eLs ls, .int t] = some (.d (.str (wS (wd ls t))), none) := by
  rw [law_word_spec h14 h15 (isLn_all hk) (by simpa using hll), wordS_wd]
end Mn

namespace Mn
open PySem
open Bd
variable {T : Nat → Option FnD}
/-! ## divisors -/
theorem gcd_step {a b : Int} (h : 0 < b) : Int.gcd b (a % b) = Int.gcd a b := by
  rw [Int.gcd_comm a b]
  conv => rhs; rw [← Int.emod_add_mul_ediv a b]
  rw [Int.gcd_add_mul_left_right]
theorem gcd_loop {C : CallF} {b : Sx} {s0 s1 : Option Slot} (hb : ∀ x y : Int, 0 < y → evS C b [s0, s1, some (.d (.int x)), some (.d (.int y))] = some (.nx [s0, s1, some (.d (.int y)), some (.d (.int (x % y)))])) {x y : Int} (hx : 0 ≤ x) (hy : 0 ≤ y) (hy2 : y < 99999) :
    whlE C (.cmp .Gt (.var 3) (.cst (.int 0))) b 100000 [s0, s1, some (.d (.int x)), some (.d (.int y))] = some (.nx [s0, s1, some (.d (.int (gc x y))), some (.d (.int 0))]) := by
  obtain ⟨s', ρ', e, ⟨hρ, h1, h2, h3⟩, hc⟩ := whl_r (C := C) (t := .cmp .Gt (.var 3) (.cst (.int 0))) (b := b)
    (fun (s : Int × Int) ρ => ρ = [s0, s1, some (.d (.int s.1)), some (.d (.int s.2))] ∧ 0 ≤ s.1 ∧ 0 ≤ s.2 ∧ Int.gcd s.1 s.2 = Int.gcd x y) (fun s => decide (0 < s.2)) (fun s => (s.2, s.1 % s.2)) (fun s => s.2.toNat)
    (fun s ρ ⟨hρ, _⟩ => by subst hρ; simp [-List.map_map, -evI_rng, evI_rngV, -Option.bind_some, -Option.map_some, obind, omap, evFn, runFn, startE, look2, look, isVar, peek, peekA, rdVar, tyOf, outE, ioAt, retV, argD, argK, frzAll, Val.scalar])
    (fun s ρ ⟨hρ, h1, h2, h3⟩ hc => by
      subst hρ
      have hc := of_decide_eq_true hc
      have q1 := Int.emod_nonneg s.1 (show s.2 ≠ 0 by omega)
      have q2 := Int.emod_lt_of_pos s.1 hc
      exact ⟨_, hb _ _ hc, ⟨rfl, h2, q1, by rw [← h3]; exact gcd_step hc⟩, by show (s.1 % s.2).toNat < s.2.toNat; omega⟩)
    100000 (x, y) _ ⟨rfl, hx, hy, rfl⟩ (by show y.toNat < 100000; omega)
  subst hρ
  have hc := of_decide_eq_false hc
  obtain ⟨a, b⟩ := s'
  have : b = 0 := by simp only at h2 hc; omega
  subst this
  simp only at h1 h3
  rw [e]
  have : gc x y = a := by
    show ((Int.gcd x y : Nat) : Int) = a
    rw [← h3, Int.gcd_zero_right]
    omega
  rw [this]
theorem divisor_t (h30 : T 30 = some d_divisor) {n : Nat} {a b : Int} (ha : 0 ≤ a) (hb : 0 ≤ b) (hb2 : b < 99999) : callN T (n + 1) 30 none [.int a, .int b] = some (.d (.int (gc a b)), none) := by
  rw [callN_ev, h30]
  have e := gcd_loop (C := callN T n) (b := b1_divisor) (s0 := some (.d (.int a))) (s1 := some (.d (.int b))) (fun x y hy => by simp [-List.map_map, -evI_rng, evI_rngV, -Option.bind_some, -Option.map_some, obind, omap, evFn, runFn, startE, look2, look, isVar, peek, peekA, rdVar, tyOf, outE, ioAt, retV, argD, argK, frzAll, Val.scalar, b1_divisor, hy]) ha hb hb2
  simp [-List.map_map, -evI_rng, evI_rngV, -Option.bind_some, -Option.map_some, obind, omap, evFn, runFn, startE, look2, look, isVar, peek, peekA, rdVar, tyOf, outE, ioAt, retV, argD, argK, frzAll, Val.scalar, d_divisor, e]
theorem law_gcd_t (h36 : T 36 = some d_law_gcd) {n : Nat} {a b : Int} (ha : 0 ≤ a) (hb : 0 ≤ b) (hb2 : b < 99999) : callN T (n + 1) 36 none [.int a, .int b] = some (.d (.int (gc a b)), none) := by
  rw [callN_ev, h36]
  have e := gcd_loop (C := callN T n) (b := b1_law_gcd) (s0 := some (.d (.int a))) (s1 := some (.d (.int b))) (fun x y hy => by simp [-List.map_map, -evI_rng, evI_rngV, -Option.bind_some, -Option.map_some, obind, omap, evFn, runFn, startE, look2, look, isVar, peek, peekA, rdVar, tyOf, outE, ioAt, retV, argD, argK, frzAll, Val.scalar, b1_law_gcd, hy]) ha hb hb2
  simp [-List.map_map, -evI_rng, evI_rngV, -Option.bind_some, -Option.map_some, obind, omap, evFn, runFn, startE, look2, look, isVar, peek, peekA, rdVar, tyOf, outE, ioAt, retV, argD, argK, frzAll, Val.scalar, d_law_gcd, e]
/-! ## rows of minutes -/
def eOR : Option (Int × Int) → D
  | none => .none
  | some (a, b) => .tuple [.int a, .int b]
def eOI : Option Int → D
  | none => .none
  | some i => .int i
structure Mrw (T : Nat → Option FnD) : Prop where
  h30 : T 30 = some d_divisor
  h31 : T 31 = some d_meeting_row
section
variable {C : CallF} {s0 a3 a4 a5 a6 : Option Slot}
theorem solP_iff {E F : Int} {l : Ln} (o : l.Okz) {s : Nat} : solP E F l s = true ↔ (F + E * s) % l.e = l.f := by
  unfold solP
  rw [decide_eq_true_eq]
  have h3 := Int.emod_eq_emod_iff_emod_sub_eq_zero (m := F + E * s) (n := l.e) (k := l.f)
  rw [← h3, Int.emod_eq_of_lt o.f0 o.fe]
theorem row_while {l : Ln} (o : l.ok) {E F : Int} {s : Nat} (h1 : solP E F l s = true) (h3 : ∀ u, u < s → solP E F l u = false) : ∀ (k u N : Nat), u + k = s → k < N →
    whlE C (.cmp .NotEq (.bin .Mod (.var 2) (.var 4)) (.var 5)) b1_meeting_row N [s0, some (.d (.int E)), some (.d (.int (F + E * u))), a3, some (.d (.int l.e)), some (.d (.int l.f)), a6] =
      some (.nx [s0, some (.d (.int E)), some (.d (.int (F + E * s))), a3, some (.d (.int l.e)), some (.d (.int l.f)), a6])
  | 0, u, N, h, hN => by
    obtain ⟨N, rfl⟩ : ∃ M, N = M + 1 := ⟨N - 1, by omega⟩
    have e : u = s := by omega
    subst e
    have h1 := (solP_iff o.toOkz).mp h1
    exact whl_stop (by have := o.e1; simp [-List.map_map, -evI_rng, evI_rngV, -Option.bind_some, -Option.map_some, obind, omap, evFn, runFn, startE, look2, look, isVar, peek, peekA, rdVar, tyOf, outE, ioAt, retV, argD, argK, frzAll, Val.scalar, show 0 < l.e by omega, h1])
  | k + 1, u, N, h, hN => by
    obtain ⟨N, rfl⟩ : ∃ M, N = M + 1 := ⟨N - 1, by omega⟩
    have h4 : ¬ (F + E * u) % l.e = l.f := fun h => by
      have := (solP_iff (E := E) (F := F) (s := u) o.toOkz).mpr h
      rw [h3 u (by omega)] at this
      cases this
    have ih := row_while o h1 h3 k (u + 1) N (by omega) (by omega)
    have e : F + E * ((u + 1 : Nat) : Int) = F + E * u + E := by
      rw [Int.natCast_add, Int.mul_add]; simp only [Int.natCast_one, Int.mul_one]; omega
    rw [e] at ih
    rw [whl_go (ρ1 := [s0, some (.d (.int E)), some (.d (.int (F + E * u))), a3, some (.d (.int l.e)), some (.d (.int l.f)), a6]) (ρ2 := [s0, some (.d (.int E)), some (.d (.int (F + E * u + E))), a3, some (.d (.int l.e)), some (.d (.int l.f)), a6]) (by have := o.e1; simp [-List.map_map, -evI_rng, evI_rngV, -Option.bind_some, -Option.map_some, obind, omap, evFn, runFn, startE, look2, look, isVar, peek, peekA, rdVar, tyOf, outE, ioAt, retV, argD, argK, frzAll, Val.scalar, show 0 < l.e by omega, h4]) (by simp [-List.map_map, -evI_rng, evI_rngV, -Option.bind_some, -Option.map_some, obind, omap, evFn, runFn, startE, look2, look, isVar, peek, peekA, rdVar, tyOf, outE, ioAt, retV, argD, argK, frzAll, Val.scalar, b1_meeting_row])]
    exact ih
end
theorem row_turn (g : Mrw T) {n : Nat} {l : Ln} (o : l.ok) {E F : Int} (hr : RowOk (E, F)) {s0 a3 a4 a5 a6 : Option Slot} :
    match rowS (E, F) l with
    | none => ∃ ρ', for1 (callN T (n + 1)) (.cons (.nm 3) (.cons (.nm 4) (.cons (.nm 5) .nil))) b2_meeting_row (eL l) [s0, some (.d (.int E)), some (.d (.int F)), a3, a4, a5, a6] = some (.rt (.d .none) ρ')
    | some q => ∃ b3 b4 b5 b6, for1 (callN T (n + 1)) (.cons (.nm 3) (.cons (.nm 4) (.cons (.nm 5) .nil))) b2_meeting_row (eL l) [s0, some (.d (.int E)), some (.d (.int F)), a3, a4, a5, a6] =
        some (.nx [s0, some (.d (.int q.1)), some (.d (.int q.2)), b3, b4, b5, b6]) := by
  have he := o.e1
  have h60 := o.e60
  have hE := hr.e1
  have hd := divisor_t g.h30 (n := n) (a := E) (b := l.e) (by simp only at hE; omega) (by omega) (by omega)
  have hg := gc_pos (b := l.e) hE
  have hgl : gc E l.e ≤ l.e := Int.le_of_dvd (by omega) (gc_r E l.e)
  cases h : rowS (E, F) l with
  | none =>
    have h := (rowS_none o.toOkz).mp h
    simp only at h hg
    generalize gc E l.e = c at hd hg hgl h
    exact ⟨_, by simp [for1, -List.map_map, -evI_rng, evI_rngV, -Option.bind_some, -Option.map_some, obind, omap, evFn, runFn, startE, look2, look, isVar, peek, peekA, rdVar, tyOf, outE, ioAt, retV, argD, argK, frzAll, Val.scalar, eL, b2_meeting_row, hd, show 0 < c by omega, h]; rfl⟩
  | some q =>
    obtain ⟨k1, k2, _⟩ := rowS_some o.toOkz hr h
    have hn : (l.f - F) % gc E l.e = 0 := by
      refine Classical.byContradiction fun hn => ?_
      have := (rowS_none (r := (E, F)) o.toOkz).mpr hn
      rw [this] at h
      cases h
    have h' := h
    unfold rowS at h'
    obtain ⟨s, hs, rfl⟩ := Option.map_eq_some_iff.mp h'
    obtain ⟨q1, q2, q3⟩ := find_least hs
    have hw := row_while (C := callN T (n + 1)) (s0 := s0) (a3 := some (.d (.str (eS l.c)))) (a6 := some (.d (.int (gc E l.e)))) o q1 q3 s 0 100000 (by omega) (by omega)
    have ez : F + E * ((0 : Nat) : Int) = F := by simp
    rw [ez] at hw
    have hm : (F + E * (s : Int)) % (lcmZ E l.e) = F + E * (s : Int) := Int.emod_eq_of_lt k1.f0 k1.fe
    have hl : lcmZ E l.e = E / gc E l.e * l.e := rfl
    have hp := k1.e1
    have iw : inW l.e = true := by simp [inW]; omega
    simp only at hp hg
    refine ⟨some (.d (.str (eS l.c))), some (.d (.int l.e)), some (.d (.int l.f)), some (.d (.int (gc E l.e))), ?_⟩
    rw [hl] at hm hp
    show _ = some (Res.nx [s0, some (.d (.int (lcmZ E l.e))), _, _, _, _, _])
    rw [hl]
    generalize gc E l.e = c at *
    simp only []
    generalize F + E * (s : Int) = v at *
    generalize hj : E / c * l.e = j at *
    simp [for1, -List.map_map, -evI_rng, evI_rngV, -Option.bind_some, -Option.map_some, obind, omap, evFn, runFn, startE, look2, look, isVar, peek, peekA, rdVar, tyOf, outE, ioAt, retV, argD, argK, frzAll, Val.scalar, eL, b2_meeting_row, hd, show 0 < c by omega, show c < 18446744073709551616 by omega, hn, hw, iw, hj, hm, show 0 < j by omega]
theorem row_turns (g : Mrw T) {n : Nat} {s0 : Option Slot} : ∀ (ls : List Ln) (r : Int × Int) (a3 a4 a5 a6 : Option Slot), (∀ l ∈ ls, l.ok) → RowOk r →
    match rowG ls r with
    | none => ∃ ρ', forE (callN T (n + 1)) (.cons (.nm 3) (.cons (.nm 4) (.cons (.nm 5) .nil))) b2_meeting_row (ls.map eL) [s0, some (.d (.int r.1)), some (.d (.int r.2)), a3, a4, a5, a6] = some (.rt (.d .none) ρ')
    | some q => ∃ b3 b4 b5 b6, forE (callN T (n + 1)) (.cons (.nm 3) (.cons (.nm 4) (.cons (.nm 5) .nil))) b2_meeting_row (ls.map eL) [s0, some (.d (.int r.1)), some (.d (.int r.2)), a3, a4, a5, a6] =
        some (.nx [s0, some (.d (.int q.1)), some (.d (.int q.2)), b3, b4, b5, b6])
  | [], r, a3, a4, a5, a6, _, _ => ⟨a3, a4, a5, a6, by rw [List.map_nil, forE_nil]⟩
  | l :: ls, r, a3, a4, a5, a6, hk, hr => by
    have o := hk l List.mem_cons_self
    have ht := row_turn g (n := n) o (E := r.1) (F := r.2) hr (s0 := s0) (a3 := a3) (a4 := a4) (a5 := a5) (a6 := a6)
    rw [rowG]
    have er : (r.1, r.2) = r := rfl
    rw [er] at ht
    cases h : rowS r l with
    | none =>
      rw [h] at ht
      obtain ⟨ρ', e⟩ := ht
      exact ⟨ρ', by rw [List.map_cons, forE_1, e]⟩
    | some q =>
      rw [h] at ht
      obtain ⟨b3, b4, b5, b6, e⟩ := ht
      have ih := row_turns g (n := n) (s0 := s0) ls q b3 b4 b5 b6 (fun x hx => hk x (List.mem_cons_of_mem _ hx)) (rowS_some o.toOkz hr h).1
      have e2 : forE (callN T (n + 1)) (.cons (.nm 3) (.cons (.nm 4) (.cons (.nm 5) .nil))) b2_meeting_row ((l :: ls).map eL) [s0, some (.d (.int r.1)), some (.d (.int r.2)), a3, a4, a5, a6] =
          forE (callN T (n + 1)) (.cons (.nm 3) (.cons (.nm 4) (.cons (.nm 5) .nil))) b2_meeting_row (ls.map eL) [s0, some (.d (.int q.1)), some (.d (.int q.2)), b3, b4, b5, b6] := by rw [List.map_cons, forE_1, e]
      rw [Option.bind_some]
      simp only [e2]
      exact ih
theorem meeting_row_t (g : Mrw T) {n : Nat} {ls : List Ln} (hk : ∀ l ∈ ls, l.ok) {x : D} (hx : x = .tuple (ls.map eL) ∨ x = .list (ls.map eL)) : callN T (n + 2) 31 none [x] = some (.d (eOR (rowF ls)), none) := by
  rw [callN_ev, g.h31]
  have ht := row_turns g (n := n) (s0 := some (.d x)) ls (1, 0) none none none none hk row0
  have hi : iterD x = some (ls.map eL) := by rcases hx with rfl | rfl <;> rfl
  unfold rowF
  cases h : rowG ls (1, 0) with
  | none =>
    rw [h] at ht
    obtain ⟨ρ', e⟩ := ht
    simp [-List.map_map, -evI_rng, evI_rngV, -Option.bind_some, -Option.map_some, obind, omap, evFn, runFn, startE, look2, look, isVar, peek, peekA, rdVar, tyOf, outE, ioAt, retV, argD, argK, frzAll, Val.scalar, d_meeting_row, hi, e, eOR]
  | some q =>
    rw [h] at ht
    obtain ⟨b3, b4, b5, b6, e⟩ := ht
    simp [-List.map_map, -evI_rng, evI_rngV, -Option.bind_some, -Option.map_some, obind, omap, evFn, runFn, startE, look2, look, isVar, peek, peekA, rdVar, tyOf, outE, ioAt, retV, argD, argK, frzAll, Val.scalar, d_meeting_row, hi, e, eOR]
end Mn

namespace Mn
open PySem
open Bd
variable {T : Nat → Option FnD}
/-! ## the laws' rows -/
structure Lrw (T : Nat → Option FnD) : Prop where
  h36 : T 36 = some d_law_gcd
  h37 : T 37 = some d_law_row
theorem find_head {α β : Type} (p : α → Bool) (f : α → β) : ∀ xs : List α, ((xs.filter p).map f)[0]? = (xs.find? p).map f
  | [] => rfl
  | x :: xs => by
    rw [List.filter_cons, List.find?_cons]
    cases h : p x with
    | true => simp
    | false => simpa [h] using find_head p f xs
theorem rI_nat (b : Int) : rI 0 b = (List.range b.toNat).map fun i : Nat => (i : Int) := by
  unfold rI
  rw [Int.sub_zero]
  exact List.map_congr_left fun i _ => Int.zero_add _
theorem lrow_turn (g : Lrw T) {n : Nat} {l : Ln} (o : l.ok) {E F : Int} (hr : RowOk (E, F)) {s0 a3 a4 a5 a6 a7 : Option Slot} :
    match rowS (E, F) l with
    | none => ∃ ρ', for1 (callN T (n + 1)) (.cons (.nm 3) (.cons (.nm 4) (.cons (.nm 5) .nil))) b1_law_row (eL l) [s0, some (.d (.int E)), some (.d (.int F)), a3, a4, a5, a6, a7] = some (.rt (.d .none) ρ')
    | some q => ∃ b3 b4 b5 b6, for1 (callN T (n + 1)) (.cons (.nm 3) (.cons (.nm 4) (.cons (.nm 5) .nil))) b1_law_row (eL l) [s0, some (.d (.int E)), some (.d (.int F)), a3, a4, a5, a6, a7] =
        some (.nx [s0, some (.d (.int q.1)), some (.d (.int q.2)), b3, b4, b5, b6, a7]) := by
  have he := o.e1
  have h60 := o.e60
  have hE := hr.e1
  simp only at hE
  have hd := law_gcd_t g.h36 (n := n) (a := E) (b := l.e) (by omega) (by omega) (by omega)
  have hg := gc_pos (b := l.e) hE
  have hgl : gc E l.e ≤ l.e := Int.le_of_dvd (by omega) (gc_r E l.e)
  have hc := comp_c (C := callN T (n + 1)) (own := [7]) (tg := .nm 7) (cond := .one (.cmp .Eq (.bin .Mod (.bi1 .int (.bin .Sub (.bin .Add (.var 2) (.bin .Mult (.var 1) (.var 7))) (.var 5))) (.var 4)) (.cst (.int 0)))) (elt := .bin .Add (.var 2) (.bin .Mult (.var 1) (.var 7))) (enc := PyData.int)
    (ρ := [s0, some (.d (.int E)), some (.d (.int F)), some (.d (.str (eS l.c))), some (.d (.int l.e)), some (.d (.int l.f)), a6, none]) (fun s => decide ((F + E * s - l.f) % l.e = 0)) (fun s => .int (F + E * s)) (xs := rI 0 l.e) fun s hs => by
      have hs := mem_rI.mp hs
      have iw : inW s = true := by simp [inW]; omega
      by_cases h : (F + E * s - l.f) % l.e = 0 <;> simp [comp1, -List.map_map, -evI_rng, evI_rngV, -Option.bind_some, -Option.map_some, obind, omap, evFn, runFn, startE, look2, look, isVar, peek, peekA, rdVar, tyOf, outE, ioAt, retV, argD, argK, frzAll, Val.scalar, iw, show 0 < l.e by omega, h]
  rw [ints_map (fun s => F + E * s) ((rI 0 l.e).filter fun s => decide ((F + E * s - l.f) % l.e = 0))] at hc
  have hh : (((rI 0 l.e).filter fun s => decide ((F + E * s - l.f) % l.e = 0)).map fun s => F + E * s)[0]? = (rowS (E, F) l).map (·.2) := by
    rw [find_head, rI_nat, List.find?_map]
    unfold rowS
    rw [Option.map_map, Option.map_map]
    rfl
  have hgr : rngD [.int l.e] = some ((rI 0 l.e).map .int) := rng_1 (by omega) (by omega)
  have hlen : (rI 0 l.e).length < 16777216 := by rw [rI_len]; omega
  generalize ((rI 0 l.e).filter fun s => decide ((F + E * s - l.f) % l.e = 0)).map (fun s => F + E * s) = X at hc hh
  cases h : rowS (E, F) l with
  | none =>
    rw [h] at hh
    have hX : X = [] := by cases X with | nil => rfl | cons x r => cases hh
    subst hX
    exact ⟨_, by simp [for1, -List.map_map, -evI_rng, evI_rngV, -Option.bind_some, -Option.map_some, obind, omap, evFn, runFn, startE, look2, look, isVar, peek, peekA, rdVar, tyOf, outE, ioAt, retV, argD, argK, frzAll, Val.scalar, eL, b1_law_row, hgr, hlen, hc]; rfl⟩
  | some q =>
    rw [h] at hh
    obtain ⟨x, r, rfl⟩ : ∃ x r, X = x :: r := by cases X with | nil => cases hh | cons x r => exact ⟨x, r, rfl⟩
    simp only [List.getElem?_cons_zero, Option.map_some, Option.some.injEq] at hh
    subst hh
    obtain ⟨k1, k2, _⟩ := rowS_some o.toOkz hr h
    have hl : q.1 = E / gc E l.e * l.e := k2
    have iw : inW l.e = true := by simp [inW]; omega
    have he2 : eqD (.list (.int q.2 :: r.map .int)) (.list []) = some false := by
      have := eqD_nilI (q.2 :: r)
      simpa using this
    refine ⟨some (.d (.str (eS l.c))), some (.d (.int l.e)), some (.d (.int l.f)), some (.own (.int q.2 :: r.map .int)), ?_⟩
    rw [hl]
    generalize gc E l.e = c at hd hg hgl
    simp [for1, -List.map_map, -evI_rng, evI_rngV, -Option.bind_some, -Option.map_some, obind, omap, evFn, runFn, startE, look2, look, isVar, peek, peekA, rdVar, tyOf, outE, ioAt, retV, argD, argK, frzAll, Val.scalar, eL, b1_law_row, hgr, hlen, hc, he2, hd, iw, show 0 < c by omega, show c < 18446744073709551616 by omega]
theorem lrow_turns (g : Lrw T) {n : Nat} {s0 a7 : Option Slot} : ∀ (ls : List Ln) (r : Int × Int) (a3 a4 a5 a6 : Option Slot), (∀ l ∈ ls, l.ok) → RowOk r →
    match rowG ls r with
    | none => ∃ ρ', forE (callN T (n + 1)) (.cons (.nm 3) (.cons (.nm 4) (.cons (.nm 5) .nil))) b1_law_row (ls.map eL) [s0, some (.d (.int r.1)), some (.d (.int r.2)), a3, a4, a5, a6, a7] = some (.rt (.d .none) ρ')
    | some q => ∃ b3 b4 b5 b6, forE (callN T (n + 1)) (.cons (.nm 3) (.cons (.nm 4) (.cons (.nm 5) .nil))) b1_law_row (ls.map eL) [s0, some (.d (.int r.1)), some (.d (.int r.2)), a3, a4, a5, a6, a7] =
        some (.nx [s0, some (.d (.int q.1)), some (.d (.int q.2)), b3, b4, b5, b6, a7])
  | [], r, a3, a4, a5, a6, _, _ => ⟨a3, a4, a5, a6, by rw [List.map_nil, forE_nil]⟩
  | l :: ls, r, a3, a4, a5, a6, hk, hr => by
    have o := hk l List.mem_cons_self
    have ht := lrow_turn g (n := n) o (E := r.1) (F := r.2) hr (s0 := s0) (a3 := a3) (a4 := a4) (a5 := a5) (a6 := a6) (a7 := a7)
    rw [rowG]
    have er : (r.1, r.2) = r := rfl
    rw [er] at ht
    cases h : rowS r l with
    | none =>
      rw [h] at ht
      obtain ⟨ρ', e⟩ := ht
      exact ⟨ρ', by rw [List.map_cons, forE_1, e]⟩
    | some q =>
      rw [h] at ht
      obtain ⟨b3, b4, b5, b6, e⟩ := ht
      have ih := lrow_turns g (n := n) (s0 := s0) (a7 := a7) ls q b3 b4 b5 b6 (fun x hx => hk x (List.mem_cons_of_mem _ hx)) (rowS_some o.toOkz hr h).1
      have e2 : forE (callN T (n + 1)) (.cons (.nm 3) (.cons (.nm 4) (.cons (.nm 5) .nil))) b1_law_row ((l :: ls).map eL) [s0, some (.d (.int r.1)), some (.d (.int r.2)), a3, a4, a5, a6, a7] =
          forE (callN T (n + 1)) (.cons (.nm 3) (.cons (.nm 4) (.cons (.nm 5) .nil))) b1_law_row (ls.map eL) [s0, some (.d (.int q.1)), some (.d (.int q.2)), b3, b4, b5, b6, a7] := by rw [List.map_cons, forE_1, e]
      rw [Option.bind_some]
      simp only [e2]
      exact ih
theorem law_row_t (g : Lrw T) {n : Nat} {ls : List Ln} (hk : ∀ l ∈ ls, l.ok) {x : D} (hx : x = .tuple (ls.map eL) ∨ x = .list (ls.map eL)) : callN T (n + 2) 37 none [x] = some (.d (eOR (rowF ls)), none) := by
  rw [callN_ev, g.h37]
  have ht := lrow_turns g (n := n) (s0 := some (.d x)) (a7 := none) ls (1, 0) none none none none hk row0
  have hi : iterD x = some (ls.map eL) := by rcases hx with rfl | rfl <;> rfl
  unfold rowF
  cases h : rowG ls (1, 0) with
  | none =>
    rw [h] at ht
    obtain ⟨ρ', e⟩ := ht
    simp [-List.map_map, -evI_rng, evI_rngV, -Option.bind_some, -Option.map_some, obind, omap, evFn, runFn, startE, look2, look, isVar, peek, peekA, rdVar, tyOf, outE, ioAt, retV, argD, argK, frzAll, Val.scalar, d_law_row, hi, e, eOR]
  | some q =>
    rw [h] at ht
    obtain ⟨b3, b4, b5, b6, e⟩ := ht
    simp [-List.map_map, -evI_rng, evI_rngV, -Option.bind_some, -Option.map_some, obind, omap, evFn, runFn, startE, look2, look, isVar, peek, peekA, rdVar, tyOf, outE, ioAt, retV, argD, argK, frzAll, Val.scalar, d_law_row, hi, e, eOR]
/-! ## sets of positions -/
def eRw (row : List Nat) : D := .tuple (row.map fun i => .int (i : Nat))
theorem sets_le {n : Nat} (h : n ≤ 12) : (sets n).length ≤ 4096 := by
  rw [sets_len]
  exact Nat.le_trans (Nat.pow_le_pow_right (by decide) h) (by decide)
theorem row_le : ∀ {n : Nat} {row : List Nat}, row ∈ sets n → row.length ≤ n
  | 0, row, h => by simp [sets] at h; subst h; simp
  | n + 1, row, h => by
    rw [sets] at h
    rcases List.mem_append.mp h with h | h
    · have := row_le h; omega
    · obtain ⟨r, hr, rfl⟩ := List.mem_map.mp h
      have := row_le hr
      simp
      omega
theorem pre_rI {pre : List Int} {x : Int} {post : List Int} {b : Int} (h : rI 0 b = pre ++ x :: post) : x = (pre.length : Nat) ∧ pre.length < b.toNat := by
  have hl : pre.length < (rI 0 b).length := by rw [h]; simp
  have h1 : (rI 0 b)[pre.length]? = some x := by rw [h]; simp
  rw [rI_len, Int.sub_zero] at hl
  rw [rI_nat, List.getElem?_map, List.getElem?_range hl] at h1
  simp only [Option.map_some, Option.some.injEq] at h1
  exact ⟨h1.symm, hl⟩
theorem all_sets_t (h32 : T 32 = some d_all_sets) {n : Nat} {k : Nat} (hk : k ≤ 12) : callN T (n + 1) 32 none [.int (k : Nat)] = some (.own ((sets k).map eRw), none) := by
  rw [callN_ev, h32]
  obtain ⟨ρ', e, b2, rfl⟩ := for_p (C := callN T n) (tg := .nm 2) (b := b1_all_sets) (enc := PyData.int) (fun pre ρ => ∃ b2, ρ = [some (.d (.int (k : Nat))), some (.own ((sets pre.length).map eRw)), b2, none]) (all := rI 0 (k : Nat))
    (ρ := [some (.d (.int (k : Nat))), some (.own [.tuple []]), none, none]) ⟨none, rfl⟩ (fun pre x post hp ρ ⟨b2, hρ⟩ => by
      subst hρ
      obtain ⟨rfl, hl⟩ := pre_rI hp
      have hs := sets_le (n := pre.length) (by omega)
      have hc := comp_m (C := callN T n) (own := [3]) (tg := .nm 3) (cond := .emp) (elt := .tup (.str (.var 3) (.con (.var 2) .emp))) (enc := eRw)
        (ρ := [some (.d (.int (k : Nat))), some (.d (.list ((sets pre.length).map eRw))), some (.d (.int (pre.length : Nat))), none]) (fun row => eRw (row ++ [pre.length])) (xs := sets pre.length) fun row hr => by
          have := row_le hr
          simp [comp1, -List.map_map, -evI_rng, evI_rngV, -Option.bind_some, -Option.map_some, obind, omap, evFn, runFn, startE, look2, look, isVar, peek, peekA, rdVar, tyOf, outE, ioAt, retV, argD, argK, frzAll, Val.scalar, eRw, show row.length ≤ 16777215 by omega]
      have hs2 : (sets (pre ++ [(pre.length : Int)]).length).map eRw = (sets pre.length).map eRw ++ (sets pre.length).map (fun row => eRw (row ++ [pre.length])) := by
        rw [List.length_append, List.length_singleton, sets, List.map_append, List.map_map]
        rfl
      rw [hs2]
      exact ⟨_, by simp [for1, -List.map_map, -evI_rng, evI_rngV, -Option.bind_some, -Option.map_some, obind, omap, evFn, runFn, startE, look2, look, isVar, peek, peekA, rdVar, tyOf, outE, ioAt, retV, argD, argK, frzAll, Val.scalar, b1_all_sets, iterD, show (sets pre.length).length < 16777216 by omega, hc, show (sets pre.length).length + (sets pre.length).length ≤ 16777216 by omega]; rfl, _, rfl⟩)
  have hr : rngD [.int (k : Nat)] = some ((rI 0 (k : Nat)).map .int) := rng_1 (by omega) (by omega)
  have hl : (rI 0 (k : Int)).length = k := by rw [rI_len]; omega
  rw [hl] at e
  simp [-List.map_map, -evI_rng, evI_rngV, -Option.bind_some, -Option.map_some, obind, omap, evFn, runFn, startE, look2, look, isVar, peek, peekA, rdVar, tyOf, outE, ioAt, retV, argD, argK, frzAll, Val.scalar, d_all_sets, hr, e]
theorem law_sets_t (h38 : T 38 = some d_law_sets) {n : Nat} {k : Nat} (hk : k ≤ 12) : callN T (n + 1) 38 none [.int (k : Nat)] = some (.own ((sets k).map eRw), none) := by
  rw [callN_ev, h38]
  obtain ⟨ρ', e, b2, rfl⟩ := for_p (C := callN T n) (tg := .nm 2) (b := b1_law_sets) (enc := PyData.int) (fun pre ρ => ∃ b2, ρ = [some (.d (.int (k : Nat))), some (.own ((sets pre.length).map eRw)), b2, none]) (all := rI 0 (k : Nat))
    (ρ := [some (.d (.int (k : Nat))), some (.own [.tuple []]), none, none]) ⟨none, rfl⟩ (fun pre x post hp ρ ⟨b2, hρ⟩ => by
      subst hρ
      obtain ⟨rfl, hl⟩ := pre_rI hp
      have hs := sets_le (n := pre.length) (by omega)
      have hc := comp_m (C := callN T n) (own := [3]) (tg := .nm 3) (cond := .emp) (elt := .bin .Add (.var 3) (.tup (.con (.var 2) .emp))) (enc := eRw)
        (ρ := [some (.d (.int (k : Nat))), some (.d (.list ((sets pre.length).map eRw))), some (.d (.int (pre.length : Nat))), none]) (fun row => eRw (row ++ [pre.length])) (xs := sets pre.length) fun row hr => by
          have := row_le hr
          simp [comp1, -List.map_map, -evI_rng, evI_rngV, -Option.bind_some, -Option.map_some, obind, omap, evFn, runFn, startE, look2, look, isVar, peek, peekA, rdVar, tyOf, outE, ioAt, retV, argD, argK, frzAll, Val.scalar, eRw, show row.length ≤ 16777215 by omega]
      have hs2 : (sets (pre ++ [(pre.length : Int)]).length).map eRw = (sets pre.length).map eRw ++ (sets pre.length).map (fun row => eRw (row ++ [pre.length])) := by
        rw [List.length_append, List.length_singleton, sets, List.map_append, List.map_map]
        rfl
      rw [hs2]
      exact ⟨_, by simp [for1, -List.map_map, -evI_rng, evI_rngV, -Option.bind_some, -Option.map_some, obind, omap, evFn, runFn, startE, look2, look, isVar, peek, peekA, rdVar, tyOf, outE, ioAt, retV, argD, argK, frzAll, Val.scalar, b1_law_sets, iterD, show (sets pre.length).length < 16777216 by omega, hc, show (sets pre.length).length + (sets pre.length).length ≤ 16777216 by omega]; rfl, _, rfl⟩)
  have hr : rngD [.int (k : Nat)] = some ((rI 0 (k : Nat)).map .int) := rng_1 (by omega) (by omega)
  have hl : (rI 0 (k : Int)).length = k := by rw [rI_len]; omega
  rw [hl] at e
  simp [-List.map_map, -evI_rng, evI_rngV, -Option.bind_some, -Option.map_some, obind, omap, evFn, runFn, startE, look2, look, isVar, peek, peekA, rdVar, tyOf, outE, ioAt, retV, argD, argK, frzAll, Val.scalar, d_law_sets, hr, e]
end Mn

namespace Mn
open PySem
open Bd
variable {T : Nat → Option FnD}
theorem pos_zip {ls : List Ln} {t : Int} : (ls.zipIdx.filter fun p => goes p.1 t).map (·.2) = pos ls t := by
  have h := pos_map (fun i _ => i) t ls 0
  rw [← h]
  unfold pos
  have : ∀ i ∈ (List.range ls.length).filter (fun i => (ls[i]?).any (goes · t)), (ls[i]?).map (fun _ => 0 + i) = some i := fun i hi => by
    have hi := List.mem_range.mp (List.mem_filter.mp hi).1
    rw [List.getElem?_eq_getElem hi]
    simp
  rw [fm_congr this]
  simp
theorem depth_row (row : List Nat) : (eRw row).depth ≤ 1 := by
  unfold eRw
  rw [PyData.depth]
  have : PyData.depthAll (row.map fun i => .int (i : Nat)) ≤ 0 := dp_all (fun x => by simp [PyData.depth]) row
  omega
theorem in_row (i : Nat) (row : List Nat) : inD (.int (i : Nat)) (eRw row) = some (decide (i ∈ row)) := by
  have hd := depth_row row
  unfold eRw at hd ⊢
  show (if (PyData.int (i : Nat)).depth ≤ 64 ∧ _ then _ else _) = _
  rw [if_pos ⟨by simp [PyData.depth], by omega⟩]
  congr 1
  rw [Bool.eq_iff_iff, List.any_eq_true, decide_eq_true_eq]
  constructor
  · rintro ⟨d, hd, he⟩
    obtain ⟨j, hj, rfl⟩ := List.mem_map.mp hd
    simp [PyData.eqv] at he
    have : j = i := by omega
    exact this ▸ hj
  · intro h
    exact ⟨_, List.mem_map.mpr ⟨i, h, rfl⟩, by simp [PyData.eqv]⟩
structure Jst (T : Nat → Option FnD) : Prop where
  h3 : T 3 = some d_departs
  h33 : T 33 = some d_just
theorem just_all {ls : List Ln} {row : List Nat} (hr : row ∈ sets ls.length) {t : Int} : (ls.zipIdx.all fun p => goes p.1 t == decide (p.2 ∈ row)) = decide (pos ls t = row) := by
  rw [Bool.eq_iff_iff, decide_eq_true_eq, List.all_eq_true]
  constructor
  · intro h
    refine asc_ext pos_asc (sets_asc hr) fun i => ?_
    have key : ∀ i, i < ls.length → (i ∈ pos ls t ↔ i ∈ row) := fun i hi => by
      have hm : (ls[i], i) ∈ ls.zipIdx := by rw [List.mem_zipIdx_iff_getElem?]; exact List.getElem?_eq_getElem hi
      have := h _ hm
      simp only [beq_iff_eq] at this
      rw [mem_pos]
      unfold goAt
      rw [List.getElem?_eq_getElem hi, Option.any_some, this, decide_eq_true_eq]
    constructor
    · intro hi; exact (key i (pos_lt i hi)).mp hi
    · intro hi; exact (key i (sets_lt hr i hi)).mpr hi
  · rintro rfl p hp
    rw [List.mem_zipIdx_iff_getElem?] at hp
    rw [beq_iff_eq, Bool.eq_iff_iff, decide_eq_true_eq, mem_pos]
    unfold goAt
    rw [hp]
    rfl
theorem departs_t (h3 : T 3 = some d_departs) {n : Nat} {l : Ln} (o : l.ok) {t : Int} : callN T (n + 1) 3 none [eL l, .int t] = some (.d (.bool (goes l t)), none) := by
  have := o.e1
  rw [callN_ev, h3]
  unfold goes
  simp [-List.map_map, -evI_rng, evI_rngV, -Option.bind_some, -Option.map_some, obind, omap, evFn, runFn, startE, look2, look, isVar, peek, peekA, rdVar, tyOf, outE, ioAt, retV, argD, argK, frzAll, Val.scalar, d_departs, eL, show 0 < l.e by omega]
theorem just_t (g : Jst T) {n : Nat} {ls : List Ln} (hk : ∀ l ∈ ls, l.ok) (hll : ls.length ≤ 1000) {row : List Nat} (hr : row ∈ sets ls.length) {t : Int} :
    callN T (n + 2) 33 none [eLs ls, eRw row, .int t] = some (.d (.bool (decide (pos ls t = row))), none) := by
  rw [callN_ev, g.h33]
  have hc := comp_m (C := callN T (n + 1)) (own := [3, 4]) (tg := .cons (.nm 3) (.cons (.nm 4) .nil)) (cond := .emp) (elt := .cmp .Eq (.call 3 (.con (.var 4) (.con (.var 2) .emp))) (.cmp .In (.var 3) (.var 1))) (enc := fun p : Ln × Nat => .tuple [.int (p.2 : Nat), eL p.1])
    (ρ := [some (.d (eLs ls)), some (.d (eRw row)), some (.d (.int t)), none, none]) (fun p => .bool (goes p.1 t == decide (p.2 ∈ row))) (xs := ls.zipIdx) fun p hp => by
      have e1 := departs_t g.h3 (n := n) (hk p.1 (List.fst_mem_of_mem_zipIdx hp)) (t := t)
      simp [comp1, -List.map_map, -evI_rng, evI_rngV, -Option.bind_some, -Option.map_some, obind, omap, evFn, runFn, startE, look2, look, isVar, peek, peekA, rdVar, tyOf, outE, ioAt, retV, argD, argK, frzAll, Val.scalar, e1, in_row]
  have hb : dBools (ls.zipIdx.map fun p => PyData.bool (goes p.1 t == decide (p.2 ∈ row))) = some (ls.zipIdx.map fun p => (goes p.1 t == decide (p.2 ∈ row))) := dBools_map _ _
  have he : enuOk (.tuple (ls.map eL)) = some (ls.zipIdx.map fun p => .tuple [.int (p.2 : Nat), eL p.1]) := by
    show some (enuD _) = _
    rw [enu_map]
  have ha : (ls.zipIdx.map fun p => (goes p.1 t == decide (p.2 ∈ row))).all id = decide (pos ls t = row) := by
    rw [List.all_map, ← just_all hr]
    rfl
  generalize (ls.zipIdx.map fun p => (goes p.1 t == decide (p.2 ∈ row))) = bs at hb ha
  simp [-List.map_map, -evI_rng, evI_rngV, -Option.bind_some, -Option.map_some, obind, omap, evFn, runFn, startE, look2, look, isVar, peek, peekA, rdVar, tyOf, outE, ioAt, retV, argD, argK, frzAll, Val.scalar, d_just, he, show ls.length < 16777216 by omega, hc, hb]
  simpa using ha
theorem eqD_nats (xs ys : List Nat) : eqD (.list (xs.map fun i => .int (i : Nat))) (.list (ys.map fun i => .int (i : Nat))) = some (decide (xs = ys)) := eqD_t eqE_nat.lst (by decide) xs ys
theorem eqD_natsT (xs ys : List Nat) : eqD (eRw xs) (eRw ys) = some (decide (xs = ys)) := eqD_t eqE_nat.tup (by decide) xs ys
theorem law_goes_t (h14 : T 14 = some d_law_goes) {n : Nat} {l : Ln} (o : l.ok) {t : Int} : callN T (n + 1) 14 none [eL l, .int t] = some (.d (.bool (goes l t)), none) := law_goes_spec h14 (isLn_eL o)
theorem law_just_t (h14 : T 14 = some d_law_goes) (h41 : T 41 = some d_law_just) {n : Nat} {ls : List Ln} (hk : ∀ l ∈ ls, l.ok) (hll : ls.length ≤ 1000) {row : List Nat} {t : Int} :
    callN T (n + 2) 41 none [eLs ls, eRw row, .int t] = some (.d (.bool (decide (pos ls t = row))), none) := by
  rw [callN_ev, h41]
  have hc := comp_c (C := callN T (n + 1)) (own := [3, 4]) (tg := .cons (.nm 3) (.cons (.nm 4) .nil)) (cond := .one (.call 14 (.con (.var 4) (.con (.var 2) .emp)))) (elt := .var 3) (enc := fun p : Ln × Nat => .tuple [.int (p.2 : Nat), eL p.1])
    (ρ := [some (.d (eLs ls)), some (.d (eRw row)), some (.d (.int t)), none, none]) (fun p => goes p.1 t) (fun p => .int (p.2 : Nat)) (xs := ls.zipIdx) fun p hp => by
      have e1 := law_goes_t h14 (n := n) (hk p.1 (List.fst_mem_of_mem_zipIdx hp)) (t := t)
      cases hg : goes p.1 t <;> rw [hg] at e1 <;> simp [comp1, -List.map_map, -evI_rng, evI_rngV, -Option.bind_some, -Option.map_some, obind, omap, evFn, runFn, startE, look2, look, isVar, peek, peekA, rdVar, tyOf, outE, ioAt, retV, argD, argK, frzAll, Val.scalar, e1]
  have hm : (ls.zipIdx.filter fun p => goes p.1 t).map (fun p => PyData.int (p.2 : Nat)) = (pos ls t).map fun i => .int (i : Nat) := by
    rw [← pos_zip, List.map_map]; rfl
  rw [hm] at hc
  have he : enuOk (.tuple (ls.map eL)) = some (ls.zipIdx.map fun p => .tuple [.int (p.2 : Nat), eL p.1]) := by
    show some (enuD _) = _
    rw [enu_map]
  have hq := eqD_nats (pos ls t) row
  have hl : bi1D .list (eRw row) = some (.own (row.map fun i => .int (i : Nat))) := rfl
  simp [-List.map_map, -evI_rng, evI_rngV, -Option.bind_some, -Option.map_some, obind, omap, evFn, runFn, startE, look2, look, isVar, peek, peekA, rdVar, tyOf, outE, ioAt, retV, argD, argK, frzAll, Val.scalar, d_law_just, he, show ls.length < 16777216 by omega, hc, hl, hq]
/-! ## the first minute at which just some lines depart -/
theorem pick_map {ls : List Ln} : ∀ {row : List Nat}, (∀ i ∈ row, i < ls.length) → (Bd.pick ls row).map eL = row.map fun i => ((ls[i]?).map eL).getD .none
  | [], _ => rfl
  | i :: row, h => by
    have hi := h i List.mem_cons_self
    have ih := pick_map (ls := ls) (row := row) fun j hj => h j (List.mem_cons_of_mem _ hj)
    unfold Bd.pick at *
    rw [List.filterMap_cons, List.getElem?_eq_getElem hi, List.map_cons, List.map_cons, ih, List.getElem?_eq_getElem hi]
    rfl
theorem pick_len {ls : List Ln} : ∀ {row : List Nat}, (Bd.pick ls row).length ≤ row.length
  | [] => by simp [Bd.pick]
  | i :: row => by
    have := pick_len (ls := ls) (row := row)
    unfold Bd.pick at *
    rw [List.filterMap_cons]
    split <;> simp <;> omega
structure Fst (T : Nat → Option FnD) : Prop extends Mrw T, Jst T where
  h34 : T 34 = some d_first_just
theorem pow_le {k : Nat} (h : k ≤ 12) : (2 : Int) ^ k ≤ 4096 := by
  have : (2 : Nat) ^ k ≤ 2 ^ 12 := Nat.pow_le_pow_right (by decide) h
  have e : ((2 ^ k : Nat) : Int) = (2 : Int) ^ k := by simp
  rw [← e]
  omega
theorem first_just_t (g : Fst T) {n : Nat} {ls : List Ln} (hk : ∀ l ∈ ls, l.ok) (hll : ls.length ≤ 10) {row : List Nat} (hr : row ∈ sets ls.length) {low : Int} :
    callN T (n + 3) 34 none [eLs ls, eRw row, .int low] = some (.d (eOI (firstJ ls row low)), none) := by
  rw [callN_ev, g.h34]
  have hrl := row_le hr
  have hlt := sets_lt hr
  have hc := comp_m (C := callN T (n + 2)) (own := [4]) (tg := .nm 4) (cond := .emp) (elt := .ix (.var 0) (.var 4)) (enc := fun i : Nat => PyData.int (i : Nat))
    (ρ := [some (.d (eLs ls)), some (.d (eRw row)), some (.d (.int low)), none, none, none, none, none, none]) (fun i => ((ls[i]?).map eL).getD .none) (xs := row) fun i hi => by
      have h1 := hlt i hi
      have h2 : L2.atI (ls.map eL) (i : Nat) = some (eL ls[i]) := by rw [atI_of (by omega) (by rw [List.length_map]; omega)]; simp [h1]
      simp [comp1, -List.map_map, -evI_rng, evI_rngV, -Option.bind_some, -Option.map_some, obind, omap, evFn, runFn, startE, look2, look, isVar, peek, peekA, rdVar, tyOf, outE, ioAt, retV, argD, argK, frzAll, Val.scalar, h2, -atI_of, h1]
  rw [← pick_map hlt] at hc
  have hpl := pick_len (ls := ls) (row := row)
  have hm := meeting_row_t g.toMrw (n := n) (ls := Bd.pick ls row) (pick_ok hk) (.inr rfl)
  have hi : iterD (eRw row) = some (row.map fun i => .int (i : Nat)) := rfl
  unfold firstJ
  cases h : rowF (Bd.pick ls row) with
  | none =>
    rw [h] at hm
    simp [-List.map_map, -evI_rng, evI_rngV, -Option.bind_some, -Option.map_some, obind, omap, evFn, runFn, startE, look2, look, isVar, peek, peekA, rdVar, tyOf, outE, ioAt, retV, argD, argK, frzAll, Val.scalar, d_first_just, hi, show row.length < 16777216 by omega, hc, hm, eOR, eOI]
  | some r =>
    obtain ⟨E, F⟩ := r
    rw [h] at hm
    obtain ⟨k1, k2⟩ := rowF_some (pick_ok fun l hl => (hk l hl).toOkz) h
    have hE := k1.e1
    simp only at hE
    have hf := for_f (C := callN T (n + 2)) (tg := .nm 8) (b := b1_first_just) (enc := PyData.int) (fun s => decide (pos ls (begR (E, F) low + E * s) = row)) (fun s => .d (.int (begR (E, F) low + E * s)))
      (fun ρ => ∃ a4 a8, ρ = [some (.d (eLs ls)), some (.d (eRw row)), some (.d (.int low)), some (.d (.tuple [.int E, .int F])), a4, some (.d (.int E)), some (.d (.int F)), some (.d (.int (begR (E, F) low))), a8])
      (xs := rI 0 (2 ^ (ls.length - row.length))) (ρ := [some (.d (eLs ls)), some (.d (eRw row)), some (.d (.int low)), some (.d (.tuple [.int E, .int F])), none, some (.d (.int E)), some (.d (.int F)), some (.d (.int (begR (E, F) low))), none]) ⟨none, none, rfl⟩ (fun s hs ρ ⟨a4, a8, hρ⟩ => by
        subst hρ
        have hs := mem_rI.mp hs
        have hp := pow_le (k := ls.length - row.length) (by omega)
        have iw : inW s = true := by simp [inW]; omega
        have hj := just_t g.toJst (n := n) hk (by omega) hr (t := begR (E, F) low + E * s)
        generalize begR (E, F) low = b at hj ⊢
        by_cases hb : pos ls (b + E * s) = row
        · rw [decide_eq_true hb] at hj
          rw [if_pos (decide_eq_true hb)]
          exact ⟨_, by simp [for1, -List.map_map, -evI_rng, evI_rngV, -Option.bind_some, -Option.map_some, obind, omap, evFn, runFn, startE, look2, look, isVar, peek, peekA, rdVar, tyOf, outE, ioAt, retV, argD, argK, frzAll, Val.scalar, b1_first_just, iw, hj]; rfl⟩
        · rw [decide_eq_false hb] at hj
          rw [if_neg (by simpa using hb)]
          exact ⟨_, by simp [for1, -List.map_map, -evI_rng, evI_rngV, -Option.bind_some, -Option.map_some, obind, omap, evFn, runFn, startE, look2, look, isVar, peek, peekA, rdVar, tyOf, outE, ioAt, retV, argD, argK, frzAll, Val.scalar, b1_first_just, iw, hj]; and_intros <;> rfl, _, _, rfl⟩)
    have hp := pow_le (k := ls.length - row.length) (by omega)
    have hp0 : (0 : Int) < 2 ^ (ls.length - row.length) := Int.pow_pos (by decide)
    have hrg : rngD [.int (2 ^ (ls.length - row.length))] = some ((rI 0 (2 ^ (ls.length - row.length))).map .int) := rng_1 (by omega) (by omega)
    have hsh : binD .LShift (.int 1) (.int ((ls.length : Int) - (row.length : Int))) = some (.d (.int (2 ^ (ls.length - row.length)))) := by
      show (if 0 ≤ ((ls.length : Int) - (row.length : Int)) ∧ ((ls.length : Int) - (row.length : Int)) ≤ 1000000 ∧ (1 : Int).natAbs < 18446744073709551616 then some (Val.d (.int (1 * 2 ^ ((ls.length : Int) - (row.length : Int)).toNat))) else none) = _
      rw [if_pos ⟨by omega, by omega, by decide⟩, Int.one_mul]
      have : ((ls.length : Int) - (row.length : Int)).toNat = ls.length - row.length := by omega
      rw [this]
    have hbg : low + (F - low) % E = begR (E, F) low := rfl
    have hfd : (rI 0 (2 ^ (ls.length - row.length))).find? (fun s => decide (pos ls (begR (E, F) low + E * s) = row)) = ((List.range (2 ^ (ls.length - row.length))).find? fun s : Nat => decide (pos ls (begR (E, F) low + E * s) = row)).map fun s : Nat => (s : Int) := by
      have e : ((2 : Int) ^ (ls.length - row.length)).toNat = 2 ^ (ls.length - row.length) := by
        have : ((2 ^ (ls.length - row.length) : Nat) : Int) = (2 : Int) ^ (ls.length - row.length) := by simp
        omega
      rw [rI_nat, List.find?_map, e]
      rfl
    rw [hfd] at hf
    rw [Option.bind_some]
    generalize (2 : Int) ^ (ls.length - row.length) = pw at *
    have hlr : bi1D .len (eRw row) = some (.d (.int (row.length : Int))) := by unfold eRw; simp
    have hrow : eRw row = .tuple (row.map fun i => .int (i : Nat)) := rfl
    cases hx : (List.range (2 ^ (ls.length - row.length))).find? fun s : Nat => decide (pos ls (begR (E, F) low + E * s) = row) with
    | none =>
      rw [hx] at hf
      obtain ⟨ρ', e, a4, a8, rfl⟩ := hf
      simp [-List.map_map, -evI_rng, evI_rngV, -Option.bind_some, -Option.map_some, obind, omap, evFn, runFn, startE, look2, look, isVar, peek, peekA, rdVar, tyOf, outE, ioAt, retV, argD, argK, frzAll, Val.scalar, d_first_just, hi, show row.length < 16777216 by omega, hc, hm, eOR, show 0 < E by omega, hbg, hlr, hsh, hrg, e, eOI]
      rw [hx]
      rfl
    | some s =>
      rw [hx] at hf
      obtain ⟨ρ', e⟩ := hf
      simp [-List.map_map, -evI_rng, evI_rngV, -Option.bind_some, -Option.map_some, obind, omap, evFn, runFn, startE, look2, look, isVar, peek, peekA, rdVar, tyOf, outE, ioAt, retV, argD, argK, frzAll, Val.scalar, d_first_just, hi, show row.length < 16777216 by omega, hc, hm, eOR, show 0 < E by omega, hbg, hlr, hsh, hrg, e, eOI]
      rw [hx]
      rfl
end Mn

namespace Mn
open PySem
open Bd
variable {T : Nat → Option FnD}
theorem next_meeting_t (g : Mrw T) (h40 : T 40 = some d_next_meeting) {n : Nat} {ls : List Ln} (hk : ∀ l ∈ ls, l.ok) {m : Int} :
    callN T (n + 3) 40 none [eLs ls, .int m] = some (.d (eOI (nextM ls m)), none) := by
  rw [callN_ev, h40]
  have hm := meeting_row_t g (n := n) hk (x := eLs ls) (.inl rfl)
  unfold nextM
  cases h : rowF ls with
  | none =>
    rw [h] at hm
    simp [-List.map_map, -evI_rng, evI_rngV, -Option.bind_some, -Option.map_some, obind, omap, evFn, runFn, startE, look2, look, isVar, peek, peekA, rdVar, tyOf, outE, ioAt, retV, argD, argK, frzAll, Val.scalar, d_next_meeting, hm, eOR, eOI]
  | some r =>
    obtain ⟨E, F⟩ := r
    rw [h] at hm
    have hE := (rowF_some (fun l hl => (hk l hl).toOkz) h).1.e1
    simp only at hE
    simp [-List.map_map, -evI_rng, evI_rngV, -Option.bind_some, -Option.map_some, obind, omap, evFn, runFn, startE, look2, look, isVar, peek, peekA, rdVar, tyOf, outE, ioAt, retV, argD, argK, frzAll, Val.scalar, d_next_meeting, hm, eOR, eOI, show 0 < E by omega, begR]
/-! ## counts by sets -/
/-- the others -/
theorem others_comp {C : CallF} {own : Nat} {ls : List Ln} {row : List Nat} {ρ : Env} (f : Nat)
    (h : ∀ i : Nat, comp1 C [own] (.nm own) (.one (.cmp .NotIn (.var own) (.var 1))) (.var own) (.int (i : Nat)) ρ = some (if decide (i ∉ row) then some (.int (i : Nat)) else none, ρ)) :
    compE C [own] (.nm own) (.one (.cmp .NotIn (.var own) (.var 1))) (.var own) ((rI 0 (ls.length : Int)).map .int) ρ = some ((othersOf ls.length row).map fun i => .int (i : Nat), ρ) := by
  have e : (rI 0 (ls.length : Int)).map PyData.int = (List.range ls.length).map fun i : Nat => PyData.int (i : Nat) := by
    rw [rI_nat, List.map_map, Int.toNat_natCast]; rfl
  rw [e, comp_c (fun i => decide (i ∉ row)) (fun i => .int (i : Nat)) fun i _ => h i]
  rfl
theorem nin_row (i : Nat) (row : List Nat) : cmpD .NotIn (.int (i : Nat)) (eRw row) = some (decide (i ∉ row)) := by
  rw [cmp_nin, in_row]
  simp
structure Lct (T : Nat → Option FnD) : Prop extends Lrw T where
  h38 : T 38 = some d_law_sets
  h39 : T 39 = some d_law_count
theorem sgn_eq (more : List Nat) : sgn more = if ((more.length : Nat) : Int) % 2 = 0 then 1 else -1 := by
  unfold sgn
  split <;> omega
theorem rowF_le {ls : List Ln} (hk : ∀ l ∈ ls, l.ok) (hll : ls.length ≤ 10) {E F : Int} (h : rowF ls = some (E, F)) : 1 ≤ E ∧ E < 18446744073709551616 ∧ 0 ≤ F ∧ F < E := by
  have h1 := (rowF_some (fun l hl => (hk l hl).toOkz) h).1
  have h2 := rowG_le ls (1, 0) (E, F) hk row0 h
  have h3 : (60 : Int) ^ ls.length ≤ 60 ^ 10 := by
    have : (60 : Nat) ^ ls.length ≤ 60 ^ 10 := Nat.pow_le_pow_right (by decide) hll
    exact_mod_cast this
  have h4 : (60 : Int) ^ 10 < 18446744073709551616 := by decide
  refine ⟨h1.e1, ?_, h1.f0, h1.fe⟩
  simp only at h2
  omega
/-- the lines at the places of others -/
theorem pick_more {ls : List Ln} {o : List Nat} (ho : ∀ i ∈ o, i < ls.length) {more : List Nat} (hm : more ∈ sets o.length) : ∀ i ∈ more.map (fun j => o.getD j 0), i < ls.length := fun i hi => by
  obtain ⟨j, hj, rfl⟩ := List.mem_map.mp hi
  have := sets_lt hm j hj
  rw [List.getD_eq_getElem?_getD, List.getElem?_eq_getElem this]
  exact ho _ (List.getElem_mem this)
theorem others_lt {n : Nat} {row : List Nat} : ∀ i ∈ othersOf n row, i < n := fun i hi => List.mem_range.mp (List.mem_filter.mp hi).1
theorem others_le {n : Nat} {row : List Nat} : (othersOf n row).length ≤ n := by
  have := List.length_filter_le (fun i => decide (i ∉ row)) (List.range n)
  rw [List.length_range] at this
  exact this
theorem pick_get {ls : List Ln} {i : Nat} (h : i < ls.length) : L2.atI (ls.map eL) (i : Nat) = some (eL ls[i]) := by
  rw [atI_of (by omega) (by rw [List.length_map]; omega)]; simp [h]
theorem pick_comp {C : CallF} {own x y : Nat} {ls : List Ln} {row : List Nat} {ρ : Env} (hlt : ∀ i ∈ row, i < ls.length)
    (h : ∀ i : Nat, ∀ l : Ln, ls[i]? = some l → comp1 C [own] (.nm own) .emp (.ix (.var x) (.var own)) (.int (i : Nat)) ρ = some (some (eL l), ρ)) :
    compE C [own] (.nm own) .emp (.ix (.var x) (.var own)) (row.map fun i => .int (i : Nat)) ρ = some ((Bd.pick ls row).map eL, ρ) := by
  rw [comp_m (enc := fun i : Nat => PyData.int (i : Nat)) (fun i => ((ls[i]?).map eL).getD .none) fun i hi => ?_, pick_map hlt]
  have hh := hlt i hi
  rw [h i ls[i] (List.getElem?_eq_getElem hh), List.getElem?_eq_getElem hh]
  rfl
theorem lcount_turn (g : Lct T) {n : Nat} {ls : List Ln} (hk : ∀ l ∈ ls, l.ok) (hll : ls.length ≤ 10) {row : List Nat} (hr : row ∈ sets ls.length) {top tot_ : Int} {more : List Nat} (hm : more ∈ sets (othersOf ls.length row).length) {s5 a6 a7 a8 : Option Slot} :
    ∃ b6 b7 b8, for1 (callN T (n + 2)) (.nm 6) b1_law_count (eRw more) [some (.d (eLs ls)), some (.d (eRw row)), some (.d (.int top)), some (.d (.int tot_)), some (.own ((othersOf ls.length row).map fun i => .int (i : Nat))), s5, a6, a7, a8] =
      some (.nx [some (.d (eLs ls)), some (.d (eRw row)), some (.d (.int top)), some (.d (.int (tot_ + sgn more * cntR (rowF (Bd.pick ls row ++ Bd.pick ls (more.map fun j => (othersOf ls.length row).getD j 0))) top))), some (.own ((othersOf ls.length row).map fun i => .int (i : Nat))), s5, b6, b7, b8]) := by
  have hlt := sets_lt hr
  have hrl := row_le hr
  have hol := others_le (n := ls.length) (row := row)
  have hot := others_lt (n := ls.length) (row := row)
  have hpm := pick_more hot hm
  have hml := row_le hm
  generalize hO : othersOf ls.length row = o at *
  have hc1 := fun s6 s7 s8 => pick_comp (C := callN T (n + 2)) (own := 5) (x := 0) (y := 0) (ls := ls) (row := row) (ρ := [some (.d (eLs ls)), some (.d (eRw row)), some (.d (.int top)), some (.d (.int tot_)), some (.own (o.map fun i => .int (i : Nat))), none, s6, s7, s8]) hlt fun i l hl => by
    have hi := (List.getElem?_eq_some_iff.mp hl)
    obtain ⟨hi, rfl⟩ := hi
    simp [comp1, -List.map_map, -evI_rng, evI_rngV, -Option.bind_some, -Option.map_some, obind, omap, evFn, runFn, startE, look2, look, isVar, peek, peekA, rdVar, tyOf, outE, ioAt, retV, argD, argK, frzAll, Val.scalar, pick_get hi, -atI_of]
  have hc2 := fun s7 s8 => comp_m (C := callN T (n + 2)) (own := [5]) (tg := .nm 5) (cond := .emp) (elt := .ix (.var 0) (.ix (.var 4) (.var 5))) (enc := fun i : Nat => PyData.int (i : Nat))
    (ρ := [some (.d (eLs ls)), some (.d (eRw row)), some (.d (.int top)), some (.d (.int tot_)), some (.own (o.map fun i => .int (i : Nat))), none, some (.d (eRw more)), s7, s8]) (fun j => ((ls[o.getD j 0]?).map eL).getD .none) (xs := more) fun j hj => by
      have h1 := sets_lt hm j hj
      have h2 : L2.atI (o.map fun i => PyData.int (i : Nat)) (j : Nat) = some (.int ((o.getD j 0 : Nat) : Int)) := by
        rw [atI_of (by omega) (by rw [List.length_map]; omega), Int.toNat_natCast, List.getElem?_map, List.getElem?_eq_getElem h1, List.getD_eq_getElem?_getD, List.getElem?_eq_getElem h1]
        rfl
      have h3 : o.getD j 0 < ls.length := hpm _ (List.mem_map.mpr ⟨j, hj, rfl⟩)
      generalize o.getD j 0 = i at h2 h3
      simp [comp1, -List.map_map, -evI_rng, evI_rngV, -Option.bind_some, -Option.map_some, obind, omap, evFn, runFn, startE, look2, look, isVar, peek, peekA, rdVar, tyOf, outE, ioAt, retV, argD, argK, frzAll, Val.scalar, h2, pick_get h3, -atI_of, h3]
  have he : (more.map fun j => ((ls[o.getD j 0]?).map eL).getD .none) = (Bd.pick ls (more.map fun j => o.getD j 0)).map eL := by
    rw [pick_map hpm, List.map_map]; rfl
  rw [he] at hc2
  have hpl1 := pick_len (ls := ls) (row := row)
  have hpl2 := pick_len (ls := ls) (row := more.map fun j => o.getD j 0)
  rw [List.length_map] at hpl2
  have hkp : ∀ l ∈ Bd.pick ls row ++ Bd.pick ls (more.map fun j => o.getD j 0), l.ok := fun l hl => (List.mem_append.mp hl).elim (pick_ok hk l) (pick_ok hk l)
  have hmr := law_row_t g.toLrw (n := n) hkp (x := .list ((Bd.pick ls row ++ Bd.pick ls (more.map fun j => o.getD j 0)).map eL)) (.inr rfl)
  have hlen : (Bd.pick ls row ++ Bd.pick ls (more.map fun j => o.getD j 0)).length ≤ 10 := by
    rw [List.length_append]
    have := others_len hr
    rw [hO] at this
    omega
  rw [List.map_append] at hmr
  have hi1 : iterD (eRw row) = some (row.map fun i => .int (i : Nat)) := rfl
  have hi2 : iterD (eRw more) = some (more.map fun i => .int (i : Nat)) := rfl
  have hln : bi1D .len (eRw more) = some (.d (.int (more.length : Int))) := by unfold eRw; simp
  have hsg := sgn_eq more
  cases h : rowF (Bd.pick ls row ++ Bd.pick ls (more.map fun j => o.getD j 0)) with
  | none =>
    rw [h] at hmr
    simp only [cntR, Int.mul_zero, Int.add_zero]
    refine ⟨some (.d (eRw more)), some (.d .none), a8, ?_⟩
    generalize Bd.pick ls row = A at *
    generalize Bd.pick ls (more.map fun j => o.getD j 0) = B at *
    simp [for1, -List.map_map, -evI_rng, evI_rngV, -Option.bind_some, -Option.map_some, obind, omap, evFn, runFn, startE, look2, look, isVar, peek, peekA, rdVar, tyOf, outE, ioAt, retV, argD, argK, frzAll, Val.scalar, b1_law_count, hi1, hi2, show row.length < 16777216 by omega, show more.length < 16777216 by omega, hc1, hc2, show A.length + B.length ≤ 16777216 by omega, hmr, eOR]
  | some r =>
    obtain ⟨E, F⟩ := r
    rw [h] at hmr
    obtain ⟨q1, q2, q3, q4⟩ := rowF_le hkp hlen h
    generalize Bd.pick ls row = A at *
    generalize Bd.pick ls (more.map fun j => o.getD j 0) = B at *
    simp only [cntR]
    by_cases ht : top < F
    · rw [if_pos ht, Int.mul_zero, Int.add_zero]
      refine ⟨some (.d (eRw more)), some (.d (.tuple [.int E, .int F])), a8, ?_⟩
      simp [for1, -List.map_map, -evI_rng, evI_rngV, -Option.bind_some, -Option.map_some, obind, omap, evFn, runFn, startE, look2, look, isVar, peek, peekA, rdVar, tyOf, outE, ioAt, retV, argD, argK, frzAll, Val.scalar, b1_law_count, hi1, hi2, show row.length < 16777216 by omega, show more.length < 16777216 by omega, hc1, hc2, show A.length + B.length ≤ 16777216 by omega, hmr, eOR, show ¬ F ≤ top by omega]
    · rw [if_neg ht]
      refine ⟨some (.d (eRw more)), some (.d (.tuple [.int E, .int F])), some (.d (.int ((top - F) / E + 1))), ?_⟩
      rw [hsg]
      by_cases hs : ((more.length : Nat) : Int) % 2 = 0
      · simp [for1, -List.map_map, -evI_rng, evI_rngV, -Option.bind_some, -Option.map_some, obind, omap, evFn, runFn, startE, look2, look, isVar, peek, peekA, rdVar, tyOf, outE, ioAt, retV, argD, argK, frzAll, Val.scalar, b1_law_count, hi1, hi2, show row.length < 16777216 by omega, show more.length < 16777216 by omega, hc1, hc2, show A.length + B.length ≤ 16777216 by omega, hmr, eOR, show F ≤ top by omega, show 0 < E by omega, q2, hln, hs]
      · simp [for1, -List.map_map, -evI_rng, evI_rngV, -Option.bind_some, -Option.map_some, obind, omap, evFn, runFn, startE, look2, look, isVar, peek, peekA, rdVar, tyOf, outE, ioAt, retV, argD, argK, frzAll, Val.scalar, b1_law_count, hi1, hi2, show row.length < 16777216 by omega, show more.length < 16777216 by omega, hc1, hc2, show A.length + B.length ≤ 16777216 by omega, hmr, eOR, show F ≤ top by omega, show 0 < E by omega, q2, hln, hs]
theorem law_count_t (g : Lct T) {n : Nat} {ls : List Ln} (hk : ∀ l ∈ ls, l.ok) (hll : ls.length ≤ 10) {row : List Nat} (hr : row ∈ sets ls.length) {top : Int} :
    callN T (n + 3) 39 none [eLs ls, eRw row, .int top] = some (.d (.int (cntW ls row top)), none) := by
  rw [callN_ev, g.h39]
  have hol := others_le (n := ls.length) (row := row)
  have hoc := others_comp (C := callN T (n + 2)) (own := 5) (ls := ls) (row := row) (ρ := [some (.d (eLs ls)), some (.d (eRw row)), some (.d (.int top)), none, none, none, none, none, none]) 0 fun i => by
    cases hd : decide (i ∉ row) <;> simp at hd <;> simp [comp1, -List.map_map, -evI_rng, evI_rngV, -Option.bind_some, -Option.map_some, obind, omap, evFn, runFn, startE, look2, look, isVar, peek, peekA, rdVar, tyOf, outE, ioAt, retV, argD, argK, frzAll, Val.scalar, in_row, hd]
  have hst := law_sets_t g.h38 (n := n + 1) (k := (othersOf ls.length row).length) (by omega)
  obtain ⟨ρ', e, b6, b7, b8, rfl⟩ := for_p (C := callN T (n + 2)) (tg := .nm 6) (b := b1_law_count) (enc := eRw)
    (fun pre ρ => ∃ b6 b7 b8, ρ = [some (.d (eLs ls)), some (.d (eRw row)), some (.d (.int top)), some (.d (.int ((pre.map fun more => sgn more * cntR (rowF (Bd.pick ls row ++ Bd.pick ls (more.map fun j => (othersOf ls.length row).getD j 0))) top).sum))), some (.own ((othersOf ls.length row).map fun i => .int (i : Nat))), none, b6, b7, b8])
    (all := sets (othersOf ls.length row).length) (ρ := [some (.d (eLs ls)), some (.d (eRw row)), some (.d (.int top)), some (.d (.int 0)), some (.own ((othersOf ls.length row).map fun i => .int (i : Nat))), none, none, none, none]) ⟨none, none, none, rfl⟩ (fun pre more post hp ρ ⟨b6, b7, b8, hρ⟩ => by
      subst hρ
      obtain ⟨c6, c7, c8, e⟩ := lcount_turn g (n := n) hk hll hr (top := top) (tot_ := (pre.map fun more => sgn more * cntR (rowF (Bd.pick ls row ++ Bd.pick ls (more.map fun j => (othersOf ls.length row).getD j 0))) top).sum) (more := more) (by rw [hp]; simp) (s5 := none) (a6 := b6) (a7 := b7) (a8 := b8)
      refine ⟨_, e, c6, c7, c8, ?_⟩
      rw [List.map_append, List.sum_append]
      simp)
  have hrl : rngD [.int (ls.length : Int)] = some ((rI 0 (ls.length : Int)).map .int) := rng_1 (by omega) (by omega)
  have hlen : (rI 0 (ls.length : Int)).length < 16777216 := by rw [rI_len]; omega
  unfold cntW
  generalize rI 0 (ls.length : Int) = R at *
  generalize othersOf ls.length row = o at *
  simp [-List.map_map, -evI_rng, evI_rngV, -Option.bind_some, -Option.map_some, obind, omap, evFn, runFn, startE, look2, look, isVar, peek, peekA, rdVar, tyOf, outE, ioAt, retV, argD, argK, frzAll, Val.scalar, d_law_count, hrl, hlen, hoc, hst, iterD, e]
/-! ## the program's counts -/
structure Mct (T : Nat → Option FnD) : Prop extends Mrw T where
  h32 : T 32 = some d_all_sets
  h42 : T 42 = some d_count_row
  h43 : T 43 = some d_count_with
theorem count_row_t (h42 : T 42 = some d_count_row) {n : Nat} {r : Option (Int × Int)} (hr : ∀ E F, r = some (E, F) → 1 ≤ E ∧ E < 18446744073709551616) {top : Int} :
    callN T (n + 1) 42 none [eOR r, .int top] = some (.d (.int (cntR r top)), none) := by
  rw [callN_ev, h42]
  cases r with
  | none => simp [-List.map_map, -evI_rng, evI_rngV, -Option.bind_some, -Option.map_some, obind, omap, evFn, runFn, startE, look2, look, isVar, peek, peekA, rdVar, tyOf, outE, ioAt, retV, argD, argK, frzAll, Val.scalar, d_count_row, eOR, cntR]
  | some r =>
    obtain ⟨E, F⟩ := r
    obtain ⟨h1, h2⟩ := hr E F rfl
    by_cases ht : top < F <;> simp [-List.map_map, -evI_rng, evI_rngV, -Option.bind_some, -Option.map_some, obind, omap, evFn, runFn, startE, look2, look, isVar, peek, peekA, rdVar, tyOf, outE, ioAt, retV, argD, argK, frzAll, Val.scalar, d_count_row, eOR, cntR, ht, show 0 < E by omega, h2]
theorem cntR_nonneg {r : Option (Int × Int)} (hr : ∀ E F, r = some (E, F) → 1 ≤ E) {top : Int} : 0 ≤ cntR r top := by
  unfold cntR
  split
  · decide
  · rename_i E F
    have := hr E F rfl
    split
    · decide
    · have := Int.ediv_nonneg (show 0 ≤ top - F by omega) (show 0 ≤ E by omega)
      omega
theorem count_turn (g : Mct T) {n : Nat} {ls : List Ln} (hk : ∀ l ∈ ls, l.ok) (hll : ls.length ≤ 10) {row : List Nat} (hr : row ∈ sets ls.length) {top tot_ : Int} {more : List Nat} (hm : more ∈ sets (othersOf ls.length row).length) {s5 a6 a7 : Option Slot} :
    ∃ b6 b7, for1 (callN T (n + 2)) (.nm 6) b1_count_with (eRw more) [some (.d (eLs ls)), some (.d (eRw row)), some (.d (.int top)), some (.own ((othersOf ls.length row).map fun i => .int (i : Nat))), some (.d (.int tot_)), s5, a6, a7] =
      some (.nx [some (.d (eLs ls)), some (.d (eRw row)), some (.d (.int top)), some (.own ((othersOf ls.length row).map fun i => .int (i : Nat))), some (.d (.int (tot_ + sgn more * cntR (rowF (Bd.pick ls row ++ Bd.pick ls (more.map fun j => (othersOf ls.length row).getD j 0))) top))), s5, b6, b7]) := by
  have hlt := sets_lt hr
  have hrl := row_le hr
  have hol := others_le (n := ls.length) (row := row)
  have hot := others_lt (n := ls.length) (row := row)
  have hpm := pick_more hot hm
  have hml := row_le hm
  have hlen : row.length + more.length ≤ 10 := by
    have := others_len hr
    omega
  generalize hO : othersOf ls.length row = o at *
  have hc2 := fun s7 => comp_m (C := callN T (n + 2)) (own := [5]) (tg := .nm 5) (cond := .emp) (elt := .ix (.var 3) (.var 5)) (enc := fun i : Nat => PyData.int (i : Nat))
    (ρ := [some (.d (eLs ls)), some (.d (eRw row)), some (.d (.int top)), some (.own (o.map fun i => .int (i : Nat))), some (.d (.int tot_)), none, some (.d (eRw more)), s7]) (fun j => .int ((o.getD j 0 : Nat) : Int)) (xs := more) fun j hj => by
      have h1 := sets_lt hm j hj
      have h2 : L2.atI (o.map fun i => PyData.int (i : Nat)) (j : Nat) = some (.int ((o.getD j 0 : Nat) : Int)) := by
        rw [atI_of (by omega) (by rw [List.length_map]; omega), Int.toNat_natCast, List.getElem?_map, List.getElem?_eq_getElem h1, List.getD_eq_getElem?_getD, List.getElem?_eq_getElem h1]
        rfl
      generalize o.getD j 0 = i at h2
      simp [comp1, -List.map_map, -evI_rng, evI_rngV, -Option.bind_some, -Option.map_some, obind, omap, evFn, runFn, startE, look2, look, isVar, peek, peekA, rdVar, tyOf, outE, ioAt, retV, argD, argK, frzAll, Val.scalar, h2, -atI_of]
  have hall : ∀ i ∈ row ++ more.map (fun j => o.getD j 0), i < ls.length := fun i hi => (List.mem_append.mp hi).elim (hlt i) (hpm i)
  have hc1 := fun s7 => pick_comp (C := callN T (n + 2)) (own := 5) (x := 0) (y := 0) (ls := ls) (row := row ++ more.map (fun j => o.getD j 0)) (ρ := [some (.d (eLs ls)), some (.d (eRw row)), some (.d (.int top)), some (.own (o.map fun i => .int (i : Nat))), some (.d (.int tot_)), none, some (.d (eRw more)), s7]) hall fun i l hl => by
    obtain ⟨hi, rfl⟩ := List.getElem?_eq_some_iff.mp hl
    simp [comp1, -List.map_map, -evI_rng, evI_rngV, -Option.bind_some, -Option.map_some, obind, omap, evFn, runFn, startE, look2, look, isVar, peek, peekA, rdVar, tyOf, outE, ioAt, retV, argD, argK, frzAll, Val.scalar, pick_get hi, -atI_of]
  rw [List.map_append, List.map_map] at hc1
  have hkp : ∀ l ∈ Bd.pick ls (row ++ more.map fun j => o.getD j 0), l.ok := pick_ok hk
  have hpl : (Bd.pick ls (row ++ more.map fun j => o.getD j 0)).length ≤ 10 := by
    have := pick_len (ls := ls) (row := row ++ more.map fun j => o.getD j 0)
    rw [List.length_append, List.length_map] at this
    omega
  have hmr := meeting_row_t g.toMrw (n := n) hkp (x := .list ((Bd.pick ls (row ++ more.map fun j => o.getD j 0)).map eL)) (.inr rfl)
  have hcr := count_row_t g.h42 (n := n + 1) (r := rowF (Bd.pick ls (row ++ more.map fun j => o.getD j 0))) (top := top) (fun E F h => by
    have := rowF_le hkp hpl h
    omega)
  rw [pick_append] at hc1 hmr hcr
  have hi2 : iterD (eRw more) = some (more.map fun i => .int (i : Nat)) := rfl
  have hln : bi1D .len (eRw more) = some (.d (.int (more.length : Int))) := by unfold eRw; simp
  have hsr : eRw row = .tuple (row.map fun i => .int (i : Nat)) := rfl
  generalize rowF (Bd.pick ls row ++ Bd.pick ls (more.map fun j => o.getD j 0)) = R at *
  generalize Bd.pick ls row = A at *
  generalize Bd.pick ls (more.map fun j => o.getD j 0) = B at *
  have iw : inW (1 - 2 * ((more.length : Int) % 2)) = true := by simp [inW]; omega
  have iw2 : inW 2 = true := by decide
  refine ⟨some (.d (eRw more)), some (.d (eOR R)), ?_⟩
  have hsg : sgn more = 1 - 2 * ((more.length : Int) % 2) := by unfold sgn; omega
  have hmc : sgn more * cntR R top = cntR R top * sgn more := Int.mul_comm _ _
  rw [hmc, hsg]
  rw [List.map_append] at hmr
  have hM : (row.map fun i => PyData.int (i : Nat)) ++ more.map ((fun i => PyData.int (i : Nat)) ∘ fun j => o.getD j 0) = (row.map fun i => PyData.int (i : Nat)) ++ (more.map fun j => .int ((o.getD j 0 : Nat) : Int)) := rfl
  rw [hM] at hc1
  unfold eRw at *
  have hM1 : (row.map fun i => PyData.int (i : Nat)).length = row.length := by simp
  have hM2 : (more.map fun j => PyData.int ((o.getD j 0 : Nat) : Int)).length = more.length := by simp
  have hM3 : (more.map fun i => PyData.int (i : Nat)).length = more.length := by simp
  generalize (more.map fun j => PyData.int ((o.getD j 0 : Nat) : Int)) = M2 at *
  generalize (row.map fun i => PyData.int (i : Nat)) = M1 at *
  generalize (more.map fun i => PyData.int (i : Nat)) = M3 at *
  simp [for1, -List.map_map, -evI_rng, evI_rngV, -Option.bind_some, -Option.map_some, obind, omap, evFn, runFn, startE, look2, look, isVar, peek, peekA, rdVar, tyOf, outE, ioAt, retV, argD, argK, frzAll, Val.scalar, b1_count_with, hi2, hM1, hM2, hM3, show more.length < 16777216 by omega, hc2, show row.length + more.length ≤ 16777216 by omega, show row.length + more.length < 16777216 by omega, iterD, hc1, hmr, hcr, iw, iw2]
end Mn

namespace Mn
open PySem
open Bd
variable {T : Nat → Option FnD}
/-! ## words of some lines -/
theorem dStrs_eS (w : List Nat) : dStrs (w.map fun c => .str (eS c)) = some (w.map eS) := by
  induction w with
  | nil => rfl
  | cons c w ih => rw [List.map_cons, dStrs, ih]; rfl
theorem joinD_eS {w : List Nat} (h : w.length ≤ 100000) : joinD "" (w.map eS) = some (wS w) := by
  rw [join_spec (fun x hx => by obtain ⟨c, _, rfl⟩ := List.mem_map.mp hx; simp) (by rw [List.length_map]; omega), join_signs]
theorem cutS_wS {w : List Nat} {r : Int} (h : 0 ≤ r) : L2.cutS (wS w) none (some r) = wS (w.take r.toNat) := by
  have := cut_to (xs := w) h
  unfold L2.cutS
  unfold cutA at this
  show (⟨((w.drop _).take _).toArray⟩ : Str) = ⟨_⟩
  congr 2
theorem wS_inj {a b : List Nat} : wS a = wS b ↔ a = b := by
  constructor
  · intro h
    have := congrArg (fun z : Str => z.cps.toList) h
    simpa [wS] using this
  · rintro rfl; rfl
theorem lab_get {ls : List Ln} {i : Nat} (h : i < ls.length) : L2.atI (ls.map eL) (i : Nat) = some (.tuple [.str (eS (labAt ls i)), .int ls[i].e, .int ls[i].f]) := by
  rw [atI_of (by omega) (by rw [List.length_map]; omega), Int.toNat_natCast, List.getElem?_map, List.getElem?_eq_getElem h]
  unfold labAt
  rw [List.getElem?_eq_getElem h]
  rfl
structure Unl (T : Nat → Option FnD) : Prop extends Fst T where
  h32 : T 32 = some d_all_sets
  h46 : T 46 = some d_first_unlike
theorem unlike_turn (g : Unl T) {n : Nat} {one other : List Ln} (hk : ∀ l ∈ one ++ other, l.ok) (hll : (one ++ other).length ≤ 10) {rows : Int} (r0 : 0 ≤ rows) {row : List Nat} (hr : row ∈ sets (one ++ other).length) {best : Option Int} {s1 a5 a6 a7 a8 : Option Slot} :
    ∃ b5 b6 b8, for1 (callN T (n + 3)) (.nm 5) b1_first_unlike (eRw row) [some (.d (eLs one)), s1, some (.d (.int rows)), some (.d (eLs (one ++ other))), some (.d (eOI best)), a5, a6, a7, a8] =
      some (.nx [some (.d (eLs one)), s1, some (.d (.int rows)), some (.d (eLs (one ++ other))), some (.d (eOI (if unl one (one ++ other) rows.toNat row then stepU best (firstJ (one ++ other) row 0) else best))), b5, b6, a7, b8]) := by
  have hlt := sets_lt hr
  have hrl := row_le hr
  have hL : (one ++ other).length = one.length + other.length := by simp
  have hj : callN T (n + 3) 34 none [eLs (one ++ other), eRw row, .int 0] = _ := first_just_t g.toFst (n := n) hk hll hr (low := 0)
  have hc1 := fun s6 => comp_c (C := callN T (n + 3)) (own := [7]) (tg := .nm 7) (cond := .one (.cmp .Lt (.var 7) (.bi1 .len (.var 0)))) (elt := .ix (.ix (.var 0) (.var 7)) (.cst (.int 0))) (enc := fun i : Nat => PyData.int (i : Nat))
    (ρ := [some (.d (eLs one)), s1, some (.d (.int rows)), some (.d (eLs (one ++ other))), some (.d (eOI best)), some (.d (eRw row)), s6, none, a8]) (fun i => decide (i < one.length)) (fun i => .str (eS (labAt one i))) (xs := row) fun i hi => by
      by_cases h : i < one.length
      · simp [comp1, -List.map_map, -evI_rng, evI_rngV, -Option.bind_some, -Option.map_some, obind, omap, evFn, runFn, startE, look2, look, isVar, peek, peekA, rdVar, tyOf, outE, ioAt, retV, argD, argK, frzAll, Val.scalar, h, lab_get h, -atI_of, show L2.atI [PyData.str (eS (labAt one i)), PyData.int one[i].e, PyData.int one[i].f] 0 = some (.str (eS (labAt one i))) from rfl]
      · simp [comp1, -List.map_map, -evI_rng, evI_rngV, -Option.bind_some, -Option.map_some, obind, omap, evFn, runFn, startE, look2, look, isVar, peek, peekA, rdVar, tyOf, outE, ioAt, retV, argD, argK, frzAll, Val.scalar, h]
  have hc2 := fun s6 => comp_c (C := callN T (n + 3)) (own := [7]) (tg := .nm 7) (cond := .one (.cmp .GtE (.var 7) (.bi1 .len (.var 0)))) (elt := .ix (.ix (.var 3) (.var 7)) (.cst (.int 0))) (enc := fun i : Nat => PyData.int (i : Nat))
    (ρ := [some (.d (eLs one)), s1, some (.d (.int rows)), some (.d (eLs (one ++ other))), some (.d (eOI best)), some (.d (eRw row)), s6, none, a8]) (fun i => decide (one.length ≤ i)) (fun i => .str (eS (labAt (one ++ other) i))) (xs := row) fun i hi => by
      have hg := lab_get (hlt i hi)
      generalize one ++ other = both at *
      by_cases h : one.length ≤ i
      · simp [comp1, -List.map_map, -evI_rng, evI_rngV, -Option.bind_some, -Option.map_some, obind, omap, evFn, runFn, startE, look2, look, isVar, peek, peekA, rdVar, tyOf, outE, ioAt, retV, argD, argK, frzAll, Val.scalar, h, hg, -atI_of, show ∀ a b c : D, L2.atI [a, b, c] 0 = some a from fun _ _ _ => rfl]
      · simp [comp1, -List.map_map, -evI_rng, evI_rngV, -Option.bind_some, -Option.map_some, obind, omap, evFn, runFn, startE, look2, look, isVar, peek, peekA, rdVar, tyOf, outE, ioAt, retV, argD, argK, frzAll, Val.scalar, h]
  have m1 : ((row.filter fun i => decide (i < one.length)).map fun i => PyData.str (eS (labAt one i))) = ((row.filter fun i => decide (i < one.length)).map (labAt one)).map fun c => .str (eS c) := by rw [List.map_map]; rfl
  have m2 : ((row.filter fun i => decide (one.length ≤ i)).map fun i => PyData.str (eS (labAt (one ++ other) i))) = ((row.filter fun i => decide (one.length ≤ i)).map (labAt (one ++ other))).map fun c => .str (eS c) := by rw [List.map_map]; rfl
  rw [m1] at hc1
  rw [m2] at hc2
  have l1 : ((row.filter fun i => decide (i < one.length)).map (labAt one)).length ≤ 10 := by
    have := List.length_filter_le (fun i => decide (i < one.length)) row
    rw [List.length_map]; omega
  have l2 : ((row.filter fun i => decide (one.length ≤ i)).map (labAt (one ++ other))).length ≤ 10 := by
    have := List.length_filter_le (fun i => decide (one.length ≤ i)) row
    rw [List.length_map]; omega
  have hu : unl one (one ++ other) rows.toNat row = decide (¬ ((row.filter fun i => decide (i < one.length)).map (labAt one)).take rows.toNat = ((row.filter fun i => decide (one.length ≤ i)).map (labAt (one ++ other))).take rows.toNat) := rfl
  generalize (row.filter fun i => decide (i < one.length)).map (labAt one) = A at *
  generalize (row.filter fun i => decide (one.length ≤ i)).map (labAt (one ++ other)) = B at *
  have d1 := dStrs_eS A
  have d2 := dStrs_eS B
  have j1 := joinD_eS (w := A) (by omega)
  have j2 := joinD_eS (w := B) (by omega)
  have c1 := cutS_wS (w := A) r0
  have c2 := cutS_wS (w := B) r0
  have hi : iterD (eRw row) = some (row.map fun i => .int (i : Nat)) := rfl
  by_cases h : A.take rows.toNat = B.take rows.toNat
  · rw [hu, decide_eq_false (by simpa using h), if_neg (by simp)]
    exact ⟨_, _, _, by simp [for1, -List.map_map, -evI_rng, evI_rngV, -Option.bind_some, -Option.map_some, obind, omap, evFn, runFn, startE, look2, look, isVar, peek, peekA, rdVar, tyOf, outE, ioAt, retV, argD, argK, frzAll, Val.scalar, b1_first_unlike, hi, show row.length < 16777216 by omega, hc1, hc2, d1, d2, j1, j2, c1, c2, h]; and_intros <;> rfl⟩
  · rw [hu, decide_eq_true h, if_pos rfl]
    have hw : ¬ wS (A.take rows.toNat) = wS (B.take rows.toNat) := fun e => h (wS_inj.mp e)
    generalize one ++ other = both at *
    cases hf : firstJ both row 0 with
    | none =>
      rw [hf] at hj
      cases best with
      | none => simp only [eOI] at hc1 hc2 hj; exact ⟨_, _, _, by simp [for1, -List.map_map, -evI_rng, evI_rngV, -Option.bind_some, -Option.map_some, obind, omap, evFn, runFn, startE, look2, look, isVar, peek, peekA, rdVar, tyOf, outE, ioAt, retV, argD, argK, frzAll, Val.scalar, b1_first_unlike, hi, show row.length < 16777216 by omega, hc1, hc2, d1, d2, j1, j2, c1, c2, hw, hj, eOI, stepU]; and_intros <;> rfl⟩
      | some b => simp only [eOI] at hc1 hc2 hj; exact ⟨_, _, _, by simp [for1, -List.map_map, -evI_rng, evI_rngV, -Option.bind_some, -Option.map_some, obind, omap, evFn, runFn, startE, look2, look, isVar, peek, peekA, rdVar, tyOf, outE, ioAt, retV, argD, argK, frzAll, Val.scalar, b1_first_unlike, hi, show row.length < 16777216 by omega, hc1, hc2, d1, d2, j1, j2, c1, c2, hw, hj, eOI, stepU]; and_intros <;> rfl⟩
    | some v =>
      rw [hf] at hj
      cases best with
      | none => simp only [eOI] at hc1 hc2 hj; exact ⟨_, _, _, by simp [for1, -List.map_map, -evI_rng, evI_rngV, -Option.bind_some, -Option.map_some, obind, omap, evFn, runFn, startE, look2, look, isVar, peek, peekA, rdVar, tyOf, outE, ioAt, retV, argD, argK, frzAll, Val.scalar, b1_first_unlike, hi, show row.length < 16777216 by omega, hc1, hc2, d1, d2, j1, j2, c1, c2, hw, hj, eOI, stepU]; and_intros <;> rfl⟩
      | some b => simp only [eOI] at hc1 hc2 hj; by_cases hv : v < b <;> exact ⟨_, _, _, by simp [for1, -List.map_map, -evI_rng, evI_rngV, -Option.bind_some, -Option.map_some, obind, omap, evFn, runFn, startE, look2, look, isVar, peek, peekA, rdVar, tyOf, outE, ioAt, retV, argD, argK, frzAll, Val.scalar, b1_first_unlike, hi, show row.length < 16777216 by omega, hc1, hc2, d1, d2, j1, j2, c1, c2, hw, hj, eOI, stepU, hv]; and_intros <;> rfl⟩
theorem first_unlike_t (g : Unl T) {n : Nat} {one other : List Ln} (hk : ∀ l ∈ one ++ other, l.ok) (hll : (one ++ other).length ≤ 10) {rows : Int} (r0 : 0 ≤ rows) :
    callN T (n + 4) 46 none [eLs one, eLs other, .int rows] = some (.d (eOI (firstU one other rows.toNat)), none) := by
  have hst := all_sets_t g.h32 (n := n + 2) (k := (one ++ other).length) (by omega)
  have hl := sets_le (n := (one ++ other).length) (by omega)
  obtain ⟨ρ', e, b5, b6, b8, rfl⟩ := for_p (C := callN T (n + 3)) (tg := .nm 5) (b := b1_first_unlike) (enc := eRw)
    (fun pre ρ => ∃ b5 b6 b8, ρ = [some (.d (eLs one)), some (.d (eLs other)), some (.d (.int rows)), some (.d (eLs (one ++ other))), some (.d (eOI (((pre.filter (unl one (one ++ other) rows.toNat)).map fun row => firstJ (one ++ other) row 0).foldl stepU none))), b5, b6, none, b8])
    (all := sets (one ++ other).length) (ρ := [some (.d (eLs one)), some (.d (eLs other)), some (.d (.int rows)), some (.d (eLs (one ++ other))), some (.d .none), none, none, none, none]) ⟨none, none, none, rfl⟩ (fun pre row post hp ρ ⟨b5, b6, b8, hρ⟩ => by
      subst hρ
      obtain ⟨c5, c6, c8, e⟩ := unlike_turn g (n := n) hk hll r0 (row := row) (by rw [hp]; simp) (best := ((pre.filter (unl one (one ++ other) rows.toNat)).map fun row => firstJ (one ++ other) row 0).foldl stepU none) (s1 := some (.d (eLs other))) (a5 := b5) (a6 := b6) (a7 := none) (a8 := b8)
      refine ⟨_, e, c5, c6, c8, ?_⟩
      rw [List.filter_append, List.map_append, List.foldl_append]
      cases hu : unl one (one ++ other) rows.toNat row <;> simp [hu])
  have hap : one.map eL ++ other.map eL = (one ++ other).map eL := by rw [List.map_append]
  unfold firstU
  have hL : (one ++ other).length = one.length + other.length := by simp
  have hlb : bi1D .len (.tuple (one.map eL ++ other.map eL)) = some (.d (.int ((one ++ other).length : Nat))) := by rw [hap]; simp
  have hyl : (one.map eL ++ other.map eL).length ≤ 16777216 := by simp; omega
  generalize hX : (((sets (one ++ other).length).filter (unl one (one ++ other) rows.toNat)).map fun row => firstJ (one ++ other) row 0).foldl stepU none = X at *
  have e' : forE (callN T (n + 3)) (.nm 5) b1_first_unlike ((sets (one ++ other).length).map eRw) [some (.d (eLs one)), some (.d (eLs other)), some (.d (.int rows)), some (.d (.tuple (one.map eL ++ other.map eL))), some (.d .none), none, none, none, none] = some (.nx [some (.d (eLs one)), some (.d (eLs other)), some (.d (.int rows)), some (.d (eLs (one ++ other))), some (.d (eOI X)), b5, b6, none, b8]) := by rw [hap]; exact e
  generalize (sets (one ++ other).length).map eRw = S at *
  generalize ((one ++ other).length : Int) = k at *
  have e2 : ∀ ρ : Env, ρ = [some (.d (eLs one)), some (.d (eLs other)), some (.d (.int rows)), none, none, none, none, none, none] → evS (callN T (n + 3)) (takeS 1 d_first_unlike.body) ρ = some (.nx [some (.d (eLs one)), some (.d (eLs other)), some (.d (.int rows)), some (.d (.tuple (one.map eL ++ other.map eL))), some (.d .none), none, none, none, none]) := by
    intro ρ hρ
    subst hρ
    simp at hyl
    simp [-List.map_map, -evI_rng, evI_rngV, -Option.bind_some, -Option.map_some, obind, omap, evFn, runFn, startE, look2, look, isVar, peek, peekA, rdVar, tyOf, outE, ioAt, retV, argD, argK, frzAll, Val.scalar, takeS, d_first_unlike, look, hyl]
  generalize one.map eL ++ other.map eL = Y at *
  have e3 : evS (callN T (n + 3)) (dropS 1 d_first_unlike.body) [some (.d (eLs one)), some (.d (eLs other)), some (.d (.int rows)), some (.d (.tuple Y)), some (.d .none), none, none, none, none] = some (.rt (.d (eOI X)) [some (.d (eLs one)), some (.d (eLs other)), some (.d (.int rows)), some (.d (eLs (one ++ other))), some (.d (eOI X)), b5, b6, none, b8]) := by
    simp [-List.map_map, -evI_rng, evI_rngV, -Option.bind_some, -Option.map_some, obind, omap, evFn, runFn, startE, look2, look, isVar, peek, peekA, rdVar, tyOf, outE, ioAt, retV, argD, argK, frzAll, Val.scalar, dropS, d_first_unlike, hlb, hst, iterD, e']
  have e4 := (evS_split 1 (e2 _ rfl)).trans e3
  exact call_rt g.h46 rfl rfl e4
end Mn

namespace Mn
open PySem
open Bd
variable {T : Nat → Option FnD}
structure Alk (T : Nat → Option FnD) : Prop extends Unl T where
  h47 : T 47 = some d_alike
theorem alike_t (g : Alk T) {n : Nat} {one other : List Ln} (hk : ∀ l ∈ one ++ other, l.ok) (hll : (one ++ other).length ≤ 10) {rows : Int} (r0 : 0 ≤ rows) :
    callN T (n + 5) 47 none [eLs one, eLs other, .int rows] = some (.d (.bool (firstU one other rows.toNat).isNone), none) := by
  rw [callN_ev, g.h47]
  have e := first_unlike_t g.toUnl (n := n) hk hll r0
  cases h : firstU one other rows.toNat <;> rw [h] at e <;> simp [-List.map_map, -evI_rng, evI_rngV, -Option.bind_some, -Option.map_some, obind, omap, evFn, runFn, startE, look2, look, isVar, peek, peekA, rdVar, tyOf, outE, ioAt, retV, argD, argK, frzAll, Val.scalar, d_alike, e, eOI]
structure Prt (T : Nat → Option FnD) : Prop extends Unl T, Brd T where
  h48 : T 48 = some d_parting_minute
theorem parting_t (g : Prt T) {n : Nat} {one other : List Ln} (ho : OkLs 5 one) (ho' : OkLs 5 other) {rows : Int} (r0 : 0 ≤ rows) (r1 : rows ≤ 100) :
    callN T (n + 5) 48 none [eLs one, eLs other, .int rows] = some (.d (eOI (partM one other rows.toNat)), none) := by
  have hk : ∀ l ∈ one ++ other, l.ok := fun l hl => (List.mem_append.mp hl).elim (ho.1 l) (ho'.1 l)
  have hll : (one ++ other).length ≤ 10 := by rw [List.length_append]; have := ho.2.2; have := ho'.2.2; omega
  have hn1 : one ≠ [] := fun e => by subst e; have := ho.2.1; simp at this
  have hn2 : other ≠ [] := fun e => by subst e; have := ho'.2.1; simp at this
  have e := first_unlike_t g.toUnl (n := n) hk hll r0
  unfold partM
  cases h : firstU one other rows.toNat with
  | none => rw [h] at e; rw [callN_ev, g.h48]; simp [-List.map_map, -evI_rng, evI_rngV, -Option.bind_some, -Option.map_some, obind, omap, evFn, runFn, startE, look2, look, isVar, peek, peekA, rdVar, tyOf, outE, ioAt, retV, argD, argK, frzAll, Val.scalar, d_parting_minute, e, eOI]
  | some last =>
    rw [h] at e
    have hlt := firstU_lt hk h
    have hp : (60 : Int) ^ (one ++ other).length ≤ 60 ^ 10 := by
      have : (60 : Nat) ^ (one ++ other).length ≤ 60 ^ 10 := Nat.pow_le_pow_right (by decide) hll
      exact_mod_cast this
    have h10 : (60 : Int) ^ 10 = 604661760000000000 := by decide
    obtain ⟨t, ht, t0, _⟩ := partL_ok ho.1 hn1 ho'.1 hn2 h
    obtain ⟨l0, _⟩ := firstU_some ho.1 ho'.1 h
    have er : ((rows.toNat : Nat) : Int) = rows := by omega
    rw [Option.bind_some, ht]
    unfold partL at ht
    rw [er] at ht
    have hmx : max 0 (last - 60 * rows) = if 0 < last - 60 * rows then last - 60 * rows else 0 := by
      rw [Int.max_def]; split <;> split <;> omega
    rw [hmx] at ht
    obtain ⟨lo, hlo⟩ : ∃ lo, lo = if 0 < last - 60 * rows then last - 60 * rows else 0 := ⟨_, rfl⟩
    rw [← hlo] at ht
    have lo0 : 0 ≤ lo ∧ last - 60 * rows ≤ lo ∧ lo ≤ last := by rw [hlo]; split <;> omega
    have hrg : rngD [.int lo, .int (last + 1)] = some ((rI lo (last + 1)).map .int) := rng_2 (by omega) (by omega) (by omega) (by omega) (by omega)
    have hlen : (rI lo (last + 1)).length < 16777216 := by rw [rI_len]; omega
    have hc := comp_c (C := callN T (n + 4)) (own := [5]) (tg := .nm 5) (cond := .one (.cmp .NotEq (.call 20 (.con (.var 0) (.con (.var 2) (.con (.var 5) .emp)))) (.call 20 (.con (.var 1) (.con (.var 2) (.con (.var 5) .emp)))))) (elt := .var 5) (enc := PyData.int)
      (ρ := [some (.d (eLs one)), some (.d (eLs other)), some (.d (.int rows)), some (.d (.int last)), some (.d (.list ((rI lo (last + 1)).map .int))), none]) (fun t => decide (bdP one rows.toNat t ≠ bdP other rows.toNat t)) (fun t => .int t) (xs := rI lo (last + 1)) fun t _ => by
        have b1 := board_spec g.toBrd (n := n + 1) ho.1 hn1 (by have := ho.2.2; omega) r0 (by omega) (m := t)
        have b2 := board_spec g.toBrd (n := n + 1) ho'.1 hn2 (by have := ho'.2.2; omega) r0 (by omega) (m := t)
        by_cases hb : bdP one rows.toNat t = bdP other rows.toNat t <;> simp [comp1, -List.map_map, -evI_rng, evI_rngV, -Option.bind_some, -Option.map_some, obind, omap, evFn, runFn, startE, look2, look, isVar, peek, peekA, rdVar, tyOf, outE, ioAt, retV, argD, argK, frzAll, Val.scalar, b1, b2, eqD_rowsL, hb]
    have hix : L2.atI (((rI lo (last + 1)).filter fun t => decide (bdP one rows.toNat t ≠ bdP other rows.toNat t)).map PyData.int) 0 = some (.int t) := by
      have hlt2 : 0 < ((rI lo (last + 1)).filter fun t => decide (bdP one rows.toNat t ≠ bdP other rows.toNat t)).length := by
        cases hx : (rI lo (last + 1)).filter fun t => decide (bdP one rows.toNat t ≠ bdP other rows.toNat t) with
        | nil => rw [hx] at ht; cases ht
        | cons a r => simp
      rw [atI_of (by omega) (by rw [List.length_map]; omega)]
      show (List.map _ _)[0]? = _
      rw [List.getElem?_map, ht]
      rfl
    have iw : inW 60 = true := by decide
    generalize ((rI lo (last + 1)).filter fun t => decide (bdP one rows.toNat t ≠ bdP other rows.toNat t)).map PyData.int = X at hc hix
    generalize rI lo (last + 1) = R at *
    have hm2 : bi2D .max2 (.int 0) (.int (last - 60 * rows)) = some (.d (.int lo)) := by rw [hlo, max2_i]
    have e1 : evS (callN T (n + 4)) (takeS 2 d_parting_minute.body) [some (.d (eLs one)), some (.d (eLs other)), some (.d (.int rows)), none, none, none] = some (.nx [some (.d (eLs one)), some (.d (eLs other)), some (.d (.int rows)), some (.d (.int last)), none, none]) := by
      simp [-List.map_map, -evI_rng, evI_rngV, -Option.bind_some, -Option.map_some, obind, omap, evFn, runFn, startE, look2, look, isVar, peek, peekA, rdVar, tyOf, outE, ioAt, retV, argD, argK, frzAll, Val.scalar, takeS, d_parting_minute, e, eOI]
    have e2 : evS (callN T (n + 4)) (dropS 2 d_parting_minute.body) [some (.d (eLs one)), some (.d (eLs other)), some (.d (.int rows)), some (.d (.int last)), none, none] = some (.rt (.d (.int t)) [some (.d (eLs one)), some (.d (eLs other)), some (.d (.int rows)), some (.d (.int last)), some (.d (.list (R.map .int))), none]) := by
      simp [-List.map_map, -evI_rng, evI_rngV, -Option.bind_some, -Option.map_some, obind, omap, evFn, runFn, startE, look2, look, isVar, peek, peekA, rdVar, tyOf, outE, ioAt, retV, argD, argK, frzAll, Val.scalar, dropS, d_parting_minute, iw, hm2, -max2_i, hrg, iterD, hlen, hc, hix, -atI_of]
    exact call_rt g.h48 rfl rfl ((evS_split 2 e1).trans e2)
end Mn

namespace Mn
open PySem
open Bd
variable {T : Nat → Option FnD}
/-- a comprehension whose test may change the frame: what it takes is part of what is walked -/
theorem comp_sL {C : CallF} {α : Type} {own : List Nat} {tg : Tg} {cond elt : Ex} {enc : α → D} (I : Env → Prop) (g : α → D) : ∀ {xs : List α} {acc : List D} {ρ : Env}, I ρ →
    (∀ x ∈ xs, ∀ ρ, I ρ → ∃ (b : Bool) (ρ' : Env), comp1 C own tg cond elt (enc x) ρ = some (if b then some (g x) else none, ρ') ∧ I ρ') →
    ∃ ys ρ', compL own (bindT tg) (evQ C cond) (fun ρ => frzV (ev C elt ρ)) (xs.map enc) acc ρ = some (acc ++ ys.map g, ρ') ∧ List.Sublist ys xs ∧ I ρ'
  | [], acc, ρ, i, _ => ⟨[], ρ, by simp [compL], .slnil, i⟩
  | x :: xs, acc, ρ, i, h => by
    obtain ⟨b, ρ1, e1, i1⟩ := h x List.mem_cons_self ρ i
    obtain ⟨ys, ρ2, e2, s2, i2⟩ := comp_sL I g (acc := acc ++ (if b then some (g x) else none).toList) i1 fun y hy => h y (List.mem_cons_of_mem _ hy)
    rw [List.map_cons, compL_1, e1, Option.bind_some]
    cases b with
    | true => exact ⟨x :: ys, ρ2, by rw [e2]; simp, s2.cons₂ x, i2⟩
    | false => exact ⟨ys, ρ2, by rw [e2]; simp, s2.cons x, i2⟩
theorem comp_s {C : CallF} {α : Type} {own : List Nat} {tg : Tg} {cond elt : Ex} {enc : α → D} (I : Env → Prop) (g : α → D) {xs : List α} {ρ : Env} (i : I ρ)
    (h : ∀ x ∈ xs, ∀ ρ, I ρ → ∃ (b : Bool) (ρ' : Env), comp1 C own tg cond elt (enc x) ρ = some (if b then some (g x) else none, ρ') ∧ I ρ') :
    ∃ ys ρ', compE C own tg cond elt (xs.map enc) ρ = some (ys.map g, ρ') ∧ List.Sublist ys xs ∧ I ρ' := by
  obtain ⟨ys, ρ', e, s, i⟩ := comp_sL I g (acc := []) i h
  rw [List.nil_append] at e
  exact ⟨ys, ρ', e, s, i⟩
theorem met_t (g : Gen T) (r : Lrw T) (h16 : T 16 = some d_law_minute) (h51 : T 51 = some d_law_met) (n : Nat) {t : List D} (ht : TapeOk t) {ls : List Ln} (hk : ∀ l ∈ ls, l.ok) (hll : ls.length ≤ 10) :
    ∃ (ms : List Int) (t' : List D), callN T (n + 3) 51 (some t) [eLs ls] = some (.own (ms.map .int), some t') ∧ (∀ m ∈ ms, 0 ≤ m) ∧ ms.length ≤ 10 ∧ TapeOk t' := by
  obtain ⟨m, t1, e1, m0, m1, o1⟩ := minute_t g.h5 h16 n ht
  obtain ⟨ρ', f1, t2, ms, b3, b4, rfl, o2, hm, hl⟩ := for_p (C := callN T (n + 2)) (tg := .nm 3) (b := b1_law_met) (enc := PyData.int)
    (fun pre ρ => ∃ (t : List D) (ms : List Int) (b3 b4 : Option Slot), ρ = [some (.io t), some (.d (eLs ls)), some (.own (ms.map .int)), b3, b4, none] ∧ TapeOk t ∧ (∀ m ∈ ms, 0 ≤ m) ∧ ms.length ≤ 1 + pre.length)
    (all := rI 0 4) (ρ := [some (.io t1), some (.d (eLs ls)), some (.own [.int m]), none, none, none]) ⟨t1, [m], none, none, rfl, o1, by simpa using m0, by simp⟩ (fun pre x post hp ρ ⟨t, ms, b3, b4, hρ, ot, hm, hl⟩ => by
      subst hρ
      have hpl := (pre_rI hp).2
      have hpl : pre.length < 4 := hpl
      obtain ⟨ys, ρ1, c1, hs, t3, rfl, o3⟩ := comp_s (C := callN T (n + 2)) (own := [5]) (tg := .nm 5) (cond := .one (.cmp .Eq (.callo 5 0 (.con (.cst (.int 2)) .emp)) (.cst (.int 0)))) (elt := .var 5) (enc := eL)
        (fun ρ => ∃ t, ρ = [some (.io t), some (.d (eLs ls)), some (.own (ms.map .int)), some (.d (.int x)), b4, none] ∧ TapeOk t) eL (xs := ls) (ρ := [some (.io t), some (.d (eLs ls)), some (.own (ms.map .int)), some (.d (.int x)), b4, none]) ⟨t, rfl, ot⟩ (fun l hl ρ ⟨t, hρ, ot⟩ => by
          subst hρ
          obtain ⟨q, t4, e4, q0, q1, o4⟩ := draw_t g.h5 (n + 1) ot 2 (by decide) (by decide)
          by_cases hq : q = 0
          · exact ⟨true, _, by simp [comp1, -List.map_map, -evI_rng, evI_rngV, -Option.bind_some, -Option.map_some, obind, omap, evFn, runFn, startE, look2, look, isVar, peek, peekA, rdVar, tyOf, outE, ioAt, retV, argD, argK, frzAll, Val.scalar, e4, hq] <;> and_intros <;> rfl, t4, rfl, o4⟩
          · exact ⟨false, _, by simp [comp1, -List.map_map, -evI_rng, evI_rngV, -Option.bind_some, -Option.map_some, obind, omap, evFn, runFn, startE, look2, look, isVar, peek, peekA, rdVar, tyOf, outE, ioAt, retV, argD, argK, frzAll, Val.scalar, e4, hq] <;> and_intros <;> rfl, t4, rfl, o4⟩)
      have hyk : ∀ l ∈ ys, l.ok := fun l hl => hk l (hs.subset hl)
      have hyl : ys.length ≤ 10 := by have := hs.length_le; omega
      have hr := law_row_t r (n := n) hyk (x := .list (ys.map eL)) (.inr rfl)
      cases h : rowF ys with
      | none =>
        rw [h] at hr
        exact ⟨_, by simp [for1, -List.map_map, -evI_rng, evI_rngV, -Option.bind_some, -Option.map_some, obind, omap, evFn, runFn, startE, look2, look, isVar, peek, peekA, rdVar, tyOf, outE, ioAt, retV, argD, argK, frzAll, Val.scalar, b1_law_met, iterD, show ls.length < 16777216 by omega, c1, hr, eOR] <;> and_intros <;> rfl, t3, ms, _, _, rfl, o3, hm, by simp; omega⟩
      | some q =>
        obtain ⟨E, F⟩ := q
        rw [h] at hr
        obtain ⟨k1, _⟩ := rowF_some (fun l hl => (hyk l hl).toOkz) h
        have hE := k1.e1
        have hF := k1.f0
        simp only at hE hF
        obtain ⟨d, t4, e4, d0, d1, o4⟩ := draw_t g.h5 (n + 1) o3 10000 (by decide) (by decide)
        have iw : inW d = true := by simp [inW]; omega
        have hp : 0 ≤ E * d := Int.mul_nonneg (by omega) d0
        exact ⟨_, by simp [for1, -List.map_map, -evI_rng, evI_rngV, -Option.bind_some, -Option.map_some, obind, omap, evFn, runFn, startE, look2, look, isVar, peek, peekA, rdVar, tyOf, outE, ioAt, retV, argD, argK, frzAll, Val.scalar, b1_law_met, iterD, show ls.length < 16777216 by omega, c1, hr, eOR, e4, iw, show ms.length < 16777216 by omega] <;> and_intros <;> rfl, t4, ms ++ [F + E * d], _, _, by simp; exact ⟨rfl, rfl⟩, o4, fun y hy => (List.mem_append.mp hy).elim (hm y) fun hy => by rw [List.mem_singleton.mp hy]; omega, by simp; omega⟩)
  have hr4 : rngD [.int 4] = some ((rI 0 4).map .int) := rng_1 (by decide) (by decide)
  have hl4 : (rI 0 4).length = 4 := rfl
  refine ⟨ms, t2, ?_, hm, by rw [hl4] at hl; omega, o2⟩
  rw [callN_ev, h51]
  simp [-List.map_map, -evI_rng, evI_rngV, -Option.bind_some, -Option.map_some, obind, omap, evFn, runFn, startE, look2, look, isVar, peek, peekA, rdVar, tyOf, outE, ioAt, retV, argD, argK, frzAll, Val.scalar, d_law_met, e1, hr4, f1]
end Mn

namespace Mn
open PySem
open Bd
variable {T : Nat → Option FnD}
theorem okls_mono {a b : Nat} (h : a ≤ b) {ls : List Ln} (o : OkLs a ls) : OkLs b ls := ⟨o.1, o.2.1, Nat.le_trans o.2.2 h⟩
theorem okls_ne {k : Nat} {ls : List Ln} (o : OkLs k ls) : ls ≠ [] := fun e => by subst e; have := o.2.1; simp at this
theorem okls_app {a b : Nat} {xs ys : List Ln} (o : OkLs a xs) (p : OkLs b ys) : ∀ l ∈ xs ++ ys, l.ok := fun l hl => (List.mem_append.mp hl).elim (o.1 l) (p.1 l)
theorem kinds {r : Int} (h0 : 0 ≤ r) (h1 : r < 2) {a b : Str} : ∃ kd : Str, L2.atI [PyData.str a, .str b] r = some (.str kd) := by
  have : r = 0 ∨ r = 1 := by omega
  rcases this with rfl | rfl <;> exact ⟨_, rfl⟩
theorem pick3 {r : Int} (h0 : 0 ≤ r) (h1 : r < 3) {a b c : List Ln} {k : Nat} (ha : OkLs k a) (hb : OkLs k b) (hc : OkLs k c) : ∃ l, L2.atI [eLs a, eLs b, eLs c] r = some (eLs l) ∧ OkLs k l := by
  have : r = 0 ∨ r = 1 ∨ r = 2 := by omega
  rcases this with rfl | rfl | rfl
  · exact ⟨a, rfl, ha⟩
  · exact ⟨b, rfl, hb⟩
  · exact ⟨c, rfl, hc⟩
end Mn

namespace Mn
open PySem
open Bd
variable {T : Nat → Option FnD}
def restOf (ls : List Ln) (k : Nat) : List Ln := ls.take k ++ ls.drop (k + 1)
def swapOf (ls : List Ln) (k : Nat) : List Ln := ls.take k ++ ((ls.drop k).take 2).reverse ++ ls.drop (k + 2)
def needB (ls : List Ln) (rows : Nat) (k : Nat) : Bool := !(restOf ls k).isEmpty && (firstU ls (restOf ls k) rows).isNone
def exchB (ls : List Ln) (rows : Nat) (k : Nat) : Bool := (firstU ls (swapOf ls k) rows).isNone
theorem rest_ok {ls : List Ln} (hk : ∀ l ∈ ls, l.ok) {k : Nat} : ∀ l ∈ restOf ls k, l.ok := okl_app (okl_take hk) (okl_drop hk)
theorem rest_len {ls : List Ln} {k : Nat} : (restOf ls k).length ≤ ls.length := by unfold restOf; simp; omega
theorem swap_ok {ls : List Ln} (hk : ∀ l ∈ ls, l.ok) {k : Nat} : ∀ l ∈ swapOf ls k, l.ok :=
  okl_app (okl_app (okl_take hk) fun x hx => hk x (List.mem_of_mem_drop (List.mem_of_mem_take (List.mem_reverse.mp hx)))) (okl_drop hk)
theorem swap_len {ls : List Ln} {k : Nat} : (swapOf ls k).length ≤ ls.length := by unfold swapOf; simp; omega
theorem swap_two {ls : List Ln} {k : Nat} (h : k + 1 < ls.length) : ((ls.drop k).take 2).reverse = [ls[k + 1], ls[k]] := by
  rw [List.drop_eq_getElem_cons (by omega), List.drop_eq_getElem_cons (by omega)]
  rfl
structure Ndl (T : Nat → Option FnD) : Prop extends Alk T where
  h52 : T 52 = some d_needless
  h53 : T 53 = some d_exchangeable
theorem al_t (g : Alk T) {n : Nat} {one other : List Ln} (h1 : ∀ l ∈ one, l.ok) (h2 : ∀ l ∈ other, l.ok) (l1 : one.length ≤ 5) (l2 : other.length ≤ 5) {rows : Int} (r0 : 0 ≤ rows) :
    callN T (n + 5) 47 none [eLs one, eLs other, .int rows] = some (.d (.bool (firstU one other rows.toNat).isNone), none) :=
  alike_t g (fun l hl => (List.mem_append.mp hl).elim (h1 l) (h2 l)) (by rw [List.length_append]; omega) r0
theorem cuts {ls : List Ln} {k : Nat} : cutA (ls.map eL) none (some (k : Int)) = (ls.take k).map eL ∧ cutA (ls.map eL) (some ((k : Int) + 1)) none = (ls.drop (k + 1)).map eL ∧ cutA (ls.map eL) (some ((k : Int) + 2)) none = (ls.drop (k + 2)).map eL ∧
    cutA (ls.map eL) (some (k : Int)) (some ((k : Int) + 2)) = ((ls.drop k).take 2).map eL := by
  refine ⟨by rw [cut_to (by omega), List.map_take]; rfl, ?_, ?_, ?_⟩
  · rw [cut_from (by omega), List.map_drop]; congr 1
  · rw [cut_from (by omega), List.map_drop]; congr 1
  · rw [cut_mid (by omega) (by omega), List.map_take, List.map_drop]
    have e : ((k : Int) + 2).toNat - (k : Int).toNat = 2 := by omega
    rw [e]; rfl
theorem needless_t (g : Ndl T) {n : Nat} {ls : List Ln} (hk : ∀ l ∈ ls, l.ok) (hl : ls.length ≤ 5) {rows : Int} (r0 : 0 ≤ rows) :
    callN T (n + 6) 52 none [eLs ls, .int rows] = some (.own (((List.range ls.length).filter (needB ls rows.toNat)).map fun k => .int (k : Nat)), none) := by
  obtain ⟨ρ', e, b3, b4, rfl⟩ := for_p (C := callN T (n + 5)) (tg := .nm 3) (b := b1_needless) (enc := PyData.int)
    (fun pre ρ => ∃ b3 b4, ρ = [some (.d (eLs ls)), some (.d (.int rows)), some (.own (((List.range pre.length).filter (needB ls rows.toNat)).map fun k => .int (k : Nat))), b3, b4])
    (all := rI 0 (ls.length : Int)) (ρ := [some (.d (eLs ls)), some (.d (.int rows)), some (.own []), none, none]) ⟨none, none, rfl⟩ (fun pre x post hp ρ ⟨b3, b4, hρ⟩ => by
      subst hρ
      obtain ⟨rfl, hpl⟩ := pre_rI hp
      have hpl : pre.length < ls.length := by omega
      obtain ⟨c1, c2, _, _⟩ := cuts (ls := ls) (k := pre.length)
      have ha := al_t g.toAlk (n := n) hk (rest_ok hk (k := pre.length)) hl (by have := rest_len (ls := ls) (k := pre.length); omega) r0
      have hrl := rest_len (ls := ls) (k := pre.length)
      have hR : (ls.take pre.length).map eL ++ (ls.drop (pre.length + 1)).map eL = (restOf ls pre.length).map eL := by unfold restOf; rw [List.map_append]
      have lR : ((ls.take pre.length).map eL ++ (ls.drop (pre.length + 1)).map eL).length ≤ 5 := by rw [hR, List.length_map]; omega
      have hfl : ((List.range pre.length).filter (needB ls rows.toNat)).length < 16777216 := by
        have := List.length_filter_le (needB ls rows.toNat) (List.range pre.length)
        rw [List.length_range] at this
        omega
      have hs2 : (((List.range (pre ++ [(pre.length : Int)]).length).filter (needB ls rows.toNat)).map fun k => PyData.int (k : Nat)) = (((List.range pre.length).filter (needB ls rows.toNat)).map fun k => PyData.int (k : Nat)) ++ (if needB ls rows.toNat pre.length then [.int (pre.length : Nat)] else []) := by
        rw [List.length_append, List.length_singleton, List.range_succ, List.filter_append, List.map_append]
        cases h : needB ls rows.toNat pre.length <;> simp [h]
      rw [hs2]
      have hXl : (((List.range pre.length).filter (needB ls rows.toNat)).map fun k => PyData.int (k : Nat)).length < 16777216 := by rw [List.length_map]; exact hfl
      have ha' : callN T (n + 5) 47 none [eLs ls, .tuple ((ls.take pre.length).map eL ++ (ls.drop (pre.length + 1)).map eL), .int rows] = some (.d (.bool (firstU ls (restOf ls pre.length) rows.toNat).isNone), none) := by rw [hR]; exact ha
      have he : eqD (.tuple ((ls.take pre.length).map eL ++ (ls.drop (pre.length + 1)).map eL)) (.tuple []) = some (decide (restOf ls pre.length = [])) := by rw [hR]; exact eqD_linesT (restOf ls pre.length) []
      have hnb : needB ls rows.toNat pre.length = (!(decide (restOf ls pre.length = [])) && (firstU ls (restOf ls pre.length) rows.toNat).isNone) := by unfold needB; cases restOf ls pre.length <;> rfl
      rw [List.length_append, List.length_map, List.length_map] at lR
      generalize ((List.range pre.length).filter (needB ls rows.toNat)).map (fun k => PyData.int (k : Nat)) = X at *
      generalize needB ls rows.toNat pre.length = nb at *
      generalize (firstU ls (restOf ls pre.length) rows.toNat).isNone = fu at *
      generalize decide (restOf ls pre.length = []) = em at *
      generalize ls.take pre.length = A at *
      generalize ls.drop (pre.length + 1) = B at *
      subst hnb
      cases em with
      | true => exact ⟨_, by simp [for1, -List.map_map, -evI_rng, evI_rngV, -Option.bind_some, -Option.map_some, obind, omap, evFn, runFn, startE, look2, look, isVar, peek, peekA, rdVar, tyOf, outE, ioAt, retV, argD, argK, frzAll, Val.scalar, b1_needless, c1, c2, look, show A.length + B.length ≤ 16777216 by omega, he] <;> and_intros <;> rfl, _, _, by simp; and_intros <;> rfl⟩
      | false =>
        cases fu with
        | true => exact ⟨_, by simp [for1, -List.map_map, -evI_rng, evI_rngV, -Option.bind_some, -Option.map_some, obind, omap, evFn, runFn, startE, look2, look, isVar, peek, peekA, rdVar, tyOf, outE, ioAt, retV, argD, argK, frzAll, Val.scalar, b1_needless, c1, c2, look, show A.length + B.length ≤ 16777216 by omega, he, ha', hXl] <;> and_intros <;> rfl, _, _, by simp; and_intros <;> rfl⟩
        | false => exact ⟨_, by simp [for1, -List.map_map, -evI_rng, evI_rngV, -Option.bind_some, -Option.map_some, obind, omap, evFn, runFn, startE, look2, look, isVar, peek, peekA, rdVar, tyOf, outE, ioAt, retV, argD, argK, frzAll, Val.scalar, b1_needless, c1, c2, look, show A.length + B.length ≤ 16777216 by omega, he, ha'] <;> and_intros <;> rfl, _, _, by simp; and_intros <;> rfl⟩)
  have hr : rngD [.int (ls.length : Int)] = some ((rI 0 (ls.length : Int)).map .int) := rng_1 (by omega) (by omega)
  have hl2 : (rI 0 (ls.length : Int)).length = ls.length := by rw [rI_len]; omega
  rw [hl2] at e
  rw [callN_ev, g.h52]
  simp [-List.map_map, -evI_rng, evI_rngV, -Option.bind_some, -Option.map_some, obind, omap, evFn, runFn, startE, look2, look, isVar, peek, peekA, rdVar, tyOf, outE, ioAt, retV, argD, argK, frzAll, Val.scalar, d_needless, hr, e]
theorem exch_two {ls : List Ln} {k : Nat} (h : k + 1 < ls.length) : swapOf ls k = ls.take k ++ [ls[k + 1], ls[k]] ++ ls.drop (k + 2) := by unfold swapOf; rw [swap_two h]
theorem exchangeable_t (g : Ndl T) {n : Nat} {ls : List Ln} (hk : ∀ l ∈ ls, l.ok) (hl1 : 1 ≤ ls.length) (hl : ls.length ≤ 5) {rows : Int} (r0 : 0 ≤ rows) :
    callN T (n + 6) 53 none [eLs ls, .int rows] = some (.own (((List.range (ls.length - 1)).filter (exchB ls rows.toNat)).map fun k => .int (k : Nat)), none) := by
  obtain ⟨ρ', e, b3, rfl⟩ := for_p (C := callN T (n + 5)) (tg := .nm 3) (b := b1_exchangeable) (enc := PyData.int)
    (fun pre ρ => ∃ b3, ρ = [some (.d (eLs ls)), some (.d (.int rows)), some (.own (((List.range pre.length).filter (exchB ls rows.toNat)).map fun k => .int (k : Nat))), b3])
    (all := rI 0 ((ls.length : Int) - 1)) (ρ := [some (.d (eLs ls)), some (.d (.int rows)), some (.own []), none]) ⟨none, rfl⟩ (fun pre x post hp ρ ⟨b3, hρ⟩ => by
      subst hρ
      obtain ⟨rfl, hpl⟩ := pre_rI hp
      have hpl : pre.length + 1 < ls.length := by omega
      obtain ⟨c1, _, c2, _⟩ := cuts (ls := ls) (k := pre.length)
      have hsl := swap_len (ls := ls) (k := pre.length)
      have ha := al_t g.toAlk (n := n) hk (swap_ok hk (k := pre.length)) hl (by omega) r0
      have hR : (ls.take pre.length).map eL ++ eL ls[pre.length + 1] :: eL ls[pre.length] :: (ls.drop (pre.length + 2)).map eL = (swapOf ls pre.length).map eL := by rw [exch_two hpl]; simp
      have lR : ((ls.take pre.length).map eL ++ eL ls[pre.length + 1] :: eL ls[pre.length] :: (ls.drop (pre.length + 2)).map eL).length ≤ 5 := by rw [hR, List.length_map]; omega
      have hfl : ((List.range pre.length).filter (exchB ls rows.toNat)).length < 16777216 := by
        have := List.length_filter_le (exchB ls rows.toNat) (List.range pre.length)
        rw [List.length_range] at this
        omega
      have hs2 : (((List.range (pre ++ [(pre.length : Int)]).length).filter (exchB ls rows.toNat)).map fun k => PyData.int (k : Nat)) = (((List.range pre.length).filter (exchB ls rows.toNat)).map fun k => PyData.int (k : Nat)) ++ (if exchB ls rows.toNat pre.length then [.int (pre.length : Nat)] else []) := by
        rw [List.length_append, List.length_singleton, List.range_succ, List.filter_append, List.map_append]
        cases h : exchB ls rows.toNat pre.length <;> simp [h]
      rw [hs2]
      have hXl : (((List.range pre.length).filter (exchB ls rows.toNat)).map fun k => PyData.int (k : Nat)).length < 16777216 := by rw [List.length_map]; exact hfl
      have ha' : callN T (n + 5) 47 none [eLs ls, .tuple ((ls.take pre.length).map eL ++ eL ls[pre.length + 1] :: eL ls[pre.length] :: (ls.drop (pre.length + 2)).map eL), .int rows] = some (.d (.bool (exchB ls rows.toNat pre.length)), none) := by rw [hR]; exact ha
      have g1 : L2.atI (ls.map eL) ((pre.length : Int) + 1) = some (eL ls[pre.length + 1]) := by rw [atI_of (by omega) (by rw [List.length_map]; omega), List.getElem?_map, show ((pre.length : Int) + 1).toNat = pre.length + 1 by omega, List.getElem?_eq_getElem hpl]; rfl
      have g2 : L2.atI (ls.map eL) (pre.length : Int) = some (eL ls[pre.length]) := by rw [atI_of (by omega) (by rw [List.length_map]; omega), List.getElem?_map, Int.toNat_natCast, List.getElem?_eq_getElem (by omega)]; rfl
      simp only [List.length_append, List.length_map, List.length_cons] at lR
      generalize ((List.range pre.length).filter (exchB ls rows.toNat)).map (fun k => PyData.int (k : Nat)) = X at *
      generalize exchB ls rows.toNat pre.length = nb at *
      generalize eL ls[pre.length + 1] = p1 at *
      generalize eL ls[pre.length] = p2 at *
      generalize ls.take pre.length = A at *
      generalize ls.drop (pre.length + 2) = B at *
      cases nb with
      | true => exact ⟨_, by simp [for1, -List.map_map, -evI_rng, evI_rngV, -Option.bind_some, -Option.map_some, obind, omap, evFn, runFn, startE, look2, look, isVar, peek, peekA, rdVar, tyOf, outE, ioAt, retV, argD, argK, frzAll, Val.scalar, b1_exchangeable, c1, c2, g1, g2, look, show A.length + (B.length + 1 + 1) ≤ 16777216 by omega, ha', hXl, -atI_of] <;> and_intros <;> rfl, _, by simp; try rfl⟩
      | false => exact ⟨_, by simp [for1, -List.map_map, -evI_rng, evI_rngV, -Option.bind_some, -Option.map_some, obind, omap, evFn, runFn, startE, look2, look, isVar, peek, peekA, rdVar, tyOf, outE, ioAt, retV, argD, argK, frzAll, Val.scalar, b1_exchangeable, c1, c2, g1, g2, look, show A.length + (B.length + 1 + 1) ≤ 16777216 by omega, ha', -atI_of] <;> and_intros <;> rfl, _, by simp; try rfl⟩)
  have hr : rngD [.int ((ls.length : Int) - 1)] = some ((rI 0 ((ls.length : Int) - 1)).map .int) := rng_1 (by omega) (by omega)
  have hl2 : (rI 0 ((ls.length : Int) - 1)).length = ls.length - 1 := by rw [rI_len]; omega
  rw [hl2] at e
  rw [callN_ev, g.h53]
  simp [-List.map_map, -evI_rng, evI_rngV, -Option.bind_some, -Option.map_some, obind, omap, evFn, runFn, startE, look2, look, isVar, peek, peekA, rdVar, tyOf, outE, ioAt, retV, argD, argK, frzAll, Val.scalar, d_exchangeable, hr, e]
end Mn

namespace Mn
open PySem
open Bd
/-! ## returns -/
/-- what a return gives, where it is no name: no match is left for the kernel to look into -/
@[simp high] theorem evS_retE {C : CallF} {ρ : Env} {e : Ex} (h : isVar e = none) : evS C (.ret e) ρ = (ev C e ρ).map fun r => .rt r.1 r.2 := by
  rw [evS_ret]
  unfold retV
  rw [h]
end Mn

namespace Mn
open PySem
open Bd
variable {T : Nat → Option FnD}
/-! ## lines of a kind -/
def KdP (kind : Str) (e : Int) : Prop := 1 ≤ e ∧ e ≤ 60 ∧ (kind = "few" → e ≤ 8) ∧ (kind = "round" → e ∣ 2520)
def KdD (kind : Str) (x : D) : Prop := ∃ i, x = .int i ∧ KdP kind i
theorem kd_dvd {kind : Str} {e : Int} (h : KdP kind e) (hk : kind = "few" ∨ kind = "round") : e ∣ 2520 := by
  rcases hk with rfl | rfl
  · have h1 := h.1
    have h2 := h.2.2.1 rfl
    have : e = 1 ∨ e = 2 ∨ e = 3 ∨ e = 4 ∨ e = 5 ∨ e = 6 ∨ e = 7 ∨ e = 8 := by omega
    rcases this with rfl | rfl | rfl | rfl | rfl | rfl | rfl | rfl <;> decide
  · exact h.2.2.2 rfl
theorem few_dvd {e : Int} (h1 : 1 ≤ e) (h2 : e ≤ 8) : e ∣ 840 := by
  have : e = 1 ∨ e = 2 ∨ e = 3 ∨ e = 4 ∨ e = 5 ∨ e = 6 ∨ e = 7 ∨ e = 8 := by omega
  rcases this with rfl | rfl | rfl | rfl | rfl | rfl | rfl | rfl <;> decide
theorem fr : ¬ (("few" : Str) = "round") := by decide +kernel
theorem every_k (g : Gen T) {n : Nat} {t : List D} (ht : TapeOk t) (kind : Str) : ∃ e t', callN T (n + 2) 11 (some t) [.str kind] = some (.d (.int e), some t') ∧ KdP kind e ∧ TapeOk t' := by
  have dr : ∀ {t : List D}, TapeOk t → ∀ {m : Int}, 0 < m → m < 18446744073709551616 → ∃ r t', callN T (n + 1) 5 (some t) [.int m] = some (.d (.int r), some t') ∧ 0 ≤ r ∧ r < m ∧ TapeOk t' := fun ht _ h1 h2 => draw_spec g.h5 ht h1 h2
  rw [callN_ev, g.h11]
  by_cases h1 : kind = "round"
  · subst h1
    obtain ⟨r, t1, e1, r0, r1, o1⟩ := dr ht (m := 26) (by decide) (by decide)
    obtain ⟨x, hx, i, rfl, i0⟩ := pick (xs := [.int 1, .int 2, .int 3, .int 4, .int 5, .int 6, .int 7, .int 8, .int 9, .int 10, .int 12, .int 14, .int 15, .int 18, .int 20, .int 21, .int 24, .int 28, .int 30, .int 35, .int 36, .int 40, .int 42, .int 45, .int 56, .int 60]) (P := fun x => ∃ i, x = .int i ∧ 1 ≤ i ∧ i ≤ 60 ∧ i ∣ 2520) (by simp) r0 (by simpa using r1)
    simp [evFn, runFn, startE, look2, look, isVar, peek, peekA, rdVar, tyOf, outE, ioAt, retV, argD, argK, frzAll, Val.scalar, d_law_every, e1, hx]
    exact ⟨_, _, ⟨rfl, rfl⟩, ⟨i0.1, i0.2.1, fun e => absurd e.symm fr, fun _ => i0.2.2⟩, o1⟩
  · by_cases h2 : kind = "few"
    · subst h2
      obtain ⟨r, t1, e1, r0, r1, o1⟩ := dr ht (m := 8) (by decide) (by decide)
      simp [evFn, runFn, startE, look2, look, isVar, peek, peekA, rdVar, tyOf, outE, ioAt, retV, argD, argK, frzAll, Val.scalar, d_law_every, e1, h1]
      exact ⟨_, _, ⟨rfl, rfl⟩, ⟨by omega, by omega, fun _ => by omega, fun e => absurd e fr⟩, o1⟩
    · obtain ⟨e, t', q, e1, e2, o⟩ := every_spec g ht (n := n) (kind := kind)
      rw [callN_ev, g.h11] at q
      exact ⟨e, t', q, ⟨e1, e2, fun e => absurd e h2, fun e => absurd e h1⟩, o⟩
theorem line_k (g : Gen T) (n : Nat) {t : List D} (ht : TapeOk t) (kind : Str) : ∃ l t', callN T (n + 3) 12 (some t) [.str kind] = some (.d (eL l), some t') ∧ (l.ok ∧ KdP kind l.e) ∧ TapeOk t' := by
  have dr : ∀ {t : List D}, TapeOk t → ∀ {m : Int}, 0 < m → m < 18446744073709551616 → ∃ r t', callN T (n + 2) 5 (some t) [.int m] = some (.d (.int r), some t') ∧ 0 ≤ r ∧ r < m ∧ TapeOk t' := fun ht _ h1 h2 => draw_spec g.h5 ht h1 h2
  rw [callN_ev, g.h12]
  obtain ⟨e, t1, e1, kd, o1⟩ := every_k g (n := n) ht kind
  obtain ⟨r, t2, e2, r20, r21, o2⟩ := dr o1 (m := 4) (by decide) (by decide)
  have k1 := kd.1
  have k2 := kd.2.1
  obtain ⟨r3, t3, e3, r30, r31, o3⟩ := dr o2 (m := e) (by omega) (by omega)
  have hs : ∃ c, ixD (.str "abcd") (.int r) = some (.str (eS c)) ∧ 97 ≤ c ∧ c ≤ 100 := by
    have : r = 0 ∨ r = 1 ∨ r = 2 ∨ r = 3 := by omega
    rcases this with rfl | rfl | rfl | rfl
    · exact ⟨97, by rw [abcd_ix]; rfl, by decide, by decide⟩
    · exact ⟨98, by rw [abcd_ix]; rfl, by decide, by decide⟩
    · exact ⟨99, by rw [abcd_ix]; rfl, by decide, by decide⟩
    · exact ⟨100, by rw [abcd_ix]; rfl, by decide, by decide⟩
  obtain ⟨z, hz, z0, z1⟩ := hs
  refine ⟨⟨z, e, r3⟩, t3, ?_, ⟨⟨⟨k1, r30, r31⟩, z0, z1, k2⟩, kd⟩, o3⟩
  simp [evFn, runFn, startE, look2, look, isVar, peek, peekA, rdVar, tyOf, outE, ioAt, retV, argD, argK, frzAll, Val.scalar, d_law_line, e1, e2, e3, hz, eL]
theorem lines_k (g : Gen T) (n : Nat) {t : List D} (ht : TapeOk t) (kind : Str) (m : Int) (hm : 0 < m) (hm2 : m < 1000) :
    ∃ ls t', callN T (n + 4) 13 (some t) [.int m, .str kind] = some (.d (eLs ls), some t') ∧ OkLs m.toNat ls ∧ (∀ l ∈ ls, KdP kind l.e) ∧ TapeOk t' := by
  have dr : ∀ {t : List D}, TapeOk t → ∀ {m : Int}, 0 < m → m < 18446744073709551616 → ∃ r t', callN T (n + 3) 5 (some t) [.int m] = some (.d (.int r), some t') ∧ 0 ≤ r ∧ r < m ∧ TapeOk t' := fun ht _ h1 h2 => draw_spec g.h5 ht h1 h2
  rw [callN_ev, g.h13]
  obtain ⟨r, t1, e1, r0, r1, o1⟩ := dr ht (m := m) hm (by omega)
  obtain ⟨ds, ρ', c1, c2, c3, c4⟩ := comp_all (C := callN T (n + 3)) (own := [3]) (tg := .nm 3) (cond := .emp) (elt := .callo 12 0 (.con (.var 2) .emp)) (xs := rangeI 0 (1 + r) 1)
    (fun ρ => ∃ t, ρ = [some (.io t), some (.d (.int m)), some (.d (.str kind)), none] ∧ TapeOk t) (fun d => ∃ l : Ln, d = eL l ∧ l.ok ∧ KdP kind l.e) (ρ := [some (.io t1), some (.d (.int m)), some (.d (.str kind)), none]) ⟨t1, rfl, o1⟩ (fun x _ ρ ⟨t, hρ, ht⟩ => by
      subst hρ
      obtain ⟨l, t2, e2, hl, o2⟩ := line_k g n ht kind
      exact ⟨_, eL l, _, by simp; rfl, by simp, by simp [evFn, runFn, startE, look2, look, isVar, peek, peekA, rdVar, tyOf, outE, ioAt, retV, argD, argK, frzAll, Val.scalar, e2]; rfl, ⟨l, rfl, hl⟩, t2, by simp, o2⟩)
  obtain ⟨t2, rfl, o2⟩ := c4
  rw [rng_len (by omega)] at c3
  have hd : ∀ ds : List D, (∀ d ∈ ds, ∃ l : Ln, d = eL l ∧ l.ok ∧ KdP kind l.e) → ∃ ls : List Ln, ds = ls.map eL ∧ ∀ l ∈ ls, l.ok ∧ KdP kind l.e := by
    intro ds
    induction ds with
    | nil => intro _; exact ⟨[], rfl, by simp⟩
    | cons d ds ih =>
      intro h
      obtain ⟨l, rfl, o⟩ := h d List.mem_cons_self
      obtain ⟨ls, rfl, os⟩ := ih fun x hx => h x (List.mem_cons_of_mem _ hx)
      exact ⟨l :: ls, rfl, List.forall_mem_cons.mpr ⟨o, os⟩⟩
  obtain ⟨ls, rfl, c5⟩ := hd ds c2
  rw [List.length_map] at c3
  refine ⟨ls, t2, ?_, ⟨fun l hl => (c5 l hl).1, by omega, by omega⟩, fun l hl => (c5 l hl).2, o2⟩
  simp [evFn, runFn, startE, look2, look, isVar, peek, peekA, rdVar, tyOf, outE, ioAt, retV, argD, argK, frzAll, Val.scalar, d_law_lines, e1, rng1 (show 0 ≤ 1 + r by omega) (by omega), rng_len (show 0 ≤ 1 + r by omega), c1, bi1D, show 1 + r < 16777216 by omega]
theorem law_rt {T : Nat → Option FnD} {n : Nat} {fd : FnD} {ns : List Int} {v : Val} {ρ' : Env} (hio : fd.io = false) (e : evS (callN T n) fd.body (startE fd.n [.scr ns]) = some (.rt v ρ')) : lawN T n fd ns = some (v, none) := by
  unfold lawN runFn
  rw [e]
  simp only [outE, hio]
  rfl
end Mn

namespace Mn
open PySem
open Bd
variable {T : Nat → Option FnD}
/-! ## boards with rounded minutes -/
structure Rdp (T : Nat → Option FnD) : Prop extends Rnd T where
  h76 : T 76 = some d_parting_rounded
  h77 : T 77 = some d_alike_rounded
def unR (one other : List Ln) (rows : Nat) (step t : Int) : Bool := decide (rdP one rows t step ≠ rdP other rows t step)
def prR (one other : List Ln) (rows : Nat) (step : Int) : Option Int := (rI 0 2520).find? (unR one other rows step)
theorem parting_rounded_t (g : Rdp T) {n : Nat} {one other : List Ln} (h1 : OkLs 5 one) (h2 : OkLs 5 other) {rows step : Int} (r0 : 0 ≤ rows) (r1 : rows ≤ 900) (s0 : 1 ≤ step) (s1 : step ≤ 1000) :
    callN T (n + 4) 76 none [eLs one, eLs other, .int rows, .int step] = some (.d (eOI (prR one other rows.toNat step)), none) := by
  have hl1 := h1.2.2
  have hl2 := h2.2.2
  have hf := for_f (C := callN T (n + 3)) (tg := .nm 4) (b := b1_parting_rounded) (enc := PyData.int) (unR one other rows.toNat step) (fun t => .d (.int t)) (fun ρ => ∃ b4, ρ = [some (.d (eLs one)), some (.d (eLs other)), some (.d (.int rows)), some (.d (.int step)), b4]) (xs := rI 0 2520)
    (ρ := [some (.d (eLs one)), some (.d (eLs other)), some (.d (.int rows)), some (.d (.int step)), none]) ⟨none, rfl⟩ (fun t ht ρ ⟨b4, hρ⟩ => by
      subst hρ
      have b1 : callN T (n + 3) 21 none [eLs one, .int rows, .int t, .int step] = _ := rounded_spec g.toRnd (n := n) h1.1 (okls_ne h1) (by omega) r0 (by omega) s0 s1
      have b2 : callN T (n + 3) 21 none [eLs other, .int rows, .int t, .int step] = _ := rounded_spec g.toRnd (n := n) h2.1 (okls_ne h2) (by omega) r0 (by omega) s0 s1
      have hu : unR one other rows.toNat step t = decide (rdP one rows.toNat t step ≠ rdP other rows.toNat t step) := rfl
      by_cases h : rdP one rows.toNat t step = rdP other rows.toNat t step
      · rw [hu, if_neg (by simp [h])]
        exact ⟨_, by simp [for1, -List.map_map, -evI_rng, evI_rngV, -Option.bind_some, -Option.map_some, obind, omap, evFn, runFn, startE, look2, look, isVar, peek, peekA, rdVar, tyOf, outE, ioAt, retV, argD, argK, frzAll, Val.scalar, b1_parting_rounded, b1, b2, eqD_rowsL, h] <;> and_intros <;> rfl, _, rfl⟩
      · rw [hu, if_pos (by simp [h])]
        exact ⟨_, by simp [for1, -List.map_map, -evI_rng, evI_rngV, -Option.bind_some, -Option.map_some, obind, omap, evFn, runFn, startE, look2, look, isVar, peek, peekA, rdVar, tyOf, outE, ioAt, retV, argD, argK, frzAll, Val.scalar, b1_parting_rounded, b1, b2, eqD_rowsL, h] <;> and_intros <;> rfl⟩)
  have r2520 : rngD [.int 2520] = some ((rI 0 2520).map .int) := rng_1 (by decide) (by decide)
  rw [callN_ev, g.h76]
  unfold prR
  cases h : (rI 0 2520).find? (unR one other rows.toNat step) with
  | none =>
    rw [h] at hf
    obtain ⟨ρ', e, b4, rfl⟩ := hf
    simp [-List.map_map, -evI_rng, evI_rngV, -Option.bind_some, -Option.map_some, obind, omap, evFn, runFn, startE, look2, look, isVar, peek, peekA, rdVar, tyOf, outE, ioAt, retV, argD, argK, frzAll, Val.scalar, d_parting_rounded, r2520, e, eOI]
  | some t =>
    rw [h] at hf
    obtain ⟨ρ', e⟩ := hf
    simp [-List.map_map, -evI_rng, evI_rngV, -Option.bind_some, -Option.map_some, obind, omap, evFn, runFn, startE, look2, look, isVar, peek, peekA, rdVar, tyOf, outE, ioAt, retV, argD, argK, frzAll, Val.scalar, d_parting_rounded, r2520, e, eOI]
theorem alike_rounded_t (g : Rdp T) {n : Nat} {one other : List Ln} (h1 : OkLs 5 one) (h2 : OkLs 5 other) {rows step : Int} (r0 : 0 ≤ rows) (r1 : rows ≤ 900) (s0 : 1 ≤ step) (s1 : step ≤ 1000) :
    callN T (n + 5) 77 none [eLs one, eLs other, .int rows, .int step] = some (.d (.bool (prR one other rows.toNat step).isNone), none) := by
  have e := parting_rounded_t g (n := n) h1 h2 r0 r1 s0 s1
  rw [callN_ev, g.h77]
  cases h : prR one other rows.toNat step <;> rw [h] at e <;> simp [-List.map_map, -evI_rng, evI_rngV, -Option.bind_some, -Option.map_some, obind, omap, evFn, runFn, startE, look2, look, isVar, peek, peekA, rdVar, tyOf, outE, ioAt, retV, argD, argK, frzAll, Val.scalar, d_alike_rounded, e, eOI]
theorem law_rounded_t (h23 : T 23 = some d_law_next) (h78 : T 78 = some d_law_rounded) {n : Nat} {ls : List Ln} (hk : ∀ l ∈ ls, l.ok) (hne : ls ≠ []) (hl : ls.length ≤ 100) {rows m step : Int} (h0 : 0 ≤ rows) (h1 : rows ≤ 1000) (h2 : 1 ≤ step) (h3 : step ≤ 1000) :
    callN T (n + 2) 78 none [eLs ls, .int rows, .int m, .int step] = some (.own ((rdP ls rows.toNat m step).map eRow), none) := by
  rw [callN_ev, h78]
  have hn := law_next_t h23 (n := n) hk hne hl (m := m) h0 h1
  have hi : inW step = true := by simp [inW]; omega
  have hc := comp_m (C := callN T (n + 1)) (own := [4, 5, 6]) (tg := .cons (.nm 4) (.cons (.nm 5) (.cons (.nm 6) .nil))) (cond := .emp) (elt := .tup (.con (.var 6) (.con (.bin .Mult (.bin .FloorDiv (.bin .Sub (.var 4) (.var 2)) (.var 3)) (.var 3)) .emp))) (enc := eDep ls)
    (ρ := [some (.d (eLs ls)), some (.d (.int rows)), some (.d (.int m)), some (.d (.int step)), none, none, none]) (fun p => eRow (labAt ls p.2, (p.1 - m) / step * step)) (xs := nextP ls rows.toNat m) fun p hp => by
      simp [comp1, -List.map_map, -evI_rng, evI_rngV, -Option.bind_some, -Option.map_some, obind, omap, evFn, runFn, startE, look2, look, isVar, peek, peekA, rdVar, tyOf, outE, ioAt, retV, argD, argK, frzAll, Val.scalar, eDep, eRow, show 0 < step by omega, show step < 18446744073709551616 by omega, hi]
  have hlen : (nextP ls rows.toNat m).length < 16777216 := by unfold nextP; rw [nx_len]; omega
  simp [-List.map_map, -evI_rng, evI_rngV, -Option.bind_some, -Option.map_some, obind, omap, evFn, runFn, startE, look2, look, isVar, peek, peekA, rdVar, tyOf, outE, ioAt, retV, argD, argK, frzAll, Val.scalar, d_law_rounded, hn, iterD, hlen, hc]
  unfold rdP bdP
  rw [List.map_map, List.map_map]
  rfl
theorem okL {c : Nat} {e f : Int} (h : (97 ≤ c ∧ c ≤ 100) ∧ 1 ≤ e ∧ e ≤ 60 ∧ 0 ≤ f ∧ f < e) : (⟨c, e, f⟩ : Ln).ok := ⟨⟨h.2.1, h.2.2.2.1, h.2.2.2.2⟩, h.1.1, h.1.2, h.2.2.1⟩
theorem find_app {α : Type} (p : α → Bool) (xs : List α) (y : α) : (xs ++ [y]).find? p = match xs.find? p with
    | none => if p y then some y else none
    | some x => some x := by
  rw [List.find?_append]
  cases xs.find? p with
  | none => cases h : p y <;> simp [h]
  | some x => rfl
end Mn

namespace Mn
open PySem
open Bd
variable {T : Nat → Option FnD}
/-! ## single lines told back -/
structure Lfr (T : Nat → Option FnD) : Prop extends Tld T where
  h82 : T 82 = some d_single_lines
  h83 : T 83 = some d_lines_for
def forLn (ls : List Ln) (p : Nat) (rows : Nat) (seen : List (Int × List (Nat × Int))) (l : Ln) : Bool := expl (putL ls p l) rows seen
theorem atI_0 {a : D} {xs : List D} : L2.atI (a :: xs) 0 = some a := by rw [atI_of (by decide) (by rw [List.length_cons]; omega)]; rfl
theorem atI_1 {a b : D} {xs : List D} : L2.atI (a :: b :: xs) 1 = some b := by rw [atI_of (by decide) (by rw [List.length_cons, List.length_cons]; omega)]; rfl
theorem atI_2 {a b c : D} {xs : List D} : L2.atI (a :: b :: c :: xs) 2 = some c := by rw [atI_of (by decide) (by rw [List.length_cons, List.length_cons, List.length_cons]; omega)]; rfl
theorem lf_turn (g : Lfr T) {n : Nat} {ls : List Ln} (hk : ∀ l ∈ ls, l.ok) (hll : ls.length ≤ 100) {p : Nat} (hp : p < ls.length) {rows : Int} (h0 : 0 ≤ rows) (h1 : rows ≤ 999) {seen : List (Int × List (Nat × Int))} (hs : seen.length ≤ 1000)
    {e f : Int} (o : Ln.ok ⟨ls[p].c, e, f⟩) {X : List Ln} (hX : X.length < 16777216) {a7 : Option Slot} :
    ∃ b7, evS (callN T (n + 4)) b1_lines_for [some (.d (eLs ls)), some (.d (.int (p : Nat))), some (.d (.int rows)), some (.d (.tuple (seen.map eSeen))), some (.own (X.map eL)), some (.d (.int e)), some (.d (.int f)), a7] =
      some (.nx [some (.d (eLs ls)), some (.d (.int (p : Nat))), some (.d (.int rows)), some (.d (.tuple (seen.map eSeen))), some (.own ((X ++ if forLn ls p rows.toNat seen ⟨ls[p].c, e, f⟩ then [(⟨ls[p].c, e, f⟩ : Ln)] else []).map eL)), some (.d (.int e)), some (.d (.int f)), b7]) := by
  have hg : L2.atI (ls.map eL) (p : Nat) = some (eL ls[p]) := pick_get hp
  have c1 : cutA (ls.map eL) none (some (p : Int)) = (ls.take p).map eL := by rw [cut_to (by omega), List.map_take]; rfl
  have c2 : cutA (ls.map eL) (some ((p : Int) + 1)) none = (ls.drop (p + 1)).map eL := by rw [cut_from (by omega), List.map_drop]; rfl
  have he : callN T (n + 4) 80 none [eLs (putL ls p ⟨ls[p].c, e, f⟩), .int rows, .tuple (seen.map eSeen)] = _ := explains_spec g.toTld (n := n) (putL_ok hk o) putL_ne (by rw [putL_len hp]; omega) h0 h1 hs
  have hf : expl (putL ls p ⟨ls[p].c, e, f⟩) rows.toNat seen = forLn ls p rows.toNat seen ⟨ls[p].c, e, f⟩ := rfl
  rw [hf] at he
  have hpl : (putL ls p ⟨ls[p].c, e, f⟩).map eL = (ls.take p).map eL ++ .tuple [.str (eS ls[p].c), .int e, .int f] :: (ls.drop (p + 1)).map eL := by unfold putL; rw [List.map_append]; rfl
  have la : ((ls.take p).map eL).length ≤ 100 := by rw [List.length_map, List.length_take]; omega
  have lb : ((ls.drop (p + 1)).map eL).length ≤ 100 := by rw [List.length_map, List.length_drop]; omega
  have hle : eL ls[p] = .tuple [.str (eS ls[p].c), .int ls[p].e, .int ls[p].f] := rfl
  unfold eLs at he ⊢
  rw [hpl] at he
  rw [hle] at hg
  generalize forLn ls p rows.toNat seen ⟨ls[p].c, e, f⟩ = bb at *
  have hend : eL ⟨ls[p].c, e, f⟩ = .tuple [.str (eS ls[p].c), .int e, .int f] := rfl
  generalize ls[p] = l at *
  generalize (ls.take p).map eL = A at *
  generalize (ls.drop (p + 1)).map eL = B at *
  cases bb with
  | true => exact ⟨_, by simp [-List.map_map, -evI_rng, evI_rngV, -Option.bind_some, -Option.map_some, obind, omap, evFn, runFn, startE, look2, look, isVar, peek, peekA, rdVar, tyOf, outE, ioAt, retV, argD, argK, frzAll, Val.scalar, b1_lines_for, hg, c1, c2, he, hX, -atI_of, atI_0, hend, show A.length + (B.length + 1) ≤ 16777216 by omega] <;> and_intros <;> rfl⟩
  | false => exact ⟨_, by simp [-List.map_map, -evI_rng, evI_rngV, -Option.bind_some, -Option.map_some, obind, omap, evFn, runFn, startE, look2, look, isVar, peek, peekA, rdVar, tyOf, outE, ioAt, retV, argD, argK, frzAll, Val.scalar, b1_lines_for, hg, c1, c2, he, hX, -atI_of, atI_0, show A.length + (B.length + 1) ≤ 16777216 by omega] <;> and_intros <;> rfl⟩
theorem filter_step {α : Type} (p : α → Bool) (X : List α) (x : α) : (X ++ [x]).filter p = X.filter p ++ if p x then [x] else [] := by
  rw [List.filter_append]
  cases h : p x <;> simp [h]
theorem rI_le (a b : Int) (h : b - a ≤ 100) : (rI a b).length ≤ 100 := by rw [rI_len]; omega
theorem all_len (c : Nat) (pre : List Int) (h : ∀ e ∈ pre, e ≤ 60) : (pre.flatMap fun e => (rI 0 e).map fun f => (⟨c, e, f⟩ : Ln)).length ≤ 60 * pre.length := by
  induction pre with
  | nil => simp
  | cons e pre ih =>
    have := ih fun x hx => h x (List.mem_cons_of_mem _ hx)
    have he := h e List.mem_cons_self
    rw [List.flatMap_cons, List.length_append, List.length_map, rI_len, List.length_cons]
    omega
theorem lines_for_t (g : Lfr T) {n : Nat} {ls : List Ln} (hk : ∀ l ∈ ls, l.ok) (hll : ls.length ≤ 100) {p : Nat} (hp : p < ls.length) {rows : Int} (h0 : 0 ≤ rows) (h1 : rows ≤ 999) {seen : List (Int × List (Nat × Int))} (hs : seen.length ≤ 1000) :
    callN T (n + 5) 83 none [eLs ls, .int (p : Nat), .int rows, .tuple (seen.map eSeen)] = some (.own (((allLn ls[p].c).filter (forLn ls p rows.toNat seen)).map eL), none) := by
  have ok := hk _ (List.getElem_mem hp)
  have fl : ∀ (pre : List Int), (∀ e ∈ pre, e ≤ 60) → pre.length ≤ 60 → ∀ P : Ln → Bool, ((pre.flatMap fun e => (rI 0 e).map fun f => (⟨ls[p].c, e, f⟩ : Ln)).filter P).length ≤ 3600 := fun pre h h2 P => by
    have := List.length_filter_le P (pre.flatMap fun e => (rI 0 e).map fun f => (⟨ls[p].c, e, f⟩ : Ln))
    have := all_len ls[p].c pre h
    omega
  obtain ⟨ρ', e, b5, b6, b7, rfl⟩ := for_p (C := callN T (n + 4)) (tg := .nm 5) (b := b2_lines_for) (enc := PyData.int)
    (fun pre ρ => ∃ b5 b6 b7, ρ = [some (.d (eLs ls)), some (.d (.int (p : Nat))), some (.d (.int rows)), some (.d (.tuple (seen.map eSeen))), some (.own (((pre.flatMap fun e => (rI 0 e).map fun f => (⟨ls[p].c, e, f⟩ : Ln)).filter (forLn ls p rows.toNat seen)).map eL)), b5, b6, b7])
    (all := rI 1 61) (ρ := [some (.d (eLs ls)), some (.d (.int (p : Nat))), some (.d (.int rows)), some (.d (.tuple (seen.map eSeen))), some (.own []), none, none, none]) ⟨none, none, none, rfl⟩ (fun pre e post hall ρ ⟨b5, b6, b7, hρ⟩ => by
      subst hρ
      have hin : ∀ x ∈ pre ++ e :: post, 1 ≤ x ∧ x < 61 := fun x hx => mem_rI.mp (by rw [hall]; exact hx)
      have hl60 : (pre ++ e :: post).length = 60 := by rw [← hall, rI_len]; rfl
      have he := hin e (by simp)
      have hpl : pre.length ≤ 60 := by rw [List.length_append] at hl60; omega
      have hpre : ∀ x ∈ pre, x ≤ 60 := fun x hx => by have := hin x (List.mem_append_left _ hx); omega
      have hb := fl pre hpre hpl (forLn ls p rows.toNat seen)
      generalize hX : (pre.flatMap fun e => (rI 0 e).map fun f => (⟨ls[p].c, e, f⟩ : Ln)).filter (forLn ls p rows.toNat seen) = X at *
      obtain ⟨ρ2, e2, c6, c7, rfl⟩ := for_p (C := callN T (n + 4)) (tg := .nm 6) (b := b1_lines_for) (enc := PyData.int)
        (fun pr ρ => ∃ b6 b7, ρ = [some (.d (eLs ls)), some (.d (.int (p : Nat))), some (.d (.int rows)), some (.d (.tuple (seen.map eSeen))), some (.own ((X ++ (pr.map fun f => (⟨ls[p].c, e, f⟩ : Ln)).filter (forLn ls p rows.toNat seen)).map eL)), some (.d (.int e)), b6, b7])
        (all := rI 0 e) (ρ := [some (.d (eLs ls)), some (.d (.int (p : Nat))), some (.d (.int rows)), some (.d (.tuple (seen.map eSeen))), some (.own (X.map eL)), some (.d (.int e)), b6, b7]) ⟨b6, b7, by simp⟩ (fun pr f post2 hall2 ρ ⟨b6, b7, hρ⟩ => by
          subst hρ
          have hf := mem_rI.mp (show f ∈ rI 0 e by rw [hall2]; simp)
          have hprl : pr.length ≤ 60 := by
            have : (rI 0 e).length = pr.length + (post2.length + 1) := by rw [hall2]; simp
            rw [rI_len] at this
            omega
          have hYl : (X ++ (pr.map fun f => (⟨ls[p].c, e, f⟩ : Ln)).filter (forLn ls p rows.toNat seen)).length < 16777216 := by
            rw [List.length_append]
            have := List.length_filter_le (forLn ls p rows.toNat seen) (pr.map fun f => (⟨ls[p].c, e, f⟩ : Ln))
            rw [List.length_map] at this
            omega
          obtain ⟨b7', et⟩ := lf_turn g (n := n) hk hll hp h0 h1 hs (e := e) (f := f) ⟨⟨he.1, hf.1, hf.2⟩, ok.c0, ok.c1, by show e ≤ 60; omega⟩ hYl (a7 := b7)
          refine ⟨_, by unfold for1; simp only [bindT_nm, List.length_cons, List.length_nil, put_succ, put_zero, Nat.reduceAdd, Nat.reduceLT, if_true, Option.bind_some]; exact et, some (.d (.int f)), b7', ?_⟩
          rw [List.map_append (f := fun f => (⟨ls[p].c, e, f⟩ : Ln)), List.map_cons, List.map_nil, filter_step, List.append_assoc])
      have hr : rngD [.int e] = some ((rI 0 e).map .int) := rng_1 (by omega) (by omega)
      refine ⟨_, by simp [for1, -List.map_map, -evI_rng, evI_rngV, -Option.bind_some, -Option.map_some, obind, omap, evFn, runFn, startE, look2, look, isVar, peek, peekA, rdVar, tyOf, outE, ioAt, retV, argD, argK, frzAll, Val.scalar, b2_lines_for, hr, e2] <;> and_intros <;> rfl, some (.d (.int e)), c6, c7, ?_⟩
      rw [List.flatMap_append, List.filter_append, hX]
      simp)
  have hr : rngD [.int 1, .int 61] = some ((rI 1 61).map .int) := rng_2 (by decide) (by decide) (by decide) (by decide) (by decide)
  have hall : ((rI 1 61).flatMap fun e => (rI 0 e).map fun f => (⟨ls[p].c, e, f⟩ : Ln)) = allLn ls[p].c := rfl
  rw [hall] at e
  rw [callN_ev, g.h83]
  generalize ((allLn ls[p].c).filter (forLn ls p rows.toNat seen)).map eL = Y at *
  simp [-List.map_map, -evI_rng, evI_rngV, -Option.bind_some, -Option.map_some, obind, omap, evFn, runFn, startE, look2, look, isVar, peek, peekA, rdVar, tyOf, outE, ioAt, retV, argD, argK, frzAll, Val.scalar, d_lines_for, hr, e]
theorem single_lines_t (g : Lfr T) {n : Nat} {c : Nat} (c0 : 97 ≤ c) (c1 : c ≤ 100) {rows : Int} (h0 : 0 ≤ rows) (h1 : rows ≤ 999) {seen : List (Int × List (Nat × Int))} (hs : seen.length ≤ 1000) :
    callN T (n + 6) 82 none [.str (eS c), .int rows, .tuple (seen.map eSeen)] = some (.own (((allLn c).filter fun l => expl [l] rows.toNat seen).map eL), none) := by
  have h := lines_for_t g (n := n) (ls := [⟨c, 1, 0⟩]) (p := 0) (fun l hl => by rw [List.mem_singleton.mp hl]; exact okL ⟨⟨c0, c1⟩, by decide⟩) (by simp) (by simp) h0 h1 hs
  have h : callN T (n + 5) 83 none [.tuple [.tuple [.str (eS c), .int 1, .int 0]], .int 0, .int rows, .tuple (seen.map eSeen)] = some (.own (((allLn c).filter fun l => expl [l] rows.toNat seen).map eL), none) := h
  generalize ((allLn c).filter fun l => expl [l] rows.toNat seen).map eL = Y at *
  rw [callN_ev, g.h82]
  simp [-List.map_map, -evI_rng, evI_rngV, -Option.bind_some, -Option.map_some, obind, omap, evFn, runFn, startE, look2, look, isVar, peek, peekA, rdVar, tyOf, outE, ioAt, retV, argD, argK, frzAll, Val.scalar, d_single_lines, h]
theorem any_mem {α : Type} [DecidableEq α] {k : Nat} {enc : α → D} (h : EqE k enc) (x : α) (xs : List α) : ((xs.map enc).any fun z => PyData.eqv z (enc x)) = decide (x ∈ xs) := by
  rw [Bool.eq_iff_iff, List.any_eq_true, decide_eq_true_eq]
  constructor
  · rintro ⟨d, hd, he⟩
    obtain ⟨y, hy, rfl⟩ := List.mem_map.mp hd
    rw [h.eq, decide_eq_true_eq] at he
    exact he ▸ hy
  · intro hx
    exact ⟨_, List.mem_map.mpr ⟨x, hx, rfl⟩, by rw [h.eq]; simp⟩
theorem inD_tT {α : Type} [DecidableEq α] {k : Nat} {enc : α → D} (h : EqE k enc) (hk : k ≤ 60) (x : α) (xs : List α) : inD (enc x) (.tuple (xs.map enc)) = some (decide (x ∈ xs)) := by
  show (if (enc x).depth ≤ 64 ∧ (PyData.tuple (xs.map enc)).depth ≤ 64 then some ((xs.map enc).any fun z => PyData.eqv z (enc x)) else none) = _
  rw [if_pos ⟨by have := h.dp x; omega, by have := h.tup.dp xs; omega⟩, any_mem h]
theorem inD_tL {α : Type} [DecidableEq α] {k : Nat} {enc : α → D} (h : EqE k enc) (hk : k ≤ 60) (x : α) (xs : List α) : inD (enc x) (.list (xs.map enc)) = some (decide (x ∈ xs)) := by
  rw [inD_list, if_pos ⟨by have := h.dp x; omega, by have := h.lst.dp xs; omega⟩, any_mem h]
theorem atI_neg {xs : List D} {x : D} (h : xs.getLast? = some x) : L2.atI xs (-1) = some x := by
  rw [List.getLast?_eq_getElem?] at h
  have hl : xs ≠ [] := fun e => by subst e; cases h
  have hp : 1 ≤ xs.length := List.length_pos_iff.mpr hl
  unfold L2.atI L2.ixN
  rw [if_neg (by decide), if_pos (by omega)]
  have : (-1 + (xs.length : Int)).toNat = xs.length - 1 := by omega
  rw [Option.bind_some, this]
  exact h
end Mn

namespace Mn
open PySem
open Bd
variable {T : Nat → Option FnD}
/-- a comprehension whose first turn freezes something -/
theorem comp_c0 {C : CallF} {α : Type} {own : List Nat} {tg : Tg} {cond elt : Ex} {ρ0 ρ : Env} {enc : α → D} (c : α → Bool) (g : α → D) {xs : List α} (hne : xs ≠ [])
    (h0 : ∀ x ∈ xs, comp1 C own tg cond elt (enc x) ρ0 = some (if c x then some (g x) else none, ρ)) (h : ∀ x ∈ xs, comp1 C own tg cond elt (enc x) ρ = some (if c x then some (g x) else none, ρ)) :
    compE C own tg cond elt (xs.map enc) ρ0 = some ((xs.filter c).map g, ρ) := by
  cases xs with
  | nil => exact absurd rfl hne
  | cons x xs =>
    unfold compE
    rw [List.map_cons, compL_1, h0 x List.mem_cons_self, Option.bind_some, comp_oL enc (fun x => if c x then some (g x) else none) fun y hy => h y (List.mem_cons_of_mem _ hy)]
    have := comp_c (C := C) (own := own) (tg := tg) (cond := cond) (elt := elt) (enc := enc) c g (xs := x :: xs) h
    rw [comp_o (fun x => if c x then some (g x) else none) h] at this
    have e := (Prod.mk.inj (Option.some.inj this)).1
    rw [← e, List.filterMap_cons]
    cases c x <;> simp
@[simp] theorem any_l {xs : List D} : bi1D .any (.list xs) = (dBools xs).map fun bs => .d (.bool (bs.any id)) := rfl
theorem any_b {α : Type} (f : α → Bool) (xs : List α) : bi1D .any (.list (xs.map fun x => .bool (f x))) = some (.d (.bool (xs.any f))) := by
  rw [any_l, dBools_map, Option.map_some, List.any_map]
  rfl
theorem call_ex {T : Nat → Option FnD} {f n : Nat} {fd : FnD} {args : List D} {v : Val} (h : T f = some fd) (hio : fd.io = false) (hnp : args.length = fd.np)
    (e : ∃ ρ', evS (callN T n) fd.body (startE fd.n (args.map .d)) = some (.rt v ρ')) : callN T (n + 1) f none args = some (v, none) := by
  obtain ⟨ρ', e⟩ := e
  exact call_rt h hio hnp e
/-! ## fractions -/
theorem lowest_t (h72 : T 72 = some d_lowest) {n : Nat} {a b : Int} (ha : 0 ≤ a) (hb : 0 < b) (hb2 : b < 99999) : callN T (n + 1) 72 none [.int a, .int b] = some (.d (.tuple [.int (a / gc a b), .int (b / gc a b)]), none) := by
  rw [callN_ev, h72]
  have e := gcd_loop (C := callN T n) (b := b1_lowest) (s0 := some (.d (.int a))) (s1 := some (.d (.int b))) (fun x y hy => by simp [-List.map_map, -evI_rng, evI_rngV, -Option.bind_some, -Option.map_some, obind, omap, evFn, runFn, startE, look2, look, isVar, peek, peekA, rdVar, tyOf, outE, ioAt, retV, argD, argK, frzAll, Val.scalar, b1_lowest, hy]) ha (by omega) hb2
  have hg : 1 ≤ gc a b := by
    have := Int.gcd_pos_of_ne_zero_right a (show b ≠ 0 by omega)
    show 1 ≤ ((Int.gcd a b : Nat) : Int)
    omega
  have hg2 : gc a b ≤ b := Int.le_of_dvd hb (gc_r a b)
  generalize gc a b = g at *
  simp [-List.map_map, -evI_rng, evI_rngV, -Option.bind_some, -Option.map_some, obind, omap, evFn, runFn, startE, look2, look, isVar, peek, peekA, rdVar, tyOf, outE, ioAt, retV, argD, argK, frzAll, Val.scalar, d_lowest, e, show 0 < g by omega, show g < 18446744073709551616 by omega]
/-! ## mean waits -/
def ownL (ls : List Ln) (c : Nat) : List Ln := ls.filter fun l => decide (l.c = c)
def eF (p : Int × Int) : D := .tuple [.int p.1, .int p.2]
def mwF (ls : List Ln) (c : Nat) (w : Int) : Option (Int × Int) :=
  if ownL ls c = [] then none else some ((gapsL (ownL ls c) + w * 2520) / gc (gapsL (ownL ls c) + w * 2520) 2520, 2520 / gc (gapsL (ownL ls c) + w * 2520) 2520)
theorem gp_nonneg (x y : Int) : 0 ≤ gp x y := by
  unfold gp
  split
  · refine Int.ediv_nonneg ?_ (by decide)
    by_cases h : 1 ≤ y - x
    · exact Int.mul_nonneg (by omega) (by omega)
    · exact Int.mul_nonneg_of_nonpos_of_nonpos (by omega) (by omega)
  · exact Int.le_refl _
theorem gaps_nonneg (own : List Ln) : 0 ≤ gapsL own := by
  unfold gapsL
  generalize (timesL own).zip ((timesL own).drop 1) = X
  induction X with
  | nil => simp
  | cons x X ih =>
    rw [List.map_cons, List.sum_cons]
    have := gp_nonneg x.1 x.2
    omega
structure Mwt (T : Nat → Option FnD) : Prop where
  h3 : T 3 = some d_departs
  h72 : T 72 = some d_lowest
  h79 : T 79 = some d_mean_wait
theorem zip_ints (xs ys : List Int) : zipD (xs.map .int) (ys.map .int) = (xs.zip ys).map eF := by
  unfold zipD
  rw [List.zip_map, List.map_map]
  rfl
theorem mean_wait_t (g : Mwt T) {n : Nat} {ls : List Ln} (hk : ∀ l ∈ ls, l.ok) (hll : ls.length ≤ 1000) {c : Nat} {w : Int} (w0 : 0 ≤ w) : callN T (n + 2) 79 none [eLs ls, .str (eS c), .int w] = some (.d (eOR (mwF ls c w)), none) := by
  have hko : ∀ l ∈ ownL ls c, l.ok := fun l hl => hk l (List.mem_filter.mp hl).1
  have hol : (ownL ls c).length ≤ 1000 := by have := List.length_filter_le (fun l : Ln => decide (l.c = c)) ls; unfold ownL; omega
  have hc1 := comp_c (C := callN T (n + 1)) (own := [4]) (tg := .nm 4) (cond := .one (.cmp .Eq (.ix (.var 4) (.cst (.int 0))) (.var 1))) (elt := .var 4) (enc := eL)
    (ρ := [some (.d (eLs ls)), some (.d (.str (eS c))), some (.d (.int w)), none, none, none, none, none, none, none, none]) (fun l => decide (l.c = c)) eL (xs := ls) fun l hl => by
      by_cases h : l.c = c
      · subst h; simp [comp1, -List.map_map, -evI_rng, evI_rngV, -Option.bind_some, -Option.map_some, obind, omap, evFn, runFn, startE, look2, look, isVar, peek, peekA, rdVar, tyOf, outE, ioAt, retV, argD, argK, frzAll, Val.scalar, eL, -atI_of, atI_0]
      · have h2 : ¬ eS l.c = eS c := fun e => h (eS_inj.mp e)
        simp [comp1, -List.map_map, -evI_rng, evI_rngV, -Option.bind_some, -Option.map_some, obind, omap, evFn, runFn, startE, look2, look, isVar, peek, peekA, rdVar, tyOf, outE, ioAt, retV, argD, argK, frzAll, Val.scalar, eL, -atI_of, atI_0, h, h2]
  have hown : ls.filter (fun l => decide (l.c = c)) = ownL ls c := rfl
  rw [hown] at hc1
  have hin : ∀ (s3 : Slot) (m : Int), s3 = .own ((ownL ls c).map eL) ∨ s3 = .d (.list ((ownL ls c).map eL)) →
      comp1 (callN T (n + 1)) [6] (.nm 6) (.one (.bi1 .any (.comp [4] (.nm 4) (.one (.var 3)) .emp (.call 3 (.con (.var 4) (.con (.var 6) .emp)))))) (.var 6) (.int m) [some (.d (eLs ls)), some (.d (.str (eS c))), some (.d (.int w)), some s3, none, none, none, none, none, none, none] =
        some (if anyG (ownL ls c) m then some (.int m) else none, [some (.d (eLs ls)), some (.d (.str (eS c))), some (.d (.int w)), some (.d (.list ((ownL ls c).map eL))), none, none, none, none, none, none, none]) := fun s3 m h3 => by
    have hc2 := comp_m (C := callN T (n + 1)) (own := [4]) (tg := .nm 4) (cond := .emp) (elt := .call 3 (.con (.var 4) (.con (.var 6) .emp))) (enc := eL)
      (ρ := [some (.d (eLs ls)), some (.d (.str (eS c))), some (.d (.int w)), some (.d (.list ((ownL ls c).map eL))), none, none, some (.d (.int m)), none, none, none, none]) (fun l => .bool (goes l m)) (xs := ownL ls c) fun l hl => by
        simp [comp1, -List.map_map, -evI_rng, evI_rngV, -Option.bind_some, -Option.map_some, obind, omap, evFn, runFn, startE, look2, look, isVar, peek, peekA, rdVar, tyOf, outE, ioAt, retV, argD, argK, frzAll, Val.scalar, departs_t g.h3 (n := n) (hko l hl)]
    have ha := any_b (goes · m) (ownL ls c)
    have ha2 : (ownL ls c).any (goes · m) = anyG (ownL ls c) m := rfl
    rw [ha2] at ha
    generalize (ownL ls c).map (fun l => PyData.bool (goes l m)) = B at *
    have hl : ((ownL ls c).map eL).length < 16777216 := by rw [List.length_map]; omega
    generalize (ownL ls c).map eL = M at *
    rcases h3 with rfl | rfl <;> cases hb : anyG (ownL ls c) m <;> rw [hb] at ha <;> simp [comp1, -List.map_map, -evI_rng, evI_rngV, -Option.bind_some, -Option.map_some, obind, omap, evFn, runFn, startE, look2, look, isVar, peek, peekA, rdVar, tyOf, outE, ioAt, retV, argD, argK, frzAll, Val.scalar, iterD, hl, hc2, ha, -any_l]
  have hc3 := comp_c0 (C := callN T (n + 1)) (own := [6]) (tg := .nm 6) (cond := .one (.bi1 .any (.comp [4] (.nm 4) (.one (.var 3)) .emp (.call 3 (.con (.var 4) (.con (.var 6) .emp)))))) (elt := .var 6) (enc := PyData.int)
    (ρ0 := [some (.d (eLs ls)), some (.d (.str (eS c))), some (.d (.int w)), some (.own ((ownL ls c).map eL)), none, none, none, none, none, none, none]) (anyG (ownL ls c)) (fun t => .int t) (xs := rI 0 5040) (by intro e; have := congrArg List.length e; rw [rI_len] at this; cases this) (fun m _ => hin _ m (.inl rfl)) (fun m _ => hin _ m (.inr rfl))
  have ht : (rI 0 5040).filter (anyG (ownL ls c)) = timesL (ownL ls c) := rfl
  have ht2 : ((timesL (ownL ls c)).map fun t => PyData.int t) = (timesL (ownL ls c)).map .int := rfl
  rw [ht, ht2] at hc3
  have htl : (timesL (ownL ls c)).length ≤ 5040 := by
    have := List.length_filter_le (anyG (ownL ls c)) (rI 0 5040)
    rw [rI_len] at this
    exact this
  have hr : rngD [.int 5040] = some ((rI 0 5040).map .int) := rng_1 (by decide) (by decide)
  have hrl : (rI 0 5040).length < 16777216 := by rw [rI_len]; decide
  have hnil := eqD_nilI (timesL (ownL ls c))
  have hnn := times_nil hko
  have iw : inW 2 = true := by decide
  unfold mwF
  have hA : evS (callN T (n + 1)) (takeS 2 d_mean_wait.body) (startE 11 [.d (eLs ls), .d (.str (eS c)), .d (.int w)]) = some (.nx [some (.d (eLs ls)), some (.d (.str (eS c))), some (.d (.int w)), some (.d (.list ((ownL ls c).map eL))), none, some (.own ((timesL (ownL ls c)).map .int)), none, none, none, none, none]) := by
    generalize rI 0 5040 = R at *
    generalize (ownL ls c).map eL = M at *
    generalize (timesL (ownL ls c)).map PyData.int = TT at *
    simp [-List.map_map, -evI_rng, evI_rngV, -Option.bind_some, -Option.map_some, obind, omap, evFn, runFn, startE, look2, look, isVar, peek, peekA, rdVar, tyOf, outE, ioAt, retV, argD, argK, frzAll, Val.scalar, takeS, d_mean_wait, iterD, show ls.length < 16777216 by omega, hc1, iw, hr, hrl, hc3]
  refine call_ex g.h79 rfl rfl ?_
  have hS := evS_split 2 hA
  by_cases he : ownL ls c = []
  · rw [if_pos he]
    rw [decide_eq_true (hnn.mpr he)] at hnil
    generalize (timesL (ownL ls c)).map PyData.int = TT at *
    exact ⟨_, hS.trans (by simp [-List.map_map, -evI_rng, evI_rngV, -Option.bind_some, -Option.map_some, obind, omap, evFn, runFn, startE, look2, look, isVar, peek, peekA, rdVar, tyOf, outE, ioAt, retV, argD, argK, frzAll, Val.scalar, dropS, d_mean_wait, hnil, eOR] <;> and_intros <;> rfl)⟩
  · rw [if_neg he]
    rw [decide_eq_false (fun e => he (hnn.mp e))] at hnil
    have hcut : cutA ((timesL (ownL ls c)).map PyData.int) (some 1) none = ((timesL (ownL ls c)).drop 1).map .int := by rw [cut_from (by decide), List.map_drop]; rfl
    have hz := zip_ints (timesL (ownL ls c)) ((timesL (ownL ls c)).drop 1)
    have hg0 := gaps_nonneg (ownL ls c)
    have hmem : ∀ t ∈ timesL (ownL ls c), 0 ≤ t ∧ t < 5040 := fun t ht => mem_rI.mp (List.mem_filter.mp ht).1
    obtain ⟨ρ', e, b8, b9, b10, rfl⟩ := for_p (C := callN T (n + 1)) (tg := .cons (.nm 8) (.cons (.nm 9) .nil)) (b := b1_mean_wait) (enc := eF)
      (fun pre ρ => ∃ b8 b9 b10, ρ = [some (.d (eLs ls)), some (.d (.str (eS c))), some (.d (.int w)), some (.d (.list ((ownL ls c).map eL))), none, some (.d (.list ((timesL (ownL ls c)).map .int))), none, some (.d (.int ((pre.map fun p => gp p.1 p.2).sum))), b8, b9, b10])
      (all := (timesL (ownL ls c)).zip ((timesL (ownL ls c)).drop 1)) (ρ := [some (.d (eLs ls)), some (.d (.str (eS c))), some (.d (.int w)), some (.d (.list ((ownL ls c).map eL))), none, some (.d (.list ((timesL (ownL ls c)).map .int))), none, some (.d (.int 0)), none, none, none]) ⟨none, none, none, rfl⟩ (fun pre x post hp ρ ⟨b8, b9, b10, hρ⟩ => by
        subst hρ
        obtain ⟨x, y⟩ := x
        have hxy : (x, y) ∈ (timesL (ownL ls c)).zip ((timesL (ownL ls c)).drop 1) := by rw [hp]; simp
        obtain ⟨hx, hy⟩ := List.of_mem_zip hxy
        have hx := hmem x hx
        have hy := hmem y (List.mem_of_mem_drop hy)
        have iw : inW (y - x) = true := by simp [inW]; omega
        have hs : ((pre ++ [(x, y)]).map fun p => gp p.1 p.2).sum = (pre.map fun p => gp p.1 p.2).sum + gp x y := by rw [List.map_append, List.sum_append]; simp
        rw [hs]
        generalize (pre.map fun p => gp p.1 p.2).sum = S
        generalize (timesL (ownL ls c)).map PyData.int = TT at *
        by_cases h : x < 2520
        · have hgp : gp x y = (y - x) * (y - x - 1) / 2 := if_pos h
          rw [hgp]
          exact ⟨_, by simp [for1, -List.map_map, -evI_rng, evI_rngV, -Option.bind_some, -Option.map_some, obind, omap, evFn, runFn, startE, look2, look, isVar, peek, peekA, rdVar, tyOf, outE, ioAt, retV, argD, argK, frzAll, Val.scalar, b1_mean_wait, eF, h, iw] <;> and_intros <;> rfl, _, _, _, rfl⟩
        · have hgp : gp x y = 0 := if_neg h
          rw [hgp, Int.add_zero]
          exact ⟨_, by simp [for1, -List.map_map, -evI_rng, evI_rngV, -Option.bind_some, -Option.map_some, obind, omap, evFn, runFn, startE, look2, look, isVar, peek, peekA, rdVar, tyOf, outE, ioAt, retV, argD, argK, frzAll, Val.scalar, b1_mean_wait, eF, h] <;> and_intros <;> rfl, _, _, _, rfl⟩)
    have hgl : (((timesL (ownL ls c)).zip ((timesL (ownL ls c)).drop 1)).map fun p => gp p.1 p.2).sum = gapsL (ownL ls c) := rfl
    rw [hgl, ← hz] at e
    have iw2 : inW 2520 = true := by decide
    have hlow := lowest_t g.h72 (n := n) (a := gapsL (ownL ls c) + w * 2520) (b := 2520) (by omega) (by decide) (by decide)
    generalize ((timesL (ownL ls c)).drop 1).map PyData.int = T2 at *
    generalize (timesL (ownL ls c)).map PyData.int = TT at *
    generalize (gapsL (ownL ls c) + w * 2520) / gc (gapsL (ownL ls c) + w * 2520) 2520 = A1 at *
    generalize 2520 / gc (gapsL (ownL ls c) + w * 2520) 2520 = A2 at *
    exact ⟨_, hS.trans (by simp [-List.map_map, -evI_rng, evI_rngV, -Option.bind_some, -Option.map_some, obind, omap, evFn, runFn, startE, look2, look, isVar, peek, peekA, rdVar, tyOf, outE, ioAt, retV, argD, argK, frzAll, Val.scalar, dropS, d_mean_wait, hnil, hcut, e, iw2, hlow, eOR] <;> and_intros <;> rfl)⟩
theorem ns_range (g : Int → Int) : ∀ (n : Nat) (m : Int), (((List.range n).map fun i : Nat => m + i).map g).sum = ns g m n
  | 0, m => rfl
  | n + 1, m => by
    rw [List.range_succ, List.map_append, List.map_append, List.sum_append, ns_range g n m, ns_last]
    simp
theorem ns_rI (g : Int → Int) (n : Nat) : ((rI 0 (n : Int)).map g).sum = ns g 0 n := by
  have := ns_range g n 0
  unfold rI
  rw [Int.sub_zero, Int.toNat_natCast]
  exact this
theorem ns_const (c : Int) : ∀ (n : Nat) (m : Int), ns (fun _ => c) m n = n * c
  | 0, m => by simp [ns]
  | n + 1, m => by
    rw [ns, ns_const c n, Int.natCast_add, Int.natCast_one, Int.add_mul, Int.one_mul]
    omega
theorem label_pick {r : Int} (h0 : 0 ≤ r) (h1 : r < 2) {a b : Nat} (ha : 97 ≤ a ∧ a ≤ 100) (hb : 97 ≤ b ∧ b ≤ 100) : ∃ c, L2.atI [PyData.str (eS a), .str (eS b)] r = some (.str (eS c)) ∧ 97 ≤ c ∧ c ≤ 100 := by
  have : r = 0 ∨ r = 1 := by omega
  rcases this with rfl | rfl
  · exact ⟨a, rfl, ha⟩
  · exact ⟨b, rfl, hb⟩
theorem abcd_pick {r : Int} (h0 : 0 ≤ r) (h1 : r < 4) : ∃ c, ixD (.str "abcd") (.int r) = some (.str (eS c)) ∧ 97 ≤ c ∧ c ≤ 100 := by
  have : r = 0 ∨ r = 1 ∨ r = 2 ∨ r = 3 := by omega
  rcases this with rfl | rfl | rfl | rfl
  · exact ⟨97, by rw [abcd_ix]; rfl, by decide, by decide⟩
  · exact ⟨98, by rw [abcd_ix]; rfl, by decide, by decide⟩
  · exact ⟨99, by rw [abcd_ix]; rfl, by decide, by decide⟩
  · exact ⟨100, by rw [abcd_ix]; rfl, by decide, by decide⟩
end Mn

namespace Mn
open PySem
open Bd
variable {T : Nat → Option FnD}
/-! ## times of the day -/
def clkS (t : Int) : Str := pad2 (t / 60 % 24) ++ ((":" : Str) ++ pad2 (t % 60))
def eCk (p : Nat × Str) : D := .tuple [.str (eS p.1), .str p.2]
def ckP (ls : List Ln) (rows : Nat) (m : Int) : List (Nat × Str) := (nextP ls rows m).map fun p => (labAt ls p.2, clkS p.1)
theorem fmt2_of {i : Int} (h0 : 0 ≤ i) (h1 : i < 100) : fmt2D (.int i) = some (pad2 i) := by
  unfold fmt2D pad2
  simp only
  rw [if_pos ⟨h0, h1⟩]
theorem pad2_len {i : Int} (h0 : 0 ≤ i) (h1 : i < 100) : (pad2 i).length = 2 := by
  have key : ∀ k : _root_.Fin 100, (pad2 ((k.val : Nat) : Int)).length = 2 := by decide +kernel
  have := key ⟨i.toNat, by omega⟩
  simp only [Int.toNat_of_nonneg h0] at this
  exact this
theorem pad2_cut {i : Int} (h0 : 0 ≤ i) (h1 : i < 100) : L2.cutS (intStr (100 + i)) (some 1) none = pad2 i := by
  have key : ∀ k : _root_.Fin 100, L2.cutS (intStr (100 + ((k.val : Nat) : Int))) (some 1) none = pad2 ((k.val : Nat) : Int) := by decide +kernel
  have := key ⟨i.toNat, by omega⟩
  simp only [Int.toNat_of_nonneg h0] at this
  exact this
theorem col_len : (":" : Str).length = 1 := by decide +kernel
theorem clk_parts (t : Int) : (0 ≤ t / 60 % 24 ∧ t / 60 % 24 < 24) ∧ 0 ≤ t % 60 ∧ t % 60 < 60 := by omega
theorem clk_len (t : Int) : (clkS t).length = 5 := by
  obtain ⟨⟨a0, a1⟩, b0, b1⟩ := clk_parts t
  unfold clkS
  rw [Str.length_append, Str.length_append, pad2_len a0 (by omega), pad2_len b0 (by omega), col_len]
structure Clk (T : Nat → Option FnD) : Prop extends Nxt T where
  h22 : T 22 = some d_clocks
theorem clocks_t (g : Clk T) {n : Nat} {ls : List Ln} (hk : ∀ l ∈ ls, l.ok) (hne : ls ≠ []) (hll : ls.length ≤ 1000) {rows m : Int} (h0 : 0 ≤ rows) (h1 : rows ≤ 999) :
    callN T (n + 3) 22 none [eLs ls, .int rows, .int m] = some (.own ((ckP ls rows.toNat m).map eCk), none) := by
  rw [callN_ev, g.h22]
  have hn := next_ones_spec g.toNxt (n := n) hk hne hll (m := m) h0 h1
  have hlen : (nextP ls rows.toNat m).length = rows.toNat := by unfold nextP; rw [nx_len]
  unfold ckP
  generalize nextP ls rows.toNat m = X at *
  obtain ⟨ρ', e, b4, b5, b6, rfl⟩ := for_p (C := callN T (n + 2)) (tg := .cons (.nm 4) (.cons (.nm 5) (.cons (.nm 6) .nil))) (b := b1_clocks) (enc := eDep ls)
    (fun pre ρ => ∃ b4 b5 b6, ρ = [some (.d (eLs ls)), some (.d (.int rows)), some (.d (.int m)), some (.own ((pre.map fun p => (labAt ls p.2, clkS p.1)).map eCk)), b4, b5, b6])
    (all := X) (ρ := [some (.d (eLs ls)), some (.d (.int rows)), some (.d (.int m)), some (.own []), none, none, none]) ⟨none, none, none, rfl⟩ (fun pre p post hp ρ ⟨b4, b5, b6, hρ⟩ => by
      subst hρ
      have hpl : pre.length < 1000 := by
        have : pre.length < X.length := by rw [hp]; simp
        omega
      obtain ⟨t, i⟩ := p
      obtain ⟨⟨a0, a1⟩, c0, c1⟩ := clk_parts t
      have f1 := fmt2_of a0 (show t / 60 % 24 < 100 by omega)
      have f2 := fmt2_of c0 (show t % 60 < 100 by omega)
      have hl := clk_len t
      have hmap : ((pre ++ [(t, i)]).map fun p => (labAt ls p.2, clkS p.1)).map eCk = ((pre.map fun p => (labAt ls p.2, clkS p.1)).map eCk) ++ [.tuple [.str (eS (labAt ls i)), .str (clkS t)]] := by simp [eCk]
      rw [hmap]
      have hpl2 : ((pre.map fun p => (labAt ls p.2, clkS p.1)).map eCk).length < 16777216 := by rw [List.length_map, List.length_map]; omega
      generalize (pre.map fun p => (labAt ls p.2, clkS p.1)).map eCk = Y at *
      have hcl : clkS t = pad2 (t / 60 % 24) ++ ((":" : Str) ++ pad2 (t % 60)) := rfl
      have hll2 : (pad2 (t / 60 % 24) ++ ((":" : Str) ++ pad2 (t % 60))).length ≤ 16777216 := by rw [← hcl, hl]; decide
      exact ⟨_, by simp [for1, -List.map_map, -evI_rng, evI_rngV, -Option.bind_some, -Option.map_some, obind, omap, evFn, runFn, startE, look2, look, isVar, peek, peekA, rdVar, tyOf, outE, ioAt, retV, argD, argK, frzAll, Val.scalar, b1_clocks, eDep, f1, f2, catAll, Str.append_empty, hll2, hpl2] <;> and_intros <;> rfl, _, _, _, by rw [hcl]⟩)
  generalize (X.map fun p => (labAt ls p.2, clkS p.1)).map eCk = Y at *
  simp [-List.map_map, -evI_rng, evI_rngV, -Option.bind_some, -Option.map_some, obind, omap, evFn, runFn, startE, look2, look, isVar, peek, peekA, rdVar, tyOf, outE, ioAt, retV, argD, argK, frzAll, Val.scalar, d_clocks, hn, iterD, e]
theorem law_clock_t (h25 : T 25 = some d_law_clock) {n : Nat} {t : Int} : callN T (n + 1) 25 none [.int t] = some (.d (.str (clkS t)), none) := by
  obtain ⟨⟨a0, a1⟩, c0, c1⟩ := clk_parts t
  have s1 : bi1D .str (.int (100 + t / 60 % 24)) = some (.d (.str (intStr (100 + t / 60 % 24)))) := by
    show (if (100 + t / 60 % 24).natAbs.log2 < 1920 then some (Val.d (.str (intStr (100 + t / 60 % 24)))) else none) = _
    rw [if_pos (log_small3 (by omega) (by omega))]
  have s2 : bi1D .str (.int (100 + t % 60)) = some (.d (.str (intStr (100 + t % 60)))) := by
    show (if (100 + t % 60).natAbs.log2 < 1920 then some (Val.d (.str (intStr (100 + t % 60)))) else none) = _
    rw [if_pos (log_small3 (by omega) (by omega))]
  have q1 := pad2_cut a0 (show t / 60 % 24 < 100 by omega)
  have q2 := pad2_cut c0 (show t % 60 < 100 by omega)
  have l1 := pad2_len a0 (show t / 60 % 24 < 100 by omega)
  have l2 := pad2_len c0 (show t % 60 < 100 by omega)
  unfold clkS
  rw [callN_ev, h25]
  simp [-List.map_map, -evI_rng, evI_rngV, -Option.bind_some, -Option.map_some, obind, omap, evFn, runFn, startE, look2, look, isVar, peek, peekA, rdVar, tyOf, outE, ioAt, retV, argD, argK, frzAll, Val.scalar, d_law_clock, s1, s2, q1, q2, l1, l2, col_len, ap_assoc, Str.length_append]
theorem lk_ck (p : Nat × Str) : Lk 1 (eCk p) := .tup _ (by simp) fun x hx => by
  simp only [List.mem_cons, List.not_mem_nil, or_false] at hx
  rcases hx with rfl | rfl <;> exact .str _
end Mn

namespace K02
open PySem PySem.Spec PyProof.Rows L2 Mn
/-! ### the text -/
def topS (i : Nat) : Stmt := PySem.Challenge.pw_nextboards_k02_whole_boards.main.body.getD i (.Pass ⟨0, 0, 0, 0⟩)
abbrev s_next_time : Stmt := topS 1
abbrev s_next_ones : Stmt := topS 3
abbrev s_board : Stmt := topS 4
abbrev s_rounded : Stmt := topS 5
abbrev s_clocks : Stmt := topS 6
abbrev s_law_draw : Stmt := topS 8
abbrev s_law_like : Stmt := topS 9
abbrev s_law_every : Stmt := topS 10
abbrev s_law_line : Stmt := topS 11
abbrev s_law_lines : Stmt := topS 12
abbrev s_law_next : Stmt := topS 13
abbrev s_law_board : Stmt := topS 14
abbrev s_law_minute : Stmt := topS 15
abbrev s_law_clock : Stmt := topS 16
def b1_law : Sx :=
 (.seq (.par3 3 4 5 (.callo 13 1 (.con (.cst (.int 5)) (.con (.cst (.str "any")) .emp))) (.bin .Add (.cst (.int 1)) (.callo 5 1 (.con (.cst (.int 8)) .emp))) (.callo 16 1 .emp))
 (.seq (.set 6 (.call 23 (.con (.var 3) (.con (.var 4) (.con (.var 5) .emp)))))
 (.seq (.set 7 (.call 20 (.con (.var 3) (.con (.var 4) (.con (.var 5) .emp)))))
 (.seq (.ife (.not (.call 8 (.con (.var 7) (.con (.comp [8, 9, 10] (.cons (.nm 8) (.cons (.nm 9) (.cons (.nm 10) .nil))) (.one (.var 6)) .emp (.tup (.con (.var 10) (.con (.bin .Sub (.var 8) (.var 5)) .emp)))) .emp))))
 (.seq (.ret (.cst (.bool false)))
 .skip)
 .skip)
 (.seq (.set 11 (.bin .Add (.cst (.int 1)) (.callo 5 1 (.con (.cst (.int 15)) .emp))))
 (.seq (.set 12 (.comp [8, 9, 10] (.cons (.nm 8) (.cons (.nm 9) (.cons (.nm 10) .nil))) (.one (.var 6)) .emp (.tup (.con (.var 10) (.con (.bin .Mult (.bin .FloorDiv (.bin .Sub (.var 8) (.var 5)) (.var 11)) (.var 11)) .emp)))))
 (.seq (.ife (.not (.call 8 (.con (.call 21 (.con (.var 3) (.con (.var 4) (.con (.var 5) (.con (.var 11) .emp))))) (.con (.var 12) .emp))))
 (.seq (.ret (.cst (.bool false)))
 .skip)
 .skip)
 (.seq (.ife (.not (.call 8 (.con (.call 22 (.con (.var 3) (.con (.var 4) (.con (.var 5) .emp)))) (.con (.comp [8, 9, 10] (.cons (.nm 8) (.cons (.nm 9) (.cons (.nm 10) .nil))) (.one (.var 6)) .emp (.tup (.con (.var 10) (.con (.call 25 (.con (.var 8) .emp)) .emp)))) .emp))))
 (.seq (.ret (.cst (.bool false)))
 .skip)
 .skip)
 (.seq (.app 7 (.cst .none))
 (.seq (.ife (.cmp .NotEq (.call 20 (.con (.var 3) (.con (.var 4) (.con (.var 5) .emp)))) (.call 24 (.con (.var 3) (.con (.var 4) (.con (.var 5) .emp)))))
 (.seq (.ret (.cst (.bool false)))
 .skip)
 .skip)
 .skip))))))))))
def d_law : FnD := ⟨1, 13, false, true,
 (.seq (.set 1 (.lst (.con (.lscr 0) (.con (.cst (.int 0)) (.con (.cst (.int 0)) .emp)))))
 (.seq (.for (.nm 2) (.rng (.con (.cst (.int 12)) .emp)) b1_law)
 (.seq (.ret (.cmp .Eq (.call 22 (.con (.tup (.con (.tup (.con (.cst (.str "a")) (.con (.cst (.int 10)) (.con (.cst (.int 0)) .emp)))) (.con (.tup (.con (.cst (.str "b")) (.con (.cst (.int 15)) (.con (.cst (.int 5)) .emp)))) (.con (.tup (.con (.cst (.str "a")) (.con (.cst (.int 6)) (.con (.cst (.int 3)) .emp)))) .emp)))) (.con (.cst (.int 2)) (.con (.cst (.int 1439)) .emp)))) (.lst (.con (.tup (.con (.cst (.str "a")) (.con (.cst (.str "00:00")) .emp))) (.con (.tup (.con (.cst (.str "a")) (.con (.cst (.str "00:03")) .emp))) .emp)))))
 .skip)))⟩
def N_law : List Str := ["script", "tape", "turn", "lines", "rows", "minute", "due", "told", "time", "at", "label", "step", "down"]
abbrev s_law : Stmt := topS 17
def nm : Nat → Str
  | 18 => "next_time"
  | 19 => "next_ones"
  | 20 => "board"
  | 21 => "rounded"
  | 22 => "clocks"
  | 5 => "_law_draw"
  | 8 => "_law_like"
  | 11 => "_law_every"
  | 12 => "_law_line"
  | 13 => "_law_lines"
  | 23 => "_law_next"
  | 24 => "_law_board"
  | 16 => "_law_minute"
  | 25 => "_law_clock"
  | _ => ""
def tbl : Nat → Option FnD
  | 18 => some d_next_time
  | 19 => some d_next_ones
  | 20 => some d_board
  | 21 => some d_rounded
  | 22 => some d_clocks
  | 5 => some d_law_draw
  | 8 => some d_law_like
  | 11 => some d_law_every
  | 12 => some d_law_line
  | 13 => some d_law_lines
  | 23 => some d_law_next
  | 24 => some d_law_board
  | 16 => some d_law_minute
  | 25 => some d_law_clock
  | _ => none
def G : Cfg := ⟨nm, [], ["len", "min", "int", "isinstance", "list", "tuple", "bool", "range", "enumerate", "sorted", "str"], true, true⟩
theorem sc_next_time : FnScope N_next_time ["line", "minute"] (defScope s_next_time) := ⟨rfl, rfl, rfl, by decide +kernel, rfl, by decide +kernel, by decide +kernel⟩
theorem chk_next_time : chkSs G N_next_time d_next_time.body (defScope s_next_time) (defBody s_next_time) = true := by decide +kernel
theorem sc_next_ones : FnScope N_next_ones ["lines", "rows", "minute"] (defScope s_next_ones) := ⟨rfl, rfl, rfl, by decide +kernel, rfl, by decide +kernel, by decide +kernel⟩
theorem chk_next_ones : chkSs G N_next_ones d_next_ones.body (defScope s_next_ones) (defBody s_next_ones) = true := by decide +kernel
theorem sc_board : FnScope N_board ["lines", "rows", "minute"] (defScope s_board) := ⟨rfl, rfl, rfl, by decide +kernel, rfl, by decide +kernel, by decide +kernel⟩
theorem chk_board : chkSs G N_board d_board.body (defScope s_board) (defBody s_board) = true := by decide +kernel
theorem sc_rounded : FnScope N_rounded ["lines", "rows", "minute", "step"] (defScope s_rounded) := ⟨rfl, rfl, rfl, by decide +kernel, rfl, by decide +kernel, by decide +kernel⟩
theorem chk_rounded : chkSs G N_rounded d_rounded.body (defScope s_rounded) (defBody s_rounded) = true := by decide +kernel
theorem sc_clocks : FnScope N_clocks ["lines", "rows", "minute"] (defScope s_clocks) := ⟨rfl, rfl, rfl, by decide +kernel, rfl, by decide +kernel, by decide +kernel⟩
theorem chk_clocks : chkSs G N_clocks d_clocks.body (defScope s_clocks) (defBody s_clocks) = true := by decide +kernel
theorem sc_law_draw : FnScope N_law_draw ["tape", "many"] (defScope s_law_draw) := ⟨rfl, rfl, rfl, by decide +kernel, rfl, by decide +kernel, by decide +kernel⟩
theorem chk_law_draw : chkSs G N_law_draw d_law_draw.body (defScope s_law_draw) (defBody s_law_draw) = true := by decide +kernel
theorem sc_law_like : FnScope N_law_like ["one", "two"] (defScope s_law_like) := ⟨rfl, rfl, rfl, by decide +kernel, rfl, by decide +kernel, by decide +kernel⟩
theorem chk_law_like : chkSs G N_law_like d_law_like.body (defScope s_law_like) (defBody s_law_like) = true := by decide +kernel
theorem sc_law_every : FnScope N_law_every ["tape", "kind"] (defScope s_law_every) := ⟨rfl, rfl, rfl, by decide +kernel, rfl, by decide +kernel, by decide +kernel⟩
theorem chk_law_every : chkSs G N_law_every d_law_every.body (defScope s_law_every) (defBody s_law_every) = true := by decide +kernel
theorem sc_law_line : FnScope N_law_line ["tape", "kind"] (defScope s_law_line) := ⟨rfl, rfl, rfl, by decide +kernel, rfl, by decide +kernel, by decide +kernel⟩
theorem chk_law_line : chkSs G N_law_line d_law_line.body (defScope s_law_line) (defBody s_law_line) = true := by decide +kernel
theorem sc_law_lines : FnScope N_law_lines ["tape", "most", "kind"] (defScope s_law_lines) := ⟨rfl, rfl, rfl, by decide +kernel, rfl, by decide +kernel, by decide +kernel⟩
theorem chk_law_lines : chkSs G N_law_lines d_law_lines.body (defScope s_law_lines) (defBody s_law_lines) = true := by decide +kernel
theorem sc_law_next : FnScope N_law_next ["lines", "rows", "minute"] (defScope s_law_next) := ⟨rfl, rfl, rfl, by decide +kernel, rfl, by decide +kernel, by decide +kernel⟩
theorem chk_law_next : chkSs G N_law_next d_law_next.body (defScope s_law_next) (defBody s_law_next) = true := by decide +kernel
theorem sc_law_board : FnScope N_law_board ["lines", "rows", "minute"] (defScope s_law_board) := ⟨rfl, rfl, rfl, by decide +kernel, rfl, by decide +kernel, by decide +kernel⟩
theorem chk_law_board : chkSs G N_law_board d_law_board.body (defScope s_law_board) (defBody s_law_board) = true := by decide +kernel
theorem sc_law_minute : FnScope N_law_minute ["tape"] (defScope s_law_minute) := ⟨rfl, rfl, rfl, by decide +kernel, rfl, by decide +kernel, by decide +kernel⟩
theorem chk_law_minute : chkSs G N_law_minute d_law_minute.body (defScope s_law_minute) (defBody s_law_minute) = true := by decide +kernel
theorem sc_law_clock : FnScope N_law_clock ["minute"] (defScope s_law_clock) := ⟨rfl, rfl, rfl, by decide +kernel, rfl, by decide +kernel, by decide +kernel⟩
theorem chk_law_clock : chkSs G N_law_clock d_law_clock.body (defScope s_law_clock) (defBody s_law_clock) = true := by decide +kernel
theorem sc_law : FnScope N_law ["script"] (defScope s_law) := ⟨rfl, rfl, rfl, by decide +kernel, rfl, by decide +kernel, by decide +kernel⟩
theorem chk_law : chkSs G N_law d_law.body (defScope s_law) (defBody s_law) = true := by decide +kernel
/-! ### what the top has written -/
theorem all_mk {l : PySem.W.OpenLaw} {w : World} {K : PySem.W.Frag} {h : Heap} {mg : Str → Option Value} {fa : Addr} {f0 f1 f2 f3 f4 f5 f6 f7 f8 f9 f10 f11 f12 f13 f14 : Addr} {od0 an0 od1 an1 od2 an2 od3 an3 od4 an4 od5 an5 od6 an6 od7 an7 od8 an8 od9 an9 od10 an10 od11 an11 od12 an12 od13 an13 od14 an14 : Option Addr} {sl0 sl1 sl2 sl3 sl4 sl5 sl6 sl7 sl8 sl9 sl10 sl11 sl12 sl13 sl14 : Array (Option Value)} {oc0 kV0 dc0 pm0 cd0 ct0 oc1 kV1 dc1 pm1 cd1 ct1 oc2 kV2 dc2 pm2 cd2 ct2 oc3 kV3 dc3 pm3 cd3 ct3 oc4 kV4 dc4 pm4 cd4 ct4 oc5 kV5 dc5 pm5 cd5 ct5 oc6 kV6 dc6 pm6 cd6 ct6 oc7 kV7 dc7 pm7 cd7 ct7 oc8 kV8 dc8 pm8 cd8 ct8 oc9 kV9 dc9 pm9 cd9 ct9 oc10 kV10 dc10 pm10 cd10 ct10 oc11 kV11 dc11 pm11 cd11 ct11 oc12 kV12 dc12 pm12 cd12 ct12 oc13 kV13 dc13 pm13 cd13 ct13 oc14 kV14 dc14 pm14 cd14 ct14 : Value} (X : K.In h) (Gg : h.Ns mainGlobals mg) (hfa : mg "law" = some (.ref fa))
    (a0 : PySem.W.nsIn K mainGlobals "next_time" = some (some (.ref f0))) (l0 : K.lookup f0 = some ⟨oc0, od0, .func (PySem.W.fnOf "next_time" "next_time" (defArgs s_next_time) (defBody s_next_time) (defScope s_next_time) .none kV0 dc0 pm0 an0 cd0 ct0), sl0⟩) (c0 : PySem.W.codeIn K cd0 "next_time" = true) (k0 : PySem.W.keepIn K (.ref f0) = true)
    (a1 : PySem.W.nsIn K mainGlobals "next_ones" = some (some (.ref f1))) (l1 : K.lookup f1 = some ⟨oc1, od1, .func (PySem.W.fnOf "next_ones" "next_ones" (defArgs s_next_ones) (defBody s_next_ones) (defScope s_next_ones) .none kV1 dc1 pm1 an1 cd1 ct1), sl1⟩) (c1 : PySem.W.codeIn K cd1 "next_ones" = true) (k1 : PySem.W.keepIn K (.ref f1) = true)
    (a2 : PySem.W.nsIn K mainGlobals "board" = some (some (.ref f2))) (l2 : K.lookup f2 = some ⟨oc2, od2, .func (PySem.W.fnOf "board" "board" (defArgs s_board) (defBody s_board) (defScope s_board) .none kV2 dc2 pm2 an2 cd2 ct2), sl2⟩) (c2 : PySem.W.codeIn K cd2 "board" = true) (k2 : PySem.W.keepIn K (.ref f2) = true)
    (a3 : PySem.W.nsIn K mainGlobals "rounded" = some (some (.ref f3))) (l3 : K.lookup f3 = some ⟨oc3, od3, .func (PySem.W.fnOf "rounded" "rounded" (defArgs s_rounded) (defBody s_rounded) (defScope s_rounded) .none kV3 dc3 pm3 an3 cd3 ct3), sl3⟩) (c3 : PySem.W.codeIn K cd3 "rounded" = true) (k3 : PySem.W.keepIn K (.ref f3) = true)
    (a4 : PySem.W.nsIn K mainGlobals "clocks" = some (some (.ref f4))) (l4 : K.lookup f4 = some ⟨oc4, od4, .func (PySem.W.fnOf "clocks" "clocks" (defArgs s_clocks) (defBody s_clocks) (defScope s_clocks) .none kV4 dc4 pm4 an4 cd4 ct4), sl4⟩) (c4 : PySem.W.codeIn K cd4 "clocks" = true) (k4 : PySem.W.keepIn K (.ref f4) = true)
    (a5 : PySem.W.nsIn K mainGlobals "_law_draw" = some (some (.ref f5))) (l5 : K.lookup f5 = some ⟨oc5, od5, .func (PySem.W.fnOf "_law_draw" "_law_draw" (defArgs s_law_draw) (defBody s_law_draw) (defScope s_law_draw) .none kV5 dc5 pm5 an5 cd5 ct5), sl5⟩) (c5 : PySem.W.codeIn K cd5 "_law_draw" = true) (k5 : PySem.W.keepIn K (.ref f5) = true)
    (a6 : PySem.W.nsIn K mainGlobals "_law_like" = some (some (.ref f6))) (l6 : K.lookup f6 = some ⟨oc6, od6, .func (PySem.W.fnOf "_law_like" "_law_like" (defArgs s_law_like) (defBody s_law_like) (defScope s_law_like) .none kV6 dc6 pm6 an6 cd6 ct6), sl6⟩) (c6 : PySem.W.codeIn K cd6 "_law_like" = true) (k6 : PySem.W.keepIn K (.ref f6) = true)
    (a7 : PySem.W.nsIn K mainGlobals "_law_every" = some (some (.ref f7))) (l7 : K.lookup f7 = some ⟨oc7, od7, .func (PySem.W.fnOf "_law_every" "_law_every" (defArgs s_law_every) (defBody s_law_every) (defScope s_law_every) .none kV7 dc7 pm7 an7 cd7 ct7), sl7⟩) (c7 : PySem.W.codeIn K cd7 "_law_every" = true) (k7 : PySem.W.keepIn K (.ref f7) = true)
    (a8 : PySem.W.nsIn K mainGlobals "_law_line" = some (some (.ref f8))) (l8 : K.lookup f8 = some ⟨oc8, od8, .func (PySem.W.fnOf "_law_line" "_law_line" (defArgs s_law_line) (defBody s_law_line) (defScope s_law_line) .none kV8 dc8 pm8 an8 cd8 ct8), sl8⟩) (c8 : PySem.W.codeIn K cd8 "_law_line" = true) (k8 : PySem.W.keepIn K (.ref f8) = true)
    (a9 : PySem.W.nsIn K mainGlobals "_law_lines" = some (some (.ref f9))) (l9 : K.lookup f9 = some ⟨oc9, od9, .func (PySem.W.fnOf "_law_lines" "_law_lines" (defArgs s_law_lines) (defBody s_law_lines) (defScope s_law_lines) .none kV9 dc9 pm9 an9 cd9 ct9), sl9⟩) (c9 : PySem.W.codeIn K cd9 "_law_lines" = true) (k9 : PySem.W.keepIn K (.ref f9) = true)
    (a10 : PySem.W.nsIn K mainGlobals "_law_next" = some (some (.ref f10))) (l10 : K.lookup f10 = some ⟨oc10, od10, .func (PySem.W.fnOf "_law_next" "_law_next" (defArgs s_law_next) (defBody s_law_next) (defScope s_law_next) .none kV10 dc10 pm10 an10 cd10 ct10), sl10⟩) (c10 : PySem.W.codeIn K cd10 "_law_next" = true) (k10 : PySem.W.keepIn K (.ref f10) = true)
    (a11 : PySem.W.nsIn K mainGlobals "_law_board" = some (some (.ref f11))) (l11 : K.lookup f11 = some ⟨oc11, od11, .func (PySem.W.fnOf "_law_board" "_law_board" (defArgs s_law_board) (defBody s_law_board) (defScope s_law_board) .none kV11 dc11 pm11 an11 cd11 ct11), sl11⟩) (c11 : PySem.W.codeIn K cd11 "_law_board" = true) (k11 : PySem.W.keepIn K (.ref f11) = true)
    (a12 : PySem.W.nsIn K mainGlobals "_law_minute" = some (some (.ref f12))) (l12 : K.lookup f12 = some ⟨oc12, od12, .func (PySem.W.fnOf "_law_minute" "_law_minute" (defArgs s_law_minute) (defBody s_law_minute) (defScope s_law_minute) .none kV12 dc12 pm12 an12 cd12 ct12), sl12⟩) (c12 : PySem.W.codeIn K cd12 "_law_minute" = true) (k12 : PySem.W.keepIn K (.ref f12) = true)
    (a13 : PySem.W.nsIn K mainGlobals "_law_clock" = some (some (.ref f13))) (l13 : K.lookup f13 = some ⟨oc13, od13, .func (PySem.W.fnOf "_law_clock" "_law_clock" (defArgs s_law_clock) (defBody s_law_clock) (defScope s_law_clock) .none kV13 dc13 pm13 an13 cd13 ct13), sl13⟩) (c13 : PySem.W.codeIn K cd13 "_law_clock" = true) (k13 : PySem.W.keepIn K (.ref f13) = true)
    (a14 : PySem.W.nsIn K mainGlobals "law" = some (some (.ref f14))) (l14 : K.lookup f14 = some ⟨oc14, od14, .func (PySem.W.fnOf "law" "law" (defArgs s_law) (defBody s_law) (defScope s_law) .none kV14 dc14 pm14 an14 cd14 ct14), sl14⟩) (c14 : PySem.W.codeIn K cd14 "law" = true) (k14 : PySem.W.keepIn K (.ref f14) = true)
    (z0 : PySem.W.nsIn K mainGlobals "len" = some none)
    (z1 : PySem.W.nsIn K mainGlobals "min" = some none)
    (z2 : PySem.W.nsIn K mainGlobals "int" = some none)
    (z3 : PySem.W.nsIn K mainGlobals "isinstance" = some none)
    (z4 : PySem.W.nsIn K mainGlobals "list" = some none)
    (z5 : PySem.W.nsIn K mainGlobals "tuple" = some none)
    (z6 : PySem.W.nsIn K mainGlobals "bool" = some none)
    (z7 : PySem.W.nsIn K mainGlobals "range" = some none)
    (z8 : PySem.W.nsIn K mainGlobals "enumerate" = some none)
    (z9 : PySem.W.nsIn K mainGlobals "sorted" = some none)
    (z10 : PySem.W.nsIn K mainGlobals "str" = some none)
    (hlaw : ∀ ns : List Int, ns.length ≤ 63 → lawN tbl 40 d_law ns = some (.d (.bool true), none)) :
    ∃ fd : FuncData, (∀ (s : Shared) (v : Value), BindsTo s fd ⟨[v], []⟩ [("script", v)]) ∧ ∀ base : Heap, K.In base → base.Ns mainGlobals mg → FnOk l.prog w K mg base CX0 41 fa fd ["script"] (Mn.spLaw K 63) := by
  have so : ∀ n N, AllSorted G (callN tbl n) n N := all_sorted (fun _ => f2_all)
  have top : Top G tbl K mg := by
    refine ⟨fun f fd h => ?_, ?_, ?_⟩
    · match f, h with
      | 18, h => cases h; exact ⟨s_next_time, N_next_time, ["line", "minute"], ⟨_, _, fun_mk (st := s_next_time) l0 c0 k0, PySem.W.mg_of X Gg a0, (fun_mk (st := s_next_time) l0 c0 k0).binds (ps := ["line", "minute"]) fun _ _ _ _ _ _ us hl => match us, hl with | [_, _], _ => rfl⟩, sc_next_time, rfl, rfl, chk_next_time⟩
      | 19, h => cases h; exact ⟨s_next_ones, N_next_ones, ["lines", "rows", "minute"], ⟨_, _, fun_mk (st := s_next_ones) l1 c1 k1, PySem.W.mg_of X Gg a1, (fun_mk (st := s_next_ones) l1 c1 k1).binds (ps := ["lines", "rows", "minute"]) fun _ _ _ _ _ _ us hl => match us, hl with | [_, _, _], _ => rfl⟩, sc_next_ones, rfl, rfl, chk_next_ones⟩
      | 20, h => cases h; exact ⟨s_board, N_board, ["lines", "rows", "minute"], ⟨_, _, fun_mk (st := s_board) l2 c2 k2, PySem.W.mg_of X Gg a2, (fun_mk (st := s_board) l2 c2 k2).binds (ps := ["lines", "rows", "minute"]) fun _ _ _ _ _ _ us hl => match us, hl with | [_, _, _], _ => rfl⟩, sc_board, rfl, rfl, chk_board⟩
      | 21, h => cases h; exact ⟨s_rounded, N_rounded, ["lines", "rows", "minute", "step"], ⟨_, _, fun_mk (st := s_rounded) l3 c3 k3, PySem.W.mg_of X Gg a3, (fun_mk (st := s_rounded) l3 c3 k3).binds (ps := ["lines", "rows", "minute", "step"]) fun _ _ _ _ _ _ us hl => match us, hl with | [_, _, _, _], _ => rfl⟩, sc_rounded, rfl, rfl, chk_rounded⟩
      | 22, h => cases h; exact ⟨s_clocks, N_clocks, ["lines", "rows", "minute"], ⟨_, _, fun_mk (st := s_clocks) l4 c4 k4, PySem.W.mg_of X Gg a4, (fun_mk (st := s_clocks) l4 c4 k4).binds (ps := ["lines", "rows", "minute"]) fun _ _ _ _ _ _ us hl => match us, hl with | [_, _, _], _ => rfl⟩, sc_clocks, rfl, rfl, chk_clocks⟩
      | 5, h => cases h; exact ⟨s_law_draw, N_law_draw, ["tape", "many"], ⟨_, _, fun_mk (st := s_law_draw) l5 c5 k5, PySem.W.mg_of X Gg a5, (fun_mk (st := s_law_draw) l5 c5 k5).binds (ps := ["tape", "many"]) fun _ _ _ _ _ _ us hl => match us, hl with | [_, _], _ => rfl⟩, sc_law_draw, rfl, rfl, chk_law_draw⟩
      | 8, h => cases h; exact ⟨s_law_like, N_law_like, ["one", "two"], ⟨_, _, fun_mk (st := s_law_like) l6 c6 k6, PySem.W.mg_of X Gg a6, (fun_mk (st := s_law_like) l6 c6 k6).binds (ps := ["one", "two"]) fun _ _ _ _ _ _ us hl => match us, hl with | [_, _], _ => rfl⟩, sc_law_like, rfl, rfl, chk_law_like⟩
      | 11, h => cases h; exact ⟨s_law_every, N_law_every, ["tape", "kind"], ⟨_, _, fun_mk (st := s_law_every) l7 c7 k7, PySem.W.mg_of X Gg a7, (fun_mk (st := s_law_every) l7 c7 k7).binds (ps := ["tape", "kind"]) fun _ _ _ _ _ _ us hl => match us, hl with | [_, _], _ => rfl⟩, sc_law_every, rfl, rfl, chk_law_every⟩
      | 12, h => cases h; exact ⟨s_law_line, N_law_line, ["tape", "kind"], ⟨_, _, fun_mk (st := s_law_line) l8 c8 k8, PySem.W.mg_of X Gg a8, (fun_mk (st := s_law_line) l8 c8 k8).binds (ps := ["tape", "kind"]) fun _ _ _ _ _ _ us hl => match us, hl with | [_, _], _ => rfl⟩, sc_law_line, rfl, rfl, chk_law_line⟩
      | 13, h => cases h; exact ⟨s_law_lines, N_law_lines, ["tape", "most", "kind"], ⟨_, _, fun_mk (st := s_law_lines) l9 c9 k9, PySem.W.mg_of X Gg a9, (fun_mk (st := s_law_lines) l9 c9 k9).binds (ps := ["tape", "most", "kind"]) fun _ _ _ _ _ _ us hl => match us, hl with | [_, _, _], _ => rfl⟩, sc_law_lines, rfl, rfl, chk_law_lines⟩
      | 23, h => cases h; exact ⟨s_law_next, N_law_next, ["lines", "rows", "minute"], ⟨_, _, fun_mk (st := s_law_next) l10 c10 k10, PySem.W.mg_of X Gg a10, (fun_mk (st := s_law_next) l10 c10 k10).binds (ps := ["lines", "rows", "minute"]) fun _ _ _ _ _ _ us hl => match us, hl with | [_, _, _], _ => rfl⟩, sc_law_next, rfl, rfl, chk_law_next⟩
      | 24, h => cases h; exact ⟨s_law_board, N_law_board, ["lines", "rows", "minute"], ⟨_, _, fun_mk (st := s_law_board) l11 c11 k11, PySem.W.mg_of X Gg a11, (fun_mk (st := s_law_board) l11 c11 k11).binds (ps := ["lines", "rows", "minute"]) fun _ _ _ _ _ _ us hl => match us, hl with | [_, _, _], _ => rfl⟩, sc_law_board, rfl, rfl, chk_law_board⟩
      | 16, h => cases h; exact ⟨s_law_minute, N_law_minute, ["tape"], ⟨_, _, fun_mk (st := s_law_minute) l12 c12 k12, PySem.W.mg_of X Gg a12, (fun_mk (st := s_law_minute) l12 c12 k12).binds (ps := ["tape"]) fun _ _ _ _ _ _ us hl => match us, hl with | [_], _ => rfl⟩, sc_law_minute, rfl, rfl, chk_law_minute⟩
      | 25, h => cases h; exact ⟨s_law_clock, N_law_clock, ["minute"], ⟨_, _, fun_mk (st := s_law_clock) l13 c13 k13, PySem.W.mg_of X Gg a13, (fun_mk (st := s_law_clock) l13 c13 k13).binds (ps := ["minute"]) fun _ _ _ _ _ _ us hl => match us, hl with | [_], _ => rfl⟩, sc_law_clock, rfl, rfl, chk_law_clock⟩
    · exact List.forall_mem_cons.mpr ⟨PySem.W.mg_none_of X Gg z0, List.forall_mem_cons.mpr ⟨PySem.W.mg_none_of X Gg z1, List.forall_mem_cons.mpr ⟨PySem.W.mg_none_of X Gg z2, List.forall_mem_cons.mpr ⟨PySem.W.mg_none_of X Gg z3, List.forall_mem_cons.mpr ⟨PySem.W.mg_none_of X Gg z4, List.forall_mem_cons.mpr ⟨PySem.W.mg_none_of X Gg z5, List.forall_mem_cons.mpr ⟨PySem.W.mg_none_of X Gg z6, List.forall_mem_cons.mpr ⟨PySem.W.mg_none_of X Gg z7, List.forall_mem_cons.mpr ⟨PySem.W.mg_none_of X Gg z8, List.forall_mem_cons.mpr ⟨PySem.W.mg_none_of X Gg z9, List.forall_mem_cons.mpr ⟨PySem.W.mg_none_of X Gg z10, (fun _ h => by cases h)⟩⟩⟩⟩⟩⟩⟩⟩⟩⟩⟩
    · intro x v hx
      cases hx
  have e := hfa.symm.trans (PySem.W.mg_of X Gg a14)
  cases e
  have F1 := fun_mk (st := s_law) l14 c14 k14
  exact ⟨PySem.W.fnOf "law" "law" (defArgs s_law) (defBody s_law) (defScope s_law) .none kV14 dc14 pm14 an14 cd14 ct14, fun s v => .of_eq rfl, fun base _ _ => law_at so top ⟨⟨_, _, F1, PySem.W.mg_of X Gg a14, F1.binds (ps := ["script"]) fun _ _ _ _ _ _ us hl => match us, hl with | [_], _ => rfl⟩, sc_law, rfl, rfl, chk_law⟩ F1 rfl hlaw⟩
end K02

namespace Mn
open PySem
namespace K02
open Bd _root_.K02
theorem gn : Gen tbl := ⟨rfl, rfl, rfl, rfl⟩
theorem br : Brd tbl := ⟨⟨rfl, rfl⟩, rfl⟩
theorem rn : Rnd tbl := ⟨⟨rfl, rfl⟩, rfl⟩
theorem ck : Clk tbl := ⟨⟨rfl, rfl⟩, rfl⟩
def Iv (ns : List Int) (ρ : Env) : Prop := ∃ t s2 a3 a4 a5 a6 a7 a11 a12, ρ = [some (.scr ns), some (.own t), s2, a3, a4, a5, a6, a7, none, none, none, a11, a12] ∧ TapeOk t
theorem turn {ns : List Int} {ρ : Env} (i : Iv ns ρ) : ∃ ρ', evS (callN tbl 40) b1_law ρ = some (.nx ρ') ∧ Iv ns ρ' := by
  obtain ⟨t, s2, a3, a4, a5, a6, a7, a11, a12, rfl, ht⟩ := i
  obtain ⟨ls, t1, e1, ho, o1⟩ := lines_t gn 36 ht "any" 5 (by decide) (by decide)
  obtain ⟨q, t2, e2, q0, q1, o2⟩ := draw_t gn.h5 39 o1 8 (by decide) (by decide)
  obtain ⟨m, t3, e3, m0, m1, o3⟩ := minute_t gn.h5 rfl 38 o2
  obtain ⟨p, t4, e4, p0, p1, o4⟩ := draw_t gn.h5 39 o3 15 (by decide) (by decide)
  obtain ⟨rows, hrw⟩ : ∃ rows, 1 + q = rows := ⟨_, rfl⟩
  obtain ⟨step, hst⟩ : ∃ step, 1 + p = step := ⟨_, rfl⟩
  have hl5 : ls.length ≤ 5 := ho.2.2
  have hne := okls_ne ho
  have w1 : callN tbl 40 23 none [eLs ls, .int rows, .int m] = some (.own ((nextP ls rows.toNat m).map (eDep ls)), none) := law_next_t (n := 39) rfl ho.1 hne (by omega) (by omega) (by omega)
  have w2 : callN tbl 40 20 none [eLs ls, .int rows, .int m] = some (.own ((bdP ls rows.toNat m).map eRow), none) := board_spec br (n := 37) ho.1 hne (by omega) (by omega) (by omega)
  have w3 : callN tbl 40 21 none [eLs ls, .int rows, .int m, .int step] = some (.own ((rdP ls rows.toNat m step).map eRow), none) := rounded_spec rn (n := 37) ho.1 hne (by omega) (by omega) (by omega) (by omega) (by omega)
  have w4 : callN tbl 40 22 none [eLs ls, .int rows, .int m] = some (.own ((ckP ls rows.toNat m).map eCk), none) := clocks_t ck (n := 37) ho.1 hne (by omega) (by omega) (by omega)
  have w5 : callN tbl 40 24 none [eLs ls, .int rows, .int m] = some (.own ((bdP ls rows.toNat m).map eRow), none) := law_board_t (n := 38) rfl rfl ho.1 hne (by omega) (by omega) (by omega)
  have hlen : (nextP ls rows.toNat m).length = rows.toNat := by unfold nextP; rw [nx_len]
  have k1 : callN tbl 40 8 none [.list ((bdP ls rows.toNat m).map eRow), .list ((bdP ls rows.toNat m).map eRow)] = some (.d (.bool true), none) := like_board (n := 37) rfl (by rw [bdP_len]; omega)
  have k2 : callN tbl 40 8 none [.list ((rdP ls rows.toNat m step).map eRow), .list ((rdP ls rows.toNat m step).map eRow)] = some (.d (.bool true), none) := like_board (n := 37) rfl (by unfold rdP; rw [List.length_map, bdP_len]; omega)
  have k3 : callN tbl 40 8 none [.list ((ckP ls rows.toNat m).map eCk), .list ((ckP ls rows.toNat m).map eCk)] = some (.d (.bool true), none) := like_refl (n := 37) rfl (k := 2) (lk_l (by unfold ckP; rw [List.length_map, hlen]; omega) fun x _ => lk_ck x)
  have iw : inW step = true := by simp [inW]; omega
  have hc1 := fun s7 s11 s12 => comp_m (C := callN tbl 40) (own := [8, 9, 10]) (tg := .cons (.nm 8) (.cons (.nm 9) (.cons (.nm 10) .nil))) (cond := .emp) (elt := .tup (.con (.var 10) (.con (.bin .Sub (.var 8) (.var 5)) .emp))) (enc := eDep ls)
    (ρ := [some (.scr ns), some (.own t3), s2, some (.d (eLs ls)), some (.d (.int rows)), some (.d (.int m)), some (.d (.list ((nextP ls rows.toNat m).map (eDep ls)))), s7, none, none, none, s11, s12]) (fun p => eRow (labAt ls p.2, p.1 - m)) (xs := nextP ls rows.toNat m) fun p _ => by
      simp [comp1, -List.map_map, -evI_rng, evI_rngV, -Option.bind_some, -Option.map_some, obind, omap, evFn, runFn, startE, look2, look, isVar, peek, peekA, rdVar, tyOf, outE, ioAt, retV, argD, argK, frzAll, Val.scalar, eDep, eRow]
  have hc2 := fun s7 s12 => comp_m (C := callN tbl 40) (own := [8, 9, 10]) (tg := .cons (.nm 8) (.cons (.nm 9) (.cons (.nm 10) .nil))) (cond := .emp) (elt := .tup (.con (.var 10) (.con (.bin .Mult (.bin .FloorDiv (.bin .Sub (.var 8) (.var 5)) (.var 11)) (.var 11)) .emp))) (enc := eDep ls)
    (ρ := [some (.scr ns), some (.own t4), s2, some (.d (eLs ls)), some (.d (.int rows)), some (.d (.int m)), some (.d (.list ((nextP ls rows.toNat m).map (eDep ls)))), s7, none, none, none, some (.d (.int step)), s12]) (fun p => eRow (labAt ls p.2, (p.1 - m) / step * step)) (xs := nextP ls rows.toNat m) fun p _ => by
      simp [comp1, -List.map_map, -evI_rng, evI_rngV, -Option.bind_some, -Option.map_some, obind, omap, evFn, runFn, startE, look2, look, isVar, peek, peekA, rdVar, tyOf, outE, ioAt, retV, argD, argK, frzAll, Val.scalar, eDep, eRow, show 0 < step by omega, show step < 18446744073709551616 by omega, iw]
  have hc3 := fun s7 s11 s12 => comp_m (C := callN tbl 40) (own := [8, 9, 10]) (tg := .cons (.nm 8) (.cons (.nm 9) (.cons (.nm 10) .nil))) (cond := .emp) (elt := .tup (.con (.var 10) (.con (.call 25 (.con (.var 8) .emp)) .emp))) (enc := eDep ls)
    (ρ := [some (.scr ns), some (.own t4), s2, some (.d (eLs ls)), some (.d (.int rows)), some (.d (.int m)), some (.d (.list ((nextP ls rows.toNat m).map (eDep ls)))), s7, none, none, none, s11, s12]) (fun p => eCk (labAt ls p.2, clkS p.1)) (xs := nextP ls rows.toNat m) fun p _ => by
      have h : callN tbl 40 25 none [.int p.1] = some (.d (.str (clkS p.1)), none) := law_clock_t (n := 39) rfl
      simp [comp1, -List.map_map, -evI_rng, evI_rngV, -Option.bind_some, -Option.map_some, obind, omap, evFn, runFn, startE, look2, look, isVar, peek, peekA, rdVar, tyOf, outE, ioAt, retV, argD, argK, frzAll, Val.scalar, eDep, eCk, h]
  have m1 : ((nextP ls rows.toNat m).map fun p => eRow (labAt ls p.2, p.1 - m)) = (bdP ls rows.toNat m).map eRow := by unfold bdP; rw [List.map_map]; rfl
  have m2 : ((nextP ls rows.toNat m).map fun p => eRow (labAt ls p.2, (p.1 - m) / step * step)) = (rdP ls rows.toNat m step).map eRow := by unfold rdP bdP; rw [List.map_map, List.map_map]; rfl
  have m3 : ((nextP ls rows.toNat m).map fun p => eCk (labAt ls p.2, clkS p.1)) = (ckP ls rows.toNat m).map eCk := by unfold ckP; rw [List.map_map]; rfl
  rw [m1] at hc1
  rw [m2] at hc2
  rw [m3] at hc3
  have hl1 : ((nextP ls rows.toNat m).map (eDep ls)).length < 16777216 := by rw [List.length_map, hlen]; omega
  have hl2 : ((bdP ls rows.toNat m).map eRow).length < 16777216 := by rw [List.length_map, bdP_len]; omega
  have hq : eqD (.list ((bdP ls rows.toNat m).map eRow)) (.list ((bdP ls rows.toNat m).map eRow)) = some true := by rw [eqD_rowsL]; simp
  generalize (bdP ls rows.toNat m).map eRow = B at *
  generalize (rdP ls rows.toNat m step).map eRow = R at *
  generalize (ckP ls rows.toNat m).map eCk = Q at *
  generalize (nextP ls rows.toNat m).map (eDep ls) = N at *
  generalize callN tbl 40 = C at *
  exact ⟨_, by simp [-List.map_map, -evI_rng, evI_rngV, -Option.bind_some, -Option.map_some, obind, omap, evFn, runFn, startE, look2, look, isVar, peek, peekA, rdVar, tyOf, outE, ioAt, retV, argD, argK, frzAll, Val.scalar, b1_law, e1, e2, e3, hrw, w1, w2, iterD, hl1, hc1, k1, e4, hst, hc2, w3, k2, w4, hc3, k3, hl2, w5, hq] <;> and_intros <;> rfl, t4, _, _, _, _, _, _, _, _, rfl, o4⟩
theorem law_true (ns : List Int) (hl : ns.length ≤ 63) : Mn.lawN tbl 40 d_law ns = some (.d (.bool true), none) := by
  have r12 : rngD [.int 12] = some ((rI 0 12).map .int) := rng_1 (by decide) (by decide)
  have hI : Iv ns [some (.scr ns), some (.own [.list (ns.map .int), .int 0, .int 0]), none, none, none, none, none, none, none, none, none, none, none] :=
    ⟨_, none, none, none, none, none, none, none, none, rfl, ⟨ns, 0, 0, rfl, hl, by decide, by decide⟩⟩
  obtain ⟨ρ', f1, t', a2, a3, a4, a5, a6, a7, a11, a12, rfl, o'⟩ := for_p (C := callN tbl 40) (tg := .nm 2) (b := b1_law) (enc := PyData.int) (fun _ => Iv ns) (all := rI 0 12) hI
    (fun pre x post _ ρ i => by
      obtain ⟨t, s2, a3, a4, a5, a6, a7, a11, a12, rfl, ht⟩ := i
      unfold for1
      simp only [bindT_nm, List.length_cons, List.length_nil, put_succ, put_zero, Nat.reduceAdd, Nat.reduceLT, if_true, Option.bind_some]
      exact turn ⟨t, _, a3, a4, a5, a6, a7, a11, a12, rfl, ht⟩)
  have k3 : ∀ l ∈ [(⟨97, 10, 0⟩ : Ln), ⟨98, 15, 5⟩, ⟨97, 6, 3⟩], l.ok := fun l hl => by
    simp only [List.mem_cons, List.not_mem_nil, or_false] at hl
    rcases hl with rfl | rfl | rfl <;> exact okL (by decide)
  have w1 : callN tbl 40 22 none [.tuple [.tuple [.str "a", .int 10, .int 0], .tuple [.str "b", .int 15, .int 5], .tuple [.str "a", .int 6, .int 3]], .int 2, .int 1439] = some (.own [.tuple [.str "a", .str "00:00"], .tuple [.str "a", .str "00:03"]], none) := by
    have h := clocks_t ck (n := 37) k3 (by simp) (by simp) (rows := 2) (m := 1439) (by decide) (by decide)
    rw [show ckP [(⟨97, 10, 0⟩ : Ln), ⟨98, 15, 5⟩, ⟨97, 6, 3⟩] (Int.toNat 2) 1439 = [(97, ("00:00" : Str)), (97, ("00:03" : Str))] by decide +kernel] at h
    exact h
  have q1 : ∀ x y : Str, eqD (.list [.tuple [.str "a", .str x], .tuple [.str "a", .str y]]) (.list [.tuple [.str "a", .str x], .tuple [.str "a", .str y]]) = some true := fun x y => by
    rw [eqD_of (by simp [PyData.depth, PyData.depthAll]) (by simp [PyData.depth, PyData.depthAll])]
    simp [PyData.eqv, PyData.eqvAll]
  have e1 : evS (callN tbl 40) (takeS 2 d_law.body) (startE 13 [.scr ns]) = some (.nx [some (.scr ns), some (.own t'), a2, a3, a4, a5, a6, a7, none, none, none, a11, a12]) := by
    simp [-List.map_map, -evI_rng, evI_rngV, -Option.bind_some, -Option.map_some, obind, omap, evFn, runFn, startE, look2, look, isVar, peek, peekA, rdVar, tyOf, outE, ioAt, retV, argD, argK, frzAll, Val.scalar, takeS, d_law, r12, f1]
  have key : ∀ C : CallF, C 22 none [.tuple [.tuple [.str "a", .int 10, .int 0], .tuple [.str "b", .int 15, .int 5], .tuple [.str "a", .int 6, .int 3]], .int 2, .int 1439] = some (.own [.tuple [.str "a", .str "00:00"], .tuple [.str "a", .str "00:03"]], none) →
      evS C (dropS 2 d_law.body) [some (.scr ns), some (.own t'), a2, a3, a4, a5, a6, a7, none, none, none, a11, a12] = some (.rt (.d (.bool true)) [some (.scr ns), some (.own t'), a2, a3, a4, a5, a6, a7, none, none, none, a11, a12]) := by
    intro C w1
    simp [-List.map_map, -evI_rng, evI_rngV, -Option.bind_some, -Option.map_some, obind, omap, evFn, runFn, startE, look2, look, isVar, peek, peekA, rdVar, tyOf, outE, ioAt, retV, argD, argK, frzAll, Val.scalar, dropS, d_law, w1, q1]
  exact law_rt rfl ((evS_split 2 e1).trans (key _ w1))
end K02
end Mn

theorem K02.law_true (ns : List Int) (hl : ns.length ≤ 63) : Mn.lawN K02.tbl 40 K02.d_law ns = some (.d (.bool true), none) := Mn.K02.law_true ns hl
open PySem PySem.W PyProof.Rows
set_option maxHeartbeats 0 in
theorem PySem.Challenge.cw_nextboards_k02_whole_boards_holds : PySem.Challenge.rw_nextboards_k02_whole_boards.Holds := by
  w_on; o_law; k_head; (case hw => w_witness2)
  k_fill
  refine L2.walk_of (l := PySem.Challenge.rw_nextboards_k02_whole_boards) (n := 63) (k := 41) (x := "script") (CX := fun _ => L2.CX0) (sp := fun w => Mn.spLaw _ 63) rfl (by decide) rfl ⟨rfl, by decide, by decide⟩ (fun w h Y => PySem.W.kIn_of Y) ?F (fun _ _ a ns hl _ hS => ⟨a, ns, rfl, hS, hl, fun _ => rfl⟩) (fun _ _ _ _ _ h => h)
  case F =>
    intro w mg fa h KX G hmg
    refine' K02.all_mk KX G hmg ?a0 ?l0 ?c0 ?k0 ?a1 ?l1 ?c1 ?k1 ?a2 ?l2 ?c2 ?k2 ?a3 ?l3 ?c3 ?k3 ?a4 ?l4 ?c4 ?k4 ?a5 ?l5 ?c5 ?k5 ?a6 ?l6 ?c6 ?k6 ?a7 ?l7 ?c7 ?k7 ?a8 ?l8 ?c8 ?k8 ?a9 ?l9 ?c9 ?k9 ?a10 ?l10 ?c10 ?k10 ?a11 ?l11 ?c11 ?k11 ?a12 ?l12 ?c12 ?k12 ?a13 ?l13 ?c13 ?k13 ?a14 ?l14 ?c14 ?k14 ?z0 ?z1 ?z2 ?z3 ?z4 ?z5 ?z6 ?z7 ?z8 ?z9 ?z10 K02.law_true
    (case a0 => k_is); (case l0 => k_is); (case c0 => k_is); (case k0 => k_is)
    (case a1 => k_is); (case l1 => k_is); (case c1 => k_is); (case k1 => k_is)
    (case a2 => k_is); (case l2 => k_is); (case c2 => k_is); (case k2 => k_is)
    (case a3 => k_is); (case l3 => k_is); (case c3 => k_is); (case k3 => k_is)
    (case a4 => k_is); (case l4 => k_is); (case c4 => k_is); (case k4 => k_is)
    (case a5 => k_is); (case l5 => k_is); (case c5 => k_is); (case k5 => k_is)
    (case a6 => k_is); (case l6 => k_is); (case c6 => k_is); (case k6 => k_is)
    (case a7 => k_is); (case l7 => k_is); (case c7 => k_is); (case k7 => k_is)
    (case a8 => k_is); (case l8 => k_is); (case c8 => k_is); (case k8 => k_is)
    (case a9 => k_is); (case l9 => k_is); (case c9 => k_is); (case k9 => k_is)
    (case a10 => k_is); (case l10 => k_is); (case c10 => k_is); (case k10 => k_is)
    (case a11 => k_is); (case l11 => k_is); (case c11 => k_is); (case k11 => k_is)
    (case a12 => k_is); (case l12 => k_is); (case c12 => k_is); (case k12 => k_is)
    (case a13 => k_is); (case l13 => k_is); (case c13 => k_is); (case k13 => k_is)
    (case a14 => k_is); (case l14 => k_is); (case c14 => k_is); (case k14 => k_is)
    (case z0 => k_is); (case z1 => k_is); (case z2 => k_is); (case z3 => k_is); (case z4 => k_is); (case z5 => k_is); (case z6 => k_is); (case z7 => k_is); (case z8 => k_is); (case z9 => k_is); (case z10 => k_is)

