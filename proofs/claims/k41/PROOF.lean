import PyProof.Rows.All
import Wide.All
import OpenK.AllK
import Wide.FinOn
import HandS.Base
import HandS.Call
import HandS.List
import HandS.Comp
import HandS.Ends
import HandS.Dict
import HandS.Iter
import HandS.Words
import HandS.WordsList
import HandS.Style
import HandS.Flow
import HandS.TupAny
import HandS.TupMul
import HandS.Zip
import HandS.IsInst
import HandS.Defaults
import HandS.Wide
import HandS.Gcd
import HandS.Conv
import HandS.Deep
import HandS.Text
import PyProof.Rows.IntBool
import PyProof.CallStr
import HandS.SortInts
import KE.SortData
import KE.KMathG
import KE.GoesNew
import KE.GoesMore
import KE.GoesEnum
import PyProof.EnumMake
import HandS.RaiseMore
import PyProof.FString2
import KE.KStateDown
import HandS.More
import HandS.Head0
import HandS.Head1
import HandS.Head2
import HandS.Head3
import HandS.HeadEnd
import HandS.HeadHook1
import HandS.HeadHook2
import PySem.Challenge.RW_nearsteps_k41_coarse_tables_index_and_co
set_option linter.all false
set_option Elab.async false
/-! Mn: a small language for the programs' defs, its meaning over plain data. -/
namespace Mn
open PySem

abbrev PD := PyData
abbrev lim : Nat := 1000000

/-- values: data; a list or a dict that its owner may still change; the slot that owns one -/
inductive W where
  | d (x : PD)
  | ol (xs : List W)
  | od (ks : List PD) (vs : List W)
  | al (i : Nat)

mutual
def W.pd : W → PD
  | .d x => x
  | .ol xs => .list (W.pds xs)
  | .od ks vs => .dict (ks.zip (W.pds vs))
  | .al _ => .none
def W.pds : List W → List PD
  | [] => []
  | w :: ws => W.pd w :: W.pds ws
end
theorem W.pds_map (l : List W) : W.pds l = l.map W.pd := by
  induction l with
  | nil => rfl
  | cons w l ih => simp only [W.pds, List.map_cons, ih]

abbrev Env := List (Option W)

inductive Bo | add | sub | mul | fdiv | mod | pow | band | shl | shr
inductive Co | eq | ne | lt | le | gt | ge | isin | notin | eqT | neT | isB | nisB
inductive B1 | len | abs | sum | max | min | all | any | int | tuple | list | repr | str | sorted | isqrt
inductive B2 | max | min | gcd
inductive Ty | int | bool | str | tuple | list | dict
  deriving DecidableEq
/-- targets of loops -/
inductive Tg | nm (i : Nat) | tp (is : List Nat)

mutual
inductive IE where
  | var (i : Nat) | frz (i : Nat)
  | cI (n : Int) | cS (s : Str) | cB (b : Bool) | cN
  | bin (o : Bo) (a b : IE)
  | neg (a : IE)
  | cmp (o : Co) (a b : IE)
  | cmp2 (o p : Co) (a b c : IE)
  | isN (neg : Bool) (a : IE)
  | andv (es : IL) | orv (es : IL) | notv (a : IE)
  | ife (t a b : IE)
  | tup (es : IL) | lst (es : IL)
  | dct (ks : List (Sum Int Str)) (vs : IL)
  | idx (a b : IE)
  | repL (a b : IE)
  | pth (i : Nat) (k j : IE) | getK (i : Nat) (k : Str) | neK (i : Nat) (k : Str)
  | slc (a lo hi : IE) | slcL (a lo : IE) | slcH (a hi : IE) | slcA (a : IE) | rev (a : IE)
  | b1 (f : B1) (a : IE) | b2 (f : B2) (a b : IE)
  | isi (a : IE) (t : Ty)
  | cal (f : Nat) (args kwa : IL) (kw : List Nat)
  | lc (mvd : Bool) (own : List Nat) (tg : Tg) (src : II) (ifs elt : IE)
  | lc2 (mvd : Bool) (own own1 : List Nat) (tg : Tg) (src : II) (tg1 : Tg) (src1 : II) (elt : IE)
  | popS (i : Nat) | popI (i : Nat) (e : IE) | popK (i : Nat) (k : Str)
  | upr (i : Nat)
  | fzE (e : IE)
inductive IL where
  | nil | cons (e : IE) (r : IL) | ref (i : Nat) (r : IL)
inductive II where
  | rng1 (e : IE) | rng2 (a b : IE) | seq (e : IE) | enm (e : IE) | zip (a b : IE) | zip3 (a b c : IE)
end

mutual
inductive IS where
  | set (i : Nat) (e : IE)
  | par (is : List Nat) (es : IL)
  | unp (is : List Nat) (e : IE)
  | sub (i : Nat) (k e : IE)
  | sub2 (i : Nat) (k j e : IE)
  | psub (ts : List (Nat × IE × Option IE)) (es : IL)
  | subK (i : Nat) (k : Str) (e : IE)
  | aug (i : Nat) (e : IE)
  | augs (i : Nat) (k e : IE)
  | app (i : Nat) (e : IE) | ext (i : Nat) (e : IE) | appK (i : Nat) (k : Str) (e : IE)
  | exp (e : IE)
  | ret (e : IE) | retN
  | ife (t : IE) (a b : IB)
  | fora (tg : Tg) (src : II) (body : IB)
  | whl (t : IE) (body : IB)
  | brk | cnt | pas | rse
inductive IB where
  | nil | cons (s : IS) (r : IB)
end

/-! ### operations on data -/
def MulOk (i j : Int) : Prop := i.natAbs < 2 ^ 64 ∨ j.natAbs < 2 ^ 64 ∨ (i.natAbs < 2 ^ 4096 ∧ j.natAbs < 2 ^ 4096)

def bo : Bo → PD → PD → (W → Prop) → Prop
  | .add, .int a, .int b, Q => Q (.d (.int (a + b)))
  | .add, .bool a, .int b, Q => Q (.d (.int ((if a = true then (1 : Int) else 0) + b)))
  | .add, .int a, .bool b, Q => Q (.d (.int (a + if b = true then (1 : Int) else 0)))
  | .sub, .bool a, .int b, Q => Q (.d (.int ((if a = true then (1 : Int) else 0) - b)))
  | .sub, .int a, .bool b, Q => Q (.d (.int (a - if b = true then (1 : Int) else 0)))
  | .mul, .bool a, .int b, Q => Q (.d (.int ((if a = true then (1 : Int) else 0) * b)))
  | .add, .tuple xs, .tuple ys, Q => xs.length + ys.length ≤ lim ∧ Q (.d (.tuple (xs ++ ys)))
  | .add, .list xs, .list ys, Q => xs.length + ys.length ≤ lim ∧ Q (.ol ((xs ++ ys).map .d))
  | .add, .str x, .str y, Q => x.length + y.length ≤ lim ∧ Q (.d (.str (x ++ y)))
  | .sub, .int a, .int b, Q => Q (.d (.int (a - b)))
  | .mul, .int a, .int b, Q => MulOk a b ∧ Q (.d (.int (a * b)))
  | .mul, .tuple xs, .int b, Q => 0 ≤ b ∧ b ≤ 1000 ∧ xs.length ≤ 1000 ∧ Q (.d (.tuple (List.replicate b.toNat xs).flatten))
  | .fdiv, .int a, .int b, Q => b ≠ 0 ∧ b.natAbs < 2 ^ 4096 ∧ Q (.d (.int (a.fdiv b)))
  | .mod, .int a, .int b, Q => b ≠ 0 ∧ Q (.d (.int (a.fmod b)))
  | .pow, .int a, .int b, Q => 0 ≤ b ∧ b ≤ 1000 ∧ a.natAbs < 2 ^ 64 ∧ Q (.d (.int (a ^ b.toNat)))
  | .band, .int a, .int b, Q => Q (.d (.int (Builtin.bitAnd a b)))
  | .shl, .int a, .int b, Q => 0 ≤ b ∧ b ≤ 1000 ∧ a.natAbs < 2 ^ 64 ∧ Q (.d (.int (a * 2 ^ b.toNat)))
  | .shr, .int a, .int b, Q => 0 ≤ b ∧ Q (.d (.int (a / 2 ^ b.toNat)))
  | _, _, _, _ => False

def co : Co → PD → PD → (Bool → Prop) → Prop
  | .eq, x, y, Q => SeqAt.shaped x = true ∧ SeqAt.shaped y = true ∧ Q (PyData.eqv x y)
  | .ne, x, y, Q => SeqAt.shaped x = true ∧ SeqAt.shaped y = true ∧ Q (!PyData.eqv x y)
  | .lt, .int a, .int b, Q => Q (decide (a < b))
  | .le, .int a, .int b, Q => Q (decide (a ≤ b))
  | .gt, .int a, .int b, Q => Q (decide (b < a))
  | .ge, .int a, .int b, Q => Q (decide (b ≤ a))
  | .isin, x, .list ys, Q => SeqAt.shaped x = true ∧ SeqAt.shaped (.list ys) = true ∧ Q (ys.any fun z => PyData.eqv z x)
  | .notin, x, .list ys, Q => SeqAt.shaped x = true ∧ SeqAt.shaped (.list ys) = true ∧ Q (!ys.any fun z => PyData.eqv z x)
  | .isin, x, .tuple ys, Q => SeqAt.shaped x = true ∧ SeqAt.shaped (.tuple ys) = true ∧ Q (ys.any fun z => PyData.eqv z x)
  | .notin, x, .tuple ys, Q => SeqAt.shaped x = true ∧ SeqAt.shaped (.tuple ys) = true ∧ Q (!ys.any fun z => PyData.eqv z x)
  | .eqT, .tuple xs, .tuple [], Q => Q xs.isEmpty
  | .neT, .tuple xs, .tuple [], Q => Q (!xs.isEmpty)
  | .eqT, .list xs, .list [], Q => Q xs.isEmpty
  | .neT, .list xs, .list [], Q => Q (!xs.isEmpty)
  | .isB, .bool a, .bool b, Q => Q (decide (a = b))
  | .nisB, .bool a, .bool b, Q => Q (!decide (a = b))
  | _, _, _, _ => False

/-- all intL of a list -/
def intL : List PD → Option (List Int)
  | [] => some []
  | .int i :: r => (intL r).map (i :: ·)
  | _ :: _ => none
def boolL : List PD → Option (List Bool)
  | [] => some []
  | .bool i :: r => (boolL r).map (i :: ·)
  | _ :: _ => none
def maxI : List Int → Int
  | [] => 0
  | [x] => x
  | x :: y :: r => max x (maxI (y :: r))
def minI : List Int → Int
  | [] => 0
  | [x] => x
  | x :: y :: r => min x (minI (y :: r))

def tyOf : PD → Ty → Bool
  | .int _, .int => true
  | .bool _, .int => true
  | .bool _, .bool => true
  | .str _, .str => true
  | .tuple _, .tuple => true
  | .list _, .list => true
  | .dict _, .dict => true
  | _, _ => false

/-- sorted(xs): the items in order, alike ones as they stood -/
def srt (xs : List PD) : List PD := xs.mergeSort (PySem.W.dataLe false id)
def SrtOk (xs : List PD) : Prop := PySem.W.AllAlike xs ∧ PySem.W.Sortable xs ∧ xs.length ≤ lim ∧ ∀ x ∈ xs, x.depth ≤ 60
def b1 : B1 → PD → (W → Prop) → Prop
  | .len, .list xs, Q => xs.length ≤ lim ∧ Q (.d (.int xs.length))
  | .len, .tuple xs, Q => xs.length ≤ lim ∧ Q (.d (.int xs.length))
  | .len, .str x, Q => x.length ≤ lim ∧ Q (.d (.int x.length))
  | .abs, .int i, Q => Q (.d (.int i.natAbs))
  | .abs, .bool b, Q => Q (.d (.int (if b then 1 else 0)))
  | .sum, .list xs, Q => match intL xs with
    | some ns => Q (.d (.int ns.sum))
    | none => False
  | .sum, .tuple xs, Q => match intL xs with
    | some ns => Q (.d (.int ns.sum))
    | none => False
  | .max, .list xs, Q => match intL xs with
    | some ns => ns ≠ [] ∧ Q (.d (.int (maxI ns)))
    | none => False
  | .max, .tuple xs, Q => match intL xs with
    | some ns => ns ≠ [] ∧ Q (.d (.int (maxI ns)))
    | none => False
  | .min, .list xs, Q => match intL xs with
    | some ns => ns ≠ [] ∧ Q (.d (.int (minI ns)))
    | none => False
  | .min, .tuple xs, Q => match intL xs with
    | some ns => ns ≠ [] ∧ Q (.d (.int (minI ns)))
    | none => False
  | .all, .list xs, Q => match boolL xs with
    | some bs => Q (.d (.bool (bs.all id)))
    | none => False
  | .any, .list xs, Q => match boolL xs with
    | some bs => Q (.d (.bool (bs.any id)))
    | none => False
  | .int, .int i, Q => Q (.d (.int i))
  | .int, .bool b, Q => Q (.d (.int (if b then 1 else 0)))
  | .tuple, .list xs, Q => Q (.d (.tuple xs))
  | .tuple, .tuple xs, Q => Q (.d (.tuple xs))
  | .list, .list xs, Q => Q (.ol (xs.map .d))
  | .list, .tuple xs, Q => Q (.ol (xs.map .d))
  | .repr, x, Q => x.showable = true ∧ x.depth ≤ 60 ∧ x.shown.length ≤ lim ∧ Q (.d (.str x.shown))
  | .str, .bool b, Q => Q (.d (.str (if b then "True" else "False")))
  | .str, .int i, Q => i.natAbs.log2 < 1920 ∧ Q (.d (.str (toString i)))
  | .sorted, .list xs, Q => SrtOk xs ∧ Q (.ol ((srt xs).map .d))
  | .sorted, .tuple xs, Q => False
  | .isqrt, .int i, Q => 0 ≤ i ∧ i < 2 ^ 64 ∧ Q (.d (.int ((Float64.isqrt i.toNat : Nat) : Int)))
  | _, _, _ => False

def b2 : B2 → PD → PD → (W → Prop) → Prop
  | .max, .int a, .int b, Q => Q (.d (.int (max a b)))
  | .min, .int a, .int b, Q => Q (.d (.int (min a b)))
  | .gcd, .int a, .int b, Q => Q (.d (.int (Nat.gcd a.natAbs b.natAbs)))
  | _, _, _, _ => False

def keyP (k : Str) : PD → Bool
  | .str s => decide (s = k)
  | _ => false
/-- the value at a text key -/
def lookK (k : Str) : List PD → List W → Option W
  | q :: ks, v :: vs => if keyP k q then some v else lookK k ks vs
  | _, _ => none
def putK (k : Str) (w : W) : List PD → List W → List W
  | q :: ks, v :: vs => if keyP k q then w :: vs else v :: putK k w ks vs
  | _, vs => vs
/-- Python's place of an index -/
def place (n : Nat) (i : Int) : Option Nat := if 0 ≤ i then (if i < n then some i.toNat else none) else if -(n : Int) ≤ i then some (i + n).toNat else none
def idxD : PD → PD → (PD → Prop) → Prop
  | .list xs, .int i, Q => ∃ j z, place xs.length i = some j ∧ xs[j]? = some z ∧ Q z
  | .tuple xs, .int i, Q => ∃ j z, place xs.length i = some j ∧ xs[j]? = some z ∧ Q z
  | _, _, _ => False
/-- a slice's bounds brought into the list -/
abbrev clip (n dflt : Nat) (o : Option Int) : Nat := HT.sIx n dflt o
def cut {α : Type} (xs : List α) (lo hi : Option Int) : List α := (xs.drop (clip xs.length 0 lo)).take (clip xs.length xs.length hi - clip xs.length 0 lo)
def slcD : PD → Option Int → Option Int → (W → Prop) → Prop
  | .list xs, lo, hi, Q => Q (.ol ((cut xs lo hi).map .d))
  | .tuple xs, lo, hi, Q => Q (.d (.tuple (cut xs lo hi)))
  | .str x, lo, hi, Q => x.length ≤ lim ∧ Q (.d (.str (L2.cutS x lo hi)))
  | _, _, _, _ => False
def revD : PD → (W → Prop) → Prop
  | .list xs, Q => Q (.ol (xs.reverse.map .d))
  | .tuple xs, Q => Q (.d (.tuple xs.reverse))
  | _, _ => False

/-! ### slots -/
def slot (env : Env) (i : Nat) : Option W := (env[i]?).join
def allD : List W → Option (List PD)
  | [] => some []
  | .d x :: r => (allD r).map (x :: ·)
  | _ :: _ => none
theorem allD_map (xs : List PD) : allD (xs.map .d) = some xs := by
  induction xs with
  | nil => rfl
  | cons x r ih => simp only [List.map_cons, allD, ih, Option.map_some]
def W.fl : W → Option PD
  | .d x => some x
  | .ol ws => (allD ws).map .list
  | .od ks vs => (allD vs).map fun xs => .dict (ks.zip xs)
  | .al _ => none
/-- read for a moment -/
def bor (env : Env) : W → Option PD
  | .al i => (slot env i).bind W.fl
  | .d x => some x
  | .ol ws => (allD ws).map .list
  | .od ks vs => (allD vs).map fun xs => .dict (ks.zip xs)
/-- taken as data for good -/
def fz (w : W) (env : Env) (Q : PD → Env → Prop) : Prop := match w with
  | .al i => match slot env i with
    | some c => Q c.pd (env.set i (some (.d c.pd)))
    | none => False
  | .d x => Q x env
  | .ol xs => Q (W.pd (.ol xs)) env
  | .od ks vs => Q (W.pd (.od ks vs)) env
/-- moved into an owner -/
def mv (w : W) (env : Env) (Q : W → Env → Prop) : Prop := match w with
  | .al i => match slot env i with
    | some c => Q (.d c.pd) (env.set i (some (.d c.pd)))
    | none => False
  | .d x => Q (.d x) env
  | .ol xs => Q (.ol xs) env
  | .od ks vs => Q (.od ks vs) env
/-- handed back -/
def give (w : W) (env : Env) (Q : W → Env → Prop) : Prop := match w with
  | .al i => match slot env i with
    | some c => Q c (env.set i none)
    | none => False
  | .d x => Q (.d x) env
  | .ol xs => Q (.ol xs) env
  | .od ks vs => Q (.od ks vs) env
def wipes (env : Env) : List Nat → Env
  | [] => env
  | i :: r => (wipes env r).set i none
/-- the slots as they were -/
def back (env old : Env) : List Nat → Env
  | [] => env
  | i :: r => (back env old r).set i (slot old i)
/-- the slot owns a list -/
def isOl (env : Env) (i : Nat) : Bool := match slot env i with
  | some (.ol _) => true
  | _ => false
def plainSlot (env : Env) (i : Nat) : Bool := match slot env i with
  | none => true
  | some (.d _) => true
  | _ => false

def bindT : Tg → PD → Env → (Env → Prop) → Prop
  | .nm i, x, env, Q => Q (env.set i (some (.d x)))
  | .tp is, .tuple xs, env, Q => xs.length = is.length ∧ Q ((is.zip xs).foldl (fun e p => e.set p.1 (some (.d p.2))) env)
  | _, _, _, _ => False

inductive Arg | v (x : PD) | r (i : Nat)
structure Ctx where
  call : Nat → List W → (W → List W → Prop) → Prop

structure K where
  nx : Env → Prop
  rt : W → Env → Prop
  bk : Env → Prop
  ct : Env → Prop

/-- the callee's arguments: a slot's content is lent -/
def lend (env : Env) : List Arg → Option (List W)
  | [] => some []
  | .v x :: r => (lend env r).map (.d x :: ·)
  | .r i :: r => match slot env i with
    | some (.ol xs) => (lend env r).map (.ol xs :: ·)
    | some (.od ks vs) => (lend env r).map (.od ks vs :: ·)
    | _ => none
def taken (env : Env) : List Arg → List W → Option Env
  | [], [] => some env
  | .v _ :: r, os => taken env r os
  | .r i :: r, o :: os => (taken env r os).map fun e => e.set i (some o)
  | _, _ => none
def permute {α : Type} (kw : List Nat) (ws : List α) : List α := match kw with
  | [] => ws
  | _ => kw.filterMap fun j => ws[j]?

/-- a comprehension's loop -/
def accW (own : List Nat) (step : PD → Env → List W → (List W → Env → Prop) → Prop) : List PD → Env → List W → (List W → Env → Prop) → Prop
  | [], env, acc, Q => Q acc env
  | x :: xs, env, acc, Q => step x env acc fun acc' e => accW own step xs (wipes e own) acc' Q
/-- the next member put behind the others -/
def putW (mvd : Bool) (acc : List W) (w : W) (env : Env) (k : List W → Env → Prop) : Prop :=
  if mvd then mv w env fun w e => acc.length < lim ∧ k (acc ++ [w]) e else fz w env fun x e => acc.length < lim ∧ k (acc ++ [.d x]) e
def forW (step : PD → Env → K → Prop) : List PD → Env → K → Prop
  | [], env, k => k.nx env
  | x :: xs, env, k => step x env { nx := fun e => forW step xs e k, rt := k.rt, bk := k.nx, ct := fun e => forW step xs e k }
def whlW (test : Env → (Bool → Env → Prop) → Prop) (body : Env → K → Prop) : Nat → Env → K → Prop
  | 0, _, _ => False
  | m + 1, env, k => test env fun c e => if c then body e { nx := fun e => whlW test body m e k, rt := k.rt, bk := k.nx, ct := fun e => whlW test body m e k } else k.nx e

def two (x y : W) (env : Env) (f : PD → PD → Prop) : Prop := match bor env x with
  | some p => match bor env y with
    | some q => f p q
    | none => False
  | none => False
def one (x : W) (env : Env) (f : PD → Prop) : Prop := match bor env x with
  | some p => f p
  | none => False
def asB (w : W) (f : Bool → Prop) : Prop := match w with
  | .d (.bool c) => f c
  | _ => False
def asI (w : W) (f : Int → Prop) : Prop := match w with
  | .d (.int c) => f c
  | _ => False
def asSeq : PD → (List PD → Prop) → Prop
  | .list xs, f => f xs
  | .tuple xs, f => f xs
  | _, _ => False

/-- expressions without effect -/
def evP : IE → Env → Option PD
  | .var i, env => match slot env i with
    | some (.d x) => some x
    | _ => none
  | .cI n, _ => some (.int n)
  | .bin .add a b, env => match evP a env, evP b env with
    | some (.int x), some (.int y) => some (.int (x + y))
    | _, _ => none
  | .bin .sub a b, env => match evP a env, evP b env with
    | some (.int x), some (.int y) => some (.int (x - y))
    | _, _ => none
  | .bin .fdiv a b, env => match evP a env, evP b env with
    | some (.int x), some (.int y) => if y ≠ 0 ∧ y.natAbs.log2 < 4096 then some (.int (x.fdiv y)) else none
    | _, _ => none
  | .b2 .max a b, env => match evP a env, evP b env with
    | some (.int x), some (.int y) => some (.int (max x y))
    | _, _ => none
  | .b2 .min a b, env => match evP a env, evP b env with
    | some (.int x), some (.int y) => some (.int (min x y))
    | _, _ => none
  | _, _ => none

/-- plain values stored one after another at subscripts of slots -/
def sto : List (Nat × IE × Option IE) → List PD → Env → (Env → Prop) → Prop
  | [], [], e, Q => Q e
  | (i, kx, none) :: ts, x :: xs, e, Q => ∃ us a m, slot e i = some (.ol us) ∧ evP kx e = some (.int a) ∧ place us.length a = some m ∧ sto ts xs (e.set i (some (.ol (us.set m (.d x))))) Q
  | (i, kx, some jx) :: ts, x :: xs, e, Q => ∃ ws us a b m n, slot e i = some (.ol ws) ∧ evP kx e = some (.int a) ∧ evP jx e = some (.int b) ∧ place ws.length a = some m ∧ ws[m]? = some (.ol us) ∧ place us.length b = some n ∧ sto ts xs (e.set i (some (.ol (ws.set m (.ol (us.set n (.d x))))))) Q
  | _, _, _, _ => False

mutual
def evE (C : Ctx) : IE → Env → (W → Env → Prop) → Prop
  | .var i, env, Q => match slot env i with
    | some (.d x) => Q (.d x) env
    | some (.ol _) => Q (.al i) env
    | some (.od _ _) => Q (.al i) env
    | _ => False
  | .frz i, env, Q => match slot env i with
    | some (.d x) => Q (.d x) env
    | some (.ol ws) => Q (.d (.list (W.pds ws))) (env.set i (some (.d (.list (W.pds ws)))))
    | some (.od ks vs) => Q (.d (.dict (ks.zip (W.pds vs)))) (env.set i (some (.d (.dict (ks.zip (W.pds vs))))))
    | _ => False
  | .cI n, env, Q => Q (.d (.int n)) env
  | .cS s, env, Q => Q (.d (.str s)) env
  | .cB b, env, Q => Q (.d (.bool b)) env
  | .cN, env, Q => Q (.d .none) env
  | .bin o a b, env, Q => evE C a env fun x e1 => evE C b e1 fun y e2 => two x y e2 fun p q => bo o p q fun w => Q w e2
  | .neg a, env, Q => evE C a env fun x e1 => asI x fun i => Q (.d (.int (-i))) e1
  | .cmp o a b, env, Q => evE C a env fun x e1 => evE C b e1 fun y e2 => two x y e2 fun p q => co o p q fun c => Q (.d (.bool c)) e2
  | .cmp2 o o' a b c, env, Q => evE C a env fun x e1 => evE C b e1 fun y e2 => two x y e2 fun p q => co o p q fun k =>
      if k then evE C c e2 fun z e3 => two y z e3 fun p q => co o' p q fun c => Q (.d (.bool c)) e3 else Q (.d (.bool false)) e2
  | .isN neg a, env, Q => evE C a env fun x e1 => one x e1 fun p => match p with
      | .none => Q (.d (.bool (!neg))) e1
      | _ => Q (.d (.bool neg)) e1
  | .andv es, env, Q => evAnd C es env Q
  | .orv es, env, Q => evOr C es env Q
  | .notv a, env, Q => evE C a env fun x e1 => asB x fun c => Q (.d (.bool (!c))) e1
  | .ife t a b, env, Q => evE C t env fun x e1 => asB x fun c => if c then evE C a e1 Q else evE C b e1 Q
  | .tup es, env, Q => evF C es env fun xs e => xs.length ≤ lim ∧ Q (.d (.tuple xs)) e
  | .lst es, env, Q => evM C es env fun ws e => ws.length ≤ lim ∧ Q (.ol ws) e
  | .dct ks vs, env, Q => evM C vs env fun ws e => ks.length = ws.length ∧ ks.length ≤ 15 ∧ ks.Nodup ∧ Q (.od (ks.map fun k => match k with | .inl i => PyData.int i | .inr s => PyData.str s) ws) e
  | .idx a b, env, Q => evE C a env fun x e1 => evE C b e1 fun y e2 => two x y e2 fun p q => idxD p q fun z => Q (.d z) e2
  | .repL a b, env, Q => evE C a env fun x e1 => match x with
    | .ol ws => evE C b e1 fun y e2 => asI y fun n => 0 ≤ n ∧ n ≤ 1000 ∧ ws.length ≤ 1000 ∧ (match allD ws with
      | some xs => Q (.ol ((List.replicate n.toNat xs).flatten.map .d)) e2
      | none => False)
    | _ => False
  | .pth i k j, env, Q => match slot env i, evP k env, evP j env with
    | some (.ol ws), some (.int a), some (.int b) => match (place ws.length a).bind fun m => ws[m]? with
      | some (.ol vs) => match (place vs.length b).bind fun m => vs[m]? with
        | some (.d x) => Q (.d x) env
        | _ => False
      | some (.d (.list vs)) => match (place vs.length b).bind fun m => vs[m]? with
        | some x => Q (.d x) env
        | _ => False
      | _ => False
    | _, _, _ => False
  | .getK i k, env, Q => match slot env i with
    | some (.od ks vs) => match lookK k ks vs with
      | some (.d x) => Q (.d x) env
      | _ => False
    | _ => False
  | .neK i k, env, Q => match slot env i with
    | some (.od ks vs) => match lookK k ks vs with
      | some (.ol ws) => match allD ws with
        | some xs => SeqAt.shaped (.list xs) = true ∧ Q (.d (.bool (!PyData.eqv (.list xs) (.list [])))) env
        | none => False
      | _ => False
    | _ => False
  | .slc a lo hi, env, Q => evE C a env fun x e1 => evE C lo e1 fun l e2 => asI l fun lo => evE C hi e2 fun h e3 => asI h fun hi => one x e3 fun p => slcD p (some lo) (some hi) fun w => Q w e3
  | .slcL a lo, env, Q => evE C a env fun x e1 => evE C lo e1 fun l e2 => asI l fun lo => one x e2 fun p => slcD p (some lo) none fun w => Q w e2
  | .slcH a hi, env, Q => evE C a env fun x e1 => evE C hi e1 fun l e2 => asI l fun hi => one x e2 fun p => slcD p none (some hi) fun w => Q w e2
  | .slcA a, env, Q => evE C a env fun x e1 => one x e1 fun p => slcD p none none fun w => Q w e1
  | .rev a, env, Q => evE C a env fun x e1 => one x e1 fun p => revD p fun w => Q w e1
  | .b1 f a, env, Q => evE C a env fun x e1 => one x e1 fun p => b1 f p fun w => Q w e1
  | .b2 f a b, env, Q => evE C a env fun x e1 => evE C b e1 fun y e2 => two x y e2 fun p q => b2 f p q fun w => Q w e2
  | .isi a t, env, Q => evE C a env fun x e1 => one x e1 fun p => Q (.d (.bool (tyOf p t))) e1
  | .cal f args kwa kw, env, Q => evA C args env fun as e0 => evA C kwa e0 fun bs e => match lend e (as ++ bs) with
      | some ws => C.call f (permute kw ws) fun w os => match taken e (as ++ bs) os with
        | some e' => Q w e'
        | none => False
      | none => False
  | .lc mvd own tg src ifs elt, env, Q => evI C src env fun items e1 => (own.all (plainSlot e1)) = true ∧
      accW own (fun x e acc k => bindT tg x e fun e2 => evE C ifs e2 fun t e3 => asB t fun c => if c then evE C elt e3 fun w e4 => putW mvd acc w e4 k else k acc e3) items (wipes e1 own) [] fun acc e2 => Q (.ol acc) (back e2 e1 own)
  | .lc2 mvd own own1 tg src tg1 src1 elt, env, Q => evI C src env fun items e1 => (own.all (plainSlot e1)) = true ∧
      accW own (fun x e acc k => bindT tg x e fun e2 => evI C src1 e2 fun items1 e3 =>
        accW own1 (fun y e acc k => bindT tg1 y e fun e4 => evE C elt e4 fun w e5 => putW mvd acc w e5 k) items1 (wipes e3 own1) acc k) items (wipes e1 own) [] fun acc e2 => Q (.ol acc) (back e2 e1 own)
  | .fzE e, env, Q => evE C e env fun w e1 => fz w e1 fun x e2 => Q (.d x) e2
  | .upr i, env, Q => match slot env i with
    | some (.d (.str s)) => s.length ≤ lim ∧ Q (.d (.str (Txt.upper s))) env
    | _ => False
  | .popS i, env, Q => match slot env i with
    | some (.ol ws) => match ws.getLast? with
      | some (.d x) => Q (.d x) (env.set i (some (.ol ws.dropLast)))
      | _ => False
    | _ => False
  | .popI i e, env, Q => isOl env i = true ∧ evE C e env fun x e1 => asI x fun j => match slot e1 i with
    | some (.ol ws) => ws.length ≤ lim ∧ match place ws.length j with
      | some j => match ws[j]? with
        | some (.d y) => Q (.d y) (e1.set i (some (.ol (ws.eraseIdx j))))
        | _ => False
      | none => False
    | _ => False
  | .popK i k, env, Q => match slot env i with
    | some (.od ks vs) => match lookK k ks vs with
      | some (.ol ws) => match ws.getLast? with
        | some (.d x) => Q (.d x) (env.set i (some (.od ks (putK k (.ol ws.dropLast) ks vs))))
        | _ => False
      | _ => False
    | _ => False
def evAnd (C : Ctx) : IL → Env → (W → Env → Prop) → Prop
  | .nil, env, Q => Q (.d (.bool true)) env
  | .cons e r, env, Q => evE C e env fun x e1 => asB x fun c => if c then evAnd C r e1 Q else Q (.d (.bool false)) e1
  | .ref _ _, _, _ => False
def evOr (C : Ctx) : IL → Env → (W → Env → Prop) → Prop
  | .nil, env, Q => Q (.d (.bool false)) env
  | .cons e r, env, Q => evE C e env fun x e1 => asB x fun c => if c then Q (.d (.bool true)) e1 else evOr C r e1 Q
  | .ref _ _, _, _ => False
def evF (C : Ctx) : IL → Env → (List PD → Env → Prop) → Prop
  | .nil, env, Q => Q [] env
  | .cons e r, env, Q => evE C e env fun w e1 => fz w e1 fun x e2 => evF C r e2 fun xs e3 => Q (x :: xs) e3
  | .ref _ _, _, _ => False
def evM (C : Ctx) : IL → Env → (List W → Env → Prop) → Prop
  | .nil, env, Q => Q [] env
  | .cons e r, env, Q => evE C e env fun w e1 => mv w e1 fun x e2 => evM C r e2 fun xs e3 => Q (x :: xs) e3
  | .ref _ _, _, _ => False
def evA (C : Ctx) : IL → Env → (List Arg → Env → Prop) → Prop
  | .nil, env, Q => Q [] env
  | .cons e r, env, Q => evE C e env fun w e1 => fz w e1 fun x e2 => evA C r e2 fun xs e3 => Q (.v x :: xs) e3
  | .ref i r, env, Q => (slot env i).isSome = true ∧ evA C r env fun xs e3 => Q (.r i :: xs) e3
def evI (C : Ctx) : II → Env → (List PD → Env → Prop) → Prop
  | .rng1 a, env, Q => evE C a env fun x e1 => asI x fun n => n < 2 ^ 30 ∧ -(2 ^ 30) < n ∧ Q ((List.range n.toNat).map fun i => .int (i : Nat)) e1
  | .rng2 a b, env, Q => evE C a env fun x e1 => evE C b e1 fun y e2 => asI x fun m => asI y fun n => (m < 2 ^ 30 ∧ -(2 ^ 30) < m ∧ n < 2 ^ 30 ∧ -(2 ^ 30) < n) ∧ Q ((List.range (n - m).toNat).map fun i => .int (m + (i : Nat))) e2
  | .seq a, env, Q => evE C a env fun x e1 => fz x e1 fun p e2 => asSeq p fun xs => Q xs e2
  | .enm a, env, Q => evE C a env fun x e1 => fz x e1 fun p e2 => asSeq p fun xs => Q (xs.zipIdx.map fun z => .tuple [.int (z.2 : Nat), z.1]) e2
  | .zip a b, env, Q => evE C a env fun x e1 => fz x e1 fun p e2 => evE C b e2 fun y e3 => fz y e3 fun q e4 => asSeq p fun xs => asSeq q fun ys => Q ((xs.zip ys).map fun z => .tuple [z.1, z.2]) e4
  | .zip3 a b c, env, Q => evE C a env fun x e1 => fz x e1 fun p e2 => evE C b e2 fun y e3 => fz y e3 fun q e4 => evE C c e4 fun z e5 => fz z e5 fun r e6 => asSeq p fun xs => asSeq q fun ys => asSeq r fun zs => Q ((xs.zip (ys.zip zs)).map fun z => .tuple [z.1, z.2.1, z.2.2]) e6
end

def setAll (env : Env) : List Nat → List W → Env
  | i :: is, w :: ws => setAll (env.set i (some w)) is ws
  | _, _ => env

mutual
def evS (C : Ctx) : IS → Env → K → Prop
  | .set i e, env, k => evE C e env fun w e1 => mv w e1 fun w e2 => k.nx (e2.set i (some w))
  | .par is es, env, k => evM C es env fun ws e => ws.length = is.length ∧ k.nx (setAll e is ws)
  | .unp is e, env, k => evE C e env fun w e1 => fz w e1 fun p e2 => match p with
    | .tuple xs => xs.length = is.length ∧ k.nx (setAll e2 is (xs.map .d))
    | _ => False
  | .sub i kx e, env, k => isOl env i = true ∧ evE C e env fun w e1 => mv w e1 fun w e2 => evE C kx e2 fun j e3 => asI j fun j => match slot e3 i with
    | some (.ol ws) => match place ws.length j with
      | some j => k.nx (e3.set i (some (.ol (ws.set j w))))
      | none => False
    | _ => False
  | .psub ts es, env, k => evM C es env fun ws e => ∃ xs, allD ws = some xs ∧ xs.length = ts.length ∧ sto ts xs e k.nx
  | .sub2 i kx jx e, env, k => isOl env i = true ∧ evE C e env fun w e1 => mv w e1 fun w e2 => match slot e2 i, evP kx e2, evP jx e2 with
    | some (.ol ws), some (.int a), some (.int b) => match place ws.length a with
      | some a => match ws[a]? with
        | some (.ol vs) => match place vs.length b with
          | some b => k.nx (e2.set i (some (.ol (ws.set a (.ol (vs.set b w))))))
          | none => False
        | _ => False
      | none => False
    | _, _, _ => False
  | .subK i key e, env, k => evE C e env fun w e1 => mv w e1 fun w e2 => match slot e2 i with
    | some (.od ks vs) => (lookK key ks vs).isSome = true ∧ ks.length ≤ 100 ∧ k.nx (e2.set i (some (.od ks (putK key w ks vs))))
    | _ => False
  | .aug i e, env, k => match slot env i with
    | some (.d (.int a)) => evE C e env fun y e1 => asI y fun b => k.nx (e1.set i (some (.d (.int (a + b)))))
    | _ => False
  | .augs i kx e, env, k => isOl env i = true ∧ evE C kx env fun x e1 => asI x fun j => 0 ≤ j ∧ match slot e1 i with
    | some (.ol ws) => ws.length ≤ lim ∧ match ws[j.toNat]? with
      | some (.d (.int a)) => evE C e e1 fun y e2 => asI y fun b => match slot e2 i with
        | some (.ol us) => match place us.length j with
          | some m => k.nx (e2.set i (some (.ol (us.set m (.d (.int (a + b)))))))
          | none => False
        | _ => False
      | _ => False
    | _ => False
  | .app i e, env, k => isOl env i = true ∧ evE C e env fun w e1 => mv w e1 fun w e2 => match slot e2 i with
    | some (.ol ws) => ws.length < lim ∧ k.nx (e2.set i (some (.ol (ws ++ [w]))))
    | _ => False
  | .ext i e, env, k => isOl env i = true ∧ evE C e env fun w e1 => match w with
    | .ol vs => match slot e1 i with
      | some (.ol ws) => ws.length + vs.length ≤ lim ∧ k.nx (e1.set i (some (.ol (ws ++ vs))))
      | _ => False
    | _ => False
  | .appK i key x, env, k => match slot env i, evP x env with
    | some (.od ks vs), some y => match lookK key ks vs with
      | some (.ol ws) => ws.length < lim ∧ k.nx (env.set i (some (.od ks (putK key (.ol (ws ++ [.d y])) ks vs))))
      | _ => False
    | _, _ => False
  | .exp e, env, k => evE C e env fun _ e1 => k.nx e1
  | .ret e, env, k => evE C e env fun w e1 => give w e1 fun w e2 => k.rt w e2
  | .retN, env, k => k.rt (.d .none) env
  | .ife t a b, env, k => evE C t env fun x e1 => asB x fun c => if c then evB C a e1 k else evB C b e1 k
  | .fora tg src body, env, k => evI C src env fun items e1 => forW (fun x e k' => bindT tg x e fun e2 => evB C body e2 k') items e1 k
  | .whl t body, env, k => ∃ m, whlW (fun e f => evE C t e fun x e1 => asB x fun c => f c e1) (fun e k' => evB C body e k') m env k
  | .brk, env, k => k.bk env
  | .cnt, env, k => k.ct env
  | .pas, env, k => k.nx env
  | .rse, _, _ => False
def evB (C : Ctx) : IB → Env → K → Prop
  | .nil, env, k => k.nx env
  | .cons s r, env, k => evS C s env { nx := fun e => evB C r e k, rt := k.rt, bk := k.bk, ct := k.ct }
end

/-- a def: how many parameters, which of them are lent, how many slots, the body -/
structure Fd where
  ps : Nat
  refs : List Nat
  n : Nat
  body : IB

def outs (env : Env) : List Nat → Option (List W)
  | [] => some []
  | i :: r => match slot env i with
    | some w => (outs env r).map (w :: ·)
    | none => none
def retW (fd : Fd) (Q : W → List W → Prop) (w : W) (env : Env) : Prop := match outs env fd.refs with
  | some os => Q w os
  | none => False
def callN (tb : List Fd) : Nat → Nat → List W → (W → List W → Prop) → Prop
  | 0, _, _, _ => False
  | n + 1, f, ws, Q => match tb[f]? with
    | some fd => ws.length = fd.ps ∧ evB ⟨callN tb n⟩ fd.body (ws.map some ++ List.replicate (fd.n - fd.ps) none)
        { nx := fun e => retW fd Q (.d .none) e, rt := fun w e => retW fd Q w e, bk := fun _ => False, ct := fun _ => False }
    | none => False
abbrev cx (tb : List Fd) (n : Nat) : Ctx := ⟨callN tb n⟩
end Mn

set_option linter.all false
set_option Elab.async false
set_option maxHeartbeats 1000000
/-! Mn: how data lie in the abstract heap; what a step keeps. -/
namespace Mn
open PySem PySem.Spec PyProof.Rows L2
abbrev Sg := L2.St

/-! ### frozen data -/
def keyPD : Key → PD
  | .inl i => .int i
  | .inr s => .str s
mutual
inductive Rp (H : Hp) : V → PD → Prop
  | non : Rp H .non .none
  | bl (b : Bool) : Rp H (.bl b) (.bool b)
  | int (i : Int) : Rp H (.int i) (.int i)
  | str (s : Str) : Rp H (.str s) (.str s)
  | lst {a : Addr} {o : Obj} {xs : List V} {ds : List PD} : a ≠ sysModules → H a = some (.frz o (.lst xs)) → RpL H xs ds → Rp H (.ref a) (.list ds)
  | tup {a : Addr} {xs : List V} {ds : List PD} : H a = some (.tup xs) → RpL H xs ds → Rp H (.ref a) (.tuple ds)
  | dct {a : Addr} {o : Obj} {kvs : List (Key × V)} {ds : List PD} {x : List (PD × PD)} : a ≠ sysModules → H a = some (.frz o (.dK kvs)) → RpL H (kvs.map (·.2)) ds → x = (kvs.map fun kv => keyPD kv.1).zip ds → Rp H (.ref a) (.dict x)
inductive RpL (H : Hp) : List V → List PD → Prop
  | nil : RpL H [] []
  | cons {v : V} {vs : List V} {d : PD} {ds : List PD} : Rp H v d → RpL H vs ds → RpL H (v :: vs) (d :: ds)
end
/-- read for a moment: lists and dicts may also be owned -/
inductive Br (H : Hp) : V → PD → Prop
  | of {v d} : Rp H v d → Br H v d
  | lst {a : Addr} {xs : List V} {ds : List PD} : a ≠ sysModules → H a = some (.lst xs) → RpL H xs ds → Br H (.ref a) (.list ds)
  | dct {a : Addr} {kvs : List (Key × V)} {ds : List PD} {x : List (PD × PD)} : a ≠ sysModules → H a = some (.dK kvs) → RpL H (kvs.map (·.2)) ds → x = (kvs.map fun kv => keyPD kv.1).zip ds → Br H (.ref a) (.dict x)

/-- what is frozen stays -/
structure FT (H H' : Hp) : Prop where
  tup : ∀ a xs, H a = some (.tup xs) → H' a = some (.tup xs)
  frz : ∀ a o u, H a = some (.frz o u) → H' a = some (.frz o u)
theorem FT.refl (H : Hp) : FT H H := ⟨fun _ _ h => h, fun _ _ _ h => h⟩
theorem FT.trans {H H1 H2 : Hp} (a : FT H H1) (b : FT H1 H2) : FT H H2 := ⟨fun x y h => b.tup x y (a.tup x y h), fun x y z h => b.frz x y z (a.frz x y z h)⟩
theorem FT.of {H H' : Hp} (h : ∀ a o, H a = some o → H' a = some o) : FT H H' := ⟨fun a _ e => h a _ e, fun a _ _ e => h a _ e⟩

theorem Rp.mono {H H' : Hp} (f : FT H H') {v : V} {d : PD} (h : Rp H v d) : Rp H' v d :=
  Rp.rec (motive_1 := fun v d _ => Rp H' v d) (motive_2 := fun vs ds _ => RpL H' vs ds)
    .non (fun b => .bl b) (fun i => .int i) (fun s => .str s) (fun n e _ ih => .lst n (f.frz _ _ _ e) ih) (fun e _ ih => .tup (f.tup _ _ e) ih)
    (fun n e _ q ih => .dct n (f.frz _ _ _ e) ih q) .nil (fun _ _ i1 i2 => .cons i1 i2) h
theorem RpL.mono {H H' : Hp} (f : FT H H') : ∀ {vs : List V} {ds : List PD}, RpL H vs ds → RpL H' vs ds
  | _, _, .nil => .nil
  | _, _, .cons a b => .cons (a.mono f) (RpL.mono f b)
theorem RpL.length {H : Hp} : ∀ {vs : List V} {ds : List PD}, RpL H vs ds → vs.length = ds.length
  | _, _, .nil => rfl
  | _, _, .cons _ b => by simp only [List.length_cons, RpL.length b]
theorem RpL.get {H : Hp} : ∀ {vs : List V} {ds : List PD} {i : Nat} {d : PD}, RpL H vs ds → ds[i]? = some d → ∃ v, vs[i]? = some v ∧ Rp H v d
  | _, _, _, _, .nil, h => by simp at h
  | _, _, 0, _, .cons a _, h => by simp only [List.getElem?_cons_zero, Option.some.injEq] at h; subst h; exact ⟨_, rfl, a⟩
  | _, _, i + 1, _, .cons _ b, h => RpL.get (i := i) b (by simpa using h)
theorem RpL.append {H : Hp} : ∀ {vs ws : List V} {ds es : List PD}, RpL H vs ds → RpL H ws es → RpL H (vs ++ ws) (ds ++ es)
  | _, _, _, _, .nil, b => b
  | _, _, _, _, .cons a t, b => .cons a (RpL.append t b)
theorem RpL.take {H : Hp} : ∀ {vs : List V} {ds : List PD} (n : Nat), RpL H vs ds → RpL H (vs.take n) (ds.take n)
  | _, _, 0, _ => .nil
  | _, _, _ + 1, .nil => .nil
  | _, _, n + 1, .cons a b => .cons a (RpL.take n b)
theorem RpL.drop {H : Hp} : ∀ {vs : List V} {ds : List PD} (n : Nat), RpL H vs ds → RpL H (vs.drop n) (ds.drop n)
  | _, _, 0, h => h
  | _, _, _ + 1, .nil => .nil
  | _, _, n + 1, .cons _ b => RpL.drop n b
theorem RpL.reverse {H : Hp} {vs : List V} {ds : List PD} (h : RpL H vs ds) : RpL H vs.reverse ds.reverse := by
  induction vs generalizing ds with
  | nil => cases h; exact .nil
  | cons v vs ih =>
    cases h with
    | cons a b =>
      rw [List.reverse_cons, List.reverse_cons]
      exact (ih b).append (.cons a .nil)
theorem RpL.replicate {H : Hp} {vs : List V} {ds : List PD} (h : RpL H vs ds) : ∀ n : Nat, RpL H (List.replicate n vs).flatten (List.replicate n ds).flatten
  | 0 => .nil
  | n + 1 => by
    rw [List.replicate_succ, List.replicate_succ, List.flatten_cons, List.flatten_cons]
    exact h.append (RpL.replicate h n)
theorem RpL.ints {H : Hp} : ∀ {ds : List PD} {vs : List V} {ns : List Int}, RpL H vs ds → intL ds = some ns → vs = ns.map V.int
  | [], _, _, .nil, h => by simp only [intL, Option.some.injEq] at h; subst h; rfl
  | d :: ds, _, ns, .cons a b, h => by
    cases d with
    | int i =>
      simp only [intL] at h
      cases e : intL ds with
      | none => rw [e] at h; cases h
      | some ms =>
        rw [e] at h
        simp only [Option.map_some, Option.some.injEq] at h
        subst h
        cases a
        rw [List.map_cons, RpL.ints b e]
    | _ => cases h
theorem RpL.bools {H : Hp} : ∀ {ds : List PD} {vs : List V} {ns : List Bool}, RpL H vs ds → boolL ds = some ns → vs = ns.map V.bl
  | [], _, _, .nil, h => by simp only [boolL, Option.some.injEq] at h; subst h; rfl
  | d :: ds, _, ns, .cons a b, h => by
    cases d with
    | bool i =>
      simp only [boolL] at h
      cases e : boolL ds with
      | none => rw [e] at h; cases h
      | some ms =>
        rw [e] at h
        simp only [Option.map_some, Option.some.injEq] at h
        subst h
        cases a
        rw [List.map_cons, RpL.bools b e]
    | _ => cases h

/-! ### owned values -/
mutual
inductive RpW (H : Hp) : V → W → List Addr → Prop
  | d {v : V} {x : PD} : Rp H v x → RpW H v (.d x) []
  | ol {a : Addr} {vs : List V} {ws : List W} {fp : List Addr} : a ≠ sysModules → H a = some (.lst vs) → RpWs H vs ws fp → RpW H (.ref a) (.ol ws) (a :: fp)
  | od {a : Addr} {kvs : List (Key × V)} {ks : List PD} {ws : List W} {fp : List Addr} : a ≠ sysModules → H a = some (.dK kvs) → RpWs H (kvs.map (·.2)) ws fp → ks = (kvs.map fun kv => keyPD kv.1) → (kvs.map (·.1)).Nodup → RpW H (.ref a) (.od ks ws) (a :: fp)
inductive RpWs (H : Hp) : List V → List W → List Addr → Prop
  | nil : RpWs H [] [] []
  | cons {v : V} {w : W} {vs : List V} {ws : List W} {f fp : List Addr} : RpW H v w f → RpWs H vs ws fp → RpWs H (v :: vs) (w :: ws) (f ++ fp)
end
/-- lists and dicts that are owned -/
def Ow : Option HO → Prop
  | some (.lst _) => True
  | some (.dK _) => True
  | _ => False
theorem Ow.mut {o : Option HO} (h : Ow o) : Mut o := by
  cases o with
  | none => exact h
  | some u => cases u <;> first | trivial | exact h
theorem RpW.ow {H : Hp} {v : V} {w : W} {fp : List Addr} (h : RpW H v w fp) : ∀ a ∈ fp, Ow (H a) :=
  RpW.rec (motive_1 := fun v w fp _ => ∀ a ∈ fp, Ow (H a)) (motive_2 := fun vs ws fp _ => ∀ a ∈ fp, Ow (H a))
    (fun _ _ h => nomatch h)
    (fun _ e _ ih b hb => (List.mem_cons.mp hb).elim (fun z => by rw [z, e]; trivial) (ih b))
    (fun _ e _ _ _ ih b hb => (List.mem_cons.mp hb).elim (fun z => by rw [z, e]; trivial) (ih b))
    (fun _ h => nomatch h) (fun _ _ i1 i2 b hb => (List.mem_append.mp hb).elim (i1 b) (i2 b)) h
theorem RpWs.ow {H : Hp} : ∀ {vs : List V} {ws : List W} {fp : List Addr}, RpWs H vs ws fp → ∀ a ∈ fp, Ow (H a)
  | _, _, _, .nil, _, h => nomatch h
  | _, _, _, .cons a b, x, h => (List.mem_append.mp h).elim (a.ow x) (RpWs.ow b x)
theorem RpW.mono {H H' : Hp} (f : FT H H') {v : V} {w : W} {fp : List Addr} (h : RpW H v w fp) : (∀ a ∈ fp, H' a = H a) → RpW H' v w fp :=
  RpW.rec (motive_1 := fun v w fp _ => (∀ a ∈ fp, H' a = H a) → RpW H' v w fp) (motive_2 := fun vs ws fp _ => (∀ a ∈ fp, H' a = H a) → RpWs H' vs ws fp)
    (fun r _ => .d (r.mono f))
    (fun n e _ ih k => .ol n ((k _ List.mem_cons_self).trans e) (ih fun a ha => k a (List.mem_cons_of_mem _ ha)))
    (fun n e _ q nd ih k => .od n ((k _ List.mem_cons_self).trans e) (ih fun a ha => k a (List.mem_cons_of_mem _ ha)) q nd)
    (fun _ => .nil) (fun _ _ i1 i2 k => .cons (i1 fun a ha => k a (List.mem_append_left _ ha)) (i2 fun a ha => k a (List.mem_append_right _ ha))) h
theorem RpWs.mono {H H' : Hp} (f : FT H H') : ∀ {vs : List V} {ws : List W} {fp : List Addr}, RpWs H vs ws fp → (∀ a ∈ fp, H' a = H a) → RpWs H' vs ws fp
  | _, _, _, .nil, _ => .nil
  | _, _, _, .cons a b, k => .cons (a.mono f fun x hx => k x (List.mem_append_left _ hx)) (RpWs.mono f b fun x hx => k x (List.mem_append_right _ hx))
theorem RpWs.length {H : Hp} : ∀ {vs : List V} {ws : List W} {fp : List Addr}, RpWs H vs ws fp → vs.length = ws.length
  | _, _, _, .nil => rfl
  | _, _, _, .cons _ b => by simp only [List.length_cons, RpWs.length b]
/-- frozen: the objects at fp are known from now on -/
structure Frozen (H H' : Hp) (fp : List Addr) : Prop where
  out : ∀ a, a ∉ fp → H' a = H a
  at_ : ∀ a ∈ fp, ∃ o u, H a = some u ∧ H' a = some (.frz o u)
theorem RpWs.freezes {H H' : Hp} (ft : FT H H') {fp : List Addr} {vs : List V} {ws : List W} (h : RpWs H vs ws fp) : (∀ a ∈ fp, ∃ o u, H a = some u ∧ H' a = some (.frz o u)) → RpL H' vs (W.pds ws) :=
  RpWs.rec (motive_1 := fun v w fp _ => (∀ a ∈ fp, ∃ o u, H a = some u ∧ H' a = some (.frz o u)) → Rp H' v w.pd) (motive_2 := fun vs ws fp _ => (∀ a ∈ fp, ∃ o u, H a = some u ∧ H' a = some (.frz o u)) → RpL H' vs (W.pds ws))
    (fun r _ => r.mono ft)
    (fun {a vs ws fp} n e _ ih k => by
      obtain ⟨o, u, h1, h2⟩ := k a List.mem_cons_self
      rw [e] at h1; cases h1
      exact .lst n h2 (ih fun b hb => k b (List.mem_cons_of_mem _ hb)))
    (fun {a kvs ks ws fp} n e _ q _ ih k => by
      obtain ⟨o, u, h1, h2⟩ := k a List.mem_cons_self
      rw [e] at h1; cases h1
      subst q
      exact .dct n h2 (ih fun b hb => k b (List.mem_cons_of_mem _ hb)) rfl)
    (fun _ => .nil) (fun _ _ i1 i2 k => .cons (i1 fun a ha => k a (List.mem_append_left _ ha)) (i2 fun a ha => k a (List.mem_append_right _ ha))) h
theorem RpW.freezes {H H' : Hp} (ft : FT H H') {fp : List Addr} {v : V} {w : W} (h : RpW H v w fp) (k : ∀ a ∈ fp, ∃ o u, H a = some u ∧ H' a = some (.frz o u)) : Rp H' v w.pd := by
  have q : RpWs H [v] [w] (fp ++ []) := .cons h .nil
  have r := q.freezes ft (by rw [List.append_nil]; exact k)
  cases r with
  | cons a _ => exact a
theorem RpW.brw {H : Hp} {fp : List Addr} {v : V} {w : W} {x : PD} (h : RpW H v w fp) (e : w.fl = some x) : Br H v x := by
  have al : ∀ {vs : List V} {ws : List W} {fp : List Addr} {xs : List PD}, RpWs H vs ws fp → allD ws = some xs → RpL H vs xs := by
    intro vs ws
    induction ws generalizing vs with
    | nil => intro fp xs h e; cases h; cases e; exact .nil
    | cons w ws ih =>
      intro fp xs h e
      cases h with
      | cons a b =>
        cases w with
        | d x =>
          simp only [allD] at e
          cases q : allD ws with
          | none => rw [q] at e; cases e
          | some ys =>
            rw [q] at e
            cases e
            cases a with
            | d r => exact .cons r (ih b q)
        | _ => cases e
  cases h with
  | d r => cases e; exact .of r
  | @ol a vs ws fp n e1 r =>
    simp only [W.fl] at e
    cases q : allD ws with
    | none => rw [q] at e; cases e
    | some ys => rw [q] at e; cases e; exact .lst n e1 (al r q)
  | @od a kvs ks ws fp n e1 r q1 nd =>
    simp only [W.fl] at e
    cases q : allD ws with
    | none => rw [q] at e; cases e
    | some ys => rw [q] at e; cases e; subst q1; exact .dct n e1 (al r q) rfl
theorem RpL.own {H : Hp} : ∀ {vs : List V} {xs : List PD}, RpL H vs xs → RpWs H vs (xs.map .d) []
  | _, _, .nil => .nil
  | _, _, .cons a b => RpWs.cons (f := []) (.d a) (RpL.own b)

/-- the system's own table is known from the start -/
def Sys (H : Hp) : Prop := ∃ o u, H sysModules = some (.frz o u)
theorem Sys.mono {H H' : Hp} (f : FT H H') (h : Sys H) : Sys H' := let ⟨o, u, e⟩ := h; ⟨o, u, f.frz _ _ _ e⟩
theorem Sys.ne {H : Hp} (h : Sys H) {p : Addr} (n : H p = none) : p ≠ sysModules := fun e => by
  obtain ⟨o, u, q⟩ := h
  rw [← e, n] at q
  cases q
/-! ### the slots -/
def SlotOk (H : Hp) (sv : Option V) (ow : Option W) (f : List Addr) : Prop := match ow with
  | none => f = []
  | some w => ∃ v, sv = some v ∧ RpW H v w f
inductive EOk (H : Hp) : Sg → Env → List Addr → Prop
  | nil : Sys H → EOk H [] [] []
  | cons {sv : Option V} {ow : Option W} {σ : Sg} {env : Env} {f fp : List Addr} : SlotOk H sv ow f → EOk H σ env fp → EOk H (sv :: σ) (ow :: env) (f ++ fp)
theorem SlotOk.ow {H : Hp} {sv : Option V} {w : Option W} {f : List Addr} (h : SlotOk H sv w f) : ∀ a ∈ f, Ow (H a) := by
  cases w with
  | none => intro a ha; rw [show f = [] from h] at ha; cases ha
  | some w => obtain ⟨v, _, r⟩ := h; exact r.ow
theorem SlotOk.mono {H H' : Hp} (ft : FT H H') {sv : Option V} {w : Option W} {f : List Addr} (h : SlotOk H sv w f) (k : ∀ a ∈ f, H' a = H a) : SlotOk H' sv w f := by
  cases w with
  | none => exact h
  | some w => obtain ⟨v, e, r⟩ := h; exact ⟨v, e, r.mono ft k⟩
theorem EOk.ow {H : Hp} {σ : Sg} {env : Env} {fp : List Addr} (h : EOk H σ env fp) : ∀ a ∈ fp, Ow (H a) := by
  induction h with
  | nil => intro a ha; cases ha
  | cons s _ ih => intro a ha; exact (List.mem_append.mp ha).elim (s.ow a) (ih a)
theorem EOk.mono {H H' : Hp} (ft : FT H H') {σ : Sg} {env : Env} {fp : List Addr} (h : EOk H σ env fp) (k : ∀ a ∈ fp, H' a = H a) : EOk H' σ env fp := by
  induction h with
  | nil y => exact .nil (y.mono ft)
  | cons s _ ih => exact .cons (s.mono ft fun a ha => k a (List.mem_append_left _ ha)) (ih fun a ha => k a (List.mem_append_right _ ha))
theorem EOk.sys {H : Hp} {σ : Sg} {env : Env} {fp : List Addr} (h : EOk H σ env fp) : Sys H := by
  induction h with
  | nil y => exact y
  | cons _ _ ih => exact ih
theorem EOk.length {H : Hp} {σ : Sg} {env : Env} {fp : List Addr} (h : EOk H σ env fp) : σ.length = env.length := by
  induction h with
  | nil => rfl
  | cons _ _ ih => simp only [List.length_cons, ih]
/-- the slot i and the others -/
theorem EOk.split {H : Hp} {σ : Sg} {env : Env} {fp : List Addr} (h : EOk H σ env fp) : ∀ (i : Nat), i < env.length → ∃ f pre post sv, fp = pre ++ f ++ post ∧ σ[i]? = some sv ∧ SlotOk H sv (slot env i) f ∧
    ∀ {H' : Hp} (sv' : Option V) (ow' : Option W) (f' : List Addr), FT H H' → (∀ a ∈ pre ++ post, H' a = H a) → SlotOk H' sv' ow' f' → EOk H' (σ.set i sv') (env.set i ow') (pre ++ f' ++ post) := by
  induction h with
  | nil => intro i hi; exact absurd hi (Nat.not_lt_zero _)
  | @cons sv ow σ env f fp s t ih =>
    intro i hi
    cases i with
    | zero =>
      refine ⟨f, [], fp, sv, rfl, rfl, ?_, fun {H'} sv' ow' f' ft k s' => ?_⟩
      · show SlotOk H sv (((ow :: env)[0]?).join) f
        simpa using s
      · exact .cons s' (t.mono ft fun a ha => k a ha)
    | succ i =>
      obtain ⟨g, pre, post, sv1, e, h1, h2, h3⟩ := ih i (Nat.lt_of_succ_lt_succ hi)
      refine ⟨g, f ++ pre, post, sv1, by rw [e]; simp only [List.append_assoc], by simpa using h1, ?_, fun {H'} sv' ow' f' ft k s' => ?_⟩
      · show SlotOk H sv1 (((ow :: env)[i + 1]?).join) g
        rw [List.getElem?_cons_succ]
        exact h2
      · have q := h3 sv' ow' f' ft (fun a ha => k a (by
          rcases List.mem_append.mp ha with z | z
          · exact List.mem_append_left _ (List.mem_append_right _ z)
          · exact List.mem_append_right _ z)) s'
        rw [List.append_assoc f, List.append_assoc f]
        exact .cons (s.mono ft fun a ha => k a (List.mem_append_left _ (List.mem_append_left _ ha))) q
theorem slot_lt {env : Env} {i : Nat} {w : W} (h : slot env i = some w) : i < env.length := by
  unfold slot at h
  cases e : env[i]? with
  | none => rw [e] at h; cases h
  | some o => exact (List.getElem?_eq_some_iff.mp e).1

/-! ### what an evaluation does to the heap -/
structure Post (H : Hp) (fp : List Addr) (H' : Hp) (fp' : List Addr) : Prop where
  fr : ∀ a o, H a = some o → a ∉ fp → H' a = some o
  nw : ∀ a ∈ fp', a ∈ fp ∨ H a = none
  nd : fp'.Nodup
  ft : FT H H'
  th : ∀ a, H' a = none → H a = none
theorem Post.refl {H : Hp} {fp : List Addr} (nd : fp.Nodup) : Post H fp H fp := ⟨fun _ _ h _ => h, fun _ h => .inl h, nd, FT.refl H, fun _ h => h⟩
theorem Post.trans {H H1 H2 : Hp} {fp f1 f2 : List Addr} (a : Post H fp H1 f1) (b : Post H1 f1 H2 f2) : Post H fp H2 f2 where
  fr := fun x o h hx => b.fr x o (a.fr x o h hx) fun z => (a.nw x z).elim hx fun n => by rw [n] at h; cases h
  nw := fun x hx => (b.nw x hx).elim (fun z => a.nw x z) fun n => .inr (a.th x n)
  nd := b.nd
  ft := a.ft.trans b.ft
  th := fun x h => a.th x (b.th x h)
/-- other things stand by -/
theorem Post.frame {H H' : Hp} {fp f' g : List Addr} (p : Post H fp H' f') (nd : (fp ++ g).Nodup) (hg : ∀ a ∈ g, H a ≠ none) : Post H (fp ++ g) H' (f' ++ g) where
  fr := fun x o h hx => p.fr x o h fun z => hx (List.mem_append_left _ z)
  nw := fun x hx => (List.mem_append.mp hx).elim (fun z => (p.nw x z).elim (fun y => .inl (List.mem_append_left _ y)) .inr) fun z => .inl (List.mem_append_right _ z)
  nd := by
    rw [List.nodup_append] at nd ⊢
    refine ⟨p.nd, nd.2.1, fun a ha b hb e => ?_⟩
    subst e
    rcases p.nw a ha with z | z
    · exact nd.2.2 a z a hb rfl
    · exact hg a hb z
  ft := p.ft
  th := p.th
theorem Post.keep {H H' : Hp} {fp f' g : List Addr} (p : Post H fp H' f') (nd : (fp ++ g).Nodup) (hg : ∀ a ∈ g, H a ≠ none) : ∀ a ∈ g, H' a = H a := fun a ha => by
  cases e : H a with
  | none => exact absurd e (hg a ha)
  | some o => exact p.fr a o e fun z => (List.nodup_append.mp nd).2.2 a z a ha rfl
theorem Ow.ne {H : Hp} {a : Addr} (h : Ow (H a)) : H a ≠ none := fun e => by rw [e] at h; exact h
/-- fewer things are owned -/
theorem Post.less {H H' : Hp} {fp f1 f2 : List Addr} (p : Post H fp H' f1) (hs : f2.Sublist f1) : Post H fp H' f2 := ⟨p.fr, fun a ha => p.nw a (hs.subset ha), p.nd.sublist hs, p.ft, p.th⟩
/-- some of it is frozen -/
theorem Post.frozen {H H1 H2 : Hp} {fp f1 g : List Addr} (p : Post H fp H1 (f1 ++ g)) (z : Frozen H1 H2 g) (og : ∀ a ∈ g, Ow (H1 a)) : Post H fp H2 f1 where
  fr := fun a o h hn => by
    have q := p.fr a o h hn
    rw [z.out a fun hg => ?_, q]
    rcases p.nw a (List.mem_append_right _ hg) with y | y
    · exact hn y
    · rw [y] at h; cases h
  nw := fun a ha => p.nw a (List.mem_append_left _ ha)
  nd := (List.nodup_append.mp p.nd).1
  ft := p.ft.trans ⟨fun a xs e => by rw [z.out a fun hg => by have o := og a hg; rw [e] at o; exact o]; exact e, fun a o u e => by rw [z.out a fun hg => by have o := og a hg; rw [e] at o; exact o]; exact e⟩
  th := fun a h => by
    by_cases hg : a ∈ g
    · obtain ⟨o, u, _, e⟩ := z.at_ a hg
      rw [e] at h; cases h
    · rw [z.out a hg] at h; exact p.th a h
theorem Frozen.ft {H1 H2 : Hp} {g : List Addr} (z : Frozen H1 H2 g) (og : ∀ a ∈ g, Ow (H1 a)) : FT H1 H2 :=
  ⟨fun a xs e => by rw [z.out a fun hg => by have o := og a hg; rw [e] at o; exact o]; exact e, fun a o u e => by rw [z.out a fun hg => by have o := og a hg; rw [e] at o; exact o]; exact e⟩
/-- a new object -/
theorem Post.new {H : Hp} {fp : List Addr} {p : Addr} {o : HO} (nd : fp.Nodup) (hf : ∀ a ∈ fp, H a ≠ none) (n : H p = none) : Post H fp (upd H p o) (fp ++ [p]) where
  fr := fun a u h _ => by rw [upd_ne (ne_of_none h n)]; exact h
  nw := fun a ha => (List.mem_append.mp ha).elim .inl fun z => .inr (by rw [List.mem_singleton.mp z]; exact n)
  nd := by
    rw [List.nodup_append]
    refine ⟨nd, by simp, fun a ha b hb e => ?_⟩
    rw [List.mem_singleton.mp hb] at e
    exact hf a ha (by rw [e]; exact n)
  ft := FT.of fun a u h => by rw [upd_ne (ne_of_none h n)]; exact h
  th := fun a h => by
    by_cases e : a = p
    · rw [e]; exact n
    · rw [upd_ne e] at h; exact h
theorem FT.new {H : Hp} {p : Addr} {o : HO} (n : H p = none) : FT H (upd H p o) := FT.of fun a u h => by rw [upd_ne (ne_of_none h n)]; exact h

/-- the value of an expression: owned by the result, or by a slot -/
def RpR (H : Hp) (σ : Sg) (v : V) (w : W) (fw : List Addr) : Prop := match w with
  | .al i => σ[i]? = some (some v) ∧ fw = []
  | .d x => RpW H v (.d x) fw
  | .ol ws => RpW H v (.ol ws) fw
  | .od ks ws => RpW H v (.od ks ws) fw
theorem RpR.ow {H : Hp} {σ : Sg} {v : V} {w : W} {fw : List Addr} (h : RpR H σ v w fw) : ∀ a ∈ fw, Ow (H a) := by
  cases w with
  | al i => intro a ha; rw [h.2] at ha; cases ha
  | d x => exact RpW.ow h
  | ol ws => exact RpW.ow h
  | od ks ws => exact RpW.ow h
theorem RpR.mono {H H' : Hp} (ft : FT H H') {σ : Sg} {v : V} {w : W} {fw : List Addr} (h : RpR H σ v w fw) (k : ∀ a ∈ fw, H' a = H a) : RpR H' σ v w fw := by
  cases w with
  | al i => exact h
  | d x => exact RpW.mono ft h k
  | ol ws => exact RpW.mono ft h k
  | od ks ws => exact RpW.mono ft h k
/-- what is borrowed can be read -/
theorem RpR.brw {H : Hp} {σ : Sg} {env : Env} {fe : List Addr} {v : V} {w : W} {fw : List Addr} {x : PD} (E : EOk H σ env fe) (h : RpR H σ v w fw) (e : bor env w = some x) : Br H v x := by
  cases w with
  | al i =>
    simp only [bor] at e
    cases q : slot env i with
    | none => rw [q] at e; cases e
    | some c =>
      rw [q] at e
      obtain ⟨f, pre, post, sv, _, h1, h2, _⟩ := E.split i (slot_lt q)
      rw [q] at h2
      obtain ⟨v0, rfl, r⟩ := h2
      rw [h.1] at h1
      cases h1
      exact r.brw e
  | d y => cases e; cases h with | d r => exact .of r
  | ol ws => exact RpW.brw (w := .ol ws) h e
  | od ks ws => exact RpW.brw (w := .od ks ws) h e
end Mn

set_option linter.all false
set_option Elab.async false
set_option maxHeartbeats 1000000
/-! Mn: freezing, calls, the promise of a def. -/
namespace Mn
open PySem PySem.Spec PyProof.Rows L2

/-! ### freezing -/
section
variable {X : Cx} {pins : List (Addr × Obj)} {σ : Sg} {H : Hp} {s : Shared}
theorem lock1 (I : Inv X pins σ H s) {a : Addr} (ow : Ow (H a)) : ∃ o u, H a = some u ∧ Inv X pins σ (upd H a (.frz o u)) s := by
  cases e : H a with
  | none => rw [e] at ow; exact ow.elim
  | some u =>
    have ok := I.hok a u e
    obtain ⟨ob, hob⟩ : ∃ ob, s.heap.get? a = some ob := by
      have lt := ok.lt
      rw [e] at ow
      cases u with
      | lst xs => obtain ⟨_, _, _, _, q⟩ := ok; exact ⟨_, q⟩
      | dK kvs => obtain ⟨_, _, _, _, o, _, _, q, _⟩ := ok; exact ⟨_, q⟩
      | _ => exact ow.elim
    refine ⟨ob, u, rfl, ?_⟩
    have mu : Mut (H a) := ow.mut
    have new : ObjOk X.prog X.w (upd H a (.frz ob u)) s.heap a (.frz ob u) := by
      refine ⟨hob, ?_⟩
      rw [e] at ow
      cases u with
      | lst xs => exact ok
      | dK kvs => exact ok
      | _ => exact ow.elim
    exact I.write (h' := s.heap) (t' := s.toks) mu (.inl rfl) (fun b w _ q => q) ⟨ob, hob⟩ new
theorem lockAll : ∀ (L : List Addr) {H : Hp}, Inv X pins σ H s → (∀ a ∈ L, Ow (H a)) → L.Nodup → ∃ H', Inv X pins σ H' s ∧ Frozen H H' L
  | [], H, I, _, _ => ⟨H, I, ⟨fun _ _ => rfl, fun _ h => nomatch h⟩⟩
  | a :: L, H, I, ow, nd => by
    obtain ⟨o, u, e, I1⟩ := lock1 I (ow a List.mem_cons_self)
    have na : a ∉ L := (List.nodup_cons.mp nd).1
    have q : ∀ b ∈ L, upd H a (.frz o u) b = H b := fun b hb => upd_ne fun z => na (z ▸ hb)
    obtain ⟨H', I2, z⟩ := lockAll L I1 (fun b hb => by rw [q b hb]; exact ow b (List.mem_cons_of_mem _ hb)) (List.nodup_cons.mp nd).2
    refine ⟨H', I2, fun b hb => ?_, fun b hb => ?_⟩
    · rw [z.out b fun h => hb (List.mem_cons_of_mem _ h)]
      exact upd_ne fun h => hb (h ▸ List.mem_cons_self)
    · rcases List.mem_cons.mp hb with rfl | hb
      · refine ⟨o, u, e, ?_⟩
        rw [z.out b na]
        exact upd_same
      · obtain ⟨o', u', h1, h2⟩ := z.at_ b hb
        rw [q b hb] at h1
        exact ⟨o', u', h1, h2⟩
end
/-- some of what the result owns is frozen -/
def tLk (t : TE) : TE := fun σ H Q => t σ H fun v H1 => ∃ L : List Addr, (∀ a ∈ L, Ow (H1 a)) ∧ L.Nodup ∧ ∀ H2, Frozen H1 H2 L → Q v H2
theorem pe_lk {X : Cx} {e : Expr} {t : TE} (h : PE X e t) : PE X e (tLk t) := by
  refine ⟨fun pins s σ H Q I hq => ?_⟩
  refine thn (h.run pins s σ H _ I hq) fun u s' ⟨v, H1, I1, r, L, ow, nd, q⟩ => ?_
  obtain ⟨H2, I2, z⟩ := lockAll L I1 ow nd
  exact ⟨v, H2, I2, r, q H2 z⟩
theorem pe_imp {X : Cx} {e : Expr} {t t' : TE} (h : PE X e t) (w : ∀ σ H Q, t' σ H Q → t σ H Q) : PE X e t' := ⟨fun pins s σ H Q I q => h.run pins s σ H Q I (w σ H Q q)⟩
theorem pt_imp {X : Cx} {e : Expr} {t t' : TT} (h : PT X e t) (w : ∀ σ H Q, t' σ H Q → t σ H Q) : PT X e t' := ⟨fun pins s σ H Q I q => h.run pins s σ H Q I (w σ H Q q)⟩
theorem pa_imp {X : Cx} {e : List Expr} {t t' : TA} (h : PA X e t) (w : ∀ σ H Q, t' σ H Q → t σ H Q) : PA X e t' := ⟨fun pos pins s σ H Q I q => h.run pos pins s σ H Q I (w σ H Q q)⟩
theorem ps_imp {X : Cx} {e : Stmt} {t t' : TS} (h : PS X e t) (w : ∀ D σ H, t' D σ H → t D σ H) : PS X e t' := ⟨fun pins s σ H D I q => h.run pins s σ H D I (w D σ H q)⟩
theorem pss_imp {X : Cx} {e : List Stmt} {t t' : TS} (h : PSs X e t) (w : ∀ D σ H, t' D σ H → t D σ H) : PSs X e t' := ⟨fun pins s σ H D I q => h.run pins s σ H D I (w D σ H q)⟩

/-! ### readings by the evaluator -/
/-- the result as it comes -/
def tW (ev : Env → (W → Env → Prop) → Prop) : TE := fun σ H Q => ∃ (env : Env) (fp : List Addr) (Qe : W → Env → Prop), EOk H σ env fp ∧ fp.Nodup ∧ ev env Qe ∧
  ∀ w env' v H' fe fw, Qe w env' → EOk H' σ env' fe → RpR H' σ v w fw → Post H fp H' (fe ++ fw) → Q v H'
/-- the result as data -/
def tD (ev : Env → (PD → Env → Prop) → Prop) : TE := fun σ H Q => ∃ (env : Env) (fp : List Addr) (Qe : PD → Env → Prop), EOk H σ env fp ∧ fp.Nodup ∧ ev env Qe ∧
  ∀ x env' v H' fe, Qe x env' → EOk H' σ env' fe → Rp H' v x → Post H fp H' fe → Q v H'
/-- the result moved into an owner -/
def tM (ev : Env → (W → Env → Prop) → Prop) : TE := fun σ H Q => ∃ (env : Env) (fp : List Addr) (Qe : W → Env → Prop), EOk H σ env fp ∧ fp.Nodup ∧ ev env Qe ∧
  ∀ w env' v H' fe fw, Qe w env' → EOk H' σ env' fe → RpW H' v w fw → Post H fp H' (fe ++ fw) → Q v H'
theorem set_same {σ : Sg} {i : Nat} {x : Option V} (h : σ[i]? = some x) : σ.set i x = σ := by
  apply List.ext_getElem?
  intro j
  by_cases e : i = j
  · subst e
    rw [List.getElem?_set_self (List.getElem?_eq_some_iff.mp h).1, h]
  · rw [List.getElem?_set_ne e]
/-- a slot's object is frozen where it lies -/
theorem freezeSlot {H1 : Hp} {σ : Sg} {env : Env} {fe : List Addr} {v : V} {i : Nat} {c : W} (E : EOk H1 σ env fe) (nd : fe.Nodup) (h : σ[i]? = some (some v)) (q : slot env i = some c) :
    ∃ L rest : List Addr, (∀ a ∈ L, Ow (H1 a)) ∧ L.Nodup ∧ (∀ {H : Hp} {fp : List Addr}, Post H fp H1 fe → Post H fp H1 (rest ++ L)) ∧ ∀ H2, Frozen H1 H2 L → EOk H2 σ (env.set i (some (.d c.pd))) rest ∧ Rp H2 v c.pd := by
  obtain ⟨f, pre, post, sv, e1, h1, h2, h3⟩ := E.split i (slot_lt q)
  rw [q] at h2
  obtain ⟨v0, rfl, r⟩ := h2
  rw [h] at h1
  cases h1
  have ndf : (pre ++ f ++ post).Nodup := e1 ▸ nd
  refine ⟨f, pre ++ post, r.ow, ((List.nodup_append.mp (List.nodup_append.mp ndf).1).2.1), fun {H fp} p => ?_, fun H2 z => ?_⟩
  · have pm : (pre ++ post ++ f).Perm fe := by
      rw [e1, List.append_assoc, List.append_assoc]
      exact List.Perm.append_left _ List.perm_append_comm
    exact ⟨p.fr, fun a ha => p.nw a (pm.subset ha), pm.symm.nodup p.nd, p.ft, p.th⟩
  · have ft := z.ft r.ow
    have rp : Rp H2 v c.pd := r.freezes ft z.at_
    have key := h3 (H' := H2) (some v) (some (.d c.pd)) [] ft (fun a ha => z.out a fun hf => by
      rw [List.append_assoc] at ndf
      rcases List.mem_append.mp ha with y | y
      · exact (List.nodup_append.mp ndf).2.2 a y a (List.mem_append_left _ hf) rfl
      · exact (List.nodup_append.mp (List.nodup_append.mp ndf).2.1).2.2 a hf a y rfl) ⟨v, rfl, .d rp⟩
    rw [set_same h] at key
    rw [List.append_nil] at key
    exact ⟨key, rp⟩
theorem pe_fz {X : Cx} {e : Expr} {ev : Env → (W → Env → Prop) → Prop} (h : PE X e (tW ev)) : PE X e (tD fun env Q => ev env fun w e1 => fz w e1 Q) := by
  refine pe_imp (pe_lk h) fun σ H Q ⟨env, fp, Qe, E, nd, hev, k⟩ => ⟨env, fp, _, E, nd, hev, fun w env' v H1 fe fw hq E1 R P => ?_⟩
  have owned : ∀ {w : W}, RpW H1 v w fw → Qe w.pd env' → ∃ L : List Addr, (∀ a ∈ L, Ow (H1 a)) ∧ L.Nodup ∧ ∀ H2, Frozen H1 H2 L → Q v H2 := fun {w} r hq =>
    ⟨fw, r.ow, (List.nodup_append.mp P.nd).2.1, fun H2 z => k _ _ v H2 fe hq (E1.mono (z.ft r.ow) fun a ha => z.out a fun hf => (List.nodup_append.mp P.nd).2.2 a ha a hf rfl) (r.freezes (z.ft r.ow) z.at_) (P.frozen z r.ow)⟩
  cases w with
  | d x => exact owned (w := .d x) R hq
  | ol ws => exact owned (w := .ol ws) R hq
  | od ks ws => exact owned (w := .od ks ws) R hq
  | al i =>
    simp only [fz] at hq
    cases q : slot env' i with
    | none => rw [q] at hq; exact hq.elim
    | some c =>
      rw [q] at hq
      obtain ⟨h1, rfl⟩ := R
      obtain ⟨L, rest, ow, ndL, pp, fin⟩ := freezeSlot E1 (by have := P.nd; rwa [List.append_nil] at this) h1 q
      refine ⟨L, ow, ndL, fun H2 z => ?_⟩
      obtain ⟨E2, rp⟩ := fin H2 z
      exact k _ _ v H2 rest hq E2 rp ((pp (by rwa [List.append_nil] at P)).frozen z ow)
theorem pe_mv {X : Cx} {e : Expr} {ev : Env → (W → Env → Prop) → Prop} (h : PE X e (tW ev)) : PE X e (tM fun env Q => ev env fun w e1 => mv w e1 Q) := by
  refine pe_imp (pe_lk h) fun σ H Q ⟨env, fp, Qe, E, nd, hev, k⟩ => ⟨env, fp, _, E, nd, hev, fun w env' v H1 fe fw hq E1 R P => ?_⟩
  have none_ : ∀ {w : W}, RpW H1 v w fw → Qe w env' → ∃ L : List Addr, (∀ a ∈ L, Ow (H1 a)) ∧ L.Nodup ∧ ∀ H2, Frozen H1 H2 L → Q v H2 := fun {w} r hq =>
    ⟨[], (fun _ h => nomatch h), List.nodup_nil, fun H2 (z : Frozen H1 H2 []) => by
      have e : H2 = H1 := funext fun a => z.out a (by simp)
      subst e
      exact k _ _ v H2 fe fw hq E1 r P⟩
  cases w with
  | d x => exact none_ (w := .d x) R hq
  | ol ws => exact none_ (w := .ol ws) R hq
  | od ks ws => exact none_ (w := .od ks ws) R hq
  | al i =>
    simp only [mv] at hq
    cases q : slot env' i with
    | none => rw [q] at hq; exact hq.elim
    | some c =>
      rw [q] at hq
      obtain ⟨h1, rfl⟩ := R
      obtain ⟨L, rest, ow, ndL, pp, fin⟩ := freezeSlot E1 (by have := P.nd; rwa [List.append_nil] at this) h1 q
      refine ⟨L, ow, ndL, fun H2 z => ?_⟩
      obtain ⟨E2, rp⟩ := fin H2 z
      exact k _ _ v H2 rest [] hq E2 (.d rp) (by rw [List.append_nil]; exact (pp (by rwa [List.append_nil] at P)).frozen z ow)

/-! ### what a def promises -/
/-- a def's promise, where nothing is being shown -/
structure FnG (P : Program) (w : World) (K : PySem.W.Frag) (mg : Str → Option Value) (base : Heap) (k : Nat) (f : Addr) (fd : FuncData) (ps : List Str) (sp : Sp) : Prop where
  len : ∀ vs H Q E, sp vs H Q E → vs.length = ps.length
  run : ∀ (A : Around) (outer : List PySem.Env) (s : Shared) (H : Hp) (args : Args) (us : List Value) (vs : List V) (Q : VK) (E : XK), Room k A → A.guards = some [] → Env0 P w K mg base A outer s H → BindsTo s fd args (ps.zip us) → Vals vs us → sp vs H Q E →
    codeAny (model P w) A (.call (.ref f) args) (CR CX0 outer P w H s Q E) s
section
variable {X : Cx} {k : Nat} {f : Addr} {fd : FuncData} {ps : List Str} {sp : Sp} {x : Str} {p pos : Pos} {e : Expr} {es : List Expr} {t : TA}
theorem runG {pins : List (Addr × Obj)} {σ : Sg} {H : Hp} {s : Shared} {Q : VK} {us : List Value} {vs : List V} {args : Args} (F : FnG X.prog X.w X.K X.mg X.base k f fd ps sp) (hr : Room k X.A) (hg : X.A.guards = some []) (hb : BindsTo s fd args (ps.zip us))
    (I : Inv X pins σ H s) (r : Vals vs us) (h : sp vs H Q E0) : wpAny (model X.prog X.w) X.A (call (.ref f) args.pos args.kw) (EP X pins σ Q) X.xe s := by
  refine wpAny_call (codeAny_mono (F.run X.A X.stack s H args us vs Q E0 hr hg I.env0 hb r h) fun r s' hq => ?_)
  cases r with
  | error e => exact False.elim hq
  | ok fl =>
    cases fl with
    | ret u => exact I.after hq
    | next => exact False.elim hq
    | brk => exact False.elim hq
    | cont => exact False.elim hq
def tCalG (sp : Sp) (t : TA) : TE := fun σ H Q => t σ H fun vs H1 => sp vs H1 Q E0
theorem pe_calG (F : FnG X.prog X.w X.K X.mg X.base k f fd ps sp) (hr : Room k X.A) (hgd : X.A.guards = some []) (hg : Gl X x) (hm : X.mg x = some (.ref f)) (hk : PySem.W.keepIn X.K (.ref f) = true) (hb : Binds X.K fd ps [])
    (ha : PA X (e :: es) t) (hdb : (x == ("__debug__" : Str)) = false) (he : starEach (e :: es) X.env = (false, eval e X.env) :: starEach es X.env) (hpl : (backTo pos (starEach es X.env)).any (·.1) = false) :
    PE X (.Call (.Name x p) (e :: es) [] pos) (tCalG sp t) := by
  refine ⟨fun pins s σ H Q I h => ?_⟩
  refine wpAny_Call_Name_kw (ld_glob I hg hm ?_ hdb)
  refine PySem.W.callWith_K (h₀ := X.base) I.ok.mod.kin hk (thn (ha.run pos pins s σ H _ I h) fun us s1 ⟨vs, H1, I1, r, q⟩ => ⟨I1.kIn, ?_⟩) he hpl
  have hl : us.length = ps.length := by rw [← r.length]; exact F.len _ _ _ _ q
  have b := hb s1 us I1.kIn (by rw [List.append_nil]; exact hl)
  rw [List.append_nil] at b
  exact runG (args := ⟨us, []⟩) F hr hgd b I1 r q
end
end Mn

set_option linter.all false
set_option Elab.async false
set_option maxRecDepth 100000
set_option maxHeartbeats 2000000
/-! Mn: what a loop walks: lists and tuples, enumerate and zip of both kinds. -/
namespace Mn
open PySem PySem.Spec PyProof.Rows L2
open Sem (wp)

inductive Sk | l | t
def SqK (K : PySem.W.Frag) : Sk → Hp → Addr → List V → Prop
  | .l, H, a, xs => SqL K H a xs
  | .t, H, a, xs => SqT K H a xs
def ItK : Sk → Addr → Addr → Nat → Heap → Prop
  | .l, it, a, i, h => h.IsListIter it a i
  | .t, it, a, i, h => h.IsTupleIter it a i
def IsK : Sk → Heap → Addr → Array Value → Prop
  | .l, h, a, its => h.IsList a its
  | .t, h, a, its => h.IsTuple a its
def itO : Sk → Addr → Obj
  | .l, a => { cls := .type "list_iterator", data := .fields #[.ref a, .int 0 0] }
  | .t, a => { cls := .type "tuple_iterator", data := .fields #[.ref a, .int 0 0] }
theorem itK_new {k : Sk} {h : Heap} {it a : Addr} (e : h.get? it = some (itO k a)) : ItK k it a 0 h := by
  cases k <;> exact ⟨_, e, rfl, rfl⟩
theorem itK_obj {k : Sk} {it a : Addr} {i : Nat} {h : Heap} (q : ItK k it a i h) : ∃ o, h.get? it = some o ∧ ∀ v, o.data ≠ .cell v := by
  cases k with
  | l => obtain ⟨o, e, _, d⟩ := q; exact ⟨o, e, fun v z => by rw [d] at z; cases z⟩
  | t => obtain ⟨o, e, _, d⟩ := q; exact ⟨o, e, fun v z => by rw [d] at z; cases z⟩
theorem itK_at {k : Sk} {it a : Addr} {i : Nat} {h h' : Heap} (q : ItK k it a i h) (e : ∀ o, h.get? it = some o → h'.get? it = some o) : ItK k it a i h' := by
  cases k with
  | l => exact Heap.IsListIter.at q e
  | t => exact Heap.IsTupleIter.at q e
theorem drawsK {prog : Program} {w : World} {A : Around} (hh : A.handled = none) (k : Sk) (it a : Addr) (hne : a ≠ it) (items : Array Value) :
    Draws prog w A it [it, a] items.size (fun i v => items[i]? = some v) (fun i h => ItK k it a i h ∧ IsK k h a items) := by
  cases k with
  | l => exact Draws.list hh it a hne items
  | t => exact Draws.tuple hh it a hne items
theorem beginsK (k : Sk) (a : Addr) (items : Array Value) : Begins (.ref a) (itO k a) fun h => IsK k h a items := by
  cases k with
  | l => exact begins_list a items
  | t => exact begins_tuple a items
section
variable {X : Cx} {pins : List (Addr × Obj)} {σ : Sg} {H : Hp} {s : Shared} {k : Sk} {a : Addr} {xs : List V}
theorem sqK_get (I : Inv X pins σ H s) (h : SqK X.K k H a xs) : ∃ its : List Value, Vals xs its ∧ IsK k s.heap a its.toArray := by
  cases k with
  | l => obtain ⟨its, r, p, _⟩ := I.list h; exact ⟨its, r, p.isList⟩
  | t => obtain ⟨its, r, p, _⟩ := I.tuple h; exact ⟨its, r, p⟩
theorem sqK_lt (I : Inv X pins σ H s) (h : SqK X.K k H a xs) : a < s.heap.objs.size := by
  obtain ⟨its, _, q⟩ := sqK_get I h
  cases k with
  | l => obtain ⟨o, e, _⟩ := q; exact Heap.lt_size e
  | t => obtain ⟨o, e, _⟩ := q; exact Heap.lt_size e
end

theorem Inv.turnedMany {X : Cx} {pins : List (Addr × Obj)} {σ : Sg} {H : Hp} {s : Shared} {h' : Heap} {t' : Nat} {ch : List Addr} (I : L2.Inv X pins σ H s) (hk : ∀ b o, b ∉ ch → s.heap.get? b = some o → h'.get? b = some o) (hf : ∀ b ∈ ch, FpOk X pins H b) :
    L2.Inv X pins σ H { s with heap := h', toks := t' } := I.turnedL (ch := ch) hk hf

/-! ### enumerate -/
theorem enum_new1 {v : Value} {o : Obj} {Hq : Heap → Prop} (B : Begins v o Hq) :
    Meets (Builtin.«enumerate.__new__» ⟨[.type "enumerate", v], []⟩) (fun _ R s => Hq s.heap ∧
      R (.ok (.ret (.ref (s.heap.push o).objs.size))) { s with heap := (s.heap.push o).push { cls := .type "enumerate", data := .fields #[.none, .bool false, .ref s.heap.objs.size, rawInt 0, .none, .none] } }) :=
  .of_wp fun prog w A R s h => by
    obtain ⟨hp, g, d, tk, os⟩ := s
    obtain ⟨h1, h⟩ := h
    have hsub := sub_enumerate
    have it1 : ∀ {A' : Around} {E : Value → Shared → Prop} {Q : Value → Shared → Prop}, Q (.ref hp.objs.size) ⟨hp.push o, g, d, tk, os⟩ → wpAny (model prog w) A' (pyIter v) Q E ⟨hp, g, d, tk, os⟩ :=
      fun q => B.iter prog w _ _ ⟨hp, g, d, tk, os⟩ _ h1 q
    wp_walk using it1
    refine wpAny_stack_any fun st => wpAny_pure ?_
    split
    · rename_i c _ _ _ _ _
      cases (c == Value.type "enumerate")
      all_goals
        wp_walk using it1
        exact ⟨_, rfl, h⟩
    · wp_walk using it1
      exact ⟨_, rfl, h⟩
theorem call_enum1 {prog : Program} {w : World} {A : Around} {E : Value → Shared → Prop} {s : Shared} {v : Value} {o : Obj} {Hq : Heap → Prop} {Q : Value → Shared → Prop} (B : Begins v o Hq) (h1 : Hq s.heap)
    (h : ∀ h', IsEnum h' (s.heap.objs.size + 1) s.heap.objs.size 0 .none → h'.get? s.heap.objs.size = some o → (∀ b u, s.heap.get? b = some u → h'.get? b = some u) → Q (.ref (s.heap.objs.size + 1)) { s with heap := h' }) :
    wpAny (model prog w) A (call (.type "enumerate") [v]) Q E s := by
  refine callType_new F.called_enumerate (by decide) (F.typeCall_enumerate_1 _) (F.newCall_enumerate_1 _) (fun obj => F.args_object_init_2 obj _) F.entry_enumerate_new (enum_new1 B) ⟨h1, ?_⟩
  have hz : (s.heap.push o).objs.size = s.heap.objs.size + 1 := Heap.size_push ..
  show _ ∧ _
  rw [hz]
  have he : IsEnum ((s.heap.push o).push { cls := .type "enumerate", data := .fields #[.none, .bool false, .ref s.heap.objs.size, rawInt 0, .none, .none] }) (s.heap.objs.size + 1) s.heap.objs.size 0 .none := by
    have := Heap.get?_push_size (s.heap.push o) (o := { cls := .type "enumerate", data := .fields #[.none, .bool false, .ref s.heap.objs.size, rawInt 0, .none, .none] }) rfl
    rw [hz] at this
    exact this
  exact ⟨⟨_, he, rfl⟩, h _ he (Heap.get?_push_of_some _ (Heap.get?_push_size _ B.free)) fun b u q => Heap.get?_push_of_some _ (Heap.get?_push_of_some _ q)⟩
/-- at turn i a new tuple of ys i, while src stands -/
def Jn (n : Nat) (src : Hp → Prop) (ys : Nat → List V) : It :=
  ⟨fun i H => i < n ∧ src H, fun i H v H' => ∃ T, v = .ref T ∧ H T = none ∧ H' = upd H T (.tup (ys i)), fun i H => i = n ∧ src H⟩
theorem turn_enumK {P : Program} {w : World} {K : PySem.W.Frag} {elts : List Expr} {kk : Nat} {tpos : Pos} (k : Sk) (a e it : Addr) (xs : List V) (h1 : a ≠ it) (h2 : a ≠ e) (h3 : e ≠ it) :
    Turn P w K (.Tuple elts kk tpos) (Jn xs.length (fun H => SqK K k H a xs) (fun i => [.int (i : Nat), xs.getD i .non])) [e, it] e (fun i h => (∃ old, IsEnum h e it (0 + ((i : Nat) : Int)) old) ∧ ItK k it a i h) where
  mem := by simp
  obj := fun i h st b hb => by
    obtain ⟨⟨old, he⟩, hi⟩ := st
    have e' : b = e ∨ b = it := by simpa using hb
    rcases e' with rfl | rfl
    · exact ⟨_, he, fun v q => nomatch q⟩
    · exact itK_obj hi
  keep := fun i h h' st q => ⟨st.1.elim fun old he => ⟨old, q e (by simp) _ he⟩, itK_at st.2 fun o z => q it (by simp) o z⟩
  item := by
    intro X hP hw hK hc i pins s σ H E I hf st hg
    subst hP hw hK
    obtain ⟨hi, hsrc⟩ := hg
    obtain ⟨its, rv, hk⟩ := sqK_get I hsrc
    have hl := rv.length
    have G := GoesN.enumFrom (prog := X.prog) (w := X.w) (A := X.A) (elts := elts) (x1 := kk) (pos := tpos) 0 (drawsK (show X.A.in1.handled = none from I.ok.hd hc) k it a h1 its.toArray) e h3 (by simp only [List.mem_cons, List.mem_nil_iff, or_false, not_or]; exact ⟨h3, Ne.symm h2⟩) (by simp)
    refine thn (G.goes i s (fun v s2 => ∃ x H', Inv X pins σ H' s2 ∧ RelV x v ∧ (Jn xs.length (fun H => SqK X.K k H a xs) (fun i => [.int (i : Nat), xs.getD i .non])).yld i H x H' ∧ ((∃ old, IsEnum s2.heap e it (0 + ((i + 1 : Nat) : Int)) old) ∧ ItK k it a (i + 1) s2.heap) ∧ ∀ b ∈ [e, it], H' b = none) E (by rw [List.size_toArray]; omega) ⟨st.1, st.2, hk⟩ ?_) fun r s1 h => h
    intro v h' tk hY st' hkeep _
    obtain ⟨T, t, x, rfl, hn, hx, hT⟩ := hY
    have hT0 : H T = none := I.hok.fresh hn
    obtain ⟨y, hy⟩ : ∃ y, xs[i]? = some y := ⟨_, List.getElem?_eq_getElem hi⟩
    obtain ⟨u, hu, ru⟩ := rv.get hy
    have ex : x = u := by
      have q : its.toArray[i]? = some x := hx
      rw [List.getElem?_toArray, hu] at q
      exact (Option.some.inj q).symm
    subst ex
    have gd : xs.getD i .non = y := by rw [List.getD_eq_getElem?_getD, hy]; rfl
    have new : ObjOk X.prog X.w (upd H T (.tup [.int (i : Nat), xs.getD i .non])) h' T (.tup [.int (i : Nat), xs.getD i .non]) := by
      obtain ⟨o, q1, q2, n, q3⟩ := hT
      refine ⟨by show 2 ≤ sizeLine; decide, [.int (0 + (i : Int)) t, x], .cons ⟨t, by rw [Int.zero_add]⟩ (.cons (by rw [gd]; exact ru) .nil), o, q1, q2, n, q3⟩
    have I1 : Inv X pins σ (upd H T (.tup [.int (i : Nat), xs.getD i .non])) { s with heap := h', toks := tk } := I.turnedNew (ch := [e, it]) hkeep hf hn new
    refine ⟨.ref T, _, I1, rfl, ⟨T, rfl, hT0, rfl⟩, ⟨st'.1, st'.2.1⟩, fun b hb => ?_⟩
    have hb' : b < s.heap.objs.size := by
      have e' : b = e ∨ b = it := by simpa using hb
      rcases e' with rfl | rfl
      · obtain ⟨old, he⟩ := st.1; exact Heap.lt_size he
      · obtain ⟨o, q, _⟩ := itK_obj st.2; exact Heap.lt_size q
    rw [upd_ne (Nat.ne_of_lt (Nat.lt_of_lt_of_le hb' hn))]
    exact (hf b hb).1
  done := by
    intro X hP hw hK hc i pins s σ H E I hf st hg
    subst hP hw hK
    obtain ⟨hi, hsrc⟩ := hg
    obtain ⟨its, rv, hk⟩ := sqK_get I hsrc
    have hl := rv.length
    subst hi
    have G := GoesN.enumFrom (prog := X.prog) (w := X.w) (A := X.A) (elts := elts) (x1 := kk) (pos := tpos) 0 (drawsK (show X.A.in1.handled = none from I.ok.hd hc) k it a h1 its.toArray) e h3 (by simp only [List.mem_cons, List.mem_nil_iff, or_false, not_or]; exact ⟨h3, Ne.symm h2⟩) (by simp)
    have hsz : its.toArray.size = xs.length := by rw [List.size_toArray]; omega
    exact G.stops s (fun s1 => Inv X pins σ H s1) E (by rw [hsz]; exact ⟨st.1, st.2, hk⟩) fun h' tk hkeep _ => Inv.turnedMany I hkeep hf
  self := fun A i s Q E st h => let ⟨⟨_, he⟩, _⟩ := st; wpAny_pyIter_enum he h
/-! ### zip -/
theorem turn_zipK {P : Program} {w : World} {K : PySem.W.Frag} {elts : List Expr} {kk : Nat} {tpos : Pos} (k1 k2 : Sk) (a b z TI TO i1 i2 : Addr) (xs ys : List V) (h1 : a ≠ i1) (h2 : b ≠ i2) (S : ZipSep2 z TI TO i1 i2 [i1, a] [i2, b]) :
    Turn P w K (.Tuple elts kk tpos) (Jn (min xs.length ys.length) (fun H => SqK K k1 H a xs ∧ SqK K k2 H b ys) (fun i => [xs.getD i .non, ys.getD i .non])) [z, TI, TO, i1, i2] z
      (fun i h => IsZip h z TI TO .none ∧ IsTupOf2 h TI (.ref i1) (.ref i2) ∧ (∃ a1 a2, IsTupOf2 h TO a1 a2) ∧ ItK k1 i1 a i h ∧ ItK k2 i2 b i h) where
  mem := by simp
  obj := fun i h st c hc => by
    obtain ⟨hz, hTI, ⟨a1, a2, hTO⟩, st1, st2⟩ := st
    have e' : c = z ∨ c = TI ∨ c = TO ∨ c = i1 ∨ c = i2 := by simpa using hc
    rcases e' with rfl | rfl | rfl | rfl | rfl
    · exact ⟨_, hz, fun v q => nomatch q⟩
    · exact ⟨_, hTI, fun v q => nomatch q⟩
    · exact ⟨_, hTO, fun v q => nomatch q⟩
    · exact itK_obj st1
    · exact itK_obj st2
  keep := fun i h h' st q => by
    obtain ⟨hz, hTI, ⟨a1, a2, hTO⟩, st1, st2⟩ := st
    exact ⟨q z (by simp) _ hz, q TI (by simp) _ hTI, ⟨a1, a2, q TO (by simp) _ hTO⟩, itK_at st1 fun o x => q i1 (by simp) o x, itK_at st2 fun o x => q i2 (by simp) o x⟩
  item := by
    intro X hP hw hK hc i pins s σ H E I hf st hg
    subst hP hw hK
    obtain ⟨hi, hs1, hs2⟩ := hg
    obtain ⟨its1, rv1, hk1⟩ := sqK_get I hs1
    obtain ⟨its2, rv2, hk2⟩ := sqK_get I hs2
    have hl1 := rv1.length
    have hl2 := rv2.length
    obtain ⟨hz, hTI, hTO, st1, st2⟩ := st
    have G := GoesN.zip2 (prog := X.prog) (w := X.w) (A := X.A) (elts := elts) (x1 := kk) (pos := tpos) S (drawsK (show X.A.in1.handled = none from I.ok.hd hc) k1 i1 a h1 its1.toArray) (drawsK (show X.A.in1.handled = none from I.ok.hd hc) k2 i2 b h2 its2.toArray)
    refine thn (G.goes i s (fun v s2 => ∃ x H', L2.Inv X pins σ H' s2 ∧ RelV x v ∧ (Jn (min xs.length ys.length) (fun H => SqK X.K k1 H a xs ∧ SqK X.K k2 H b ys) (fun i => [xs.getD i .non, ys.getD i .non])).yld i H x H' ∧
        (IsZip s2.heap z TI TO .none ∧ IsTupOf2 s2.heap TI (.ref i1) (.ref i2) ∧ (∃ a1 a2, IsTupOf2 s2.heap TO a1 a2) ∧ ItK k1 i1 a (i + 1) s2.heap ∧ ItK k2 i2 b (i + 1) s2.heap) ∧ ∀ c ∈ [z, TI, TO, i1, i2], H' c = none) E
      (by rw [List.size_toArray, List.size_toArray]; omega) ⟨hz, hTI, hTO, ⟨st1, hk1⟩, ⟨st2, hk2⟩⟩ ?_) fun r s1 h => h
    intro v h' tk hY st' hkeep _
    obtain ⟨T, x, y, rfl, hn, hx, hy, hT⟩ := hY
    have hT0 : H T = none := I.hok.fresh hn
    obtain ⟨x', hx'⟩ : ∃ y, xs[i]? = some y := ⟨_, List.getElem?_eq_getElem (by omega)⟩
    obtain ⟨y', hy'⟩ : ∃ y, ys[i]? = some y := ⟨_, List.getElem?_eq_getElem (by omega)⟩
    obtain ⟨u, hu, ru⟩ := rv1.get hx'
    obtain ⟨u2, hu2, ru2⟩ := rv2.get hy'
    have ex : x = u := by
      have q : its1.toArray[i]? = some x := hx
      rw [List.getElem?_toArray, hu] at q
      exact (Option.some.inj q).symm
    have ey : y = u2 := by
      have q : its2.toArray[i]? = some y := hy
      rw [List.getElem?_toArray, hu2] at q
      exact (Option.some.inj q).symm
    subst ex ey
    have gx : xs.getD i .non = x' := by rw [List.getD_eq_getElem?_getD, hx']; rfl
    have gy : ys.getD i .non = y' := by rw [List.getD_eq_getElem?_getD, hy']; rfl
    have new : ObjOk X.prog X.w (upd H T (.tup [xs.getD i .non, ys.getD i .non])) h' T (.tup [xs.getD i .non, ys.getD i .non]) := by
      obtain ⟨o, q1, q2, n, q3⟩ := hT
      exact ⟨by show 2 ≤ sizeLine; decide, [x, y], .cons (by rw [gx]; exact ru) (.cons (by rw [gy]; exact ru2) .nil), o, q1, q2, n, q3⟩
    have I1 : L2.Inv X pins σ (upd H T (.tup [xs.getD i .non, ys.getD i .non])) { s with heap := h', toks := tk } := I.turnedNew (ch := [z, TO, i1, i2]) hkeep (fun c hcm => hf c (by
      have e' : c = z ∨ c = TO ∨ c = i1 ∨ c = i2 := by simpa using hcm
      rcases e' with rfl | rfl | rfl | rfl <;> simp)) hn new
    obtain ⟨z1, z2, z3, z4, z5⟩ := st'
    refine ⟨.ref T, _, I1, rfl, ⟨T, rfl, hT0, rfl⟩, ⟨z1, z2, z3, z4.1, z5.1⟩, fun c hcm => ?_⟩
    have hc' : c < s.heap.objs.size := by
      have e' : c = z ∨ c = TI ∨ c = TO ∨ c = i1 ∨ c = i2 := by simpa using hcm
      rcases e' with rfl | rfl | rfl | rfl | rfl
      · exact Heap.lt_size hz
      · exact Heap.lt_size hTI
      · obtain ⟨_, _, q⟩ := hTO; exact Heap.lt_size q
      · obtain ⟨o, q, _⟩ := itK_obj st1; exact Heap.lt_size q
      · obtain ⟨o, q, _⟩ := itK_obj st2; exact Heap.lt_size q
    rw [upd_ne (Nat.ne_of_lt (Nat.lt_of_lt_of_le hc' hn))]
    exact (hf c hcm).1
  done := by
    intro X hP hw hK hc i pins s σ H E I hf st hg
    subst hP hw hK
    obtain ⟨hi, hs1, hs2⟩ := hg
    obtain ⟨its1, rv1, hk1⟩ := sqK_get I hs1
    obtain ⟨its2, rv2, hk2⟩ := sqK_get I hs2
    have hl1 := rv1.length
    have hl2 := rv2.length
    subst hi
    obtain ⟨hz, hTI, hTO, st1, st2⟩ := st
    have G := GoesN.zip2 (prog := X.prog) (w := X.w) (A := X.A) (elts := elts) (x1 := kk) (pos := tpos) S (drawsK (show X.A.in1.handled = none from I.ok.hd hc) k1 i1 a h1 its1.toArray) (drawsK (show X.A.in1.handled = none from I.ok.hd hc) k2 i2 b h2 its2.toArray)
    have hsz : min its1.toArray.size its2.toArray.size = min xs.length ys.length := by rw [List.size_toArray, List.size_toArray]; omega
    exact G.stops s (fun s1 => L2.Inv X pins σ H s1) E (by rw [hsz]; exact ⟨hz, hTI, hTO, ⟨st1, hk1⟩, ⟨st2, hk2⟩⟩) fun h' tk hkeep _ => Inv.turnedMany I hkeep (fun c hcm => hf c (by
      have e' : c = z ∨ c = TO ∨ c = i1 ∨ c = i2 := by simpa using hcm
      rcases e' with rfl | rfl | rfl | rfl <;> simp))
  self := fun A i s Q E st h => wpAny_pyIter_zip st.1 h

/-! ### the sources -/
def starless : Expr → Bool
  | .Starred _ _ => false
  | _ => true
theorem star_cons {e : Expr} {es : List Expr} {env : PySem.Env} (h : starless e = true) : starEach (e :: es) env = (false, eval e env) :: starEach es env := by
  cases e <;> first | rfl | cases h
def starlessAll (es : List Expr) : Bool := es.all starless
theorem star_any0 {es : List Expr} {env : PySem.Env} (h : starlessAll es = true) : (starEach es env).any (·.1) = false := by
  induction es with
  | nil => rfl
  | cons e es ih =>
    simp only [starlessAll, List.all_cons, Bool.and_eq_true] at h
    rw [star_cons h.1, List.any_cons, ih (by simpa [starlessAll] using h.2)]
    rfl
theorem star_any {es : List Expr} {env : PySem.Env} (pos : Pos) (h : starlessAll es = true) : (backTo pos (starEach es env)).any (·.1) = false := by
  unfold backTo
  rw [List.any_map]
  exact star_any0 h
section
variable {X : Cx} {e e2 : Expr} {ta tb : TE} {p pos tpos : Pos} {elts : List Expr} {kk : Nat}
theorem pa_one (ha : PE X e ta) (hs : starless e = true) : PA X [e] (tCons ta tNil) := pa_cons ha pa_nil (star_cons hs)
theorem pa_two (ha : PE X e ta) (hb : PE X e2 tb) (hs : starless e = true) (hs2 : starless e2 = true) : PA X [e, e2] (tCons ta (tCons tb tNil)) := pa_cons ha (pa_one hb hs2) (star_cons hs)
def iEnumK (K : PySem.W.Frag) (ta : TE) : TI := fun σ H R => ta σ H fun v H1 => ∃ a k xs, v = .ref a ∧ SqK K k H1 a xs ∧ H1 a ≠ none ∧ R (Jn xs.length (fun H => SqK K k H a xs) (fun i => [.int (i : Nat), xs.getD i .non])) H1
theorem pi_enumK (hg : Gl X "enumerate") (hm : X.mg "enumerate" = none) (ha : PE X e ta) (hs : starless e = true) : PI X (.Tuple elts kk tpos) (.Call (.Name "enumerate" p) [e] [] pos) (iEnumK X.K ta) := by
  refine ⟨fun pins s σ H R I h => ?_⟩
  have h : (tCons ta tNil) σ H (fun vs H1 => ∃ a k xs, vs = [.ref a] ∧ SqK X.K k H1 a xs ∧ H1 a ≠ none ∧ R (Jn xs.length (fun H => SqK X.K k H a xs) (fun i => [.int (i : Nat), xs.getD i .non])) H1) := by
    refine (show ta σ H _ from ?_)
    have : (fun v H1 => ∃ a k xs, v = V.ref a ∧ SqK X.K k H1 a xs ∧ H1 a ≠ none ∧ R (Jn xs.length (fun H => SqK X.K k H a xs) (fun i => [.int (i : Nat), xs.getD i .non])) H1) = (fun x H1 => tNil σ H1 fun xs_1 H2 => ∃ a k xs, x :: xs_1 = [V.ref a] ∧ SqK X.K k H2 a xs ∧ H2 a ≠ none ∧ R (Jn xs.length (fun H => SqK X.K k H a xs) (fun i => [.int (i : Nat), xs.getD i .non])) H2) := by
      funext v H1
      simp only [tNil, List.cons.injEq, and_true]
    rw [← this]
    exact h
  refine Call_ (ld_blt I hg hm boot_enumerate (PyProof.Rows.callWith_type1 (thn ((pa_one ha hs).run pos pins s σ H _ I h) fun us s1 ⟨vs, H1, I1, r1, q1⟩ => ?_) (star_cons hs) rfl))
  obtain ⟨a, k, xs, e1, hq, hne, q⟩ := q1
  subst e1
  cases r1 with
  | cons r rr =>
    cases rr
    cases r
    obtain ⟨its, rv, p'⟩ := sqK_get I1 hq
    have hal := sqK_lt I1 hq
    refine call_enum1 (beginsK k a its.toArray) p' fun h' he hit hk => wpAny_pyIter_enum he ?_
    have I2 : L2.Inv X pins σ H1 { s1 with heap := h' } := I1.kept (t' := s1.toks) hk
    refine ⟨s1.heap.objs.size + 1, [s1.heap.objs.size + 1, s1.heap.objs.size], _, _, H1, rfl, I2, turn_enumK k a (s1.heap.objs.size + 1) s1.heap.objs.size xs (Nat.ne_of_lt hal) (Nat.ne_of_lt (Nat.lt_succ_of_lt hal)) (Nat.succ_ne_self _), ⟨⟨.none, by rw [Int.zero_add]; exact he⟩, itK_new hit⟩, fun b hb => ?_, q⟩
    have hle : s1.heap.objs.size ≤ b := by
      have e' : b = s1.heap.objs.size + 1 ∨ b = s1.heap.objs.size := by simpa using hb
      rcases e' with z | z
      · rw [z]; exact Nat.le_add_right _ _
      · rw [z]; exact Nat.le_refl _
    exact I1.fpOk hle (I1.hok.fresh hle)
def iZipK (K : PySem.W.Frag) (ta tb : TE) : TI := fun σ H R => (tCons ta (tCons tb tNil)) σ H fun vs H1 => ∃ a b k1 k2 xs ys, vs = [.ref a, .ref b] ∧ SqK K k1 H1 a xs ∧ SqK K k2 H1 b ys ∧
  R (Jn (min xs.length ys.length) (fun H => SqK K k1 H a xs ∧ SqK K k2 H b ys) (fun i => [xs.getD i .non, ys.getD i .non])) H1
theorem pi_zipK (hg : Gl X "zip") (hm : X.mg "zip" = none) (ha : PE X e ta) (hb : PE X e2 tb) (hs : starless e = true) (hs2 : starless e2 = true) : PI X (.Tuple elts kk tpos) (.Call (.Name "zip" p) [e, e2] [] pos) (iZipK X.K ta tb) := by
  refine ⟨fun pins s σ H R I h => ?_⟩
  refine Call_ (ld_blt I hg hm PyProof.Rows.boot_zip (PyProof.Rows.callWith_type1 (thn ((pa_two ha hb hs hs2).run pos pins s σ H _ I h) fun us s1 ⟨vs, H1, I1, r1, q1⟩ => ?_) (star_cons hs) (star_any pos (by simp [starlessAll, hs2]))))
  obtain ⟨a, b, k1, k2, xs, ys, e1, hq1, hq2, q⟩ := q1
  subst e1
  cases r1 with
  | cons r rr =>
    cases rr with
    | cons r' rr =>
      cases rr
      cases r
      cases r'
      obtain ⟨its1, rv1, p1⟩ := sqK_get I1 hq1
      obtain ⟨its2, rv2, p2⟩ := sqK_get I1 hq2
      have hal := sqK_lt I1 hq1
      have hbl := sqK_lt I1 hq2
      refine zip_begins2 (beginsK k1 a its1.toArray) (beginsK k2 b its2.toArray) p1 p2 fun h' hz hTI hTO g1 g2 hsz hk => wpAny_pyIter_zip hz ?_
      have I2 : L2.Inv X pins σ H1 { s1 with heap := h' } := I1.kept (t' := s1.toks) hk
      refine ⟨s1.heap.objs.size + 4, [s1.heap.objs.size + 4, s1.heap.objs.size + 2, s1.heap.objs.size + 3, s1.heap.objs.size, s1.heap.objs.size + 1], _, _, H1, rfl, I2,
        turn_zipK k1 k2 a b _ _ _ _ _ xs ys (Nat.ne_of_lt hal) (Nat.ne_of_lt (Nat.lt_succ_of_lt hbl)) (zip_sep2 (N := s1.heap.objs.size) (fp1 := [a]) (fp2 := [b]) (fun c hc => by rw [List.mem_singleton.mp hc]; exact hal) (fun c hc => by rw [List.mem_singleton.mp hc]; exact hbl)),
        ⟨hz, hTI, ⟨_, _, hTO⟩, itK_new g1, itK_new g2⟩, fun c hcm => ?_, q⟩
      have hle : s1.heap.objs.size ≤ c := by
        have e' : c = s1.heap.objs.size + 4 ∨ c = s1.heap.objs.size + 2 ∨ c = s1.heap.objs.size + 3 ∨ c = s1.heap.objs.size ∨ c = s1.heap.objs.size + 1 := by simpa using hcm
        rcases e' with z | z | z | z | z
        · rw [z]; exact Nat.le_add_right _ _
        · rw [z]; exact Nat.le_add_right _ _
        · rw [z]; exact Nat.le_add_right _ _
        · rw [z]; exact Nat.le_refl _
        · rw [z]; exact Nat.le_add_right _ _
      exact I1.fpOk hle (I1.hok.fresh hle)
end
end Mn

set_option linter.all false
set_option Elab.async false
set_option maxRecDepth 100000
set_option maxHeartbeats 2000000
/-! Mn: operations by values. -/
namespace Mn
open PySem PySem.Spec PyProof.Rows L2
open AutoSeq1 (wpAny_loadPart')

/-! ### borrowed data, read -/
section
variable {H : Hp} {v : V}
theorem Br.int {i : Int} (h : Br H v (.int i)) : v = .int i := by cases h with | of r => cases r; rfl
theorem Br.bool {b : Bool} (h : Br H v (.bool b)) : v = .bl b := by cases h with | of r => cases r; rfl
theorem Br.str {s : Str} (h : Br H v (.str s)) : v = .str s := by cases h with | of r => cases r; rfl
theorem Br.non (h : Br H v .none) : v = .non := by cases h with | of r => cases r; rfl
theorem Br.list {ds : List PD} (h : Br H v (.list ds)) : ∃ a xs, v = .ref a ∧ Rd H a (.lst xs) ∧ RpL H xs ds := by
  cases h with
  | of r => cases r with | lst _ e r => exact ⟨_, _, rfl, .inr ⟨_, e⟩, r⟩
  | lst _ e r => exact ⟨_, _, rfl, .inl e, r⟩
theorem Br.tuple {ds : List PD} (h : Br H v (.tuple ds)) : ∃ a xs, v = .ref a ∧ H a = some (.tup xs) ∧ RpL H xs ds := by
  cases h with
  | of r => cases r with | tup e r => exact ⟨_, _, rfl, e, r⟩
theorem Rp.list {ds : List PD} (h : Rp H v (.list ds)) : ∃ a o xs, v = .ref a ∧ H a = some (.frz o (.lst xs)) ∧ RpL H xs ds := by
  cases h with | lst _ e r => exact ⟨_, _, _, rfl, e, r⟩
theorem Rp.tuple {ds : List PD} (h : Rp H v (.tuple ds)) : ∃ a xs, v = .ref a ∧ H a = some (.tup xs) ∧ RpL H xs ds := by
  cases h with | tup e r => exact ⟨_, _, rfl, e, r⟩
end
/-- a list or a tuple of a moment -/
theorem Br.seq {K : PySem.W.Frag} {H : Hp} {v : V} {d : PD} {ds : List PD} (h : Br H v d) (e : d = .list ds ∨ d = .tuple ds) : ∃ a xs, v = .ref a ∧ (SqL K H a xs ∨ SqT K H a xs) ∧ RpL H xs ds := by
  rcases e with rfl | rfl
  · obtain ⟨a, xs, e, r, l⟩ := h.list
    exact ⟨a, xs, e, .inl (.inl r), l⟩
  · obtain ⟨a, xs, e, r, l⟩ := h.tuple
    exact ⟨a, xs, e, .inr (.of r), l⟩
/-- data without dicts, for the library's == -/
theorem RpL.dp {K : PySem.W.Frag} {H : Hp} : ∀ {ds : List PD} {vs : List V}, (∀ v d, d ∈ ds → Rp H v d → PyData.canLay0 d = true → Dp K H v d) → RpL H vs ds → PyData.canLayAll0 ds = true → DpAll K H vs ds
  | [], _, _, .nil, _ => .nil
  | d :: ds, _, f, .cons a b, h => by
    simp only [PyData.canLayAll0, Bool.and_eq_true] at h
    exact .cons (f _ _ List.mem_cons_self a h.1) (RpL.dp (fun v d hd => f v d (List.mem_cons_of_mem _ hd)) b h.2)
theorem Rp.dp {K : PySem.W.Frag} {H : Hp} {v : V} {d : PD} (h : Rp H v d) : PyData.canLay0 d = true → Dp K H v d :=
  Rp.rec (motive_1 := fun v d _ => PyData.canLay0 d = true → Dp K H v d) (motive_2 := fun vs ds _ => PyData.canLayAll0 ds = true → DpAll K H vs ds)
    (fun _ => .non) (fun b _ => .bl b) (fun i _ => .int i) (fun s _ => .str s) (fun _ e _ ih h => .lst (.inl (.inr ⟨_, e⟩)) (ih (by simpa [PyData.canLay0] using h))) (fun e _ ih h => .tup (.of e) (ih (by simpa [PyData.canLay0] using h)))
    (fun _ _ _ _ _ h => by simp [PyData.canLay0] at h) (fun _ => .nil) (fun _ _ i1 i2 h => by simp only [PyData.canLayAll0, Bool.and_eq_true] at h; exact .cons (i1 h.1) (i2 h.2)) h
theorem Br.dp {K : PySem.W.Frag} {H : Hp} {v : V} {d : PD} (h : Br H v d) (c : PyData.canLay0 d = true) : Dp K H v d := by
  cases h with
  | of r => exact r.dp c
  | lst _ e r => exact .lst (.inl (.inl e)) (RpL.dp (fun v d _ r => r.dp) r (by simpa [PyData.canLay0] using c))
  | dct _ e r q => simp [PyData.canLay0] at c

/-! ### what an operation hands back -/
/-- the heap grew at most -/
structure Res (H H' : Hp) (fw : List Addr) : Prop where
  ext : ∀ a o, H a = some o → H' a = some o
  new : ∀ a ∈ fw, H a = none
  nd : fw.Nodup
theorem Res.refl (H : Hp) : Res H H [] := ⟨fun _ _ h => h, (fun _ h => nomatch h), List.nodup_nil⟩
theorem Res.one {H : Hp} {p : Addr} {o : HO} (n : H p = none) : Res H (upd H p o) [p] := ⟨fun a u h => by rw [upd_ne (ne_of_none h n)]; exact h, fun a h => by rw [List.mem_singleton.mp h]; exact n, by simp⟩
theorem Res.tup {H : Hp} {p : Addr} {o : HO} (n : H p = none) : Res H (upd H p o) [] := ⟨fun a u h => by rw [upd_ne (ne_of_none h n)]; exact h, (fun _ h => nomatch h), List.nodup_nil⟩
theorem Res.trans {H H1 H2 : Hp} {f : List Addr} (a : Res H H1 []) (b : Res H1 H2 f) : Res H H2 f where
  ext := fun x o h => b.ext x o (a.ext x o h)
  new := fun x h => by
    cases e : H x with
    | none => rfl
    | some o =>
      have q := b.new x h
      rw [a.ext x o e] at q
      cases q
  nd := b.nd
theorem Res.ft {H H' : Hp} {f : List Addr} (r : Res H H' f) : FT H H' := FT.of r.ext
theorem Res.post {H H' : Hp} {f fp : List Addr} (r : Res H H' f) (nd : fp.Nodup) (hf : ∀ a ∈ fp, H a ≠ none) : Post H fp H' (fp ++ f) where
  fr := fun a o h _ => r.ext a o h
  nw := fun a ha => (List.mem_append.mp ha).elim .inl fun z => .inr (r.new a z)
  nd := by
    rw [List.nodup_append]
    refine ⟨nd, r.nd, fun a ha b hb e => ?_⟩
    subst e
    exact hf a ha (r.new a hb)
  ft := r.ft
  th := fun a h => by
    cases e : H a with
    | none => rfl
    | some o => rw [r.ext a o e] at h; cases h
/-- a result that is new or data -/
def Out (H : Hp) (Qw : W → Prop) (Q : VK) : Prop := ∀ w v H' fw, Qw w → (∀ i, w ≠ .al i) → RpW H' v w fw → Res H H' fw → Q v H'
theorem Out.d {H : Hp} {Qw : W → Prop} {Q : VK} (k : Out H Qw Q) {x : PD} {v : V} (q : Qw (.d x)) (r : Rp H v x) : Q v H := k (.d x) v H [] q (fun _ => nofun) (.d r) (Res.refl H)
theorem Out.tup {H : Hp} {Qw : W → Prop} {Q : VK} (k : Out H Qw Q) {ds : List PD} {vs : List V} (q : Qw (.d (.tuple ds))) (r : RpL H vs ds) {p : Addr} (n : H p = none) : Q (.ref p) (upd H p (.tup vs)) :=
  k (.d (.tuple ds)) _ _ [] q (fun _ => nofun) (.d (.tup upd_same (r.mono (FT.new n)))) (Res.tup n)
theorem Out.lst {H : Hp} {Qw : W → Prop} {Q : VK} (k : Out H Qw Q) (sy : Sys H) {ds : List PD} {vs : List V} (q : Qw (.ol (ds.map .d))) (r : RpL H vs ds) {p : Addr} (n : H p = none) : Q (.ref p) (upd H p (.lst vs)) :=
  k (.ol (ds.map .d)) _ _ [p] q (fun _ => nofun) (.ol (sy.ne n) upd_same (r.mono (FT.new n)).own) (Res.one n)
def Bo.op : Bo → Operator
  | .add => .Add | .sub => .Sub | .mul => .Mult | .fdiv => .FloorDiv | .mod => .Mod | .pow => .Pow | .band => .BitAnd | .shl => .LShift | .shr => .RShift
def rD (g : PD → PD → (W → Prop) → Prop) : R2 := fun x y H Q => ∃ p q Qw, Sys H ∧ Br H x p ∧ Br H y q ∧ g p q Qw ∧ Out H Qw Q
theorem lim_line : lim ≤ sizeLine := by rw [sizeLine_eq]; decide
section
variable {X : Cx}
theorem rd_list {pins : List (Addr × Obj)} {s : Shared} {σ : Sg} {H : Hp} {a : Addr} {xs : List V} (I : L2.Inv X pins σ H s) (h : Rd H a (.lst xs)) : xs.length ≤ sizeLine ∧ ∃ (its : List Value) (n : Nat), Vals xs its ∧ xs.length = its.length ∧ s.heap.get? a = some { cls := .type "list", data := .seq its.toArray n } := by
  obtain ⟨z, its, n, r, e⟩ := h.ok I.hok
  exact ⟨z, its, n, r, r.length, e⟩
/-- list + list, whoever owns them -/
def rCatL : R2 := fun x y H Q => ∃ l b xs zs, x = .ref l ∧ y = .ref b ∧ Rd H l (.lst xs) ∧ Rd H b (.lst zs) ∧ xs.length + zs.length ≤ sizeLine ∧ ∀ p, H p = none → Q (.ref p) (upd H p (.lst (xs ++ zs)))
theorem op_catL : OpR X (binaryOp .Add) rCatL := by
  intro pins s σ H x y v u Q I rx ry h
  obtain ⟨l, b, xs, zs, rfl, rfl, hl, hb, hz, q⟩ := h
  cases rx
  cases ry
  obtain ⟨_, its, n1, r1, k1, e1⟩ := rd_list I hl
  obtain ⟨_, its2, n2, r2, k2, e2⟩ := rd_list I hb
  have ea : its.toArray ++ its2.toArray = (its ++ its2).toArray := by simp
  refine PySem.P.add_list e1 e2 ?_ (by simp only [List.size_toArray]; omega)
  rw [ea]
  exact ⟨.ref _, _, I.lnew (t' := s.toks) (r1.append r2) (by simp only [List.length_append]; omega), rfl, q _ I.fresh⟩
/-- tuple * int, the edges -/
theorem tup_rep_same (l : Addr) (items : Array Value) (n : Nat) (dd : Option Addr) (sl : Array (Option Value)) (x : Int) (u : Tok) (c0 : (decide (x < -(2 ^ 63)) || decide (x ≥ 2 ^ 63)) = false) (c1 : (items.isEmpty || x == 1) = true) :
    Meets (Builtin.«tuple.__mul__» ⟨[.ref l, .int x u], []⟩) (fun _ R s => s.heap.get? l = some { cls := .type "tuple", dict := dd, data := .seq items n, slots := sl } ∧ R (.ok (.ret (.ref l))) s) :=
  .of_wp fun prog w A R s h => by
    obtain ⟨hp, g, d, tk, os⟩ := s
    obtain ⟨hl, h⟩ := h
    have f1 := AutoSeq1.idx_int
    wp_walk using wpAny_loadPart' hl
    repeat (first
      | (refine wpAny_ite_false (decide_eq_false (by rw [c0]; exact Bool.false_ne_true)) ?_; wp_walk using wpAny_loadPart' hl)
      | (refine wpAny_ite_true (decide_eq_true (by rw [c1])) ?_; wp_walk using wpAny_loadPart' hl))
    exact ⟨_, rfl, h⟩
theorem tup_rep_none (l : Addr) (items : Array Value) (n : Nat) (dd : Option Addr) (sl : Array (Option Value)) (x : Int) (u : Tok) (c0 : (decide (x < -(2 ^ 63)) || decide (x ≥ 2 ^ 63)) = false) (c1 : (items.isEmpty || x == 1) = false) (c2 : (decide (x ≤ 0) || items.isEmpty) = true) :
    Meets (Builtin.«tuple.__mul__» ⟨[.ref l, .int x u], []⟩) (fun _ R s => s.heap.get? l = some { cls := .type "tuple", dict := dd, data := .seq items n, slots := sl } ∧
      R (.ok (.ret (Value.ref s.heap.objs.size))) { s with heap := s.heap.push { cls := Value.type "tuple", data := Data.seq #[] } }) :=
  .of_wp fun prog w A R s h => by
    obtain ⟨hp, g, d, tk, os⟩ := s
    obtain ⟨hl, h⟩ := h
    have f1 := AutoSeq1.idx_int
    wp_walk using wpAny_loadPart' hl
    repeat (first
      | (refine wpAny_ite_false (decide_eq_false (by rw [c0]; exact Bool.false_ne_true)) ?_; wp_walk using wpAny_loadPart' hl)
      | (refine wpAny_ite_false (decide_eq_false (by rw [c1]; exact Bool.false_ne_true)) ?_; wp_walk using wpAny_loadPart' hl)
      | (refine wpAny_ite_true (decide_eq_true (by rw [c2])) ?_; wp_walk using wpAny_loadPart' hl))
    exact ⟨_, rfl, h⟩
def rRepA (K : PySem.W.Frag) : R2 := fun x y H Q => ∃ l k xs, x = .ref l ∧ y = .int k ∧ H l = some (.tup xs) ∧ 0 ≤ k ∧ k ≤ 1000 ∧ xs.length ≤ 1000 ∧ (xs = [] ∨ k = 1 → Q (.ref l) H) ∧ (xs ≠ [] → k ≠ 1 → ∀ p, H p = none → Q (.ref p) (upd H p (.tup (List.replicate k.toNat xs).flatten)))
theorem op_repA : OpR X (binaryOp .Mult) (rRepA X.K) := by
  intro pins s σ H x y v u Q I rx ry h
  obtain ⟨l, k, xs, rfl, rfl, hT, h0, h1, hz, q1, q2⟩ := h
  by_cases big : xs ≠ [] ∧ 2 ≤ k
  · exact op_repT pins s σ H _ _ v u Q I rx ry ⟨l, k, xs, rfl, rfl, .of hT, big.1, big.2, h1, hz, q2 big.1 (by omega)⟩
  · cases rx
    obtain ⟨t, rfl⟩ := ry
    obtain ⟨its, r, ⟨⟨cls, dd, data, sl⟩, ho, hc, n, hd⟩, hs⟩ := I.tuple (.of hT)
    simp only at hc hd
    subst hc hd
    have c0 : (decide (k < -(2 ^ 63)) || decide (k ≥ 2 ^ 63)) = false := by
      rw [decide_eq_false (by omega), decide_eq_false (by omega)]
      rfl
    have he : its.toArray.isEmpty = decide (xs = []) := by
      cases r with
      | nil => rfl
      | cons a b => rfl
    by_cases e1 : xs = [] ∨ k = 1
    · have c1 : (its.toArray.isEmpty || k == 1) = true := by
        rw [he]
        rcases e1 with e | e
        · rw [decide_eq_true e]; rfl
        · rw [e]; simp
      exact wpAny_binaryOp_repeat_ref (T := "tuple") (U := "int") (by decide) ⟨_, ho, rfl⟩ (fun s' => typeIs_int s' k t) noFill_tuple_mul PySem.F.fills_int_mul PySem.F.slot_int_rmul repeat_tuple PySem.F.slot_int_index.lookup
        (call_meets PySem.F.slot_int_rmul (typeIs_int s k t) PySem.F.entry_int_rmul (PySem.F.args_int_rmul_2 _ _) (int_rmul_tuple k t l its.toArray n dd sl)
          ⟨ho, rfl, ⟨_, ho, rfl⟩, call_meets PySem.F.slot_tuple_mul ⟨_, ho, rfl⟩ PySem.F.entry_tuple_mul (PySem.F.args_tuple_mul_2 _ _) (tup_rep_same l its.toArray n dd sl k t c0 c1) ⟨ho, ⟨.ref l, H, I, rfl, q1 e1⟩⟩⟩)
    · have nx : xs ≠ [] := fun e => e1 (.inl e)
      have nk : k ≠ 1 := fun e => e1 (.inr e)
      have k0 : k = 0 := by
        have := big
        simp only [not_and] at this
        have := this nx
        omega
      subst k0
      have c1 : (its.toArray.isEmpty || (0 : Int) == 1) = false := by rw [he, decide_eq_false nx]; rfl
      have c2 : (decide ((0 : Int) ≤ 0) || its.toArray.isEmpty) = true := by simp
      refine wpAny_binaryOp_repeat_ref (T := "tuple") (U := "int") (by decide) ⟨_, ho, rfl⟩ (fun s' => typeIs_int s' 0 t) noFill_tuple_mul PySem.F.fills_int_mul PySem.F.slot_int_rmul repeat_tuple PySem.F.slot_int_index.lookup
        (call_meets PySem.F.slot_int_rmul (typeIs_int s 0 t) PySem.F.entry_int_rmul (PySem.F.args_int_rmul_2 _ _) (int_rmul_tuple 0 t l its.toArray n dd sl)
          ⟨ho, rfl, ⟨_, ho, rfl⟩, call_meets PySem.F.slot_tuple_mul ⟨_, ho, rfl⟩ PySem.F.entry_tuple_mul (PySem.F.args_tuple_mul_2 _ _) (tup_rep_none l its.toArray n dd sl 0 t c0 c1 c2) ⟨ho, ?_⟩⟩)
      have q := q2 nx nk s.heap.objs.size I.fresh
      refine ⟨.ref s.heap.objs.size, _, I.laid (t' := s.toks) (o := .tup []) (fun b ob q => Heap.get?_push_of_some _ q) (Nat.le_refl _) ⟨Nat.zero_le _, [], .nil, IsTup.new _ _⟩, rfl, ?_⟩
      simpa using q

theorem MulOk.ok {i j : Int} (h : MulOk i j) : IntMulOk i j := by
  have b : ∀ {x : Int} {k : Nat}, x.natAbs < 2 ^ k → Builtin.Int.intBits x ≤ k := by
    intro x k hx
    unfold Builtin.Int.intBits
    split
    · omega
    · rename_i hne
      have hx0 : x.natAbs ≠ 0 := by
        intro e
        apply hne
        first | exact e | (rw [e]; rfl) | simp_all
      have := (Nat.log2_lt hx0).mpr hx
      omega
  rcases h with h | h | ⟨h1, h2⟩
  · exact .of_left (b h)
  · exact .of_right (b h)
  · have a1 := b h1
    have a2 := b h2
    unfold IntMulOk
    intro z
    rw [Bool.and_eq_true] at z
    have z2 := z.2
    unfold Builtin.Int.intTooBig at z2
    have z3 := of_decide_eq_true z2
    rw [show bitsLine = 134217728 from by decide] at z3
    omega
/-- the operations of Bo -/
theorem op_bo (o : Bo) : OpR X (binaryOp o.op) (rD (bo o)) := by
  intro pins s σ H x y v u Q I rx ry h
  obtain ⟨p, q, Qw, sy, hx, hy, g, k⟩ := h
  have int2 : ∀ {a b : Int}, p = .int a → q = .int b → x = .int a ∧ y = .int b := fun e1 e2 => ⟨(e1 ▸ hx).int, (e2 ▸ hy).int⟩
  cases o <;> cases p <;> cases q <;> (first | exact g.elim | skip)
  case add.int.int a b =>
    obtain ⟨rfl, rfl⟩ := int2 rfl rfl
    exact op_add pins s σ H _ _ v u Q I rx ry ⟨a, b, rfl, rfl, k.d g (.int _)⟩
  case add.bool.int a b =>
    cases hx.bool
    cases hy.int
    cases rx
    obtain ⟨t', rfl⟩ := ry
    exact PySem.IntBool.add_bool_int ⟨.int _, H, I.tok _, ⟨_, rfl⟩, k.d g (.int _)⟩
  case add.int.bool a b =>
    cases hx.int
    cases hy.bool
    obtain ⟨t, rfl⟩ := rx
    cases ry
    exact PySem.add_int_bool ⟨.int _, H, I.tok _, ⟨_, rfl⟩, k.d g (.int _)⟩
  case sub.bool.int a b =>
    cases hx.bool
    cases hy.int
    cases rx
    obtain ⟨t', rfl⟩ := ry
    exact PySem.IntBool.sub_bool_int ⟨.int _, H, I.tok _, ⟨_, rfl⟩, k.d g (.int _)⟩
  case sub.int.bool a b =>
    cases hx.int
    cases hy.bool
    obtain ⟨t, rfl⟩ := rx
    cases ry
    exact PySem.IntBool.sub_int_bool ⟨.int _, H, I.tok _, ⟨_, rfl⟩, k.d g (.int _)⟩
  case mul.bool.int a b =>
    cases hx.bool
    cases hy.int
    cases rx
    obtain ⟨t', rfl⟩ := ry
    exact PySem.IntBool.mul_bool_int ⟨.int _, H, I.tok _, ⟨_, rfl⟩, k.d g (.int _)⟩
  case add.str.str a b =>
    cases hx.str
    cases hy.str
    exact op_add_str pins s σ H _ _ v u Q I rx ry ⟨a, b, rfl, rfl, Nat.le_trans g.1 lim_line, k.d g.2 (.str _)⟩
  case add.list.list a b =>
    obtain ⟨l1, xs, rfl, r1, l1'⟩ := hx.list
    obtain ⟨l2, ys, rfl, r2, l2'⟩ := hy.list
    have e1 := l1'.length
    have e2 := l2'.length
    exact op_catL pins s σ H _ _ v u Q I rx ry ⟨l1, l2, xs, ys, rfl, rfl, r1, r2, by have := g.1; have := lim_line; omega, fun p n => k.lst sy g.2 (l1'.append l2') n⟩
  case add.tuple.tuple a b =>
    obtain ⟨l1, xs, rfl, r1, l1'⟩ := hx.tuple
    obtain ⟨l2, ys, rfl, r2, l2'⟩ := hy.tuple
    have e1 := l1'.length
    have e2 := l2'.length
    refine op_catA pins s σ H _ _ v u Q I rx ry ⟨l1, l2, xs, ys, rfl, rfl, .of r1, .of r2, by have := g.1; have := lim_line; omega, fun e => ?_, fun _ e => ?_, fun _ _ p n => k.tup g.2 (l1'.append l2') n⟩
    · subst e
      cases l1'
      exact k.d g.2 (.tup r2 l2')
    · subst e
      cases l2'
      exact k.d g.2 (.tup r1 (by simpa using l1'))
  case sub.int.int a b =>
    obtain ⟨rfl, rfl⟩ := int2 rfl rfl
    exact op_sub pins s σ H _ _ v u Q I rx ry ⟨a, b, rfl, rfl, k.d g (.int _)⟩
  case mul.int.int a b =>
    obtain ⟨rfl, rfl⟩ := int2 rfl rfl
    obtain ⟨t, rfl⟩ := rx
    obtain ⟨t', rfl⟩ := ry
    exact mul_int ⟨.int _, H, I.tok _, ⟨_, rfl⟩, k.d g.2 (.int _)⟩ g.1.ok
  case mul.tuple.int a b =>
    obtain ⟨l1, xs, rfl, r1, l1'⟩ := hx.tuple
    cases hy.int
    have e1 := l1'.length
    obtain ⟨g1, g2, g3, g4⟩ := g
    refine op_repA pins s σ H _ _ v u Q I rx ry ⟨l1, b, xs, rfl, rfl, r1, g1, g2, by omega, fun e => ?_, fun _ _ p n => k.tup g4 (l1'.replicate b.toNat) n⟩
    have eq : (List.replicate b.toNat a).flatten = a := by
      rcases e with e | e
      · subst e
        cases l1'
        simp
      · subst e
        simp
    rw [eq] at g4
    exact k.d g4 (.tup r1 l1')
  case fdiv.int.int a b =>
    obtain ⟨rfl, rfl⟩ := int2 rfl rfl
    obtain ⟨t, rfl⟩ := rx
    obtain ⟨t', rfl⟩ := ry
    refine floordiv_int g.1 ⟨.int _, H, I.tok _, ⟨_, rfl⟩, k.d g.2.2 (.int _)⟩ (.inl (PyProof.noPylong_of_log2 ?_))
    have gb : b ≠ 0 := g.1
    have hb : b.natAbs ≠ 0 := by omega
    exact Nat.lt_of_lt_of_le ((Nat.log2_lt hb).mpr g.2.1) (by omega)
  case mod.int.int a b =>
    obtain ⟨rfl, rfl⟩ := int2 rfl rfl
    exact op_modN pins s σ H _ _ v u Q I rx ry ⟨a, b, rfl, rfl, g.1, k.d g.2 (.int _)⟩
  case pow.int.int a b =>
    obtain ⟨rfl, rfl⟩ := int2 rfl rfl
    exact op_pow pins s σ H _ _ v u Q I rx ry ⟨a, b, rfl, rfl, ⟨g.1, by have := g.2.1; omega, g.2.2.1⟩, k.d g.2.2.2 (.int _)⟩
  case band.int.int a b =>
    obtain ⟨rfl, rfl⟩ := int2 rfl rfl
    exact op_and pins s σ H _ _ v u Q I rx ry ⟨a, b, rfl, rfl, k.d g (.int _)⟩
  case shl.int.int a b =>
    obtain ⟨rfl, rfl⟩ := int2 rfl rfl
    exact op_shl pins s σ H _ _ v u Q I rx ry ⟨a, b, rfl, rfl, ⟨g.1, by have := g.2.1; omega, g.2.2.1⟩, k.d g.2.2.2 (.int _)⟩
  case shr.int.int a b =>
    obtain ⟨rfl, rfl⟩ := int2 rfl rfl
    exact op_shr pins s σ H _ _ v u Q I rx ry ⟨a, b, rfl, rfl, g.1, k.d g.2 (.int _)⟩

/-! ### comparisons -/
def Co.op : Co → CmpOp
  | .eq => .Eq | .ne => .NotEq | .lt => .Lt | .le => .LtE | .gt => .Gt | .ge => .GtE | .isin => .In | .notin => .NotIn | .eqT => .Eq | .neT => .NotEq | .isB => .Is | .nisB => .IsNot
def rC (g : PD → PD → (Bool → Prop) → Prop) : R2 := fun x y H Q => ∃ p q Qb, Br H x p ∧ Br H y q ∧ g p q Qb ∧ ∀ b, Qb b → Q (.bl b) H
theorem in_data (hu : X.A.units + 65 < cLine) {pins : List (Addr × Obj)} {s : Shared} {σ : Sg} {H : Hp} {x y : V} {v u : Value} {d : PD} {ds : List PD} (tu : Bool) (I : L2.Inv X pins σ H s) (rx : RelV x v) (ry : RelV y u) (hx : Br H x d) (hy : Br H y (if tu then .tuple ds else .list ds)) (s1 : SeqAt.shaped d = true)
    (s2 : SeqAt.shaped (if tu then PyData.tuple ds else .list ds) = true) (neg : Bool) {Q : VK} (q : Q (.bl (if neg then !ds.any fun z => PyData.eqv z d else ds.any fun z => PyData.eqv z d)) H) :
    wpAny (model X.prog X.w) X.A (compareOp (if neg then .NotIn else .In) v u) (EP X pins σ Q) X.xe s := by
  obtain ⟨as, r1⟩ := Dp.reads I d x v (hx.dp (SeqAt.canLay_of_shaped s1)) rx
  cases tu with
  | false =>
    obtain ⟨bs, r2⟩ := Dp.reads I (.list ds) y u (hy.dp (SeqAt.canLay_of_shaped s2)) ry
    cases neg with
    | false => exact SeqAt.in_list_reads r2 r1 (SeqAt.canLay_of_shaped s2) (SeqAt.canLay_of_shaped s1) (room_in_shaped s1 hu) ⟨.bl _, H, I, rfl, q⟩
    | true => exact SeqAt.notIn_list_reads r2 r1 (SeqAt.canLay_of_shaped s2) (SeqAt.canLay_of_shaped s1) (room_in_shaped s1 hu) ⟨.bl _, H, I, rfl, q⟩
  | true =>
    obtain ⟨bs, r2⟩ := Dp.reads I (.tuple ds) y u (hy.dp (SeqAt.canLay_of_shaped s2)) ry
    cases neg with
    | false => exact SeqAt.in_tuple_reads r2 r1 (SeqAt.canLay_of_shaped s2) (SeqAt.canLay_of_shaped s1) (room_in_shaped s1 hu) ⟨.bl _, H, I, rfl, q⟩
    | true => exact SeqAt.notIn_tuple_reads r2 r1 (SeqAt.canLay_of_shaped s2) (SeqAt.canLay_of_shaped s1) (room_in_shaped s1 hu) ⟨.bl _, H, I, rfl, q⟩
theorem rcT0 {X : Cx} (hu : X.A.units + 65 < cLine) {pins : List (Addr × Obj)} {s : Shared} {σ : Sg} {H : Hp} {x y : V} {v u : Value} {xs : List PD} (I : L2.Inv X pins σ H s) (rx : RelV x v) (ry : RelV y u) (hx : Br H x (.tuple xs)) (hy : Br H y (.tuple [])) : SeqAt.RcAt X.A s v u xs.isEmpty := by
  obtain ⟨a, vs, rfl, hr, l⟩ := hx.tuple
  obtain ⟨b, ws, rfl, hr2, l2⟩ := hy.tuple
  cases rx
  cases ry
  cases l2
  obtain ⟨its, r1, p1, _⟩ := I.tuple (.of hr)
  obtain ⟨its2, r2, p2, _⟩ := I.tuple (.of hr2)
  cases r2
  have hlen := r1.length
  have hl := l.length
  have q := SeqAt.RcAt.tuples (A := X.A) (s := s) (items := its.toArray) (items2 := ([] : List Value).toArray) (e := fun _ => true) p1 p2 (by omega) (fun j j1 j2 => absurd j2 (by simp))
  have e : ((List.range (min its.toArray.size ([] : List Value).toArray.size)).all (fun _ => true) && its.toArray.size == ([] : List Value).toArray.size) = xs.isEmpty := by
    cases xs with
    | nil =>
      have : its = [] := List.eq_nil_of_length_eq_zero (by rw [List.length_nil] at hl; omega)
      subst this
      simp
    | cons z zs =>
      have : its.length ≠ 0 := by rw [List.length_cons] at hl; omega
      simp [this]
  rw [e] at q
  exact q
theorem rcNeT0 {X : Cx} (hu : X.A.units + 65 < cLine) {pins : List (Addr × Obj)} {s : Shared} {σ : Sg} {H : Hp} {x y : V} {v u : Value} {xs : List PD} (I : L2.Inv X pins σ H s) (rx : RelV x v) (ry : RelV y u) (hx : Br H x (.tuple xs)) (hy : Br H y (.tuple [])) : SeqAt.RcNeAt X.A s v u (!xs.isEmpty) := by
  obtain ⟨a, vs, rfl, hr, l⟩ := hx.tuple
  obtain ⟨b, ws, rfl, hr2, l2⟩ := hy.tuple
  cases rx
  cases ry
  cases l2
  obtain ⟨its, r1, p1, _⟩ := I.tuple (.of hr)
  obtain ⟨its2, r2, p2, _⟩ := I.tuple (.of hr2)
  cases r2
  have hlen := r1.length
  have hl := l.length
  have q := SeqAt.RcNeAt.tuples (A := X.A) (s := s) (items := its.toArray) (items2 := ([] : List Value).toArray) (e := fun _ => true) p1 p2 (by omega) (fun j j1 j2 => absurd j2 (by simp))
  have e : ((List.range (min its.toArray.size ([] : List Value).toArray.size)).all (fun _ => true) && its.toArray.size == ([] : List Value).toArray.size) = xs.isEmpty := by
    cases xs with
    | nil =>
      have : its = [] := List.eq_nil_of_length_eq_zero (by rw [List.length_nil] at hl; omega)
      subst this
      simp
    | cons z zs =>
      have : its.length ≠ 0 := by rw [List.length_cons] at hl; omega
      simp [this]
  rw [e] at q
  exact q
theorem rcL0 {X : Cx} (hu : X.A.units + 65 < cLine) {pins : List (Addr × Obj)} {s : Shared} {σ : Sg} {H : Hp} {x y : V} {v u : Value} {xs : List PD} (I : L2.Inv X pins σ H s) (rx : RelV x v) (ry : RelV y u) (hx : Br H x (.list xs)) (hy : Br H y (.list [])) : SeqAt.RcAt X.A s v u xs.isEmpty := by
  obtain ⟨a, vs, rfl, hr, l⟩ := hx.list
  obtain ⟨b, ws, rfl, hr2, l2⟩ := hy.list
  cases rx
  cases ry
  cases l2
  obtain ⟨its, r1, p1, _⟩ := I.list (.inl hr)
  obtain ⟨its2, r2, p2, _⟩ := I.list (.inl hr2)
  cases r2
  have hlen := r1.length
  have hl := l.length
  cases xs with
  | nil =>
    have h0 : its = [] := List.eq_nil_of_length_eq_zero (by rw [List.length_nil] at hl; omega)
    subst h0
    exact SeqAt.RcAt.lists (A := X.A) (s := s) (e := fun _ => true) p1.isList p2.isList rfl (by omega) (fun j j1 j2 => absurd j2 (by simp))
  | cons z zs =>
    have h0 : its.length ≠ 0 := by rw [List.length_cons] at hl; omega
    exact SeqAt.RcAt.lists_lengths (A := X.A) (s := s) p1.isList p2.isList (by simp [bne, h0]) (by omega)
theorem rcNeL0 {X : Cx} (hu : X.A.units + 65 < cLine) {pins : List (Addr × Obj)} {s : Shared} {σ : Sg} {H : Hp} {x y : V} {v u : Value} {xs : List PD} (I : L2.Inv X pins σ H s) (rx : RelV x v) (ry : RelV y u) (hx : Br H x (.list xs)) (hy : Br H y (.list [])) : SeqAt.RcNeAt X.A s v u (!xs.isEmpty) := by
  obtain ⟨a, vs, rfl, hr, l⟩ := hx.list
  obtain ⟨b, ws, rfl, hr2, l2⟩ := hy.list
  cases rx
  cases ry
  cases l2
  obtain ⟨its, r1, p1, _⟩ := I.list (.inl hr)
  obtain ⟨its2, r2, p2, _⟩ := I.list (.inl hr2)
  cases r2
  have hlen := r1.length
  have hl := l.length
  cases xs with
  | nil =>
    have h0 : its = [] := List.eq_nil_of_length_eq_zero (by rw [List.length_nil] at hl; omega)
    subst h0
    exact SeqAt.RcNeAt.lists (A := X.A) (s := s) (e := fun _ => true) p1.isList p2.isList rfl (by omega) (fun j j1 j2 => absurd j2 (by simp))
  | cons z zs =>
    have h0 : its.length ≠ 0 := by rw [List.length_cons] at hl; omega
    exact SeqAt.RcNeAt.lists_lengths (A := X.A) (s := s) p1.isList p2.isList (by simp [bne, h0]) (by omega)
theorem op_co (hu : X.A.units + 65 < cLine) (o : Co) : OpR X (compareOp o.op) (rC (co o)) := by
  intro pins s σ H x y v u Q I rx ry h
  obtain ⟨p, q, Qb, hx, hy, g, k⟩ := h
  cases o
  case eq => exact op_eqD (by omega) pins s σ H x y v u Q I rx ry ⟨p, q, hx.dp (SeqAt.canLay_of_shaped g.1), hy.dp (SeqAt.canLay_of_shaped g.2.1), g.1, g.2.1, k _ g.2.2⟩
  case ne => exact op_neD (by omega) pins s σ H x y v u Q I rx ry ⟨p, q, hx.dp (SeqAt.canLay_of_shaped g.1), hy.dp (SeqAt.canLay_of_shaped g.2.1), g.1, g.2.1, k _ g.2.2⟩
  case eqT =>
    cases p <;> (first | exact g.elim | skip)
    case tuple xs =>
      cases q <;> (first | exact g.elim | skip)
      case tuple ys =>
        cases ys with
        | cons _ _ => exact g.elim
        | nil => exact rcT0 hu I rx ry hx hy X.prog X.w X.xe _ ⟨.bl _, H, I, rfl, k _ g⟩
    case list xs =>
      cases q <;> (first | exact g.elim | skip)
      case list ys =>
        cases ys with
        | cons _ _ => exact g.elim
        | nil => exact rcL0 hu I rx ry hx hy X.prog X.w X.xe _ ⟨.bl _, H, I, rfl, k _ g⟩
  case neT =>
    cases p <;> (first | exact g.elim | skip)
    case tuple xs =>
      cases q <;> (first | exact g.elim | skip)
      case tuple ys =>
        cases ys with
        | cons _ _ => exact g.elim
        | nil => exact rcNeT0 hu I rx ry hx hy X.prog X.w X.xe _ ⟨.bl _, H, I, rfl, k _ g⟩
    case list xs =>
      cases q <;> (first | exact g.elim | skip)
      case list ys =>
        cases ys with
        | cons _ _ => exact g.elim
        | nil => exact rcNeL0 hu I rx ry hx hy X.prog X.w X.xe _ ⟨.bl _, H, I, rfl, k _ g⟩
  case isB =>
    cases p <;> cases q <;> (first | exact g.elim | skip)
    case bool.bool a b =>
      cases hx.bool
      cases hy.bool
      exact op_isBl pins s σ H _ _ v u Q I rx ry ⟨a, b, rfl, rfl, k _ g⟩
  case nisB =>
    cases p <;> cases q <;> (first | exact g.elim | skip)
    case bool.bool a b =>
      cases hx.bool
      cases hy.bool
      exact op_notBl pins s σ H _ _ v u Q I rx ry ⟨a, b, rfl, rfl, k _ g⟩
  case isin =>
    cases q <;> (first | exact g.elim | skip)
    case list ds => exact in_data hu false I rx ry hx hy g.1 g.2.1 false (k _ g.2.2)
    case tuple ds => exact in_data hu true I rx ry hx hy g.1 g.2.1 false (k _ g.2.2)
  case notin =>
    cases q <;> (first | exact g.elim | skip)
    case list ds => exact in_data hu false I rx ry hx hy g.1 g.2.1 true (k _ g.2.2)
    case tuple ds => exact in_data hu true I rx ry hx hy g.1 g.2.1 true (k _ g.2.2)
  all_goals
    cases p <;> cases q <;> (first | exact g.elim | skip)
    cases hx.int
    cases hy.int
    first
      | exact op_lt pins s σ H _ _ v u Q I rx ry ⟨_, _, rfl, rfl, k _ g⟩
      | exact op_le pins s σ H _ _ v u Q I rx ry ⟨_, _, rfl, rfl, k _ g⟩
      | exact op_gt pins s σ H _ _ v u Q I rx ry ⟨_, _, rfl, rfl, k _ g⟩
      | exact op_ge pins s σ H _ _ v u Q I rx ry ⟨_, _, rfl, rfl, k _ g⟩
end
end Mn

set_option linter.all false
set_option Elab.async false
set_option maxRecDepth 100000
set_option maxHeartbeats 2000000
/-! Mn: the built-ins by values. -/
namespace Mn
open PySem PySem.Spec PyProof.Rows L2
open AutoSeq1 (wpAny_loadPart')

/-! ### data read off the heap, dicts too -/
theorem keys_read {P : Program} {w : World} {h : Heap} : ∀ {es : List DictEntry} {vs : List (Key × Value)} {kvs : List (Key × V)}, Pairs (mixKind P w) es vs → KV kvs vs → ReadsAll h (es.map (·.key)) (kvs.map fun kv => keyPD kv.1) [] ∧ Vals (kvs.map (·.2)) (es.map (·.val))
  | [], _, _, hp, hk => by
    cases hp
    cases hk
    exact ⟨.nil, .nil⟩
  | e :: es, _, _, hp, hk => by
    cases hp with
    | cons h1 h2 h3 =>
      cases hk with
      | @cons kv q kvs vs k1 k2 =>
        obtain ⟨r1, r2⟩ := keys_read h3 k2
        obtain ⟨k0, v0⟩ := kv
        obtain ⟨e1, e2⟩ := k1
        simp only at e1 e2
        subst e1
        refine ⟨?_, .cons (by show L2.RelV v0 e.val; rw [h2]; exact e2) r2⟩
        have rd : ∀ (q : Key), keyIs q e.key = true → Reads h e.key (keyPD q) [] := by
          intro q hq
          rcases keyIs_shape hq with ⟨i, t, a, b⟩ | ⟨x, t, a, b⟩
          · rw [a, b]; exact .int _ _
          · rw [a, b]; exact .str _ _
        exact ReadsAll.cons (as := []) (rd _ h1) r1
section
variable {X : Cx} {pins : List (Addr × Obj)} {σ : Sg} {H : Hp} {s : Shared}
theorem rpL_reads (I : L2.Inv X pins σ H s) {vs : List V} {ds : List PD} (h : RpL H vs ds) : ∀ us, Vals vs us → ∃ as, ReadsAll s.heap us ds as ∧ sysModules ∉ as :=
  RpL.rec (motive_1 := fun v d _ => ∀ u, RelV v u → ∃ as, Reads s.heap u d as ∧ sysModules ∉ as) (motive_2 := fun vs ds _ => ∀ us, Vals vs us → ∃ as, ReadsAll s.heap us ds as ∧ sysModules ∉ as)
    (fun u r => by cases r; exact ⟨[], .none, by simp⟩) (fun b u r => by cases r; exact ⟨[], .bool b, by simp⟩)
    (fun i u r => by obtain ⟨t, rfl⟩ := r; exact ⟨[], .int i t, by simp⟩) (fun x u r => by obtain ⟨t, rfl⟩ := r; exact ⟨[], .str x t, by simp⟩)
    (fun {a o xs ds} n e _ ih u r => by
      cases r
      obtain ⟨_, its, k, rv, _, ho⟩ := rd_list I (.inr ⟨o, e⟩)
      obtain ⟨as, ra, na⟩ := ih _ rv
      exact ⟨a :: as, .list ho rfl rfl (by simpa using ra), by simp only [List.mem_cons, not_or]; exact ⟨Ne.symm n, na⟩⟩)
    (fun {a xs ds} e _ ih u r => by
      cases r
      obtain ⟨its, rv, ⟨o, ho, hc, k, hd⟩, _⟩ := I.tuple (.of e)
      obtain ⟨as, ra, na⟩ := ih _ rv
      exact ⟨as, .tuple ho hc hd (by simpa using ra), na⟩)
    (fun {a o kvs ds x} n e hl q ih u r => by
      cases r
      obtain ⟨z, _, vs, kv, ob, es, ep, ho, hx, hd, _, hp, _⟩ := dk_rd I.hok (.inr ⟨o, e⟩)
      obtain ⟨r1, r2⟩ := keys_read (h := s.heap) hp kv
      obtain ⟨as, ra, na⟩ := ih _ r2
      have l1 : ds.length = kvs.length := by have := hl.length; rw [List.length_map] at this; exact this.symm
      subst q
      have m1 : (((kvs.map fun kv => keyPD kv.1).zip ds).map (·.1)) = kvs.map fun kv => keyPD kv.1 := List.map_fst_zip (by simp [l1])
      have m2 : (((kvs.map fun kv => keyPD kv.1).zip ds).map (·.2)) = ds := List.map_snd_zip (by simp [l1])
      refine ⟨a :: [] ++ as, .dict ho hx.1 hd (by rw [m1]; exact r1) (by rw [m2]; exact ra), ?_⟩
      simp only [List.mem_append, List.mem_cons, not_or]
      exact ⟨⟨Ne.symm n, by simp⟩, na⟩)
    (fun us r => by cases r; exact ⟨[], .nil, by simp⟩)
    (fun _ _ i1 i2 us r => by
      cases r with
      | cons a b =>
        obtain ⟨a1, r1, n1⟩ := i1 _ a
        obtain ⟨a2, r2, n2⟩ := i2 _ b
        exact ⟨a1 ++ a2, .cons r1 r2, by simp only [List.mem_append, not_or]; exact ⟨n1, n2⟩⟩) h
theorem rp_reads (I : L2.Inv X pins σ H s) {v : V} {d : PD} {u : Value} (h : Rp H v d) (r : RelV v u) : ∃ as, Reads s.heap u d as ∧ sysModules ∉ as := by
  obtain ⟨as, ra, n⟩ := rpL_reads I (.cons h .nil) [u] (.cons r .nil)
  cases ra with
  | cons a b =>
    cases b
    simp only [List.append_nil] at n
    exact ⟨_, a, n⟩
theorem br_reads (I : L2.Inv X pins σ H s) {v : V} {d : PD} {u : Value} (h : Br H v d) (r : RelV v u) : ∃ as, Reads s.heap u d as ∧ sysModules ∉ as := by
  cases h with
  | of q => exact rp_reads I q r
  | @lst a xs ds n e hl =>
    cases r
    obtain ⟨_, its, k, rv, _, ho⟩ := rd_list I (.inl e)
    obtain ⟨as, ra, na⟩ := rpL_reads I hl _ rv
    exact ⟨a :: as, .list ho rfl rfl (by simpa using ra), by simp only [List.mem_cons, not_or]; exact ⟨Ne.symm n, na⟩⟩
  | @dct a kvs ds x n e hl q =>
    cases r
    obtain ⟨z, _, vs, kv, ob, es, ep, ho, hx, hd, _, hp, _⟩ := dk_rd I.hok (.inl e)
    obtain ⟨r1, r2⟩ := keys_read (h := s.heap) hp kv
    obtain ⟨as, ra, na⟩ := rpL_reads I hl _ r2
    have l1 : ds.length = kvs.length := by have := hl.length; rw [List.length_map] at this; exact this.symm
    subst q
    have m1 : (((kvs.map fun kv => keyPD kv.1).zip ds).map (·.1)) = kvs.map fun kv => keyPD kv.1 := List.map_fst_zip (by simp [l1])
    have m2 : (((kvs.map fun kv => keyPD kv.1).zip ds).map (·.2)) = ds := List.map_snd_zip (by simp [l1])
    refine ⟨a :: [] ++ as, .dict ho hx.1 hd (by rw [m1]; exact r1) (by rw [m2]; exact ra), ?_⟩
    simp only [List.mem_append, List.mem_cons, not_or]
    exact ⟨⟨Ne.symm n, by simp⟩, na⟩
end

section
open PySem PyProof.Rows
variable {prog : Program} {w : World} {A : Around} {E : Value → Shared → Prop} {s : Shared} {l : Addr} {xs : Array (Int × Tok)}
theorem tupit_kept {h' : Heap} {o : Obj} (hk : ∀ b o', b ∉ [s.heap.objs.size] → (s.heap.push o).get? b = some o' → h'.get? b = some o') :
    ∀ b o', s.heap.get? b = some o' → h'.get? b = some o' := fun b o' e => by
  refine hk b o' (fun hm => ?_) (Heap.get?_push_of_some _ e)
  rcases List.mem_cons.mp hm with e1 | hm
  · exact absurd (e1 ▸ Heap.lt_size e) (Nat.lt_irrefl _)
  · cases hm
theorem tup_fp {o : Obj} (hl : s.heap.IsTuple l (intItems xs)) : ∀ c ∈ [s.heap.objs.size, l], c < (s.heap.push o).objs.size := by
  have hlt : l < s.heap.objs.size := by obtain ⟨_, e, _⟩ := hl; exact Heap.lt_size e
  intro b hb
  rw [Heap.size_push]
  rcases List.mem_cons.mp hb with rfl | hb
  · exact Nat.lt_succ_self _
  · rcases List.mem_cons.mp hb with rfl | hb
    · exact Nat.lt_succ_of_lt hlt
    · cases hb
theorem tup_ne (hl : s.heap.IsTuple l (intItems xs)) : l ≠ s.heap.objs.size := by
  obtain ⟨_, e, _⟩ := hl
  exact Nat.ne_of_lt (Heap.lt_size e)
theorem sum_tupG {Q : Value → Shared → Prop} (hh : A.handled = none) (hl : s.heap.IsTuple l (intItems xs))
    (h : ∀ h' tk t', (∀ b o, s.heap.get? b = some o → h'.get? b = some o) → Q (.int (preSum (numAt xs) xs.size) t') { s with heap := h', toks := tk }) :
    wpAny (model prog w) A (call (.builtin "sum") [.ref l]) Q E s := by
  refine call_sum_walkG (wpAny_pyIter_tuple hl ?_)
  refine ⟨_, [s.heap.objs.size, l], [s.heap.objs.size], _, _, _, numAt xs, rfl, Walks.tuple (A := A.in1) hh _ l (tup_ne hl) (intItems xs), ⟨⟨_, Heap.get?_push_size _ rfl, rfl, rfl⟩, hl.push _⟩, tup_fp hl, (fun _ _ => intItems_at), fun h' tk t' hk => ?_⟩
  have := h h' tk t' (tupit_kept hk)
  simpa [intItems] using this
theorem max_tup {Q : Value → Shared → Prop} (hh : A.handled = none) (hl : s.heap.IsTuple l (intItems xs)) (hne : 0 < xs.size)
    (h : ∀ v h' tk, (intItems xs)[argBest (fun i j => decide (numAt xs i > numAt xs j)) (xs.size - 1)]? = some v → (∀ b o, s.heap.get? b = some o → h'.get? b = some o) → Q v { s with heap := h', toks := tk }) :
    wpAny (model prog w) A (call (.builtin "max") [.ref l]) Q E s := by
  refine call_max_walk (wpAny_pyIter_tuple hl ?_)
  refine ⟨_, [s.heap.objs.size, l], [s.heap.objs.size], _, _, _, _, rfl, Walks.tuple (A := A.in1) hh _ l (tup_ne hl) (intItems xs), ⟨⟨_, Heap.get?_push_size _ rfl, rfl, rfl⟩, hl.push _⟩, tup_fp hl, by simpa [intItems] using hne, CmpOf.ints_gt (numAt xs) (fun _ _ => intItems_at), fun v h' tk hP hk => ?_⟩
  exact h v h' tk (by simpa [intItems] using hP) (tupit_kept hk)
theorem min_tup {Q : Value → Shared → Prop} (hh : A.handled = none) (hl : s.heap.IsTuple l (intItems xs)) (hne : 0 < xs.size)
    (h : ∀ v h' tk, (intItems xs)[argBest (fun i j => decide (numAt xs i < numAt xs j)) (xs.size - 1)]? = some v → (∀ b o, s.heap.get? b = some o → h'.get? b = some o) → Q v { s with heap := h', toks := tk }) :
    wpAny (model prog w) A (call (.builtin "min") [.ref l]) Q E s := by
  refine call_min_walk (wpAny_pyIter_tuple hl ?_)
  refine ⟨_, [s.heap.objs.size, l], [s.heap.objs.size], _, _, _, _, rfl, Walks.tuple (A := A.in1) hh _ l (tup_ne hl) (intItems xs), ⟨⟨_, Heap.get?_push_size _ rfl, rfl, rfl⟩, hl.push _⟩, tup_fp hl, by simpa [intItems] using hne, CmpOf.ints_lt (numAt xs) (fun _ _ => intItems_at), fun v h' tk hP hk => ?_⟩
  exact h v h' tk (by simpa [intItems] using hP) (tupit_kept hk)
variable {its : List Value} {ns : List Int} {Q : Value → Shared → Prop}
theorem sum_rawT (hh : A.handled = none) (hl : s.heap.IsTuple l its.toArray) (hi : IntsAre its ns)
    (h : ∀ h' tk t', (∀ b o, s.heap.get? b = some o → h'.get? b = some o) → Q (.int ns.sum t') { s with heap := h', toks := tk }) : wpAny (model prog w) A (call (.builtin "sum") [.ref l]) Q E s := by
  obtain ⟨xs, e⟩ := hi.allInts.items
  have hn : numsOf (intItems xs).toList = ns := by rw [← e]; exact hi.numsOf
  rw [nums_intItems] at hn
  rw [e] at hl
  refine sum_tupG hh hl fun h' tk t' hk => ?_
  have := h h' tk t' hk
  rw [preSum_eq, List.take_of_length_le (by simp), hn]; exact this
theorem max_rawT (hh : A.handled = none) (hl : s.heap.IsTuple l its.toArray) (hi : IntsAre its ns) (hne : 0 < ns.length)
    (h : ∀ h' tk M t', (∀ b o, s.heap.get? b = some o → h'.get? b = some o) → M ∈ ns → (∀ a, a ∈ ns → a ≤ M) → Q (.int M t') { s with heap := h', toks := tk }) : wpAny (model prog w) A (call (.builtin "max") [.ref l]) Q E s := by
  obtain ⟨xs, e⟩ := hi.allInts.items
  have hn : numsOf (intItems xs).toList = ns := by rw [← e]; exact hi.numsOf
  rw [nums_intItems] at hn
  subst hn
  rw [e] at hl
  have hsz : 0 < xs.size := by simpa using hne
  refine max_tup hh hl hsz fun v h' tk hv hk => ?_
  obtain ⟨t, rfl⟩ := intItems_at hv
  obtain ⟨h1, h2⟩ := argBest_gt (numAt xs) (xs.size - 1)
  refine h h' tk _ t hk ?_ fun a ha => ?_
  · rw [numAt_eq]; exact PySem.getD_mem (by rw [List.length_map, Array.length_toList]; omega)
  · obtain ⟨j, hj, rfl⟩ := mem_getD ha
    rw [List.length_map, Array.length_toList] at hj
    rw [← numAt_eq]; exact h2 j (by omega)
theorem min_rawT (hh : A.handled = none) (hl : s.heap.IsTuple l its.toArray) (hi : IntsAre its ns) (hne : 0 < ns.length)
    (h : ∀ h' tk M t', (∀ b o, s.heap.get? b = some o → h'.get? b = some o) → M ∈ ns → (∀ a, a ∈ ns → M ≤ a) → Q (.int M t') { s with heap := h', toks := tk }) : wpAny (model prog w) A (call (.builtin "min") [.ref l]) Q E s := by
  obtain ⟨xs, e⟩ := hi.allInts.items
  have hn : numsOf (intItems xs).toList = ns := by rw [← e]; exact hi.numsOf
  rw [nums_intItems] at hn
  subst hn
  rw [e] at hl
  have hsz : 0 < xs.size := by simpa using hne
  refine min_tup hh hl hsz fun v h' tk hv hk => ?_
  obtain ⟨t, rfl⟩ := intItems_at hv
  obtain ⟨h1, h2⟩ := argBest_lt (numAt xs) (xs.size - 1)
  refine h h' tk _ t hk ?_ fun a ha => ?_
  · rw [numAt_eq]; exact PySem.getD_mem (by rw [List.length_map, Array.length_toList]; omega)
  · obtain ⟨j, hj, rfl⟩ := mem_getD ha
    rw [List.length_map, Array.length_toList] at hj
    rw [← numAt_eq]; exact h2 j (by omega)
variable {X : L2.Cx}
theorem cr_sumT (hc : X.calm = true) : CallR X (.builtin "sum") (fun vs H Q => ∃ (a : Addr) (ns : List Int), vs = [V.ref a] ∧ SqT X.K H a (ns.map V.int) ∧ Q (.int ns.sum) H) := by
  intro pins s σ H vs us Q I r h
  obtain ⟨a, ns, rfl, hs, q⟩ := h
  obtain ⟨its, rv, hl, _⟩ := I.tuple hs
  rw [Vals.ref1 r]
  exact sum_rawT (I.ok.hd hc) hl rv.ints fun h' tk t' hk => ⟨.int _, H, I.kept hk, ⟨_, rfl⟩, q⟩
theorem cr_maxT (hc : X.calm = true) : CallR X (.builtin "max") (fun vs H Q => ∃ (a : Addr) (ns : List Int), vs = [V.ref a] ∧ SqT X.K H a (ns.map V.int) ∧ 0 < ns.length ∧ ∀ m, m ∈ ns → (∀ y, y ∈ ns → y ≤ m) → Q (.int m) H) := by
  intro pins s σ H vs us Q I r h
  obtain ⟨a, ns, rfl, hs, hne, q⟩ := h
  obtain ⟨its, rv, hl, _⟩ := I.tuple hs
  rw [Vals.ref1 r]
  exact max_rawT (I.ok.hd hc) hl rv.ints hne fun h' tk m t' hk h1 h2 => ⟨.int _, H, I.kept hk, ⟨_, rfl⟩, q m h1 h2⟩
theorem cr_minT (hc : X.calm = true) : CallR X (.builtin "min") (fun vs H Q => ∃ (a : Addr) (ns : List Int), vs = [V.ref a] ∧ SqT X.K H a (ns.map V.int) ∧ 0 < ns.length ∧ ∀ m, m ∈ ns → (∀ y, y ∈ ns → m ≤ y) → Q (.int m) H) := by
  intro pins s σ H vs us Q I r h
  obtain ⟨a, ns, rfl, hs, hne, q⟩ := h
  obtain ⟨its, rv, hl, _⟩ := I.tuple hs
  rw [Vals.ref1 r]
  exact min_rawT (I.ok.hd hc) hl rv.ints hne fun h' tk m t' hk h1 h2 => ⟨.int _, H, I.kept hk, ⟨_, rfl⟩, q m h1 h2⟩
end
/-! ### one argument -/
def B1.val : B1 → Value
  | .len => .builtin "len" | .abs => .builtin "abs" | .sum => .builtin "sum" | .max => .builtin "max" | .min => .builtin "min" | .all => .builtin "all" | .any => .builtin "any"
  | .int => .type "int" | .tuple => .type "tuple" | .list => .type "list" | .repr => .builtin "repr" | .str => .type "str" | .sorted => .builtin "sorted" | .isqrt => .builtin "math.isqrt"
def rB1 (f : B1) : List V → Hp → VK → Prop := fun vs H Q => ∃ x p Qw, Sys H ∧ vs = [x] ∧ Br H x p ∧ b1 f p Qw ∧ Out H Qw Q
theorem maxI_mem : ∀ {ns : List Int}, ns ≠ [] → maxI ns ∈ ns ∧ ∀ y ∈ ns, y ≤ maxI ns
  | [], h => absurd rfl h
  | [x], _ => ⟨by simp [maxI], fun y hy => by rw [List.mem_singleton.mp hy]; exact Int.le_refl _⟩
  | x :: y :: r, _ => by
    obtain ⟨h1, h2⟩ := maxI_mem (ns := y :: r) (by simp)
    have e : maxI (x :: y :: r) = max x (maxI (y :: r)) := rfl
    rw [e]
    refine ⟨?_, fun z hz => ?_⟩
    · by_cases c : x ≤ maxI (y :: r)
      · rw [Int.max_eq_right c]; exact List.mem_cons_of_mem _ h1
      · rw [Int.max_eq_left (by omega)]; exact List.mem_cons_self
    · rcases List.mem_cons.mp hz with rfl | hz
      · omega
      · have := h2 z hz; omega
theorem minI_mem : ∀ {ns : List Int}, ns ≠ [] → minI ns ∈ ns ∧ ∀ y ∈ ns, minI ns ≤ y
  | [], h => absurd rfl h
  | [x], _ => ⟨by simp [minI], fun y hy => by rw [List.mem_singleton.mp hy]; exact Int.le_refl _⟩
  | x :: y :: r, _ => by
    obtain ⟨h1, h2⟩ := minI_mem (ns := y :: r) (by simp)
    have e : minI (x :: y :: r) = min x (minI (y :: r)) := rfl
    rw [e]
    refine ⟨?_, fun z hz => ?_⟩
    · by_cases c : maxI [] ≤ x ∧ minI (y :: r) ≤ x
      · rw [Int.min_eq_right c.2]; exact List.mem_cons_of_mem _ h1
      · by_cases c : minI (y :: r) ≤ x
        · rw [Int.min_eq_right c]; exact List.mem_cons_of_mem _ h1
        · rw [Int.min_eq_left (by omega)]; exact List.mem_cons_self
    · rcases List.mem_cons.mp hz with rfl | hz
      · omega
      · have := h2 z hz; omega
section
open PySem.Calls
variable {prog : Program} {w : World} {A : Around} {E : Value → Shared → Prop} {s : Shared} {b : Bool}
theorem call_abs_bool {Q : Value → Shared → Prop} (h : ∀ u tk, Q (.int (if b then 1 else 0) u) { s with toks := tk }) :
    wpAny (model prog w) A (call (.builtin "abs") [.bool b]) Q E s := by
  refine call_function_entry kind_abs plain_abs entry_abs (args_abs _) ?_
  unfold Builtin.«abs»
  refine wpAny_bind (m := oneArg "abs" _) (wpAny_pure ?_)
  refine wpAny_bind (m := callSpecial? (.bool b) (Str.ofString "__abs__")) (wpAny_callSpecial?_slot (name := Str.ofString "__abs__") (PySem.typeIs_bool s b) PySem.F.slot_bool_abs
    (wpAny_call_entry PySem.F.slot_bool_abs (PySem.typeIs_bool s b) entry_int_abs ?_ (args_int_abs _)))
  cases b
  · exact wpAny_ret_mkInt (wpAny_pure ⟨_, rfl, h _ _⟩)
  · exact wpAny_ret_mkInt (wpAny_pure ⟨_, rfl, h _ _⟩)
end
section
variable {X : Cx}
theorem intOf {H : Hp} {ds : List PD} {xs : List V} {g : List Int → Prop} (l : RpL H xs ds) (h : match intL ds with | some ns => g ns | none => False) : ∃ ns, xs = ns.map V.int ∧ g ns := by
  cases e : intL ds with
  | none => rw [e] at h; exact h.elim
  | some ns => rw [e] at h; exact ⟨ns, l.ints e, h⟩
theorem boolOf {H : Hp} {ds : List PD} {xs : List V} {g : List Bool → Prop} (l : RpL H xs ds) (h : match boolL ds with | some ns => g ns | none => False) : ∃ ns, xs = ns.map V.bl ∧ g ns := by
  cases e : boolL ds with
  | none => rw [e] at h; exact h.elim
  | some ns => rw [e] at h; exact ⟨ns, l.bools e, h⟩
theorem each_of {pins : List (Addr × Obj)} {s : Shared} {σ : L2.St} {H : Hp} (I : L2.Inv X pins σ H s) : ∀ {xs : List V} {ds : List PD} {us : List Value}, RpL H xs ds → Vals xs us → PySem.W.EachIs (fun v d => ∃ x, RelV x v ∧ Rp H x d) us ds
  | _, _, _, .nil, .nil => .nil
  | _, _, _, .cons a b, .cons c d => .cons ⟨_, c, a⟩ (each_of I b d)
theorem each_reads {pins : List (Addr × Obj)} {s : Shared} {σ : L2.St} {H : Hp} (I : L2.Inv X pins σ H s) : ∀ {xs : List V} {ds : List PD} {us : List Value}, RpL H xs ds → Vals xs us → PySem.W.EachIs (fun v d => ∃ as, Reads s.heap v d as) us ds
  | _, _, _, .nil, .nil => .nil
  | _, _, _, .cons a b, .cons c d => .cons (let ⟨as, r, _⟩ := rp_reads I a c; ⟨as, r⟩) (each_reads I b d)
theorem each_back {H : Hp} : ∀ {us : List Value} {ds : List PD}, PySem.W.EachIs (fun v d => ∃ x, RelV x v ∧ Rp H x d) us ds → ∃ zs, Vals zs us ∧ RpL H zs ds
  | _, _, .nil => ⟨[], .nil, .nil⟩
  | _, _, .cons ⟨x, a, b⟩ t => let ⟨zs, c, d⟩ := each_back t; ⟨x :: zs, .cons a c, .cons b d⟩
theorem c_b1 (hc : X.calm = true) (hu : X.A.units + 200 < cLine) (hg : X.A.guards = some []) (f : B1) : CallR X f.val (rB1 f) := by
  intro pins s σ H vs us Q I r h
  obtain ⟨x, p, Qw, sy, rfl, hx, g, k⟩ := h
  cases f
  case len =>
    cases p <;> (first | exact g.elim | skip)
    case str z =>
      cases hx.str
      exact call_len pins s σ H _ us Q I r ⟨_, _, rfl, ⟨Nat.le_trans g.1 lim_line, rfl⟩, k.d g.2 (.int _)⟩
    case list ds =>
      obtain ⟨a, xs, rfl, rd, l⟩ := hx.list
      exact call_len pins s σ H _ us Q I r ⟨_, _, rfl, .inl ⟨xs, .inl rd, rfl⟩, by rw [l.length]; exact k.d g.2 (.int _)⟩
    case tuple ds =>
      obtain ⟨a, xs, rfl, rd, l⟩ := hx.tuple
      exact call_len pins s σ H _ us Q I r ⟨_, _, rfl, .inr ⟨xs, .of rd, rfl⟩, by rw [l.length]; exact k.d g.2 (.int _)⟩
  case abs =>
    cases p <;> (first | exact g.elim | skip)
    case int i =>
      cases hx.int
      refine call_abs pins s σ H _ us Q I r ⟨i, rfl, ?_⟩
      have e : (if i < 0 then -i else i) = (i.natAbs : Int) := by split <;> omega
      rw [e]
      exact k.d g (.int _)
    case bool b =>
      cases hx.bool
      obtain ⟨u, rfl, ru⟩ := vals1 r
      cases ru
      exact call_abs_bool fun u tk => ⟨.int _, H, I.tok _, ⟨_, rfl⟩, k.d g (.int _)⟩
  case sum =>
    cases p <;> (first | exact g.elim | skip)
    case list ds =>
      obtain ⟨a, xs, rfl, rd, l⟩ := hx.list
      obtain ⟨ns, rfl, g⟩ := intOf l g
      exact cr_sum hc pins s σ H _ us Q I r ⟨a, ns, rfl, .inl rd, k.d g (.int _)⟩
    case tuple ds =>
      obtain ⟨a, xs, rfl, rd, l⟩ := hx.tuple
      obtain ⟨ns, rfl, g⟩ := intOf l g
      exact cr_sumT hc pins s σ H _ us Q I r ⟨a, ns, rfl, .of rd, k.d g (.int _)⟩
  case max =>
    cases p <;> (first | exact g.elim | skip)
    case list ds =>
      obtain ⟨a, xs, rfl, rd, l⟩ := hx.list
      obtain ⟨ns, rfl, g⟩ := intOf l g
      refine cr_max hc pins s σ H _ us Q I r ⟨a, ns, rfl, .inl rd, List.length_pos_iff.mpr g.1, fun m hm hle => ?_⟩
      have e : m = maxI ns := Int.le_antisymm ((maxI_mem g.1).2 m hm) (hle _ (maxI_mem g.1).1)
      rw [e]
      exact k.d g.2 (.int _)
    case tuple ds =>
      obtain ⟨a, xs, rfl, rd, l⟩ := hx.tuple
      obtain ⟨ns, rfl, g⟩ := intOf l g
      refine cr_maxT hc pins s σ H _ us Q I r ⟨a, ns, rfl, .of rd, List.length_pos_iff.mpr g.1, fun m hm hle => ?_⟩
      have e : m = maxI ns := Int.le_antisymm ((maxI_mem g.1).2 m hm) (hle _ (maxI_mem g.1).1)
      rw [e]
      exact k.d g.2 (.int _)
  case min =>
    cases p <;> (first | exact g.elim | skip)
    case list ds =>
      obtain ⟨a, xs, rfl, rd, l⟩ := hx.list
      obtain ⟨ns, rfl, g⟩ := intOf l g
      refine cr_min hc pins s σ H _ us Q I r ⟨a, ns, rfl, .inl rd, List.length_pos_iff.mpr g.1, fun m hm hle => ?_⟩
      have e : m = minI ns := Int.le_antisymm (hle _ (minI_mem g.1).1) ((minI_mem g.1).2 m hm)
      rw [e]
      exact k.d g.2 (.int _)
    case tuple ds =>
      obtain ⟨a, xs, rfl, rd, l⟩ := hx.tuple
      obtain ⟨ns, rfl, g⟩ := intOf l g
      refine cr_minT hc pins s σ H _ us Q I r ⟨a, ns, rfl, .of rd, List.length_pos_iff.mpr g.1, fun m hm hle => ?_⟩
      have e : m = minI ns := Int.le_antisymm (hle _ (minI_mem g.1).1) ((minI_mem g.1).2 m hm)
      rw [e]
      exact k.d g.2 (.int _)
  case all =>
    cases p <;> (first | exact g.elim | skip)
    case list ds =>
      obtain ⟨a, xs, rfl, rd, l⟩ := hx.list
      obtain ⟨ns, rfl, g⟩ := boolOf l g
      exact cr_all hc pins s σ H _ us Q I r ⟨a, ns, rfl, .inl rd, k.d g (.bl _)⟩
  case any =>
    cases p <;> (first | exact g.elim | skip)
    case list ds =>
      obtain ⟨a, xs, rfl, rd, l⟩ := hx.list
      obtain ⟨ns, rfl, g⟩ := boolOf l g
      exact cr_any hc pins s σ H _ us Q I r ⟨a, ns, rfl, .inl rd, k.d g (.bl _)⟩
  case int =>
    cases p <;> (first | exact g.elim | skip)
    case bool b =>
      cases hx.bool
      exact call_int1 pins s σ H _ us Q I r (.inr ⟨b, rfl, k.d g (.int _)⟩)
    case int i =>
      cases hx.int
      exact call_int1 pins s σ H _ us Q I r (.inl ⟨i, rfl, k.d g (.int _)⟩)
  case tuple =>
    cases p <;> (first | exact g.elim | skip)
    case list ds =>
      obtain ⟨a, xs, rfl, rd, l⟩ := hx.list
      exact call_tuple_of pins s σ H _ us Q I r ⟨a, xs, rfl, .inl ⟨.inl rd, fun p n => k.tup g l n⟩⟩
    case tuple ds =>
      obtain ⟨a, xs, rfl, rd, l⟩ := hx.tuple
      exact call_tuple_of pins s σ H _ us Q I r ⟨a, xs, rfl, .inr ⟨.of rd, k.d g (.tup rd l)⟩⟩
  case list =>
    cases p <;> (first | exact g.elim | skip)
    case list ds =>
      obtain ⟨a, xs, rfl, rd, l⟩ := hx.list
      exact call_list_of pins s σ H _ us Q I r ⟨a, xs, rfl, .inl (.inl rd), fun p n => k.lst sy g l n⟩
    case tuple ds =>
      obtain ⟨a, xs, rfl, rd, l⟩ := hx.tuple
      exact call_list_of pins s σ H _ us Q I r ⟨a, xs, rfl, .inr (.of rd), fun p n => k.lst sy g l n⟩
  case str =>
    cases p <;> (first | exact g.elim | skip)
    case bool b =>
      cases hx.bool
      obtain ⟨u, rfl, r1⟩ := vals1 r
      cases r1
      exact PySem.P.str_of_bool ⟨.str _, H, I.tok _, ⟨_, rfl⟩, k.d g (.str _)⟩
    case int i =>
      cases hx.int
      exact call_str_int pins s σ H _ us Q I r ⟨i, rfl, g.1, k.d g.2 (.str _)⟩
  case sorted =>
    cases p <;> (first | exact g.elim | skip)
    case list ds =>
      obtain ⟨a, xs, rfl, rd, l⟩ := hx.list
      obtain ⟨⟨g1, g2, g3, g4⟩, g5⟩ := g
      obtain ⟨its, rv, hl, hz⟩ := I.list (.inl rd)
      rw [Vals.ref1 r]
      have e := each_of I l rv
      have er := each_reads I l rv
      have m : ds.map id = ds := List.map_id ds
      refine PySem.W.sorted_data (enc := id) (bs := ds) (R := fun v d => ∃ x, RelV x v ∧ Rp H x d) hl.isList e er (by rw [m]; exact g1) (by rw [m]; exact g2) (Nat.le_trans g3 lim_line) (fun b hb => by have := g4 b hb; show X.A.units + 2 + b.depth < cLine; omega) fun out h1 h2 => ?_
      obtain ⟨zs, rz, lz⟩ := each_back h2
      obtain ⟨ep, he'⟩ := PyProof.Rows.sortedAll_at s.heap its out.toArray
      have hlen : zs.length ≤ sizeLine := by
        rw [rz.length, h1]
        exact Nat.le_trans g3 lim_line
      exact ⟨.ref _, upd H (s.heap.objs.size + 1) (.lst zs), I.laid (t' := s.toks) (fun _ _ => PyProof.Rows.sortedAll_old) (Nat.le_succ _) ⟨hlen, out, ep, rz, he'⟩, rfl, k.lst sy g5 lz (I.hok.fresh (Nat.le_succ _))⟩
  case isqrt =>
    cases p <;> (first | exact g.elim | skip)
    case int i =>
      cases hx.int
      obtain ⟨u, rfl, ru⟩ := vals1 r
      obtain ⟨t, rfl⟩ := ru
      exact PySem.W.mg_isqrt g.1 g.2.1 ⟨.int _, H, I.tok _, ⟨_, rfl⟩, k.d g.2.2 (.int _)⟩
  case repr =>
    obtain ⟨g1, g2, g3, g4⟩ := (show p.showable = true ∧ p.depth ≤ 60 ∧ p.shown.length ≤ lim ∧ Qw (.d (.str p.shown)) from by cases p <;> exact g)
    obtain ⟨u, rfl, rx⟩ := vals1 r
    have fits : p.shown.length ≤ sizeLine := Nat.le_trans g3 lim_line
    have fin : ∀ {s' : Shared} {t : Tok}, L2.Inv X pins σ H s' → EP X pins σ Q (.str p.shown t) s' := fun I' => ⟨.str p.shown, H, I', ⟨_, rfl⟩, k.d g4 (.str _)⟩
    obtain ⟨as, rd, ns⟩ := br_reads I hx rx
    cases p with
    | none => cases rd; exact P.repr_of_none (fin (I.tok _))
    | bool b => cases rd; exact P.repr_of_bool (fin (I.tok _))
    | int i => cases rd; exact P.repr_of_int (by simpa [PyData.showable] using g1) (fin (I.tok _))
    | str z => cases rd; exact P.repr_of_str (fin (I.tok _)) fits
    | list ds =>
      cases rd with
      | list a b c d =>
        exact repr_of_reads' (.list a b c d) g1 (fun _ => ns) hg (by omega) (fun _ _ e => e) (fun h' u tk hk => fin (I.kept (t' := tk) hk)) fits
    | tuple ds =>
      cases rd with
      | tuple a b c d =>
        exact repr_of_reads' (.tuple a b c d) g1 (fun _ => ns) hg (by omega) (fun _ _ e => e) (fun h' u tk hk => fin (I.kept (t' := tk) hk)) fits
    | dict ds =>
      cases rd with
      | dict a b c d e =>
        exact repr_of_reads' (.dict a b c d e) g1 (fun _ => ns) hg (by omega) (fun _ _ e => e) (fun h' u tk hk => fin (I.kept (t' := tk) hk)) fits
end
end Mn

set_option linter.all false
set_option Elab.async false
set_option maxRecDepth 100000
set_option maxHeartbeats 2000000
/-! Mn: expressions, piece by piece. -/
namespace Mn
open PySem PySem.Spec PyProof.Rows L2
open AutoSeq1 (wpAny_loadPart')

theorem RpW.rpr {H : Hp} {σ : Sg} {v : V} {w : W} {fw : List Addr} (h : RpW H v w fw) (n : ∀ i, w ≠ .al i) : RpR H σ v w fw := by
  cases w with
  | al i => exact absurd rfl (n i)
  | d x => exact h
  | ol xs => exact h
  | od ks xs => exact h
/-- the end of an operation: what it hands back is new or data -/
theorem out_of {H H2 : Hp} {σ : Sg} {fp fe : List Addr} {env : Env} {Qe : W → Env → Prop} {Q : VK} (k : ∀ w env' v H' fe fw, Qe w env' → EOk H' σ env' fe → RpR H' σ v w fw → Post H fp H' (fe ++ fw) → Q v H')
    (E : EOk H2 σ env fe) (P : Post H fp H2 fe) : Out H2 (fun w => Qe w env) Q := fun w v H3 fw q n r s =>
  k w env v H3 fe fw q (E.mono s.ft fun a ha => by
    cases e : H2 a with
    | none => have o := E.ow a ha; rw [e] at o; exact o.elim
    | some u => exact s.ext a u e) (r.rpr n) (P.trans (s.post P.nd fun a ha => (E.ow a ha).ne))
theorem Post.envOf {H H' : Hp} {fp fe fw : List Addr} (p : Post H fp H' (fe ++ fw)) : Post H fp H' fe := p.less (List.sublist_append_left _ _)
section
variable {X : Cx} {ea eb ev : Env → (W → Env → Prop) → Prop} {σ : Sg} {H : Hp} {Q : VK}
theorem tw1 (F : PD → (W → Prop) → Prop) (hev : ∀ env Qe, ev env Qe → ea env fun x e1 => one x e1 fun p => F p fun w => Qe w e1) (h : tW ev σ H Q) :
    tW ea σ H fun x H1 => ∃ p Qw, Sys H1 ∧ Br H1 x p ∧ F p Qw ∧ Out H1 Qw Q := by
  obtain ⟨env, fp, Qe, E, nd, hq, k⟩ := h
  refine ⟨env, fp, _, E, nd, hev _ _ hq, fun x e1 v H1 fe fw g E1 R P => ?_⟩
  unfold one at g
  cases b : bor e1 x with
  | none => rw [b] at g; exact g.elim
  | some p =>
    rw [b] at g
    exact ⟨p, _, E1.sys, R.brw E1 b, g, out_of k E1 P.envOf⟩
theorem tw2 (F : PD → PD → (W → Prop) → Prop) (hev : ∀ env Qe, ev env Qe → ea env fun x e1 => eb e1 fun y e2 => two x y e2 fun p q => F p q fun w => Qe w e2) (h : tW ev σ H Q) : tOp (rD F) (tW ea) (tW eb) σ H Q := by
  obtain ⟨env, fp, Qe, E, nd, hq, k⟩ := h
  refine ⟨env, fp, _, E, nd, hev _ _ hq, fun x e1 v H1 fe fw g E1 R P => ?_⟩
  refine ⟨e1, fe, _, E1, P.envOf.nd, g, fun y e2 u H2 fe2 fw2 g2 E2 R2 P2 => ?_⟩
  have kp := P2.envOf.keep P.nd fun a ha => (R.ow a ha).ne
  have R' : RpR H2 σ v x fw := R.mono P2.ft kp
  unfold two at g2
  cases b : bor e2 x with
  | none => rw [b] at g2; exact g2.elim
  | some p =>
    rw [b] at g2
    cases b2 : bor e2 y with
    | none => rw [b2] at g2; exact g2.elim
    | some q =>
      rw [b2] at g2
      exact ⟨p, q, _, E2.sys, R'.brw E2 b, R2.brw E2 b2, g2, out_of k E2 (P.envOf.trans P2.envOf)⟩
end
/-- == and its kin as values -/
theorem rC_of {o : Co} {x y : V} {H : Hp} {Q : VK} (h : rD (fun p q Qw => co o p q fun c => Qw (.d (.bool c))) x y H Q) : rC (co o) x y H Q := by
  obtain ⟨p, q, Qw, sy, hx, hy, g, k⟩ := h
  exact ⟨p, q, _, hx, hy, g, fun b hb => k.d hb (.bl b)⟩
theorem tOp_mono {r r' : R2} {ta tb : TE} {σ : Sg} {H : Hp} {Q : VK} (ma : ∀ {σ H} {Q Q' : VK}, (∀ v H', Q v H' → Q' v H') → ta σ H Q → ta σ H Q') (mb : ∀ {σ H} {Q Q' : VK}, (∀ v H', Q v H' → Q' v H') → tb σ H Q → tb σ H Q') (h : ∀ x y H, r x y H Q → r' x y H Q) (q : tOp r ta tb σ H Q) : tOp r' ta tb σ H Q :=
  ma (fun x H1 => mb fun y H2 => h x y H2) q
theorem tW_mono {ev : Env → (W → Env → Prop) → Prop} {σ : Sg} {H : Hp} {Q Q' : VK} (h : ∀ v H', Q v H' → Q' v H') (q : tW ev σ H Q) : tW ev σ H Q' := by
  obtain ⟨env, fp, Qe, E, nd, hq, k⟩ := q
  exact ⟨env, fp, Qe, E, nd, hq, fun w e v H' fe fw a b c d => h v H' (k w e v H' fe fw a b c d)⟩
section
variable {X : Cx} {a b c : Expr} {pos : Pos} {ea eb ec ev : Env → (W → Env → Prop) → Prop}
theorem w_bin {o : Bo} (ha : PE X a (tW ea)) (hb : PE X b (tW eb)) (hev : ∀ env Qe, ev env Qe → ea env fun x e1 => eb e1 fun y e2 => two x y e2 fun p q => bo o p q fun w => Qe w e2) : PE X (.BinOp a o.op b pos) (tW ev) :=
  pe_imp (pe_op (op_bo o) ha hb) fun σ H Q h => tw2 (bo o) hev h
theorem w_cmp {o : Co} (hu : X.A.units + 65 < cLine) (ha : PE X a (tW ea)) (hb : PE X b (tW eb)) (hm : behindInMarks o.op b = false) (hev : ∀ env Qe, ev env Qe → ea env fun x e1 => eb e1 fun y e2 => two x y e2 fun p q => co o p q fun c => Qe (.d (.bool c)) e2) :
    PE X (.Compare a [o.op] [b] pos) (tW ev) :=
  pe_imp (pe_cmpR (op_co hu o) ha hb hm) fun σ H Q h => tOp_mono tW_mono tW_mono (fun _ _ _ => rC_of) (tw2 (fun p q Qw => co o p q fun c => Qw (.d (.bool c))) hev h)
/-- the same as a test -/
def tB' (ev : Env → (W → Env → Prop) → Prop) : TT := fun σ H Q => ∃ (env : Env) (fp : List Addr) (Qe : Bool → Env → Prop), EOk H σ env fp ∧ fp.Nodup ∧ (ev env fun w e => asB w fun c => Qe c e) ∧
  ∀ c env' H' fe, Qe c env' → EOk H' σ env' fe → Post H fp H' fe → Q c H'
theorem tB'_W {σ : Sg} {H : Hp} {Q : Bool → Hp → Prop} (h : tB' ev σ H Q) : tW ev σ H fun v H' => ∃ c, v = .bl c ∧ Q c H' := by
  obtain ⟨env, fp, Qe, E, nd, hq, k⟩ := h
  refine ⟨env, fp, _, E, nd, hq, fun w e v H' fe fw g E1 R P => ?_⟩
  unfold asB at g
  cases w with
  | d x =>
    cases x with
    | bool c =>
      cases R with
      | d r =>
        cases r
        exact ⟨c, rfl, k c e H' fe g E1 P.envOf⟩
    | _ => exact g.elim
  | _ => exact g.elim
theorem t_cmp {o : Co} (hu : X.A.units + 65 < cLine) (ha : PE X a (tW ea)) (hb : PE X b (tW eb)) (hm : behindInMarks o.op b = false) (hev : ∀ env Qe, ev env Qe → ea env fun x e1 => eb e1 fun y e2 => two x y e2 fun p q => co o p q fun c => Qe (.d (.bool c)) e2) :
    PT X (.Compare a [o.op] [b] pos) (tB' ev) :=
  pt_imp (pt_cmpR (op_co hu o) ha hb hm) fun σ H Q h => tOp_mono tW_mono tW_mono (fun _ _ _ => rC_of) (tw2 (fun p q Qw => co o p q fun c => Qw (.d (.bool c))) hev (tB'_W h))
/-- a test by a value -/
theorem t_val (h : PE X a (tW ev)) (he : ∀ whole, isTrue a X.env whole = (do let v ← whole; standAt a.pos; holding [v] (truthy v))) : PT X a (tB' ev) :=
  pt_imp (pt_val h he) fun σ H Q q => tB'_W q
/-! ### names, constants -/
theorem w_var {i : Nat} {x : Str} {C : Ctx} (hN : X.N[i]? = some x) (hv : Vis X.env.scope x) (hd : (x == ("__debug__" : Str)) = false) (hcd : (x == ("__classdict__" : Str)) = false) : PE X (.Name x pos) (tW (evE C (.var i))) := by
  refine pe_imp (pe_var hN hv hd hcd) fun σ H Q ⟨env, fp, Qe, E, nd, hq, k⟩ => ?_
  cases q : slot env i with
  | none => simp only [evE, q] at hq
  | some w =>
    obtain ⟨f, pre, post, sv, e1, h1, h2, _⟩ := E.split i (slot_lt q)
    rw [q] at h2
    obtain ⟨v, rfl, r⟩ := h2
    refine ⟨v, h1, ?_⟩
    have P : Post H fp H (fp ++ []) := by rw [List.append_nil]; exact Post.refl nd
    simp only [evE, q] at hq
    cases w with
    | d x =>
      cases r with
      | d r => exact k _ _ v H fp [] hq E (.d r) P
    | ol ws => exact k _ _ v H fp [] hq E ⟨h1, rfl⟩ P
    | od ks ws => exact k _ _ v H fp [] hq E ⟨h1, rfl⟩ P
    | al j => exact hq.elim
theorem tw0 {x : PD} {v : V} {σ : Sg} {H : Hp} {Q : VK} (r : Rp H v x) (h : tW (fun env Q => Q (.d x) env) σ H Q) : Q v H := by
  obtain ⟨env, fp, Qe, E, nd, hq, k⟩ := h
  exact k _ _ v H fp [] hq E (.d r) (by rw [List.append_nil]; exact Post.refl nd)
theorem w_int {C : Ctx} {n : Int} {j : Nat} : PE X (.Constant (.int n) j pos) (tW (evE C (.cI n))) := pe_imp pe_int fun σ H Q h => tw0 (.int n) h
theorem w_str {C : Ctx} {x : Str} {j : Nat} : PE X (.Constant (.str x) j pos) (tW (evE C (.cS x))) := pe_imp pe_str fun σ H Q h => tw0 (.str x) h
theorem w_bool {C : Ctx} {x : Bool} {j : Nat} : PE X (.Constant (.bool x) j pos) (tW (evE C (.cB x))) := pe_imp pe_bl fun σ H Q h => tw0 (.bl x) h
theorem w_none {C : Ctx} {j : Nat} : PE X (.Constant .none j pos) (tW (evE C .cN)) := pe_imp pe_non fun σ H Q h => tw0 .non h

/-! ### and, or, not, if -/
theorem asB_of {w : W} {f : Bool → Prop} {H : Hp} {σ : Sg} {v : V} {fw : List Addr} (h : asB w f) (R : RpR H σ v w fw) : ∃ c, w = .d (.bool c) ∧ v = .bl c ∧ f c := by
  unfold asB at h
  cases w with
  | d x =>
    cases x with
    | bool c =>
      cases R with
      | d r => cases r; exact ⟨c, rfl, rfl, h⟩
    | _ => exact h.elim
  | _ => exact h.elim
theorem tB'_mk {σ : Sg} {H : Hp} {Q : Bool → Hp → Prop} {env : Env} {fp : List Addr} {Qb : Bool → Env → Prop} (E : EOk H σ env fp) (nd : fp.Nodup) (hev : ev env fun w e => asB w fun c => Qb c e)
    (k : ∀ c env' H' fe, Qb c env' → EOk H' σ env' fe → Post H fp H' fe → Q c H') : tB' ev σ H Q := ⟨env, fp, Qb, E, nd, hev, k⟩
theorem w_not {C : Ctx} {ie : IE} (ha : PE X a (tW (evE C ie))) : PE X (.UnaryOp .Not a pos) (tW (evE C (.notv ie))) := by
  refine pe_imp (pe_not ha) fun σ H Q ⟨env, fp, Qe, E, nd, hq, k⟩ => ⟨env, fp, _, E, nd, hq, fun w e v H' fe fw g E1 R P => ?_⟩
  obtain ⟨c, rfl, rfl, g⟩ := asB_of g R
  exact ⟨c, rfl, k _ e _ H' fe [] g E1 (.d (.bl _)) (by rw [List.append_nil]; exact P.envOf)⟩
theorem t_not {C : Ctx} {ie : IE} (ha : PT X a (tB' (evE C ie))) : PT X (.UnaryOp .Not a pos) (tB' (evE C (.notv ie))) := by
  refine pt_imp (pt_not ha) fun σ H Q ⟨env, fp, Qb, E, nd, hq, k⟩ => ⟨env, fp, fun c e => Qb (!c) e, E, nd, hq, fun c e H' fe g E1 P => k _ e H' fe g E1 P⟩
theorem w_ife {C : Ctx} {it ia ib : IE} (hc : PT X c (tB' (evE C it))) (ha : PE X a (tW (evE C ia))) (hb : PE X b (tW (evE C ib))) : PE X (.IfExp c a b pos) (tW (evE C (.ife it ia ib))) := by
  refine pe_imp (pe_ifExp hc ha hb) fun σ H Q ⟨env, fp, Qe, E, nd, hq, k⟩ => ⟨env, fp, _, E, nd, hq, fun d e H1 fe g E1 P => ?_⟩
  cases d with
  | true => exact ⟨e, fe, Qe, E1, P.nd, g, fun w e' v H' fe' fw a b c d => k w e' v H' fe' fw a b c (P.trans d)⟩
  | false => exact ⟨e, fe, Qe, E1, P.nd, g, fun w e' v H' fe' fw a b c d => k w e' v H' fe' fw a b c (P.trans d)⟩
theorem t_ife {C : Ctx} {it ia ib : IE} (hc : PT X c (tB' (evE C it))) (ha : PE X a (tW (evE C ia))) (hb : PE X b (tW (evE C ib))) (he : ∀ whole, isTrue (.IfExp c a b pos) X.env whole = (do let v ← whole; standAt (Expr.IfExp c a b pos).pos; holding [v] (truthy v)) := by intro _; rfl) : PT X (.IfExp c a b pos) (tB' (evE C (.ife it ia ib))) :=
  t_val (w_ife hc ha hb) he
section
variable {C : Ctx} {ie : IE} {r : IL} {vs : List Expr}
theorem w_and1 (ha : PE X a (tW (evE C ie))) : PE X (.BoolOp .And [a] pos) (tW (evAnd C (.cons ie .nil))) := by
  refine pe_imp (pe_one ha) fun σ H Q ⟨env, fp, Qe, E, nd, hq, k⟩ => ⟨env, fp, _, E, nd, hq, fun w e v H' fe fw g E1 R P => ?_⟩
  obtain ⟨c, rfl, rfl, g⟩ := asB_of g R
  cases c with
  | true => exact k _ e _ H' fe [] g E1 (.d (.bl _)) (by rw [List.append_nil]; exact P.envOf)
  | false => exact k _ e _ H' fe [] g E1 (.d (.bl _)) (by rw [List.append_nil]; exact P.envOf)
theorem w_and (ha : PE X a (tW (evE C ie))) (hb : PE X (.BoolOp .And (b :: vs) pos) (tW (evAnd C r))) : PE X (.BoolOp .And (a :: b :: vs) pos) (tW (evAnd C (.cons ie r))) := by
  refine pe_imp (pe_and ha hb) fun σ H Q ⟨env, fp, Qe, E, nd, hq, k⟩ => ⟨env, fp, _, E, nd, hq, fun w e v H' fe fw g E1 R P => ?_⟩
  obtain ⟨c, rfl, rfl, g⟩ := asB_of g R
  refine ⟨c, rfl, ?_⟩
  cases c with
  | true => exact ⟨e, fe, Qe, E1, P.envOf.nd, g, fun w e' v H2 fe' fw a b c d => k w e' v H2 fe' fw a b c (P.envOf.trans d)⟩
  | false => exact k _ e _ H' fe [] g E1 (.d (.bl _)) (by rw [List.append_nil]; exact P.envOf)
theorem w_or1 (ha : PE X a (tW (evE C ie))) : PE X (.BoolOp .Or [a] pos) (tW (evOr C (.cons ie .nil))) := by
  refine pe_imp (pe_one ha) fun σ H Q ⟨env, fp, Qe, E, nd, hq, k⟩ => ⟨env, fp, _, E, nd, hq, fun w e v H' fe fw g E1 R P => ?_⟩
  obtain ⟨c, rfl, rfl, g⟩ := asB_of g R
  cases c with
  | true => exact k _ e _ H' fe [] g E1 (.d (.bl _)) (by rw [List.append_nil]; exact P.envOf)
  | false => exact k _ e _ H' fe [] g E1 (.d (.bl _)) (by rw [List.append_nil]; exact P.envOf)
theorem w_or (ha : PE X a (tW (evE C ie))) (hb : PE X (.BoolOp .Or (b :: vs) pos) (tW (evOr C r))) : PE X (.BoolOp .Or (a :: b :: vs) pos) (tW (evOr C (.cons ie r))) := by
  refine pe_imp (pe_or ha hb) fun σ H Q ⟨env, fp, Qe, E, nd, hq, k⟩ => ⟨env, fp, _, E, nd, hq, fun w e v H' fe fw g E1 R P => ?_⟩
  obtain ⟨c, rfl, rfl, g⟩ := asB_of g R
  refine ⟨c, rfl, ?_⟩
  cases c with
  | false => exact ⟨e, fe, Qe, E1, P.envOf.nd, g, fun w e' v H2 fe' fw a b c d => k w e' v H2 fe' fw a b c (P.envOf.trans d)⟩
  | true => exact k _ e _ H' fe [] g E1 (.d (.bl _)) (by rw [List.append_nil]; exact P.envOf)
theorem pw_imp {t t' : TT} (h : PW X a t) (w : ∀ σ H Q, t' σ H Q → t σ H Q) : PW X a t' := ⟨fun wh pins s σ H Q I q => h.run wh pins s σ H Q I (w σ H Q q)⟩
theorem t_and1 (ha : PT X a (tB' (evE C ie))) : PW X (.BoolOp .And [a] pos) (tB' (evAnd C (.cons ie .nil))) := by
  refine pw_imp (pw_and1 ha) fun σ H Q ⟨env, fp, Qb, E, nd, hq, k⟩ => ⟨env, fp, _, E, nd, hq, fun c e H' fe g E1 P => ?_⟩
  cases c with
  | true => exact k _ e H' fe g E1 P
  | false => exact k _ e H' fe g E1 P
theorem t_and (ha : PT X a (tB' (evE C ie))) (hb : PW X (.BoolOp .And (b :: vs) pos) (tB' (evAnd C r))) : PW X (.BoolOp .And (a :: b :: vs) pos) (tB' (evAnd C (.cons ie r))) := by
  refine pw_imp (pw_and ha hb) fun σ H Q ⟨env, fp, Qb, E, nd, hq, k⟩ => ⟨env, fp, _, E, nd, hq, fun c e H' fe g E1 P => ?_⟩
  cases c with
  | true => exact ⟨e, fe, Qb, E1, P.nd, g, fun c e' H2 fe' a b d => k c e' H2 fe' a b (P.trans d)⟩
  | false => exact k _ e H' fe g E1 P
theorem t_or1 (ha : PT X a (tB' (evE C ie))) : PW X (.BoolOp .Or [a] pos) (tB' (evOr C (.cons ie .nil))) := by
  refine pw_imp (pw_or1 ha) fun σ H Q ⟨env, fp, Qb, E, nd, hq, k⟩ => ⟨env, fp, _, E, nd, hq, fun c e H' fe g E1 P => ?_⟩
  cases c with
  | true => exact k _ e H' fe g E1 P
  | false => exact k _ e H' fe g E1 P
theorem t_or (ha : PT X a (tB' (evE C ie))) (hb : PW X (.BoolOp .Or (b :: vs) pos) (tB' (evOr C r))) : PW X (.BoolOp .Or (a :: b :: vs) pos) (tB' (evOr C (.cons ie r))) := by
  refine pw_imp (pw_or ha hb) fun σ H Q ⟨env, fp, Qb, E, nd, hq, k⟩ => ⟨env, fp, _, E, nd, hq, fun c e H' fe g E1 P => ?_⟩
  cases c with
  | false => exact ⟨e, fe, Qb, E1, P.nd, g, fun c e' H2 fe' a b d => k c e' H2 fe' a b (P.trans d)⟩
  | true => exact k _ e H' fe g E1 P
end
/-! ### unary operations -/
theorem w_neg {C : Ctx} {ie : IE} (ha : PE X a (tW (evE C ie))) : PE X (.UnaryOp .USub a pos) (tW (evE C (.neg ie))) := by
  refine pe_imp (pe_un un_neg ha) fun σ H Q ⟨env, fp, Qe, E, nd, hq, k⟩ => ⟨env, fp, _, E, nd, hq, fun w e v H' fe fw g E1 R P => ?_⟩
  unfold asI at g
  cases w with
  | d x =>
    cases x with
    | int c =>
      cases R with
      | d r =>
        cases r
        exact ⟨c, rfl, k _ e _ H' fe [] g E1 (.d (.int _)) (by rw [List.append_nil]; exact P.envOf)⟩
    | _ => exact g.elim
  | _ => exact g.elim
theorem non_iff {H : Hp} {v : V} {p : PD} (h : Br H v p) : decide (v = .non) = (match p with | .none => true | _ => false) := by
  cases h with
  | of r => cases r <;> rfl
  | lst _ _ _ => rfl
  | dct _ _ _ _ => rfl
theorem w_isN {C : Ctx} {ie : IE} {j : Nat} {pos' : Pos} (ha : PE X a (tW (evE C ie))) : PE X (.Compare a [.Is] [.Constant .none j pos'] pos) (tW (evE C (.isN false ie))) := by
  refine pe_imp (pe_cmp (pc_isN ha)) fun σ H Q h => ?_
  refine tW_mono (fun v H' q => ?_) (tw1 (ea := evE C ie) (fun p Qw => match p with | .none => Qw (.d (.bool true)) | _ => Qw (.d (.bool false))) (fun env Qe h => h) h)
  obtain ⟨p, Qw, _, hb, g, k⟩ := q
  rw [non_iff hb]
  cases p <;> exact k.d g (.bl _)
theorem w_notN {C : Ctx} {ie : IE} {j : Nat} {pos' : Pos} (ha : PE X a (tW (evE C ie))) : PE X (.Compare a [.IsNot] [.Constant .none j pos'] pos) (tW (evE C (.isN true ie))) := by
  refine pe_imp (pe_cmp (pc_notN ha)) fun σ H Q h => ?_
  refine tW_mono (fun v H' q => ?_) (tw1 (ea := evE C ie) (fun p Qw => match p with | .none => Qw (.d (.bool false)) | _ => Qw (.d (.bool true))) (fun env Qe h => h) h)
  obtain ⟨p, Qw, _, hb, g, k⟩ := q
  rw [non_iff hb]
  cases p <;> exact k.d g (.bl _)
theorem t_isN {C : Ctx} {ie : IE} {j : Nat} {pos' : Pos} (ha : PE X a (tW (evE C ie))) : PT X (.Compare a [.Is] [.Constant .none j pos'] pos) (tB' (evE C (.isN false ie))) := by
  refine pt_imp (pt_cmp (pc_isN ha)) fun σ H Q h => ?_
  refine tW_mono (fun v H' q => ?_) (tw1 (ea := evE C ie) (fun p Qw => match p with | .none => Qw (.d (.bool true)) | _ => Qw (.d (.bool false))) (fun env Qe h => h) (tB'_W h))
  obtain ⟨p, Qw, _, hb, g, k⟩ := q
  rw [non_iff hb]
  cases p <;> exact k.d g (.bl _)
theorem t_notN {C : Ctx} {ie : IE} {j : Nat} {pos' : Pos} (ha : PE X a (tW (evE C ie))) : PT X (.Compare a [.IsNot] [.Constant .none j pos'] pos) (tB' (evE C (.isN true ie))) := by
  refine pt_imp (pt_cmp (pc_notN ha)) fun σ H Q h => ?_
  refine tW_mono (fun v H' q => ?_) (tw1 (ea := evE C ie) (fun p Qw => match p with | .none => Qw (.d (.bool false)) | _ => Qw (.d (.bool true))) (fun env Qe h => h) (tB'_W h))
  obtain ⟨p, Qw, _, hb, g, k⟩ := q
  rw [non_iff hb]
  cases p <;> exact k.d g (.bl _)
end
end Mn

set_option linter.all false
set_option Elab.async false
set_option maxRecDepth 100000
set_option maxHeartbeats 2000000
/-! Mn: displays, subscripts, built-ins, calls. -/
namespace Mn
open PySem PySem.Spec PyProof.Rows L2
open AutoSeq1 (wpAny_loadPart')

/-! ### lists of expressions -/
/-- as data -/
def tL (ev : Env → (List PD → Env → Prop) → Prop) : TA := fun σ H Q => ∃ (env : Env) (fp : List Addr) (Qe : List PD → Env → Prop), EOk H σ env fp ∧ fp.Nodup ∧ ev env Qe ∧
  ∀ xs env' vs H' fe, Qe xs env' → EOk H' σ env' fe → RpL H' vs xs → Post H fp H' fe → Q vs H'
/-- moved into an owner -/
def tLM (ev : Env → (List W → Env → Prop) → Prop) : TA := fun σ H Q => ∃ (env : Env) (fp : List Addr) (Qe : List W → Env → Prop), EOk H σ env fp ∧ fp.Nodup ∧ ev env Qe ∧
  ∀ ws env' vs H' fe fw, Qe ws env' → EOk H' σ env' fe → RpWs H' vs ws fw → Post H fp H' (fe ++ fw) → Q vs H'
/-! ### t[::-1] of a list or a tuple -/
theorem revPlaces (n : Nat) : Builtin.Slice.slicePlaces ((n : Int) - 1) (-1) (-1) = n := by
  unfold Builtin.Slice.slicePlaces
  have h1 : ¬((-1 : Int) > 0) := by omega
  simp only [h1, if_false, Int.neg_neg, Int.ediv_one]
  split <;> omega
theorem revAdjust (n : Nat) : Builtin.Slice.sliceAdjust none none (-1) (n : Int) = ((n : Int) - 1, -1) := by
  have h1 : ((-1 : Int) < 0) := by omega
  unfold Builtin.Slice.sliceAdjust
  simp only [h1, if_true]
theorem fm_congr {α β : Type} {f : α → Option β} {g : α → β} : ∀ {l : List α}, (∀ m ∈ l, f m = some (g m)) → l.filterMap f = l.map g
  | [], _ => rfl
  | x :: l, h => by
    rw [List.filterMap_cons, h x List.mem_cons_self, List.map_cons, fm_congr fun m hm => h m (List.mem_cons_of_mem _ hm)]
theorem revPick (xs : List Value) : ((List.range xs.length).filterMap fun (m : Nat) => xs.toArray[((xs.length : Int) - 1 + (m : Int) * (-1)).toNat]?).toArray = xs.reverse.toArray := by
  congr 1
  have e : ∀ m, m ∈ List.range xs.length → (xs.toArray[((xs.length : Int) - 1 + (m : Int) * (-1)).toNat]?) = some (xs.reverse.getD m .none) := by
    intro m hm
    have hm := List.mem_range.mp hm
    have : ((xs.length : Int) - 1 + (m : Int) * (-1)).toNat = xs.length - 1 - m := by omega
    rw [this]
    rw [List.getD_eq_getElem?_getD, List.getElem?_reverse hm, List.getElem?_toArray]
    rw [List.getElem?_eq_getElem (by omega)]
    rfl
  rw [fm_congr e]
  refine List.ext_getElem (by simp) fun i h1 h2 => ?_
  simp only [List.getElem_map, List.getElem_range]
  rw [List.getD_eq_getElem?_getD, List.getElem?_eq_getElem h2]
  rfl
section
variable {prog : Program} {w : World} {A : Around} {E : Value → Shared → Prop} {s : Shared}
theorem getItem_tuple_rev {t sl : Addr} {items : List Value} {vl vu vs : Value} {Q : Value → Shared → Prop} (ht : IsTup s.heap t items.toArray) (hs : s.heap.IsSliceOf sl vl vu vs) (pl : IsPart vl none) (pu : IsPart vu none) (ps : IsPart vs (some (-1)))
    (h : Q (.ref s.heap.objs.size) { s with heap := s.heap.push { cls := .type "tuple", data := .seq items.reverse.toArray } })
    (hsz : items.length ≤ sizeLine) : wpAny (model prog w) A (getItem (.ref t) (.ref sl)) Q E s := by
  have htake : sizeOk (.seq items.reverse.toArray) := by
    show items.reverse.toArray.size ≤ sizeLine
    rw [List.size_toArray, List.length_reverse]
    exact hsz
  obtain ⟨os, hos, hcs, hds⟩ := id hs
  have hTs : s.TypeIs (.ref sl) "slice" := ⟨os, hos, hcs⟩
  unfold getItem
  try with_reducible refine wpAny_holding ?_
  first | refine wpAny_bind (wpAny_pure ?_) | skip
  refine wpAny_bind (wpAny_sequenceKey ht.typeIs (by decide) ?_)
  refine wpAny_bind (wpAny_callSpecial?_slot (name := Str.ofString "__getitem__") ht.typeIs PyProof.Rows.slot_tuple_getitem
    (wpAny_call_entry PyProof.Rows.slot_tuple_getitem ht.typeIs entry_tuple_getitem ?_ (args_tuple_getitem _ _)))
  show wpAny _ _ (Builtin.Tuple.tupleItemsOf (.ref t) >>= _) _ _ s
  refine wpAny_bind (tupleItemsOf_ ht ?_)
  refine wpAny_bind (wpAny_typeOf hTs ?_)
  rw [if_pos (by decide)]
  have hslice : ∀ (Q' : Int × Int × Nat → Shared → Prop) (A' : Around) (E' : Value → Shared → Prop), Q' ((items.length : Int) - 1, -1, items.length) s → wpAny (model prog w) A' (Builtin.Slice.sliceApplied (.ref sl) (pure (items.toArray.size : Int))) Q' E' s := by
    intro Q' A' E' hq
    unfold Builtin.Slice.sliceApplied Builtin.Slice.sliceFields
    refine wpAny_bind (wpAny_bind (wpAny_field hos hds (x := vl) rfl (wpAny_bind (wpAny_field hos hds (x := vu) rfl (wpAny_bind (wpAny_field hos hds (x := vs) rfl (wpAny_pure ?_)))))))
    refine wpAny_bind (HT.slicePart_ ps ?_)
    show wpAny _ _ (if ((-1 : Int) == 0) = true then _ else _) _ _ s
    rw [if_neg (by decide)]
    refine wpAny_bind (HT.slicePart_ pl (wpAny_bind (HT.slicePart_ pu (wpAny_bind (wpAny_pure ?_)))))
    show wpAny _ _ (match Builtin.Slice.sliceAdjust none none (-1) (items.toArray.size : Int) with | (lo, hi) => pure (lo, (-1 : Int), Builtin.Slice.slicePlaces lo hi (-1))) _ _ s
    rw [List.size_toArray, revAdjust]
    show wpAny _ _ (pure ((items.length : Int) - 1, (-1 : Int), Builtin.Slice.slicePlaces ((items.length : Int) - 1) (-1) (-1))) _ _ s
    rw [revPlaces]
    exact wpAny_pure hq
  refine wpAny_bind (hslice _ _ _ ?_)
  have hno : ¬ ((((items.length : Int) - 1) == 0 && (-1 : Int) == 1 && items.length == items.toArray.size) = true) := by simp
  show wpAny _ _ (if (((items.length : Int) - 1) == 0 && (-1 : Int) == 1 && items.length == items.toArray.size) = true then _ else _) _ _ s
  rw [if_neg hno, revPick]
  first
    | exact wpAny_bind (m := Builtin.Tuple.tupleExact _) (wpAny_newObj_type (wpAny_pure ⟨_, rfl, wpAny_pure h⟩) htake)
    | exact wpAny_bind (m := Builtin.Tuple.tupleExact _) (wpAny_newObj_type (wpAny_bind (wpAny_pure (wpAny_pure ⟨_, rfl, wpAny_pure h⟩))) htake)
    | exact wpAny_bind (wpAny_bind (m := Builtin.Tuple.tupleExact _) (wpAny_newObj_type (wpAny_pure (wpAny_pure ⟨_, rfl, wpAny_pure h⟩)) htake))
    | exact wpAny_bind (wpAny_bind (m := Builtin.Tuple.tupleExact _) (wpAny_newObj_type (wpAny_pure ⟨_, rfl, wpAny_pure h⟩) htake))
end
def rRevA (K : PySem.W.Frag) : V → Hp → VK → Prop := fun x H1 Q => (∃ a xs, x = .ref a ∧ SqL K H1 a xs ∧ ∀ p, H1 p = none → Q (.ref p) (upd H1 p (.lst xs.reverse))) ∨
  ∃ a xs, x = .ref a ∧ SqT K H1 a xs ∧ ∀ p, H1 p = none → Q (.ref p) (upd H1 p (.tup xs.reverse))
theorem pe_revA {X : L2.Cx} {e : Expr} {te : TE} {k : Nat} {p1 p2 p3 pos : Pos} (he : PE X e te) : PE X (.Subscript e (.Slice none none (some (.UnaryOp .USub (.Constant (.int 1) k p1) p2)) p3) pos) (fun σ H Q => te σ H fun x H1 => rRevA X.K x H1 Q) := by
  refine ⟨fun pins s σ H Q I h => ?_⟩
  refine Subscript_ (thn (he.run pins s σ H _ I h) fun v s1 ⟨x, H1, I1, r1, q1⟩ => ?_)
  have hst : PO X (some (.UnaryOp .USub (.Constant (.int 1) k p1) p2)) (tPart (tUn (rU fun i => .int (-i)) (tC (.int 1)))) := po_some (pe_un un_neg pe_int)
  rcases q1 with ⟨a, xs, ex, hx, q⟩ | ⟨a, xs, ex, hx, q⟩
  · subst ex
    cases r1
    refine wpAny_Slice (thn (po_none.run pins s1 σ H1 (fun o H2 => o = none ∧ H2 = H1) I1 ⟨rfl, rfl⟩) fun vl s2 ⟨l, H2, I2, pl, el, e2⟩ => ?_)
    subst el e2
    refine thn (po_none.run pins s2 σ H2 (fun o H3 => o = none ∧ H3 = H2) I2 ⟨rfl, rfl⟩) fun vu s3 ⟨u, H3, I3, pu, eu, e3⟩ => ?_
    subst eu e3
    refine thn (hst.run pins s3 σ H3 (fun o H4 => o = some (-1) ∧ H4 = H3) I3 ⟨1, rfl, -1, rfl, rfl, rfl⟩) fun vs s4 ⟨o, H4, I4, ps, eo, e4⟩ => ?_
    subst eo e4
    have I5 : Inv X pins σ H4 { s4 with heap := s4.heap.push { cls := .type "slice", data := .fields #[vl, vu, vs] } } := I4.kept (t' := s4.toks) fun b ob q => Heap.get?_push_of_some _ q
    obtain ⟨its, r, ht, hz⟩ := I5.list hx
    have hlen := r.length
    show wpAny (model X.prog X.w) X.A (subscriptTail e (.Slice none none (some (.UnaryOp .USub (.Constant (.int 1) k p1) p2)) p3) (.ref a) (.ref s4.heap.objs.size)) (EP X pins σ Q) X.xe { s4 with heap := s4.heap.push { cls := .type "slice", data := .fields #[vl, vu, vs] } }
    refine tail_any (ops := [.ref a, .ref s4.heap.objs.size]) ht.isList.typeIs (PySem.slot_list_getitem.lookup) ?_ (by with_unfolding_all rfl)
    refine wpAny_getItem_list_slice ht.isList (Heap.IsSliceOf.new _ vl vu vs) pl pu ps (by decide) ?_ (by rw [List.size_toArray]; omega)
    rw [PySem.W.krv_pick]
    refine ⟨.ref _, _, I5.laid (t' := s4.toks) (o := .lst xs.reverse) (fun b ob q => Heap.get?_push_of_some _ q) (Nat.le_refl _) ?_, rfl, q _ (I5.hok.fresh (Nat.le_refl _))⟩
    exact ⟨by rw [List.length_reverse]; exact hz, _, 0, r.reverse, Heap.get?_push_size _ rfl⟩
  · subst ex
    cases r1
    refine wpAny_Slice (thn (po_none.run pins s1 σ H1 (fun o H2 => o = none ∧ H2 = H1) I1 ⟨rfl, rfl⟩) fun vl s2 ⟨l, H2, I2, pl, el, e2⟩ => ?_)
    subst el e2
    refine thn (po_none.run pins s2 σ H2 (fun o H3 => o = none ∧ H3 = H2) I2 ⟨rfl, rfl⟩) fun vu s3 ⟨u, H3, I3, pu, eu, e3⟩ => ?_
    subst eu e3
    refine thn (hst.run pins s3 σ H3 (fun o H4 => o = some (-1) ∧ H4 = H3) I3 ⟨1, rfl, -1, rfl, rfl, rfl⟩) fun vs s4 ⟨o, H4, I4, ps, eo, e4⟩ => ?_
    subst eo e4
    have I5 : Inv X pins σ H4 { s4 with heap := s4.heap.push { cls := .type "slice", data := .fields #[vl, vu, vs] } } := I4.kept (t' := s4.toks) fun b ob q => Heap.get?_push_of_some _ q
    obtain ⟨its, r, ht, hz⟩ := I5.tuple hx
    have hlen := r.length
    show wpAny (model X.prog X.w) X.A (subscriptTail e (.Slice none none (some (.UnaryOp .USub (.Constant (.int 1) k p1) p2)) p3) (.ref a) (.ref s4.heap.objs.size)) (EP X pins σ Q) X.xe { s4 with heap := s4.heap.push { cls := .type "slice", data := .fields #[vl, vu, vs] } }
    refine tail_any (ops := [.ref a, .ref s4.heap.objs.size]) ht.typeIs (PyProof.Rows.slot_tuple_getitem.lookup) ?_ (by with_unfolding_all rfl)
    refine getItem_tuple_rev ht (Heap.IsSliceOf.new _ vl vu vs) pl pu ps ?_ (by omega)
    refine ⟨.ref _, _, I5.laid (t' := s4.toks) (o := .tup xs.reverse) (fun b ob q => Heap.get?_push_of_some _ q) (Nat.le_refl _) ?_, rfl, q _ (I5.hok.fresh (Nat.le_refl _))⟩
    exact ⟨by rw [List.length_reverse]; exact hz, _, r.reverse, IsTup.new _ _⟩

section
variable {X : Cx} {C : Ctx} {e : Expr} {es : List Expr} {ie : IE} {r : IL} {pos : Pos}
theorem l_nil : PA X [] (tL (evF C .nil)) := pa_imp pa_nil fun σ H Q ⟨env, fp, Qe, E, nd, hq, k⟩ => k [] env [] H fp hq E .nil (Post.refl nd)
theorem l_cons (ha : PE X e (tW (evE C ie))) (hr : PA X es (tL (evF C r))) (hs : starless e = true) : PA X (e :: es) (tL (evF C (.cons ie r))) := by
  refine pa_imp (pa_cons (pe_fz ha) hr (star_cons hs)) fun σ H Q ⟨env, fp, Qe, E, nd, hq, k⟩ => ?_
  refine ⟨env, fp, fun x e2 => evF C r e2 fun xs e3 => Qe (x :: xs) e3, E, nd, hq, fun x e2 v H1 fe g E1 R P => ?_⟩
  refine ⟨e2, fe, _, E1, P.nd, g, fun xs e3 vs H2 fe2 g2 E2 R2 P2 => ?_⟩
  exact k (x :: xs) e3 (v :: vs) H2 fe2 g2 E2 (.cons (R.mono P2.ft) R2) (P.trans P2)
theorem lm_nil : PA X [] (tLM (evM C .nil)) := pa_imp pa_nil fun σ H Q ⟨env, fp, Qe, E, nd, hq, k⟩ => k [] env [] H fp [] hq E .nil (by rw [List.append_nil]; exact Post.refl nd)
theorem lm_cons (ha : PE X e (tW (evE C ie))) (hr : PA X es (tLM (evM C r))) (hs : starless e = true) : PA X (e :: es) (tLM (evM C (.cons ie r))) := by
  refine pa_imp (pa_cons (pe_mv ha) hr (star_cons hs)) fun σ H Q ⟨env, fp, Qe, E, nd, hq, k⟩ => ?_
  refine ⟨env, fp, fun x e2 => evM C r e2 fun xs e3 => Qe (x :: xs) e3, E, nd, hq, fun x e2 v H1 fe fw g E1 R P => ?_⟩
  refine ⟨e2, fe, _, E1, P.envOf.nd, g, fun xs e3 vs H2 fe2 fw2 g2 E2 R2 P2 => ?_⟩
  have ne : ∀ a ∈ fw, H1 a ≠ none := fun a ha => (R.ow a ha).ne
  have kp := P2.keep P.nd ne
  have P3 : Post H fp H2 (fe2 ++ fw2 ++ fw) := P.trans (P2.frame P.nd ne)
  have pm : (fe2 ++ (fw ++ fw2)).Perm (fe2 ++ fw2 ++ fw) := by
    rw [List.append_assoc]
    exact List.Perm.append_left _ List.perm_append_comm
  exact k (x :: xs) e3 (v :: vs) H2 fe2 (fw ++ fw2) g2 E2 (.cons (R.mono P2.ft kp) R2) ⟨P3.fr, fun a ha => P3.nw a (pm.subset ha), pm.symm.nodup P3.nd, P3.ft, P3.th⟩
theorem Post.snoc {H H' H2 : Hp} {fp fe : List Addr} (P : Post H fp H' fe) (s : Res H' H2 []) (ow : ∀ a ∈ fe, Ow (H' a)) : Post H fp H2 fe := by
  have q := P.trans (s.post P.nd fun a ha => (ow a ha).ne)
  rwa [List.append_nil] at q
theorem EOk.grow {H H2 : Hp} {σ : Sg} {env : Env} {fe f : List Addr} (E : EOk H σ env fe) (s : Res H H2 f) : EOk H2 σ env fe := E.mono s.ft fun a ha => by
  cases e : H a with
  | none => exact absurd e (E.ow a ha).ne
  | some o => exact s.ext a o e

/-- new data over what stands -/
theorem fin_new {σ : Sg} {H H1 : Hp} {fp fe : List Addr} {env : Env} {Qe : W → Env → Prop} {Q : VK} {w : W} {v : V} {H2 : Hp} {fw : List Addr} (k : ∀ w env' v H' fe fw, Qe w env' → EOk H' σ env' fe → RpR H' σ v w fw → Post H fp H' (fe ++ fw) → Q v H')
    (g : Qe w env) (E : EOk H1 σ env fe) (P : Post H fp H1 fe) (r : RpW H2 v w fw) (n : ∀ i, w ≠ .al i) (s : Res H1 H2 fw) : Q v H2 := out_of k E P w v H2 fw g n r s
/-- a tuple's display -/
theorem w_tup {k0 : Nat} (h : PA X es (tL (evF C r))) : PE X (.Tuple es k0 pos) (tW (evE C (.tup r))) := by
  refine pe_imp (pe_tup h) fun σ H Q ⟨env, fp, Qe, E, nd, hq, k⟩ => ⟨env, fp, _, E, nd, hq, fun xs e vs H1 fe g E1 R P => ?_⟩
  have hl := R.length
  refine ⟨by rw [hl]; exact Nat.le_trans g.1 lim_line, fun p n => ?_⟩
  exact k _ e _ _ fe [] g.2 (E1.grow (Res.tup n)) (.d (.tup upd_same (R.mono (FT.new n)))) (by rw [List.append_nil]; exact P.snoc (Res.tup n) E1.ow)
theorem RpWs.grow {H : Hp} {p : Addr} {o : HO} {vs : List V} {ws : List W} {fp : List Addr} (h : RpWs H vs ws fp) (n : H p = none) : RpWs (upd H p o) vs ws fp :=
  h.mono (FT.new n) fun a ha => upd_ne fun e => (h.ow a ha).ne (by rw [e]; exact n)
theorem RpW.grow {H : Hp} {p : Addr} {o : HO} {v : V} {w : W} {fp : List Addr} (h : RpW H v w fp) (n : H p = none) : RpW (upd H p o) v w fp :=
  h.mono (FT.new n) fun a ha => upd_ne fun e => (h.ow a ha).ne (by rw [e]; exact n)
theorem EOk.new {H : Hp} {p : Addr} {o : HO} {σ : Sg} {env : Env} {fe : List Addr} (E : EOk H σ env fe) (n : H p = none) : EOk (upd H p o) σ env fe :=
  E.mono (FT.new n) fun a ha => upd_ne fun e => (E.ow a ha).ne (by rw [e]; exact n)
/-- a new object over footprints that stand -/
theorem Post.cons_new {H H1 : Hp} {fp fe fw : List Addr} {p : Addr} {o : HO} (P : Post H fp H1 (fe ++ fw)) (ow : ∀ a ∈ fe ++ fw, H1 a ≠ none) (n : H1 p = none) : Post H fp (upd H1 p o) (fe ++ p :: fw) := by
  have q := P.trans (Post.new (o := o) P.nd ow n)
  have pm : (fe ++ p :: fw).Perm (fe ++ fw ++ [p]) := by
    rw [List.append_assoc]
    exact List.Perm.append_left _ (List.perm_append_comm (l₁ := [p]))
  exact ⟨q.fr, fun a ha => q.nw a (pm.subset ha), pm.symm.nodup q.nd, q.ft, q.th⟩
/-- a list's display -/
theorem w_lst (h : PA X es (tLM (evM C r))) : PE X (.List es pos) (tW (evE C (.lst r))) := by
  refine pe_imp (pe_lst h) fun σ H Q ⟨env, fp, Qe, E, nd, hq, k⟩ => ⟨env, fp, _, E, nd, hq, fun ws e vs H1 fe fw g E1 R P => ?_⟩
  have hl := R.length
  refine ⟨by rw [hl]; exact Nat.le_trans g.1 lim_line, fun p n => ?_⟩
  refine k _ e _ _ fe (p :: fw) g.2 (E1.new n) (RpW.ol (E1.sys.ne n) upd_same (R.grow n)) (P.cons_new (fun a ha => ?_) n)
  exact (List.mem_append.mp ha).elim (fun z => (E1.ow a z).ne) fun z => (R.ow a z).ne

/-! ### subscripts -/
theorem ix_out {K : PySem.W.Frag} {H : Hp} {x y : V} {Q : VK} (h : rD (fun p q Qw => idxD p q fun z => Qw (.d z)) x y H Q) : rIxL K x y H Q ∨ rIxT K x y H Q := by
  obtain ⟨p, q, Qw, sy, hx, hy, g, k⟩ := h
  unfold idxD at g
  split at g
  · obtain ⟨j, z, e1, e2, q⟩ := g
    cases hy.int
    obtain ⟨a, xs, rfl, hr, l⟩ := hx.list
    obtain ⟨v, e3, rv⟩ := l.get e2
    refine .inl ⟨a, xs, _, v, rfl, rfl, .inl hr, ?_, k.d q rv⟩
    unfold atI
    rw [l.length, show ixN = place from rfl, e1]
    exact e3
  · obtain ⟨j, z, e1, e2, q⟩ := g
    cases hy.int
    obtain ⟨a, xs, rfl, hr, l⟩ := hx.tuple
    obtain ⟨v, e3, rv⟩ := l.get e2
    refine .inr ⟨a, xs, _, v, rfl, rfl, .inl (.inl hr), ?_, k.d q rv⟩
    unfold atI
    rw [l.length, show ixN = place from rfl, e1]
    exact e3
  · exact g.elim
variable {a b c : Expr} {ia ib ic : IE}
theorem w_idx (ha : PE X a (tW (evE C ia))) (hb : PE X b (tW (evE C ib))) (hs : PlainIx b) : PE X (.Subscript a b pos) (tW (evE C (.idx ia ib))) :=
  pe_imp (pe_ix (ix_list.or ix_tup) ha hb hs) fun σ H Q h => tOp_mono tW_mono tW_mono (fun _ _ _ => ix_out) (tw2 (fun p q Qw => idxD p q fun z => Qw (.d z)) (fun _ _ h => h) h)

/-! ### slices -/
theorem sl_out {K : PySem.W.Frag} {H : Hp} {x : V} {p : PD} {lo hi : Option Int} {Qw : W → Prop} {Q : VK} (sy : Sys H) (hx : Br H x p) (g : slcD p lo hi Qw) (k : Out H Qw Q) : (rSlL K x lo hi H Q ∨ rSlA K x lo hi H Q) ∨ rSlS x lo hi H Q := by
  unfold slcD at g
  split at g
  · obtain ⟨a, xs, rfl, hr, l⟩ := hx.list
    refine .inl (.inl ⟨a, xs, rfl, .inl hr, fun p n => k.lst sy g ?_ n⟩)
    unfold cutV cut clip
    rw [l.length]
    exact (l.drop _).take _
  · obtain ⟨a, xs, rfl, hr, l⟩ := hx.tuple
    refine .inl (.inr ⟨a, xs, rfl, .inl (.inl hr), fun hw => k.d g ?_, fun _ p n => k.tup g ?_ n⟩)
    · rw [l.length] at hw
      refine .tup hr ?_
      unfold cut clip
      rw [hw.1, hw.2, List.drop_zero, Nat.sub_zero, List.take_length]
      exact l
    · unfold cutV cut clip
      rw [l.length]
      exact (l.drop _).take _
  · cases hx.str
    exact .inr ⟨_, rfl, Nat.le_trans g.1 lim_line, k.d g.2 (.str _)⟩
  · exact g.elim
theorem asI_of {w : W} {f : Int → Prop} {H : Hp} {σ : Sg} {v : V} {fw : List Addr} (h : asI w f) (R : RpR H σ v w fw) : ∃ c, w = .d (.int c) ∧ v = .int c ∧ f c := by
  unfold asI at h
  cases w with
  | d x =>
    cases x with
    | int c =>
      cases R with
      | d r => cases r; exact ⟨c, rfl, rfl, h⟩
    | _ => exact h.elim
  | _ => exact h.elim
theorem one_of {w : W} {env : Env} {f : PD → Prop} (h : one w env f) : ∃ p, bor env w = some p ∧ f p := by
  unfold one at h
  cases b : bor env w with
  | none => rw [b] at h; exact h.elim
  | some p => rw [b] at h; exact ⟨p, rfl, h⟩
/-- what stood at an earlier value stands still -/
theorem RpR.later {H H2 : Hp} {σ : Sg} {v : V} {x : W} {fe fw f2 : List Addr} (R : RpR H σ v x fw) (nd : (fe ++ fw).Nodup) (P : Post H fe H2 f2) : RpR H2 σ v x fw := R.mono P.ft (P.keep nd fun a ha => (R.ow a ha).ne)
theorem w_slc {p2 : Pos} (ha : PE X a (tW (evE C ia))) (hb : PE X b (tW (evE C ib))) (hc : PE X c (tW (evE C ic))) : PE X (.Subscript a (.Slice (some b) (some c) none p2) pos) (tW (evE C (.slc ia ib ic))) := by
  refine pe_imp (pe_slice ((sl_list.or sl_tupA).or sl_str) ha (po_some hb) (po_some hc)) fun σ H Q ⟨env, fp, Qe, E, nd, hq, k⟩ => ?_
  refine ⟨env, fp, _, E, nd, hq, fun x e1 v H1 fe fw g E1 R P => ?_⟩
  refine ⟨e1, fe, _, E1, P.envOf.nd, g, fun l e2 v2 H2 fe2 fw2 g E2 R2 P2 => ?_⟩
  obtain ⟨i, rfl, rfl, g⟩ := asI_of g R2
  refine ⟨i, rfl, e2, fe2, _, E2, P2.envOf.nd, g, fun l e3 v3 H3 fe3 fw3 g E3 R3 P3 => ?_⟩
  obtain ⟨j, rfl, rfl, g⟩ := asI_of g R3
  obtain ⟨p, b, g⟩ := one_of g
  have P23 := P2.envOf.trans P3.envOf
  exact ⟨j, rfl, sl_out E3.sys ((R.later P.nd P23).brw E3 b) g (out_of k E3 (P.envOf.trans P23))⟩
theorem w_slcL {p2 : Pos} (ha : PE X a (tW (evE C ia))) (hb : PE X b (tW (evE C ib))) : PE X (.Subscript a (.Slice (some b) none none p2) pos) (tW (evE C (.slcL ia ib))) := by
  refine pe_imp (pe_slice ((sl_list.or sl_tupA).or sl_str) ha (po_some hb) po_none) fun σ H Q ⟨env, fp, Qe, E, nd, hq, k⟩ => ?_
  refine ⟨env, fp, _, E, nd, hq, fun x e1 v H1 fe fw g E1 R P => ?_⟩
  refine ⟨e1, fe, _, E1, P.envOf.nd, g, fun l e2 v2 H2 fe2 fw2 g E2 R2 P2 => ?_⟩
  obtain ⟨i, rfl, rfl, g⟩ := asI_of g R2
  obtain ⟨p, b, g⟩ := one_of g
  exact ⟨i, rfl, sl_out E2.sys ((R.later P.nd P2.envOf).brw E2 b) g (out_of k E2 (P.envOf.trans P2.envOf))⟩
theorem w_slcH {p2 : Pos} (ha : PE X a (tW (evE C ia))) (hb : PE X b (tW (evE C ib))) : PE X (.Subscript a (.Slice none (some b) none p2) pos) (tW (evE C (.slcH ia ib))) := by
  refine pe_imp (pe_slice ((sl_list.or sl_tupA).or sl_str) ha po_none (po_some hb)) fun σ H Q ⟨env, fp, Qe, E, nd, hq, k⟩ => ?_
  refine ⟨env, fp, _, E, nd, hq, fun x e1 v H1 fe fw g E1 R P => ?_⟩
  refine ⟨e1, fe, _, E1, P.envOf.nd, g, fun l e2 v2 H2 fe2 fw2 g E2 R2 P2 => ?_⟩
  obtain ⟨i, rfl, rfl, g⟩ := asI_of g R2
  obtain ⟨p, b, g⟩ := one_of g
  exact ⟨i, rfl, sl_out E2.sys ((R.later P.nd P2.envOf).brw E2 b) g (out_of k E2 (P.envOf.trans P2.envOf))⟩
theorem w_slcA {p2 : Pos} (ha : PE X a (tW (evE C ia))) : PE X (.Subscript a (.Slice none none none p2) pos) (tW (evE C (.slcA ia))) := by
  refine pe_imp (pe_slice ((sl_list.or sl_tupA).or sl_str) ha po_none po_none) fun σ H Q ⟨env, fp, Qe, E, nd, hq, k⟩ => ?_
  refine ⟨env, fp, _, E, nd, hq, fun x e1 v H1 fe fw g E1 R P => ?_⟩
  obtain ⟨p, b, g⟩ := one_of g
  exact sl_out E1.sys (R.brw E1 b) g (out_of k E1 P.envOf)
theorem w_rev {j : Nat} {p1 p2 p3 : Pos} (ha : PE X a (tW (evE C ia))) : PE X (.Subscript a (.Slice none none (some (.UnaryOp .USub (.Constant (.int 1) j p1) p2)) p3) pos) (tW (evE C (.rev ia))) := by
  refine pe_imp (pe_revA ha) fun σ H Q ⟨env, fp, Qe, E, nd, hq, k⟩ => ?_
  refine ⟨env, fp, _, E, nd, hq, fun x e1 v H1 fe fw g E1 R P => ?_⟩
  obtain ⟨p, b, g⟩ := one_of g
  unfold revD at g
  split at g
  · obtain ⟨a, xs, rfl, hr, l⟩ := (R.brw E1 b).list
    exact .inl ⟨a, xs, rfl, .inl hr, fun p n => (out_of k E1 P.envOf).lst E1.sys g l.reverse n⟩
  · obtain ⟨a, xs, rfl, hr, l⟩ := (R.brw E1 b).tuple
    exact .inr ⟨a, xs, rfl, .of hr, fun p n => (out_of k E1 P.envOf).tup g l.reverse n⟩
  · exact g.elim
/-! ### a < b < c -/
theorem two_of {x y : W} {env : Env} {f : PD → PD → Prop} (h : two x y env f) : ∃ p q, bor env x = some p ∧ bor env y = some q ∧ f p q := by
  unfold two at h
  cases b : bor env x with
  | none => rw [b] at h; exact h.elim
  | some p =>
    rw [b] at h
    cases b2 : bor env y with
    | none => rw [b2] at h; exact h.elim
    | some q => rw [b2] at h; exact ⟨p, q, rfl, rfl, h⟩
theorem w_cmp2 {o o' : Co} (hu : X.A.units + 65 < cLine) (hm : lastMarks [o.op, o'.op] [b, c] = false) (ha : PE X a (tW (evE C ia))) (hb : PE X b (tW (evE C ib))) (hc : PE X c (tW (evE C ic))) :
    PE X (.Compare a [o.op, o'.op] [b, c] pos) (tW (evE C (.cmp2 o o' ia ib ic))) := by
  refine pe_imp (pe_chain (op_co hu o) (op_co hu o') ha hb hc hm) fun σ H Q ⟨env, fp, Qe, E, nd, hq, k⟩ => ?_
  refine ⟨env, fp, _, E, nd, hq, fun x e1 v H1 fe fw g E1 R P => ?_⟩
  refine ⟨e1, fe, _, E1, P.envOf.nd, g, fun l e2 v2 H2 fe2 fw2 g E2 R2 P2 => ?_⟩
  obtain ⟨p, q, bx, by_, g⟩ := two_of g
  have P12 := P.envOf.trans P2.envOf
  have R1 := R.later P.nd P2.envOf
  refine ⟨p, q, _, R1.brw E2 bx, R2.brw E2 by_, g, fun d gd => ⟨d, rfl, ?_⟩⟩
  cases d with
  | false => exact k _ e2 _ H2 fe2 [] gd E2 (.d (.bl _)) (by rw [List.append_nil]; exact P12)
  | true =>
    refine ⟨e2, fe2, _, E2, P2.envOf.nd, gd, fun l e3 v3 H3 fe3 fw3 g E3 R3 P3 => ?_⟩
    obtain ⟨p, q, bx, by_, g⟩ := two_of g
    have R2' := R2.later P2.nd P3.envOf
    exact ⟨p, q, _, R2'.brw E3 bx, R3.brw E3 by_, g, fun d gd => k _ e3 _ H3 fe3 [] gd E3 (.d (.bl _)) (by rw [List.append_nil]; exact P12.trans P3.envOf)⟩
theorem t_cmp2 {o o' : Co} (hu : X.A.units + 65 < cLine) (hm : lastMarks [o.op, o'.op] [b, c] = false) (ha : PE X a (tW (evE C ia))) (hb : PE X b (tW (evE C ib))) (hc : PE X c (tW (evE C ic))) :
    PT X (.Compare a [o.op, o'.op] [b, c] pos) (tB' (evE C (.cmp2 o o' ia ib ic))) := by
  refine pt_imp (pt_chain (op_co hu o) (op_co hu o') ha hb hc hm) fun σ H Q h => ?_
  obtain ⟨env, fp, Qe, E, nd, hq, k⟩ := tB'_W h
  refine ⟨env, fp, _, E, nd, hq, fun x e1 v H1 fe fw g E1 R P => ?_⟩
  refine ⟨e1, fe, _, E1, P.envOf.nd, g, fun l e2 v2 H2 fe2 fw2 g E2 R2 P2 => ?_⟩
  obtain ⟨p, q, bx, by_, g⟩ := two_of g
  have P12 := P.envOf.trans P2.envOf
  have R1 := R.later P.nd P2.envOf
  refine ⟨p, q, _, R1.brw E2 bx, R2.brw E2 by_, g, fun d gd => ⟨d, rfl, ?_⟩⟩
  cases d with
  | false => exact k _ e2 _ H2 fe2 [] gd E2 (.d (.bl _)) (by rw [List.append_nil]; exact P12)
  | true =>
    refine ⟨e2, fe2, _, E2, P2.envOf.nd, gd, fun l e3 v3 H3 fe3 fw3 g E3 R3 P3 => ?_⟩
    obtain ⟨p, q, bx, by_, g⟩ := two_of g
    have R2' := R2.later P2.nd P3.envOf
    exact ⟨p, q, _, R2'.brw E3 bx, R3.brw E3 by_, g, fun d gd => k _ e3 _ H3 fe3 [] gd E3 (.d (.bl _)) (by rw [List.append_nil]; exact P12.trans P3.envOf)⟩

/-! ### built-in functions -/
def B1.name : B1 → Str
  | .len => "len" | .abs => "abs" | .sum => "sum" | .max => "max" | .min => "min" | .all => "all" | .any => "any" | .int => "int" | .tuple => "tuple" | .list => "list" | .repr => "repr" | .str => "str" | .sorted => "sorted" | .isqrt => "isqrt"
def B1.isTy : B1 → Bool
  | .int => true | .tuple => true | .list => true | .str => true | _ => false
theorem w_b1 {f : B1} {p : Pos} (hc : X.calm = true) (hu : X.A.units + 200 < cLine) (hgd : X.A.guards = some []) (hg : Gl X f.name) (hm : X.mg f.name = if f.name = "isqrt" then some (.builtin "math.isqrt") else none) (ha : PE X a (tW (evE C ia))) (hs : starless a = true) : PE X (.Call (.Name f.name p) [a] [] pos) (tW (evE C (.b1 f ia))) := by
  have key : PE X (.Call (.Name f.name p) [a] [] pos) (tCB (rB1 f) (tCons (tW (evE C ia)) tNil)) := by
    cases f with
    | isqrt => exact pe_callBfun (c_b1 hc hu hgd .isqrt) hg (by rw [hm]; rfl) (pa_one ha hs) (by decide) (star_cons hs) rfl
    | int => exact pe_callTy (c_b1 hc hu hgd .int) hg (by rw [hm]; rfl) (by rfl) (pa_one ha hs) (by decide) (by decide) (star_cons hs) rfl
    | tuple => exact pe_callTy (c_b1 hc hu hgd .tuple) hg (by rw [hm]; rfl) (by rfl) (pa_one ha hs) (by decide) (by decide) (star_cons hs) rfl
    | list => exact pe_callTy (c_b1 hc hu hgd .list) hg (by rw [hm]; rfl) (by rfl) (pa_one ha hs) (by decide) (by decide) (star_cons hs) rfl
    | str => exact pe_callTy (c_b1 hc hu hgd .str) hg (by rw [hm]; rfl) (by rfl) (pa_one ha hs) (by decide) (by decide) (star_cons hs) rfl
    | len => exact pe_callB (c_b1 hc hu hgd .len) hg (by rw [hm]; rfl) (by rfl) (pa_one ha hs) (by decide) (by decide) (star_cons hs) rfl
    | abs => exact pe_callB (c_b1 hc hu hgd .abs) hg (by rw [hm]; rfl) (by rfl) (pa_one ha hs) (by decide) (by decide) (star_cons hs) rfl
    | sum => exact pe_callB (c_b1 hc hu hgd .sum) hg (by rw [hm]; rfl) (by rfl) (pa_one ha hs) (by decide) (by decide) (star_cons hs) rfl
    | max => exact pe_callB (c_b1 hc hu hgd .max) hg (by rw [hm]; rfl) (by rfl) (pa_one ha hs) (by decide) (by decide) (star_cons hs) rfl
    | min => exact pe_callB (c_b1 hc hu hgd .min) hg (by rw [hm]; rfl) (by rfl) (pa_one ha hs) (by decide) (by decide) (star_cons hs) rfl
    | all => exact pe_callB (c_b1 hc hu hgd .all) hg (by rw [hm]; rfl) (by rfl) (pa_one ha hs) (by decide) (by decide) (star_cons hs) rfl
    | any => exact pe_callB (c_b1 hc hu hgd .any) hg (by rw [hm]; rfl) (by rfl) (pa_one ha hs) (by decide) (by decide) (star_cons hs) rfl
    | repr => exact pe_callB (c_b1 hc hu hgd .repr) hg (by rw [hm]; rfl) (by rfl) (pa_one ha hs) (by decide) (by decide) (star_cons hs) rfl
    | sorted => exact pe_callB (c_b1 hc hu hgd .sorted) hg (by rw [hm]; rfl) (by rfl) (pa_one ha hs) (by decide) (by decide) (star_cons hs) rfl
  refine pe_imp key fun σ H Q ⟨env, fp, Qe, E, nd, hq, k⟩ => ⟨env, fp, _, E, nd, hq, fun x e1 v H1 fe fw g E1 R P => ?_⟩
  obtain ⟨p, b, g⟩ := one_of g
  exact ⟨v, p, _, E1.sys, rfl, R.brw E1 b, g, out_of k E1 P.envOf⟩
def rB2 (f : B2) : List V → Hp → VK → Prop := fun vs H Q => ∃ x y p q Qw, vs = [x, y] ∧ Br H x p ∧ Br H y q ∧ b2 f p q Qw ∧ Out H Qw Q
theorem CallR.imp {X : Cx} {f : Value} {r r' : List V → Hp → VK → Prop} (h : CallR X f r) (w : ∀ vs H Q, r' vs H Q → r vs H Q) : CallR X f r' := fun pins s σ H xs us Q I rv q => h pins s σ H xs us Q I rv (w _ _ _ q)
theorem b2_int {f : B2} {p q : PD} {Qw : W → Prop} (g : b2 f p q Qw) : ∃ i j, p = .int i ∧ q = .int j := by
  cases f <;> cases p <;> cases q <;> first | exact ⟨_, _, rfl, rfl⟩ | exact g.elim
theorem c_max2 (hc : X.calm = true) : CallR X (.builtin "max") (rB2 .max) := CallR.imp (call_max2 hc) fun vs H Q ⟨x, y, p, q, Qw, e, hx, hy, g, k⟩ => by
  obtain ⟨i, j, rfl, rfl⟩ := b2_int g
  cases hx.int
  cases hy.int
  have g : Qw (.d (.int (max i j))) := g
  have z : (if j > i then j else i) = max i j := by split <;> omega
  refine ⟨i, j, e, ?_⟩
  rw [z]
  exact k.d g (.int _)
theorem c_min2 (hc : X.calm = true) : CallR X (.builtin "min") (rB2 .min) := CallR.imp (call_min2 hc) fun vs H Q ⟨x, y, p, q, Qw, e, hx, hy, g, k⟩ => by
  obtain ⟨i, j, rfl, rfl⟩ := b2_int g
  cases hx.int
  cases hy.int
  have g : Qw (.d (.int (min i j))) := g
  have z : (if j < i then j else i) = min i j := by split <;> omega
  refine ⟨i, j, e, ?_⟩
  rw [z]
  exact k.d g (.int _)
theorem c_gcd : CallR X (.builtin "math.gcd") (rB2 .gcd) := CallR.imp cr_gcd fun vs H Q ⟨x, y, p, q, Qw, e, hx, hy, g, k⟩ => by
  obtain ⟨i, j, rfl, rfl⟩ := b2_int g
  cases hx.int
  cases hy.int
  have g : Qw (.d (.int (Nat.gcd i.natAbs j.natAbs : Nat))) := g
  exact ⟨i, j, e, k.d g (.int _)⟩
theorem b2_mk {f : B2} {σ : Sg} {H : Hp} {Q : VK} (h : tW (evE C (.b2 f ia ib)) σ H Q) : tCB (rB2 f) (tCons (tW (evE C ia)) (tCons (tW (evE C ib)) tNil)) σ H Q := by
  obtain ⟨env, fp, Qe, E, nd, hq, k⟩ := h
  refine ⟨env, fp, _, E, nd, hq, fun x e1 v H1 fe fw g E1 R P => ?_⟩
  refine ⟨e1, fe, _, E1, P.envOf.nd, g, fun l e2 v2 H2 fe2 fw2 g E2 R2 P2 => ?_⟩
  obtain ⟨p, q, bx, by_, g⟩ := two_of g
  exact ⟨v, v2, p, q, _, rfl, (R.later P.nd P2.envOf).brw E2 bx, R2.brw E2 by_, g, out_of k E2 (P.envOf.trans P2.envOf)⟩
def B2.name : B2 → Str
  | .max => "max" | .min => "min" | .gcd => "gcd"
theorem w_b2 {f : B2} {p : Pos} (hc : X.calm = true) (hg : Gl X f.name) (hm : X.mg f.name = if f.name = "gcd" then some (.builtin "math.gcd") else none) (ha : PE X a (tW (evE C ia))) (hb : PE X b (tW (evE C ib))) (hs : starless a = true) (hs2 : starless b = true) :
    PE X (.Call (.Name f.name p) [a, b] [] pos) (tW (evE C (.b2 f ia ib))) := by
  have sa : (backTo pos (starEach [b] X.env)).any (·.1) = false := star_any pos (by simp [starlessAll, hs2])
  refine pe_imp ?_ fun σ H Q h => b2_mk h
  cases f with
  | max => exact pe_callB (c_max2 hc) hg (by rw [hm]; rfl) (by rfl) (pa_two ha hb hs hs2) (by decide) (by decide) (star_cons hs) sa
  | min => exact pe_callB (c_min2 hc) hg (by rw [hm]; rfl) (by rfl) (pa_two ha hb hs hs2) (by decide) (by decide) (star_cons hs) sa
  | gcd => exact pe_callBfun c_gcd hg (by rw [hm]; rfl) (pa_two ha hb hs hs2) (by decide) (star_cons hs) sa
/-! ### isinstance -/
def Ty.nm : Ty → String
  | .int => "int" | .bool => "bool" | .str => "str" | .tuple => "tuple" | .list => "list" | .dict => "dict"
def pyTy : PD → String
  | .none => "NoneType" | .bool _ => "bool" | .int _ => "int" | .str _ => "str" | .tuple _ => "tuple" | .list _ => "list" | .dict _ => "dict"
theorem ty_of {K : PySem.W.Frag} {H : Hp} {v : V} {p : PD} (h : Br H v p) : TyX K H v (.type (pyTy p)) := by
  cases h with
  | of r =>
    cases r with
    | non => exact .base .non
    | bl b => exact .base (.bl b)
    | int i => exact .base (.int i)
    | str s => exact .base (.str s)
    | lst n e l => exact .base (.frz e)
    | tup e l => exact .base (.tup e)
    | dct n e l q => exact .fDict e
  | lst n e l => exact .base (.lst e)
  | dct n e l q => exact .base (.dK e)
theorem kit_ans {K : PySem.W.Frag} {H : Hp} {v : V} {p : PD} (h : Br H v p) (t : Ty) : PySem.W.kitOne K (.type (pyTy p)) (.type t.nm) = some (tyOf p t) := by
  have main : ∀ p : PD, kitB (pyTy p) t.nm = some (tyOf p t) := by
    have T0 : ∀ t : Ty, kitB "NoneType" t.nm = some false := by intro t; cases t <;> decide +kernel
    have T1 : ∀ t : Ty, kitB "tuple" t.nm = some (decide (t = .tuple)) := by intro t; cases t <;> decide +kernel
    have T2 : ∀ t : Ty, kitB "list" t.nm = some (decide (t = .list)) := by intro t; cases t <;> decide +kernel
    have T3 : ∀ t : Ty, kitB "dict" t.nm = some (decide (t = .dict)) := by intro t; cases t <;> decide +kernel
    have T4 : ∀ t : Ty, kitB "str" t.nm = some (decide (t = .str)) := by intro t; cases t <;> decide +kernel
    have T5 : ∀ t : Ty, kitB "int" t.nm = some (decide (t = .int)) := by intro t; cases t <;> decide +kernel
    have T6 : ∀ t : Ty, kitB "bool" t.nm = some (decide (t = .int) || decide (t = .bool)) := by intro t; cases t <;> decide +kernel
    intro p
    cases p <;> (cases t <;> first | exact T0 _ | exact T1 _ | exact T2 _ | exact T3 _ | exact T4 _ | exact T5 _ | exact T6 _)
  exact kit_ty (main p)
theorem w_isi {t : Ty} {x : Str} {p p2 : Pos} (hx : x = t.nm) (hg : Gl X "isinstance") (hm : X.mg "isinstance" = none) (hg2 : Gl X x) (hm2 : X.mg x = none) (ha : PE X a (tW (evE C ia))) (hs : starless a = true) :
    PE X (.Call (.Name "isinstance" p) [a, .Name x p2] [] pos) (tW (evE C (.isi ia t))) := by
  have hb : PE X (.Name x p2) (tC (.ty t.nm)) := by
    subst hx
    cases t <;> exact pe_bltn hg2 hm2 (by rfl) rfl (by decide) (by decide)
  refine pe_imp (pe_callB call_isi hg hm (by rfl) (pa_two ha hb hs rfl) (by decide) (by decide) (star_cons hs) rfl) fun σ H Q ⟨env, fp, Qe, E, nd, hq, k⟩ => ?_
  refine ⟨env, fp, _, E, nd, hq, fun x e1 v H1 fe fw g E1 R P => ?_⟩
  obtain ⟨p, b, g⟩ := one_of g
  have br := R.brw E1 b
  exact ⟨v, _, _, _, _, rfl, .ty _, ty_of br, kit_ans br t, k _ e1 _ H1 fe [] g E1 (.d (.bl _)) (by rw [List.append_nil]; exact P.envOf)⟩
/-! ### a list a number of times -/
theorem allD_of {ws : List W} {f : List PD → Prop} (h : match allD ws with | some xs => f xs | none => False) : ∃ xs, ws = xs.map .d ∧ f xs := by
  have al : ∀ {ws : List W} {xs : List PD}, allD ws = some xs → ws = xs.map .d := by
    intro ws
    induction ws with
    | nil => intro xs e; cases e; rfl
    | cons w ws ih =>
      intro xs e
      cases w with
      | d x =>
        simp only [allD] at e
        cases q : allD ws with
        | none => rw [q] at e; cases e
        | some ys => rw [q] at e; cases e; rw [List.map_cons, ← ih q]
      | _ => cases e
  cases e : allD ws with
  | none => rw [e] at h; exact h.elim
  | some xs => rw [e] at h; exact ⟨xs, al e, h⟩
theorem allD_ex {ws : List W} {f : List PD → Prop} (h : match allD ws with | some xs => f xs | none => False) : ∃ xs : List PD, ws = xs.map W.d := let ⟨xs, e, _⟩ := allD_of h; ⟨xs, e⟩
theorem RpWs.data {H : Hp} : ∀ {xs : List PD} {vs : List V} {fp : List Addr}, RpWs H vs (xs.map .d) fp → RpL H vs xs ∧ fp = []
  | [], _, _, .nil => ⟨.nil, rfl⟩
  | _ :: _, _, _, .cons (.d r) t => by
    obtain ⟨a, b⟩ := RpWs.data t
    exact ⟨.cons r a, by rw [b]; rfl⟩
theorem w_repL (ha : PE X a (tW (evE C ia))) (hb : PE X b (tW (evE C ib))) : PE X (.BinOp a .Mult b pos) (tW (evE C (.repL ia ib))) := by
  refine pe_imp (pe_op op_rep ha hb) fun σ H Q ⟨env, fp, Qe, E, nd, hq, k⟩ => ?_
  refine ⟨env, fp, _, E, nd, hq, fun x e1 v H1 fe fw g E1 R P => ?_⟩
  cases x with
  | ol ws =>
    refine ⟨e1, fe, _, E1, P.envOf.nd, g, fun l e2 v2 H2 fe2 fw2 g E2 R2 P2 => ?_⟩
    obtain ⟨n, rfl, rfl, h0, h1, h2, g⟩ := asI_of g R2
    obtain ⟨xs, rfl⟩ := allD_ex g
    have R1 : RpW H2 v (.ol (xs.map .d)) fw := R.later P.nd P2.envOf
    cases R1 with
    | @ol a vs _ fp' na e3 r =>
      obtain ⟨l, rfl⟩ := r.data
      have hl := l.length
      rw [List.length_map] at h2
      have hb : vs.length * n.toNat ≤ lim := Nat.le_trans (Nat.mul_le_mul (by omega : vs.length ≤ 1000) (by omega : n.toNat ≤ 1000)) (by decide)
      refine ⟨a, n, vs, rfl, rfl, e3, by omega, by omega, Nat.le_trans hb lim_line, fun p np => ?_⟩
      rw [allD_map] at g
      exact (out_of k E2 (P.envOf.trans P2.envOf)).lst E2.sys g (l.replicate _) np
  | _ => exact g.elim
end
end Mn

set_option linter.all false
set_option Elab.async false
set_option maxRecDepth 100000
set_option maxHeartbeats 2000000
/-! Mn: what loops walk, what they store into, comprehensions. -/
namespace Mn
open PySem PySem.Spec PyProof.Rows L2

/-! ### footprints -/
structure Sm (f g : List Addr) : Prop where
  sub : ∀ a ∈ f, a ∈ g
  nd : g.Nodup → f.Nodup
theorem Sm.refl (f : List Addr) : Sm f f := ⟨fun _ h => h, fun h => h⟩
theorem Sm.trans {f g h : List Addr} (a : Sm f g) (b : Sm g h) : Sm f h := ⟨fun x hx => b.sub x (a.sub x hx), fun n => a.nd (b.nd n)⟩
theorem Sm.of_sub {f g : List Addr} (s : f.Sublist g) : Sm f g := ⟨fun _ h => s.subset h, fun n => n.sublist s⟩
theorem Sm.perm {f g : List Addr} (s : f.Perm g) : Sm f g := ⟨fun _ h => s.subset h, fun n => s.symm.nodup n⟩
theorem Sm.app {f g : List Addr} (s : Sm f g) (r : List Addr) : Sm (f ++ r) (g ++ r) := by
  refine ⟨fun a ha => (List.mem_append.mp ha).elim (fun z => List.mem_append_left _ (s.sub a z)) fun z => List.mem_append_right _ z, fun n => ?_⟩
  rw [List.nodup_append] at n ⊢
  exact ⟨s.nd n.1, n.2.1, fun a ha b hb => n.2.2 a (s.sub a ha) b hb⟩
theorem Post.sm {H H' : Hp} {fp f g : List Addr} (p : Post H fp H' g) (s : Sm f g) : Post H fp H' f := ⟨p.fr, fun a ha => p.nw a (s.sub a ha), s.nd p.nd, p.ft, p.th⟩
/-- a slot set anew -/
theorem EOk.put {H : Hp} {σ : Sg} {env : Env} {fp : List Addr} (E : EOk H σ env fp) (i : Nat) {sv : Option V} {ow : Option W} {f : List Addr} (h : SlotOk H sv ow f) : ∃ fp', Sm fp' (fp ++ f) ∧ EOk H (σ.set i sv) (env.set i ow) fp' := by
  by_cases hi : i < env.length
  · obtain ⟨f0, pre, post, sv0, e, _, _, h3⟩ := E.split i hi
    refine ⟨pre ++ f ++ post, ?_, h3 sv ow f (FT.refl H) (fun _ _ => rfl) h⟩
    rw [e]
    have p1 : (pre ++ f ++ post).Perm (pre ++ post ++ f) := by
      rw [List.append_assoc, List.append_assoc]
      exact List.Perm.append_left _ List.perm_append_comm
    refine (Sm.perm p1).trans (Sm.app (Sm.of_sub ?_) f)
    rw [List.append_assoc]
    exact List.Sublist.append_left (List.sublist_append_right _ _) _
  · refine ⟨fp, Sm.of_sub (List.sublist_append_left _ _), ?_⟩
    rw [List.set_eq_of_length_le (by rw [E.length]; omega), List.set_eq_of_length_le (by omega)]
    exact E
theorem EOk.setD {H : Hp} {σ : Sg} {env : Env} {fp : List Addr} (E : EOk H σ env fp) (i : Nat) {v : V} {x : PD} (r : Rp H v x) : ∃ fp', Sm fp' fp ∧ EOk H (σ.set i (some v)) (env.set i (some (.d x))) fp' := by
  obtain ⟨fp', s, q⟩ := E.put i (f := []) (sv := some v) (ow := some (.d x)) ⟨v, rfl, .d r⟩
  rw [List.append_nil] at s
  exact ⟨fp', s, q⟩
theorem EOk.wipe {H : Hp} {σ : Sg} {env : Env} {fp : List Addr} (E : EOk H σ env fp) : ∀ vs : List Nat, ∃ fp', Sm fp' fp ∧ EOk H (L2.wipe σ vs) (wipes env vs) fp'
  | [] => ⟨fp, Sm.refl _, E⟩
  | i :: vs => by
    obtain ⟨f1, s1, E1⟩ := E.wipe vs
    obtain ⟨f2, s2, E2⟩ := E1.put i (f := []) (sv := none) (ow := none) rfl
    rw [List.append_nil] at s2
    exact ⟨f2, s2.trans s1, E2⟩
def rest (σ' σ : Sg) : List Nat → Sg
  | [] => σ'
  | i :: r => (rest σ' σ r).set i (σ[i]?).join
theorem rest_len (σ' σ : Sg) : ∀ vs, (rest σ' σ vs).length = σ'.length
  | [] => rfl
  | i :: r => by unfold rest; rw [List.length_set, rest_len]
theorem rest_get {σ' σ : Sg} (hl : σ'.length = σ.length) : ∀ {vs : List Nat} {j : Nat}, (rest σ' σ vs)[j]? = if j ∈ vs then σ[j]? else σ'[j]?
  | [], j => by simp [rest]
  | i :: r, j => by
    unfold rest
    by_cases e : i = j
    · subst e
      by_cases hi : i < (rest σ' σ r).length
      · rw [List.getElem?_set_self hi, if_pos (by simp)]
        have h2 : i < σ.length := by rw [rest_len] at hi; omega
        rw [List.getElem?_eq_getElem h2]
        rfl
      · rw [List.getElem?_eq_none (by rw [List.length_set]; omega), if_pos (by simp), List.getElem?_eq_none (by rw [rest_len] at hi; omega)]
    · rw [List.getElem?_set_ne e, rest_get hl]
      have : (j ∈ i :: r) ↔ j ∈ r := by simp [List.mem_cons, Ne.symm e]
      simp only [this]
theorem rest_wipe (σ : Sg) (vs : List Nat) : rest (L2.wipe σ vs) σ vs = σ := by
  apply List.ext_getElem?
  intro j
  rw [rest_get (wipe_length σ vs)]
  by_cases h : j ∈ vs
  · rw [if_pos h]
  · rw [if_neg h, wipe_out h]
theorem EOk.back {H H1 : Hp} {σ σ' : Sg} {e1 env : Env} {f1 fp : List Addr} (E1 : EOk H1 σ e1 f1) (ft : FT H1 H) (E : EOk H σ' env fp) : ∀ own : List Nat, own.all (plainSlot e1) = true → ∃ fp', Sm fp' fp ∧ EOk H (rest σ' σ own) (Mn.back env e1 own) fp'
  | [], _ => ⟨fp, Sm.refl _, E⟩
  | i :: own, h => by
    simp only [List.all_cons, Bool.and_eq_true] at h
    obtain ⟨f2, s2, E2⟩ := E1.back ft E own h.2
    have so : SlotOk H (σ[i]?).join (slot e1 i) [] := by
      have hp := h.1
      unfold plainSlot at hp
      cases q : slot e1 i with
      | none => rfl
      | some w =>
        obtain ⟨f, pre, post, sv, _, h1, h2, _⟩ := E1.split i (slot_lt q)
        rw [q] at h2 hp
        obtain ⟨v, rfl, r⟩ := h2
        cases w with
        | d x =>
          cases r with
          | d r => exact ⟨v, by rw [h1]; rfl, .d (r.mono ft)⟩
        | _ => cases hp
    obtain ⟨f3, s3, E3⟩ := E2.put i so
    rw [List.append_nil] at s3
    exact ⟨f3, s3.trans s2, E3⟩

/-! ### sources -/
/-- the iterator J yields the items -/
structure WD (J : It) (src : Hp → Prop) (items : List PD) : Prop where
  go : ∀ i H, i < items.length → src H → J.go i H
  stop : ∀ H, src H → J.stop items.length H
  yld : ∀ i H x H', i < items.length → src H → J.yld i H x H' → ∃ d, items[i]? = some d ∧ Rp H' x d ∧ Res H H' []
  mono : ∀ H H', FT H H' → src H → src H'
def tSrc (ev : Env → (List PD → Env → Prop) → Prop) : TI := fun σ H R => ∃ (env : Env) (fp : List Addr) (Qe : List PD → Env → Prop), EOk H σ env fp ∧ fp.Nodup ∧ ev env Qe ∧
  ∀ items env' H' fe J src, Qe items env' → EOk H' σ env' fe → Post H fp H' fe → WD J src items → src H' → R J H'
theorem pi_imp {X : Cx} {tg e : Expr} {t t' : TI} (h : PI X tg e t) (w : ∀ σ H R, t' σ H R → t σ H R) : PI X tg e t' := ⟨fun pins s σ H R I q => h.run pins s σ H R I (w σ H R q)⟩
theorem wd_rng (lo : Int) (n : Nat) : WD (Itr lo n) (fun _ => True) ((List.range n).map fun i => .int (lo + (i : Nat))) where
  go := fun i H h _ => by have h : i < n := by simpa using h
                          exact h
  stop := fun H _ => by simp [Itr]
  yld := fun i H x H' h _ ⟨e, y⟩ => by
    subst e y
    have h : i < n := by simpa using h
    exact ⟨.int (lo + i), by rw [List.getElem?_map, List.getElem?_range h]; rfl, .int _, Res.refl _⟩
  mono := fun _ _ _ _ => trivial
def Sl : Sk → Hp → Addr → List V → Prop
  | .l, H, a, xs => ∃ o, H a = some (.frz o (.lst xs))
  | .t, H, a, xs => H a = some (.tup xs)
theorem Sl.sq {K : PySem.W.Frag} {k : Sk} {H : Hp} {a : Addr} {xs : List V} (h : Sl k H a xs) : SqK K k H a xs := by
  cases k with
  | l => obtain ⟨o, e⟩ := h; exact .inl (.inr ⟨o, e⟩)
  | t => exact .inl (.inl h)
theorem Sl.mono {k : Sk} {H H' : Hp} (f : FT H H') {a : Addr} {xs : List V} (h : Sl k H a xs) : Sl k H' a xs := by
  cases k with
  | l => obtain ⟨o, e⟩ := h; exact ⟨o, f.frz _ _ _ e⟩
  | t => exact f.tup _ _ h
def ItS (K : PySem.W.Frag) : Sk → Addr → It
  | .l, a => Itl K a
  | .t, a => Itt K a
theorem wd_seq {K : PySem.W.Frag} {k : Sk} {a : Addr} {xs : List V} {ds : List PD} {H0 : Hp} (l : RpL H0 xs ds) : WD (ItS K k a) (fun H => FT H0 H ∧ Sl k H a xs) ds where
  go := fun i H h s => by
    have hx : i < xs.length := by rw [l.length]; exact h
    cases k with
    | l => exact ⟨xs, xs[i], Sl.sq (k := .l) s.2, List.getElem?_eq_getElem hx⟩
    | t => exact ⟨xs, xs[i], Sl.sq (k := .t) s.2, List.getElem?_eq_getElem hx⟩
  stop := fun H s => by
    cases k with
    | l => exact ⟨xs, Sl.sq (k := .l) s.2, Nat.le_of_eq l.length⟩
    | t => exact ⟨xs, Sl.sq (k := .t) s.2, Nat.le_of_eq l.length⟩
  yld := fun i H x H' h s y => by
    obtain ⟨d, hd⟩ : ∃ d, ds[i]? = some d := ⟨_, List.getElem?_eq_getElem h⟩
    obtain ⟨v, hv, rv⟩ := l.get hd
    have q : H' = H ∧ xs[i]? = some x := by
      cases k with
      | l => exact ⟨y.1, y.2 xs (Sl.sq (k := .l) s.2)⟩
      | t => exact ⟨y.1, y.2 xs (Sl.sq (k := .t) s.2)⟩
    obtain ⟨rfl, q⟩ := q
    rw [hv] at q
    cases q
    exact ⟨d, hd, rv.mono s.1, Res.refl _⟩
  mono := fun H H' f s => ⟨s.1.trans f, s.2.mono f⟩
theorem getD_some {xs : List V} {i : Nat} {v : V} (h : xs[i]? = some v) : xs.getD i .non = v := by rw [List.getD_eq_getElem?_getD, h]; rfl
theorem wd_new {n : Nat} {srcJ src : Hp → Prop} {ys : Nat → List V} {items : List PD} (hn : n = items.length) (hj : ∀ H, src H → srcJ H) (hy : ∀ i H, i < n → src H → ∃ ds, items[i]? = some (.tuple ds) ∧ RpL H (ys i) ds) (m : ∀ H H', FT H H' → src H → src H') : WD (Jn n srcJ ys) src items where
  go := fun i H h s => ⟨by omega, hj H s⟩
  stop := fun H s => ⟨hn.symm, hj H s⟩
  yld := fun i H x H' h s ⟨T, e, hT, e2⟩ => by
    subst e e2
    obtain ⟨ds, h1, h2⟩ := hy i H (by omega) s
    exact ⟨_, h1, .tup upd_same (h2.mono (FT.new hT)), Res.tup hT⟩
  mono := m
def Seq2 (d : PD) (ds : List PD) : Prop := d = .list ds ∨ d = .tuple ds
theorem Rp.sl {H : Hp} {v : V} {d : PD} {f : List PD → Prop} (h : Rp H v d) (g : asSeq d f) : ∃ a k xs ds, v = .ref a ∧ Sl k H a xs ∧ RpL H xs ds ∧ f ds := by
  unfold asSeq at g
  split at g
  · obtain ⟨a, o, xs, rfl, e, l⟩ := h.list
    exact ⟨a, .l, xs, _, rfl, ⟨o, e⟩, l, g⟩
  · obtain ⟨a, xs, rfl, e, l⟩ := h.tuple
    exact ⟨a, .t, xs, _, rfl, e, l, g⟩
  · exact g.elim
section
variable {X : Cx} {tg e e2 : Expr} {C : Ctx} {ie ia ib : IE} {p pos tpos : Pos} {elts : List Expr} {kk : Nat}
def iSeqK (K : PySem.W.Frag) (tl : TE) : TI := fun σ H R => tl σ H fun x H1 => ∃ a k xs, x = .ref a ∧ SqK K k H1 a xs ∧ R (ItS K k a) H1
theorem pi_seqK {l : Expr} {tl : TE} (hl : PE X l tl) : PI X tg l (iSeqK X.K tl) := by
  refine ⟨fun pins s σ H R I h => ?_⟩
  refine thn (hl.run pins s σ H _ I h) fun v s1 ⟨x, H1, I1, r1, q1⟩ => ?_
  obtain ⟨a, k, xs, e, hq, q⟩ := q1
  subst e
  cases r1
  have nw : ∀ b ∈ [s1.heap.objs.size], FpOk X pins H1 b := fun b hb => by
    rw [List.mem_singleton.mp hb]
    exact I1.fpOk (Nat.le_refl _) (I1.hok.fresh (Nat.le_refl _))
  cases k with
  | l =>
    obtain ⟨its, rv, pl, _⟩ := I1.list hq
    refine wpAny_pyIter_list pl.isList ⟨_, [s1.heap.objs.size], _, _, H1, rfl, I1.kept (t' := s1.toks) fun b o e => Heap.get?_push_of_some _ e, turn_list a _, ⟨_, Heap.get?_push_size _ rfl, rfl, rfl⟩, nw, q⟩
  | t =>
    obtain ⟨its, rv, pl, _⟩ := I1.tuple hq
    refine wpAny_pyIter_tuple (show s1.heap.IsTuple a its.toArray from pl) ⟨_, [s1.heap.objs.size], _, _, H1, rfl, I1.kept (t' := s1.toks) fun b o e => Heap.get?_push_of_some _ e, turn_tuple a _, ⟨_, Heap.get?_push_size _ rfl, rfl, rfl⟩, nw, q⟩
theorem i_seq (ha : PE X e (tW (evE C ie))) : PI X tg e (tSrc (evI C (.seq ie))) := by
  refine pi_imp (pi_seqK (pe_fz ha)) fun σ H R ⟨env, fp, Qe, E, nd, hq, k⟩ => ⟨env, fp, _, E, nd, hq, fun x e1 v H1 fe g E1 r P => ?_⟩
  obtain ⟨a, sk, xs, ds, rfl, s, l, g⟩ := r.sl g
  exact ⟨a, sk, xs, rfl, s.sq, k ds e1 H1 fe _ _ g E1 P (wd_seq l) ⟨FT.refl _, s⟩⟩
theorem i_enm (hg : Gl X "enumerate") (hm : X.mg "enumerate" = none) (ha : PE X e (tW (evE C ie))) (hs : starless e = true) : PI X (.Tuple elts kk tpos) (.Call (.Name "enumerate" p) [e] [] pos) (tSrc (evI C (.enm ie))) := by
  refine pi_imp (pi_enumK hg hm (pe_fz ha) hs) fun σ H R ⟨env, fp, Qe, E, nd, hq, k⟩ => ⟨env, fp, _, E, nd, hq, fun x e1 v H1 fe g E1 r P => ?_⟩
  obtain ⟨a, sk, xs, ds, rfl, s, l, g⟩ := r.sl g
  have ne : H1 a ≠ none := by
    cases sk with
    | l => obtain ⟨o, e⟩ := s; rw [e]; exact fun z => nomatch z
    | t => rw [show H1 a = _ from s]; exact fun z => nomatch z
  refine ⟨a, sk, xs, rfl, s.sq, ne, k _ e1 H1 fe _ _ g E1 P (wd_new (src := fun H => FT H1 H ∧ Sl sk H a xs) (by simp [l.length]) (fun H s => s.2.sq) (fun i H hi s => ?_) fun H H' f s => ⟨s.1.trans f, s.2.mono f⟩) ⟨FT.refl _, s⟩⟩
  have hd : i < ds.length := by rw [← l.length]; exact hi
  obtain ⟨v, hv, rv⟩ := l.get (List.getElem?_eq_getElem hd)
  refine ⟨[.int (i : Nat), ds[i]], by simp [List.getElem?_map, List.getElem?_zipIdx, List.getElem?_eq_getElem hd], ?_⟩
  rw [getD_some hv]
  exact .cons (.int _) (.cons (rv.mono s.1) .nil)
theorem i_zip (hg : Gl X "zip") (hm : X.mg "zip" = none) (ha : PE X e (tW (evE C ia))) (hb : PE X e2 (tW (evE C ib))) (hs : starless e = true) (hs2 : starless e2 = true) : PI X (.Tuple elts kk tpos) (.Call (.Name "zip" p) [e, e2] [] pos) (tSrc (evI C (.zip ia ib))) := by
  refine pi_imp (pi_zipK hg hm (pe_fz ha) (pe_fz hb) hs hs2) fun σ H R ⟨env, fp, Qe, E, nd, hq, k⟩ => ⟨env, fp, _, E, nd, hq, fun x e1 v H1 fe g E1 r P => ?_⟩
  refine ⟨e1, fe, _, E1, P.nd, g, fun y e2 u H2 fe2 g2 E2 r2 P2 => ?_⟩
  obtain ⟨a, sk, xs, ds, rfl, s, l, g2⟩ := (r.mono P2.ft).sl g2
  obtain ⟨b, sk2, ys, ds2, rfl, s2, l2, g2⟩ := r2.sl g2
  refine ⟨a, b, sk, sk2, xs, ys, rfl, s.sq, s2.sq, k _ e2 H2 fe2 _ _ g2 E2 (P.trans P2) (wd_new (src := fun H => FT H2 H ∧ Sl sk H a xs ∧ Sl sk2 H b ys) (by simp [l.length, l2.length]) (fun H s => ⟨s.2.1.sq, s.2.2.sq⟩) (fun i H hi s => ?_) fun H H' f s => ⟨s.1.trans f, s.2.1.mono f, s.2.2.mono f⟩) ⟨FT.refl _, s, s2⟩⟩
  have hd : i < ds.length := by rw [← l.length]; omega
  have hd2 : i < ds2.length := by rw [← l2.length]; omega
  obtain ⟨v, hv, rv⟩ := l.get (List.getElem?_eq_getElem hd)
  obtain ⟨v2, hv2, rv2⟩ := l2.get (List.getElem?_eq_getElem hd2)
  refine ⟨[ds[i], ds2[i]], by simp [List.getElem?_map, List.getElem?_zip_eq_some, List.getElem?_eq_getElem, hd, hd2], ?_⟩
  rw [getD_some hv, getD_some hv2]
  exact .cons (rv.mono s.1) (.cons (rv2.mono s.1) .nil)
theorem i_rng1 (hg : Gl X "range") (hm : X.mg "range" = none) (ha : PE X e (tW (evE C ie))) (hs : starless e = true) : PI X tg (.Call (.Name "range" p) [e] [] pos) (tSrc (evI C (.rng1 ie))) := by
  refine pi_imp (pi_range1 hg hm (pa_one ha hs) (star_cons hs)) fun σ H R ⟨env, fp, Qe, E, nd, hq, k⟩ => ⟨env, fp, _, E, nd, hq, fun x e1 v H1 fe fw g E1 R1 P => ?_⟩
  obtain ⟨n, rfl, rfl, h1, h2, g⟩ := asI_of g R1
  have w := wd_rng 0 n.toNat
  simp only [Int.zero_add] at w
  exact ⟨n, rfl, by omega, by omega, k _ e1 H1 fe _ _ g E1 P.envOf w trivial⟩
theorem i_rng2 (hg : Gl X "range") (hm : X.mg "range" = none) (ha : PE X e (tW (evE C ia))) (hb : PE X e2 (tW (evE C ib))) (hs : starless e = true) (hs2 : starless e2 = true) : PI X tg (.Call (.Name "range" p) [e, e2] [] pos) (tSrc (evI C (.rng2 ia ib))) := by
  refine pi_imp (pi_range2 hg hm (pa_two ha hb hs hs2) (by rw [star_cons hs, star_cons hs2]; rfl) (star_cons hs2)) fun σ H R ⟨env, fp, Qe, E, nd, hq, k⟩ => ⟨env, fp, _, E, nd, hq, fun x e1 v H1 fe fw g E1 R1 P => ?_⟩
  refine ⟨e1, fe, _, E1, P.envOf.nd, g, fun y e2 u H2 fe2 fw2 g2 E2 R2 P2 => ?_⟩
  have R1' := R1.later P.nd P2.envOf
  obtain ⟨m, rfl, rfl, g2⟩ := asI_of g2 R1'
  obtain ⟨n, rfl, rfl, h1, g2⟩ := asI_of g2 R2
  exact ⟨m, n, rfl, by omega, k _ e2 H2 fe2 _ _ g2 E2 (P.envOf.trans P2.envOf) (wd_rng m _) trivial⟩
end
end Mn

set_option linter.all false
set_option Elab.async false
set_option maxRecDepth 100000
set_option maxHeartbeats 2000000
/-! Mn: targets, comprehensions. -/
namespace Mn
open PySem PySem.Spec PyProof.Rows L2

theorem wipe_get (σ : Sg) : ∀ (vs : List Nat) (j : Nat), (L2.wipe σ vs)[j]? = if j ∈ vs then (σ[j]?).map (fun _ => none) else σ[j]?
  | [], j => by simp [L2.wipe]
  | i :: r, j => by
    unfold L2.wipe
    by_cases e : i = j
    · subst e
      rw [if_pos (by simp)]
      by_cases hi : i < σ.length
      · rw [List.getElem?_set_self (by rw [wipe_length]; exact hi), List.getElem?_eq_getElem hi]
        rfl
      · rw [List.getElem?_eq_none (by rw [List.length_set, wipe_length]; omega), List.getElem?_eq_none (by omega)]
        rfl
    · rw [List.getElem?_set_ne e, wipe_get σ r j]
      have : (j ∈ i :: r) ↔ j ∈ r := by simp [List.mem_cons, Ne.symm e]
      simp only [this]
theorem wipe_wipe (σ : Sg) (vs : List Nat) : L2.wipe (L2.wipe σ vs) vs = L2.wipe σ vs := by
  apply List.ext_getElem?
  intro j
  rw [wipe_get, wipe_get]
  by_cases h : j ∈ vs
  · rw [if_pos h, if_pos h]
    cases σ[j]? <;> rfl
  · rw [if_neg h, if_neg h]
theorem wipe_set {σ : Sg} {i : Nat} {sv : Option V} {own : List Nat} (h : i ∈ own) : L2.wipe (σ.set i sv) own = L2.wipe σ own := by
  apply List.ext_getElem?
  intro j
  rw [wipe_get, wipe_get]
  by_cases hj : j ∈ own
  · rw [if_pos hj, if_pos hj]
    by_cases e : i = j
    · subst e
      by_cases hi : i < σ.length
      · rw [List.getElem?_set_self hi, List.getElem?_eq_getElem hi]; rfl
      · rw [List.getElem?_eq_none (by rw [List.length_set]; omega), List.getElem?_eq_none (by omega)]
    · rw [List.getElem?_set_ne e]
  · rw [if_neg hj, if_neg hj, List.getElem?_set_ne (fun e => hj (by rw [← e]; exact h))]
def Tg.slots : Tg → List Nat
  | .nm i => [i]
  | .tp is => is
def setD (env : Env) : List Nat → List PD → Env
  | i :: is, x :: xs => setD (env.set i (some (.d x))) is xs
  | _, _ => env
theorem setD_fold : ∀ (is : List Nat) (xs : List PD) (env : Env), (is.zip xs).foldl (fun e p => e.set p.1 (some (.d p.2))) env = setD env is xs
  | [], _, _ => rfl
  | _ :: _, [], _ => rfl
  | i :: is, x :: xs, env => by
    show (is.zip xs).foldl _ _ = _
    rw [setD_fold is xs]
    rfl
def tG (tg : Tg) : TG := fun v σ H Q => ∃ (env : Env) (fp : List Addr) (d : PD) (Qe : Env → Prop), EOk H σ env fp ∧ Rp H v d ∧ bindT tg d env Qe ∧
  ∀ σ' env' fp', Qe env' → EOk H σ' env' fp' → Sm fp' fp → (∀ own, (∀ i ∈ tg.slots, i ∈ own) → L2.wipe σ' own = L2.wipe σ own) → Q σ' H
def tGs (is : List Nat) : TGs := fun vs σ H Q => ∃ (env : Env) (fp : List Addr) (ds : List PD), EOk H σ env fp ∧ RpL H vs ds ∧ ds.length = is.length ∧
  ∀ σ' fp', EOk H σ' (setD env is ds) fp' → Sm fp' fp → (∀ own, (∀ i ∈ is, i ∈ own) → L2.wipe σ' own = L2.wipe σ own) → Q σ' H
theorem pg_imp {X : Cx} {e : Expr} {t t' : TG} (h : PG X e t) (w : ∀ v σ H Q, t' v σ H Q → t v σ H Q) : PG X e t' := ⟨fun pins s σ H v u Q I r q => h.run pins s σ H v u Q I r (w v σ H Q q)⟩
theorem pgs_imp {X : Cx} {e : List Expr} {t t' : TGs} (h : PGs X e t) (w : ∀ v σ H Q, t' v σ H Q → t v σ H Q) : PGs X e t' := ⟨fun pins s σ H v u Q I r q => h.run pins s σ H v u Q I r (w v σ H Q q)⟩
/-- a name that may be stored into -/
structure NmOk (X : Cx) (x : Str) (i : Nat) : Prop where
  hN : X.N[i]? = some x
  loc : Loc X.env.scope x
  fn : X.fn x = true ∨ X.env.scope.names.lookup x = some .local
inductive NmsOk (X : Cx) : List Expr → List Nat → Prop
  | nil : NmsOk X [] []
  | cons {x : Str} {p : Pos} {i : Nat} {es : List Expr} {is : List Nat} : NmOk X x i → NmsOk X es is → NmsOk X (.Name x p :: es) (i :: is)
section
variable {X : Cx}
theorem g_nm {x : Str} {i : Nat} {p : Pos} (nd : X.N.Nodup) (h : NmOk X x i) : PG X (.Name x p) (tG (.nm i)) := by
  refine pg_imp (pg_name nd h.hN h.loc h.fn) fun v σ H Q ⟨env, fp, d, Qe, E, r, g, k⟩ => ?_
  obtain ⟨fp', s, E'⟩ := E.setD i r
  exact k _ _ _ g E' s fun own ho => wipe_set (ho i (List.mem_singleton.mpr rfl))
theorem gs_names {es : List Expr} {is : List Nat} (nd : X.N.Nodup) (h : NmsOk X es is) : PGs X es (tGs is) := by
  induction h with
  | nil =>
    refine pgs_imp pgs_nil fun vs σ H Q ⟨env, fp, ds, E, l, hl, k⟩ => ?_
    cases ds with
    | nil => cases l; exact ⟨rfl, k σ fp E (Sm.refl _) fun _ _ => rfl⟩
    | cons _ _ => cases hl
  | @cons x p i es is n _ ih =>
    refine pgs_imp (pgs_cons (pg_name nd n.hN n.loc n.fn) ih rfl) fun vs σ H Q ⟨env, fp, ds, E, l, hl, k⟩ => ?_
    cases l with
    | nil => cases hl
    | @cons v vs d ds r l =>
      obtain ⟨f1, s1, E1⟩ := E.setD i r
      refine ⟨v, vs, rfl, _, f1, ds, E1, l, by simpa using hl, fun σ' fp' E' s' w => k σ' fp' E' (s'.trans s1) fun own ho => ?_⟩
      rw [w own fun j hj => ho j (List.mem_cons_of_mem _ hj), wipe_set (ho i List.mem_cons_self)]
theorem names_each {es : List Expr} {is : List Nat} (h : NmsOk X es is) (env : PySem.Env) : (assignEach es env).length = is.length ∧ (assignEach es env).findIdx? (·.1) = none := by
  induction h with
  | nil => exact ⟨rfl, rfl⟩
  | @cons x p i es is n _ ih =>
    have e : assignEach (.Name x p :: es) env = (false, assign (.Name x p) env) :: assignEach es env := rfl
    rw [e]
    refine ⟨by simp [ih.1], ?_⟩
    rw [List.findIdx?_cons, ih.2]
    rfl
theorem g_tp {es : List Expr} {is : List Nat} {k : Nat} {p : Pos} (nd : X.N.Nodup) (hc : X.calm = true) (h : NmsOk X es is) : PG X (.Tuple es k p) (tG (.tp is)) := by
  obtain ⟨h1, h2⟩ := names_each h X.env
  refine pg_imp (pg_tup hc (gs_names nd h) h1 h2) fun v σ H Q ⟨env, fp, d, Qe, E, r, g, k⟩ => ?_
  unfold bindT at g
  cases d with
  | tuple xs =>
    obtain ⟨hl, g⟩ := g
    rw [setD_fold] at g
    obtain ⟨a, vs, rfl, e, l⟩ := r.tuple
    exact ⟨a, vs, rfl, .inl (.inl e), by rw [l.length, hl], env, fp, xs, E, l, hl, fun σ' fp' E' s w => k σ' _ fp' g E' s w⟩
  | _ => exact g.elim
end
/-! ### a growing list beside the slots -/
structure Lp (H0 : Hp) (fp : List Addr) (D : Addr) (σ : Sg) (H : Hp) (e : Env) (fe : List Addr) (acc : List W) : Prop where
  E : EOk H σ e fe
  ex : ∃ vs fa, H D = some (.lst vs) ∧ RpWs H vs acc fa ∧ Post H0 fp H (fe ++ D :: fa)
  ne : D ≠ sysModules
section
variable {H0 H H' : Hp} {fp fe fe' : List Addr} {D : Addr} {σ σ' : Sg} {e e' : Env} {acc : List W}
theorem Lp.nd (L : Lp H0 fp D σ H e fe acc) : fe.Nodup := by
  obtain ⟨vs, fa, _, _, P⟩ := L.ex
  exact P.envOf.nd
theorem Lp.sm (L : Lp H0 fp D σ H e fe acc) (E' : EOk H σ' e' fe') (s : Sm fe' fe) : Lp H0 fp D σ' H e' fe' acc := by
  obtain ⟨vs, fa, hD, r, P⟩ := L.ex
  exact ⟨E', ⟨vs, fa, hD, r, P.sm (s.app _)⟩, L.ne⟩
theorem Lp.step (L : Lp H0 fp D σ H e fe acc) (E' : EOk H' σ' e' fe') (P' : Post H fe H' fe') : Lp H0 fp D σ' H' e' fe' acc := by
  obtain ⟨vs, fa, hD, r, P⟩ := L.ex
  have ne : ∀ a ∈ D :: fa, H a ≠ none := fun a ha => (List.mem_cons.mp ha).elim (fun z => by rw [z, hD]; exact fun z => nomatch z) fun z => (r.ow a z).ne
  have kp := P'.keep P.nd ne
  exact ⟨E', ⟨vs, fa, (kp D List.mem_cons_self).trans hD, r.mono P'.ft fun a ha => kp a (List.mem_cons_of_mem _ ha), P.trans (P'.frame P.nd ne)⟩, L.ne⟩
theorem RpWs.snoc {H : Hp} {v : V} {w : W} {fw : List Addr} (hw : RpW H v w fw) : ∀ {vs : List V} {ws : List W} {fa : List Addr}, RpWs H vs ws fa → RpWs H (vs ++ [v]) (ws ++ [w]) (fa ++ fw)
  | _, _, _, .nil => by
    have q := RpWs.cons hw (RpWs.nil (H := H))
    rw [List.append_nil] at q
    exact q
  | _, _, _, .cons a b => by
    rw [List.append_assoc]
    exact .cons a (RpWs.snoc hw b)
/-- an owned object written -/
theorem Post.put {H : Hp} {fp : List Addr} {a : Addr} {o : HO} (nd : fp.Nodup) (ha : a ∈ fp) (ow : Ow (H a)) : Post H fp (upd H a o) fp where
  fr := fun b u h hb => by rw [upd_ne fun e => hb (by rw [e]; exact ha)]; exact h
  nw := fun b hb => .inl hb
  nd := nd
  ft := by
    have q : ∀ b u, H b = some u → ¬ Ow (some u) → upd H a o b = some u := fun b u h n => by
      rw [upd_ne fun e => n (by rw [← h, e]; exact ow)]
      exact h
    exact ⟨fun b xs h => q b _ h fun z => z, fun b x u h => q b _ h fun z => z⟩
  th := fun b h => by
    by_cases e : b = a
    · rw [e, upd_same] at h; cases h
    · rw [upd_ne e] at h; exact h
theorem Lp.push (L : Lp H0 fp D σ H e fe acc) {fw : List Addr} {y : V} {w : W} (E' : EOk H' σ' e' fe') (R : RpW H' y w fw) (P' : Post H fe H' (fe' ++ fw)) :
    ∃ vs, H' D = some (.lst vs) ∧ vs.length = acc.length ∧ Lp H0 fp D σ' (upd H' D (.lst (vs ++ [y]))) e' fe' (acc ++ [w]) ∧ FT H (upd H' D (.lst (vs ++ [y]))) := by
  obtain ⟨vs, fa, hD, r, P⟩ := L.ex
  have ne : ∀ a ∈ D :: fa, H a ≠ none := fun a ha => (List.mem_cons.mp ha).elim (fun z => by rw [z, hD]; exact fun z => nomatch z) fun z => (r.ow a z).ne
  have kp := P'.keep P.nd ne
  have hD' : H' D = some (.lst vs) := (kp D List.mem_cons_self).trans hD
  have r' : RpWs H' vs acc fa := r.mono P'.ft fun a ha => kp a (List.mem_cons_of_mem _ ha)
  have P1 : Post H0 fp H' (fe' ++ fw ++ (D :: fa)) := P.trans (P'.frame P.nd ne)
  have pm : (fe' ++ D :: (fa ++ fw)).Perm (fe' ++ fw ++ (D :: fa)) := by
    rw [List.append_assoc]
    refine List.Perm.append_left _ ?_
    rw [← List.cons_append]
    exact List.perm_append_comm
  have P2 : Post H0 fp H' (fe' ++ D :: (fa ++ fw)) := P1.sm (Sm.perm pm)
  have oD : Ow (H' D) := by rw [hD']; trivial
  have Pw : Post H' (fe' ++ D :: (fa ++ fw)) (upd H' D (.lst (vs ++ [y]))) (fe' ++ D :: (fa ++ fw)) := Post.put P2.nd (List.mem_append_right _ List.mem_cons_self) oD
  have nD := P2.nd
  rw [List.nodup_append] at nD
  have no1 : ∀ a ∈ fe', upd H' D (.lst (vs ++ [y])) a = H' a := fun a ha => upd_ne (nD.2.2 a ha D List.mem_cons_self)
  have no2 : ∀ a ∈ fa ++ fw, upd H' D (.lst (vs ++ [y])) a = H' a := fun a ha => upd_ne fun e => (List.nodup_cons.mp nD.2.1).1 (e ▸ ha)
  refine ⟨vs, hD', r.length, ⟨E'.mono Pw.ft no1, ⟨vs ++ [y], fa ++ fw, upd_same, ?_, P2.trans Pw⟩, L.ne⟩, P'.ft.trans Pw.ft⟩
  exact RpWs.snoc (R.mono Pw.ft fun a ha => no2 a (List.mem_append_right _ ha)) (r'.mono Pw.ft fun a ha => no2 a (List.mem_append_left _ ha))
/-- wiped slots -/
theorem Lp.wipe (L : Lp H0 fp D σ H e fe acc) (own : List Nat) : ∃ fe', Lp H0 fp D (L2.wipe σ own) H (wipes e own) fe' acc := by
  obtain ⟨f, s, E⟩ := L.E.wipe own
  exact ⟨f, L.sm E s⟩
end
/-! ### comprehensions -/
def tPut (mvd : Bool) (ev : Env → (W → Env → Prop) → Prop) : TE := tM fun env Q => ev env fun w e => if mvd then mv w e Q else fz w e fun x e => Q (.d x) e
theorem pe_put {X : Cx} {e : Expr} {ev : Env → (W → Env → Prop) → Prop} (mvd : Bool) (h : PE X e (tW ev)) : PE X e (tPut mvd ev) := by
  cases mvd with
  | true => exact pe_mv h
  | false =>
    refine pe_imp (pe_fz h) fun σ H Q ⟨env, fp, Qe, E, nd, hq, k⟩ => ⟨env, fp, fun x e => Qe (.d x) e, E, nd, hq, fun x e1 v H1 fe g E1 r P => k _ e1 v H1 fe [] g E1 (.d r) (by rw [List.append_nil]; exact P)⟩
theorem putW_of {mvd : Bool} {acc : List W} {w : W} {e : Env} {k : List W → Env → Prop} (h : putW mvd acc w e k) : (if mvd = true then mv w e fun w e => acc.length < lim ∧ k (acc ++ [w]) e else fz w e fun x e => acc.length < lim ∧ k (acc ++ [.d x]) e) := h
section
variable {X : Cx} {C : Ctx} {elt tg iter tg1 iter1 : Expr} {ifs : List Expr} {scope : Scope} {own : List (Str × Nat)} {pos : Pos} {it it1 : Tg} {is is1 : II} {ii ie : IE} {mvd : Bool} {vs1 : List Nat}
theorem put_k {H0 H : Hp} {fp fe : List Addr} {D : Addr} {σ : Sg} {e : Env} {acc : List W} {k : List W → Env → Prop} {Nx : Hp → Prop} (L : Lp H0 fp D σ H e fe acc) (g : evE C ie e fun w e => putW mvd acc w e k)
    (hk : ∀ w e' H' fe', k (acc ++ [w]) e' → Lp H0 fp D σ H' e' fe' (acc ++ [w]) → FT H H' → Nx H') : tPut mvd (evE C ie) σ H fun y H4 => ∃ ac, H4 D = some (.lst ac) ∧ ac.length < sizeLine ∧ Nx (upd H4 D (.lst (ac ++ [y]))) := by
  refine ⟨e, fe, fun w e => acc.length < lim ∧ k (acc ++ [w]) e, L.E, L.nd, g, fun w e5 u H5 fe5 fw g5 E5 R5 P5 => ?_⟩
  obtain ⟨vs, h1, h2, h3, h4⟩ := L.push E5 R5 P5
  exact ⟨vs, h1, by rw [h2]; exact Nat.lt_of_lt_of_le g5.1 lim_line, hk w e5 _ fe5 g5.2 h3 h4⟩
theorem RpWs.ol {H : Hp} {σ : Sg} {D : Addr} {vs : List V} {acc : List W} {fa : List Addr} (hD : H D = some (.lst vs)) (r : RpWs H vs acc fa) (ne : D ≠ sysModules) : RpR H σ (.ref D) (.ol acc) (D :: fa) := RpW.ol ne hD r
/-- the list is whole -/
theorem Lp.done {H0 H H1 : Hp} {fp fe f1 : List Addr} {D : Addr} {σ : Sg} {e e1 : Env} {acc : List W} {vs : List Nat} {Qe : W → Env → Prop} {Q : VK} (L : Lp H0 fp D (L2.wipe σ vs) H e fe acc) (E1 : EOk H1 σ e1 f1) (ft : FT H1 H) (pl : vs.all (plainSlot e1) = true)
    (k : ∀ w env' v H' fe fw, Qe w env' → EOk H' σ env' fe → RpR H' σ v w fw → Post H0 fp H' (fe ++ fw) → Q v H') (g : Qe (.ol acc) (Mn.back e e1 vs)) : Q (.ref D) H := by
  obtain ⟨fe2, s, E2⟩ := E1.back ft L.E vs pl
  rw [rest_wipe] at E2
  obtain ⟨xs, fa, hD, r, P⟩ := (L.sm E2 s).ex
  exact k _ _ _ H fe2 (D :: fa) g E2 (RpWs.ol hD r L.ne) P
theorem Lp.begin {H0 H1 : Hp} {fp fe : List Addr} {D : Addr} {σ : Sg} {e1 : Env} (E1 : EOk H1 σ e1 fe) (P1 : Post H0 fp H1 fe) (nD : H1 D = none) (vs : List Nat) : ∃ f0, Lp H0 fp D (L2.wipe σ vs) (upd H1 D (.lst [])) (wipes e1 vs) f0 [] := by
  have L0 : Lp H0 fp D σ (upd H1 D (.lst [])) e1 fe [] := ⟨E1.new nD, ⟨[], [], upd_same, .nil, by
    have q := Post.cons_new (o := .lst []) (fw := []) (by rw [List.append_nil]; exact P1) (fun a ha => (E1.ow a (by rwa [List.append_nil] at ha)).ne) nD
    exact q⟩, E1.sys.ne nD⟩
  exact L0.wipe vs
theorem drop_at {items : List PD} {i : Nat} {d : PD} (hd : items[i]? = some d) : items.drop i = d :: items.drop (i + 1) := by
  obtain ⟨h, e⟩ := List.getElem?_eq_some_iff.mp hd
  rw [List.drop_eq_getElem_cons h, e]
theorem lc_mk {vs : List Nat} {σ : Sg} {H : Hp} {Q : VK} (hs : ∀ i ∈ it.slots, i ∈ vs) (h : tW (evE C (.lc mvd vs it is ii ie)) σ H Q) : tLc (tSrc (evI C is)) (tG it) (tB' (evE C ii)) (tPut mvd (evE C ie)) vs σ H Q := by
  obtain ⟨env, fp, Qe, E, nd, hq, k⟩ := h
  refine ⟨env, fp, _, E, nd, hq, fun items e1 H1 fe J src g E1 P1 wd s0 D nD => ?_⟩
  obtain ⟨pl, g⟩ := g
  obtain ⟨f0, L0⟩ := Lp.begin E1 P1 nD vs
  obtain ⟨st, hst⟩ : ∃ st : PD → Env → List W → (List W → Env → Prop) → Prop, st = fun x e acc k => bindT it x e fun e2 => evE C ii e2 fun t e3 => asB t fun c => if c then evE C ie e3 fun w e4 => putW mvd acc w e4 k else k acc e3 := ⟨_, rfl⟩
  have g : accW vs st items (wipes e1 vs) [] fun acc e2 => Qe (.ol acc) (Mn.back e2 e1 vs) := by rw [hst]; exact g
  obtain ⟨I, hI⟩ : ∃ I : Nat → Hp → Prop, I = fun i H' => i ≤ items.length ∧ src H' ∧ FT H1 H' ∧ ∃ acc e fe, Lp H fp D (L2.wipe σ vs) H' e fe acc ∧ accW vs st (items.drop i) e acc fun acc e2 => Qe (.ol acc) (Mn.back e2 e1 vs) := ⟨_, rfl⟩
  refine ⟨fun i m H' => m = items.length - i ∧ I i H', ⟨_, rfl, by rw [hI]; exact ⟨Nat.zero_le _, wd.mono _ _ (FT.new nD) s0, FT.new nD, [], _, f0, L0, by rw [List.drop_zero]; exact g⟩⟩, ?_⟩
  rintro i m H2 ⟨rfl, q⟩
  rw [hI] at q
  obtain ⟨hi, s2, ft2, acc, e2, fe2, L2', g2⟩ := q
  by_cases hlt : i < items.length
  · refine .inr ⟨wd.go i H2 hlt s2, I (i + 1), fun H' q => ⟨items.length - (i + 1), by omega, rfl, q⟩, fun x H3 y => ?_⟩
    obtain ⟨d, hd, rx, rs⟩ := wd.yld i H2 x H3 hlt s2 y
    rw [drop_at hd] at g2
    have g2 : st d e2 acc fun acc' e => accW vs st (items.drop (i + 1)) (wipes e vs) acc' fun acc e2 => Qe (.ol acc) (Mn.back e2 e1 vs) := g2
    have nx : ∀ {acc' e' H' fe' σ'}, accW vs st (items.drop (i + 1)) (wipes e' vs) acc' (fun acc e2 => Qe (.ol acc) (Mn.back e2 e1 vs)) → Lp H fp D σ' H' e' fe' acc' → L2.wipe σ' vs = L2.wipe σ vs → FT H2 H' → I (i + 1) H' := fun {acc' e' H' fe' σ'} g L w f => by
      obtain ⟨fw, Lw⟩ := L.wipe vs
      rw [w] at Lw
      rw [hI]
      exact ⟨hlt, wd.mono _ _ f s2, ft2.trans f, acc', _, fw, Lw, g⟩
    rw [show st d e2 acc _ = _ from congrFun (congrFun (congrFun (congrFun hst d) e2) acc) _] at g2
    have L3 : Lp H fp D (L2.wipe σ vs) H3 e2 fe2 acc := L2'.step (L2'.E.grow rs) ((Post.refl L2'.nd).snoc rs L2'.E.ow)
    refine ⟨e2, fe2, d, _, L3.E, rx, g2, fun σ' e3 fe3 g3 E3 sm3 w3 => ?_⟩
    have w' : L2.wipe σ' vs = L2.wipe σ vs := by
      rw [w3 vs hs, wipe_wipe]
    refine ⟨w', ?_⟩
    have L4 := L3.sm E3 sm3
    refine ⟨e3, fe3, _, E3, L4.nd, g3, fun c e4 H4 fe4 g4 E4 P4 => ?_⟩
    have L5 := L4.step E4 P4
    have f24 : FT H2 H4 := rs.ft.trans P4.ft
    cases c with
    | true =>
      rw [if_pos rfl] at g4
      show tPut mvd (evE C ie) σ' H4 _
      exact put_k L5 g4 fun w e' H' fe' gk Lk f => nx gk Lk w' (f24.trans f)
    | false =>
      rw [if_neg Bool.false_ne_true] at g4
      exact nx g4 L5 w' f24
  · have e : i = items.length := by omega
    subst e
    rw [List.drop_length] at g2
    exact .inl ⟨wd.stop H2 s2, L2'.done E1 ft2 pl k g2⟩
theorem lc2_mk {vs vs1 : List Nat} {σ : Sg} {H : Hp} {Q : VK} (hs : ∀ i ∈ it.slots, i ∈ vs) (hs1 : ∀ i ∈ it1.slots, i ∈ vs1) (hv : ∀ i ∈ vs1, i ∈ vs) (h : tW (evE C (.lc2 mvd vs vs1 it is it1 is1 ie)) σ H Q) : tLc2 (tSrc (evI C is)) (tG it) tYes (tSrc (evI C is1)) (tG it1) tYes (tPut mvd (evE C ie)) vs vs1 σ H Q := by
  obtain ⟨env, fp, Qe, E, nd, hq, k⟩ := h
  refine ⟨env, fp, _, E, nd, hq, fun items e1 H1 fe J src g E1 P1 wd s0 D nD => ?_⟩
  obtain ⟨pl, g⟩ := g
  obtain ⟨f0, L0⟩ := Lp.begin E1 P1 nD vs
  obtain ⟨st1, hst1⟩ : ∃ st : PD → Env → List W → (List W → Env → Prop) → Prop, st = fun y e acc k => bindT it1 y e fun e4 => evE C ie e4 fun w e5 => putW mvd acc w e5 k := ⟨_, rfl⟩
  obtain ⟨st, hst⟩ : ∃ st : PD → Env → List W → (List W → Env → Prop) → Prop, st = fun x e acc k => bindT it x e fun e2 => evI C is1 e2 fun items1 e3 => accW vs1 st1 items1 (wipes e3 vs1) acc k := ⟨_, rfl⟩
  have g : accW vs st items (wipes e1 vs) [] fun acc e2 => Qe (.ol acc) (Mn.back e2 e1 vs) := by rw [hst, hst1]; exact g
  obtain ⟨I, hI⟩ : ∃ I : Nat → Hp → Prop, I = fun i H' => i ≤ items.length ∧ src H' ∧ FT H1 H' ∧ ∃ acc e fe, Lp H fp D (L2.wipe σ vs) H' e fe acc ∧ accW vs st (items.drop i) e acc fun acc e2 => Qe (.ol acc) (Mn.back e2 e1 vs) := ⟨_, rfl⟩
  refine ⟨fun i m H' => m = items.length - i ∧ I i H', ⟨_, rfl, by rw [hI]; exact ⟨Nat.zero_le _, wd.mono _ _ (FT.new nD) s0, FT.new nD, [], _, f0, L0, by rw [List.drop_zero]; exact g⟩⟩, ?_⟩
  rintro i m H2 ⟨rfl, q⟩
  rw [hI] at q
  obtain ⟨hi, s2, ft2, acc, e2, fe2, L2', g2⟩ := q
  by_cases hlt : i < items.length
  · refine .inr ⟨wd.go i H2 hlt s2, I (i + 1), fun H' q => ⟨items.length - (i + 1), by omega, rfl, q⟩, fun x H3 y => ?_⟩
    obtain ⟨d, hd, rx, rs⟩ := wd.yld i H2 x H3 hlt s2 y
    rw [drop_at hd] at g2
    have g2 : st d e2 acc fun acc' e => accW vs st (items.drop (i + 1)) (wipes e vs) acc' fun acc e2 => Qe (.ol acc) (Mn.back e2 e1 vs) := g2
    have nx : ∀ {acc' e' H' fe' σ'}, accW vs st (items.drop (i + 1)) (wipes e' vs) acc' (fun acc e2 => Qe (.ol acc) (Mn.back e2 e1 vs)) → Lp H fp D σ' H' e' fe' acc' → L2.wipe σ' vs = L2.wipe σ vs → FT H2 H' → I (i + 1) H' := fun {acc' e' H' fe' σ'} g L w f => by
      obtain ⟨fw, Lw⟩ := L.wipe vs
      rw [w] at Lw
      rw [hI]
      exact ⟨hlt, wd.mono _ _ f s2, ft2.trans f, acc', _, fw, Lw, g⟩
    rw [show st d e2 acc _ = _ from congrFun (congrFun (congrFun (congrFun hst d) e2) acc) _] at g2
    have L3 : Lp H fp D (L2.wipe σ vs) H3 e2 fe2 acc := L2'.step (L2'.E.grow rs) ((Post.refl L2'.nd).snoc rs L2'.E.ow)
    refine ⟨e2, fe2, d, _, L3.E, rx, g2, fun σ' e3 fe3 g3 E3 sm3 w3 => ?_⟩
    have w' : L2.wipe σ' vs = L2.wipe σ vs := by
      rw [w3 vs hs, wipe_wipe]
    refine ⟨w', ?_⟩
    have L4 := L3.sm E3 sm3
    show tSrc (evI C is1) σ' H3 _
    refine ⟨e3, fe3, _, E3, L4.nd, g3, fun items1 e4 H4 fe4 J1 src1 g4 E4 P4 wd1 s4 => ?_⟩
    have L5 := L4.step E4 P4
    have f24 : FT H2 H4 := rs.ft.trans P4.ft
    obtain ⟨f6, L6⟩ := L5.wipe vs1
    obtain ⟨I1, hI1⟩ : ∃ I1 : Nat → Hp → Prop, I1 = fun j H' => j ≤ items1.length ∧ src1 H' ∧ FT H2 H' ∧ ∃ acc e fe, Lp H fp D (L2.wipe σ' vs1) H' e fe acc ∧ accW vs1 st1 (items1.drop j) e acc fun acc' e => accW vs st (items.drop (i + 1)) (wipes e vs) acc' fun acc e2 => Qe (.ol acc) (Mn.back e2 e1 vs) := ⟨_, rfl⟩
    refine ⟨fun j m H' => m = items1.length - j ∧ I1 j H', ⟨_, rfl, by rw [hI1]; exact ⟨Nat.zero_le _, s4, f24, acc, _, f6, L6, by rw [List.drop_zero]; exact g4⟩⟩, ?_⟩
    rintro j m H7 ⟨rfl, q⟩
    rw [hI1] at q
    obtain ⟨hj, s7, ft7, acc7, e7, fe7, L7, g7⟩ := q
    by_cases hlt1 : j < items1.length
    · refine .inr ⟨wd1.go j H7 hlt1 s7, I1 (j + 1), fun H' q => ⟨items1.length - (j + 1), by omega, rfl, q⟩, fun x8 H8 y8 => ?_⟩
      obtain ⟨d8, hd8, rx8, rs8⟩ := wd1.yld j H7 x8 H8 hlt1 s7 y8
      rw [drop_at hd8] at g7
      have g7 : st1 d8 e7 acc7 fun acc' e => accW vs1 st1 (items1.drop (j + 1)) (wipes e vs1) acc' fun acc' e => accW vs st (items.drop (i + 1)) (wipes e vs) acc' fun acc e2 => Qe (.ol acc) (Mn.back e2 e1 vs) := g7
      rw [show st1 d8 e7 acc7 _ = _ from congrFun (congrFun (congrFun (congrFun hst1 d8) e7) acc7) _] at g7
      have L8 : Lp H fp D (L2.wipe σ' vs1) H8 e7 fe7 acc7 := L7.step (L7.E.grow rs8) ((Post.refl L7.nd).snoc rs8 L7.E.ow)
      refine ⟨e7, fe7, d8, _, L8.E, rx8, g7, fun σ9 e9 fe9 g9 E9 sm9 w9 => ?_⟩
      have w9' : L2.wipe σ9 vs1 = L2.wipe σ' vs1 := by
        rw [w9 vs1 hs1, wipe_wipe]
      refine ⟨w9', ?_⟩
      have L9 := L8.sm E9 sm9
      show tPut mvd (evE C ie) σ9 H8 _
      refine put_k L9 g9 fun w e' H' fe' gk Lk f => ?_
      obtain ⟨fw, Lw⟩ := Lk.wipe vs1
      rw [w9'] at Lw
      rw [hI1]
      have f7 : FT H7 H' := rs8.ft.trans f
      exact ⟨hlt1, wd1.mono _ _ f7 s7, ft7.trans f7, _, _, fw, Lw, gk⟩
    · have e : j = items1.length := by omega
      subst e
      rw [List.drop_length] at g7
      refine .inl ⟨wd1.stop H7 s7, nx g7 L7 ?_ ft7⟩
      rw [← w']
      apply List.ext_getElem?
      intro j
      rw [wipe_get, wipe_get, wipe_get]
      by_cases h1 : j ∈ vs
      · rw [if_pos h1, if_pos h1]
        split <;> cases σ'[j]? <;> rfl
      · rw [if_neg h1, if_neg h1, if_neg fun z => h1 (hv j z)]
  · have e : i = items.length := by omega
    subst e
    rw [List.drop_length] at g2
    exact .inl ⟨wd.stop H2 s2, L2'.done E1 ft2 pl k g2⟩
end
end Mn

set_option linter.all false
set_option Elab.async false
set_option maxRecDepth 100000
set_option maxHeartbeats 2000000
/-! Mn: slots that own something: reads in place, methods. -/
namespace Mn
open PySem PySem.Spec PyProof.Rows L2

theorem W.pds_flat {ws : List W} {xs : List PD} (h : ws = xs.map W.d) : W.pds ws = xs := by
  subst h
  induction xs with
  | nil => rfl
  | cons x xs ih => simp only [List.map_cons, W.pds, ih, W.pd]
section
variable {X : Cx} {C : Ctx} {e a b : Expr} {ie ia ib : IE} {pos p : Pos} {x : Str} {i : Nat}
/-- the name's data, frozen -/
theorem w_frz (hN : X.N[i]? = some x) (hv : Vis X.env.scope x) (hd : (x == ("__debug__" : Str)) = false) (hcd : (x == ("__classdict__" : Str)) = false) : PE X (.Name x pos) (tW (evE C (.frz i))) := by
  refine pe_imp (pe_fz (w_var (C := C) hN hv hd hcd)) fun σ H Q ⟨env, fp, Qe, E, nd, hq, k⟩ => ⟨env, fp, fun x e => Qe (.d x) e, E, nd, ?_, fun x e1 v H1 fe g E1 r P => k _ e1 v H1 fe [] g E1 (.d r) (by rw [List.append_nil]; exact P)⟩
  simp only [evE] at hq
  simp only [evE]
  cases q : slot env i with
  | none => rw [q] at hq; exact hq
  | some w =>
    rw [q] at hq
    cases w with
    | d x => exact hq
    | ol ws => simp only [fz, q]; exact hq
    | od ks vs => simp only [fz, q]; exact hq
    | al j => exact hq.elim

/-! ### expressions that leave all as it is -/
def tP (k : IE) : TE := fun σ H Q => ∃ (env : Env) (fp : List Addr) (d : PD), EOk H σ env fp ∧ evP k env = some d ∧ ∀ v H', Rp H' v d → Res H H' [] → Q v H'
theorem p_var (hN : X.N[i]? = some x) (hv : Vis X.env.scope x) (hd : (x == ("__debug__" : Str)) = false) (hcd : (x == ("__classdict__" : Str)) = false) : PE X (.Name x pos) (tP (.var i)) := by
  refine pe_imp (pe_var hN hv hd hcd) fun σ H Q ⟨env, fp, d, E, h, k⟩ => ?_
  simp only [evP] at h
  cases q : slot env i with
  | none => rw [q] at h; cases h
  | some w =>
    obtain ⟨f, pre, post, sv, e1, h1, h2, _⟩ := E.split i (slot_lt q)
    rw [q] at h2 h
    obtain ⟨v, rfl, r⟩ := h2
    cases w with
    | d y =>
      cases h
      cases r with
      | d r => exact ⟨v, h1, k v H r (Res.refl H)⟩
    | _ => cases h
theorem p_int {n : Int} {j : Nat} : PE X (.Constant (.int n) j pos) (tP (.cI n)) := pe_imp pe_int fun σ H Q ⟨env, fp, d, E, h, k⟩ => by cases h; exact k _ H (.int n) (Res.refl H)
theorem evP_bin {o : Bo} {env : Env} {d : PD} (h : evP (.bin o ia ib) env = some d) : ∃ a b c, evP ia env = some (.int a) ∧ evP ib env = some (.int b) ∧ d = .int c ∧ ∀ Qw : W → Prop, Qw (.d (.int c)) → bo o (.int a) (.int b) Qw := by
  cases o with
  | add =>
    simp only [evP] at h
    split at h
    · next a b h1 h2 => cases h; exact ⟨a, b, _, h1, h2, rfl, fun _ q => q⟩
    · cases h
  | sub =>
    simp only [evP] at h
    split at h
    · next a b h1 h2 => cases h; exact ⟨a, b, _, h1, h2, rfl, fun _ q => q⟩
    · cases h
  | fdiv =>
    simp only [evP] at h
    split at h
    · next a b h1 h2 =>
      split at h
      · next hc => cases h; exact ⟨a, b, _, h1, h2, rfl, fun _ q => ⟨hc.1, (Nat.log2_lt (by omega)).mp hc.2, q⟩⟩
      · cases h
    · cases h
  | _ => cases h
theorem evP_b2 {f : B2} {env : Env} {d : PD} (h : evP (.b2 f ia ib) env = some d) : ∃ a b c, evP ia env = some (.int a) ∧ evP ib env = some (.int b) ∧ d = .int c ∧ ∀ Qw : W → Prop, Qw (.d (.int c)) → b2 f (.int a) (.int b) Qw := by
  cases f with
  | max =>
    simp only [evP] at h
    split at h
    · next a b h1 h2 => cases h; exact ⟨a, b, _, h1, h2, rfl, fun _ q => q⟩
    · cases h
  | min =>
    simp only [evP] at h
    split at h
    · next a b h1 h2 => cases h; exact ⟨a, b, _, h1, h2, rfl, fun _ q => q⟩
    · cases h
  | _ => cases h
theorem out_int {H1 H : Hp} {c : Int} {Q : VK} (k : ∀ v H', Rp H' v (.int c) → Res H H' [] → Q v H') (s : Res H H1 []) : Out H1 (fun w => w = .d (.int c)) Q := fun w v H' fw q _ rw_ rs => by
  subst q
  cases rw_ with
  | d rr => exact k v H' rr (s.trans rs)
theorem p_bin {o : Bo} (ha : PE X a (tP ia)) (hb : PE X b (tP ib)) : PE X (.BinOp a o.op b pos) (tP (.bin o ia ib)) := by
  refine pe_imp (pe_op (op_bo o) ha hb) fun σ H Q ⟨env, fp, d, E, h, k⟩ => ?_
  obtain ⟨m, n, c, h1, h2, rfl, g⟩ := evP_bin h
  refine ⟨env, fp, _, E, h1, fun v H1 r s1 => ⟨env, fp, _, E.grow s1, h2, fun u H2 r2 s2 => ⟨_, _, fun w => w = .d (.int c), (E.grow s1).sys.mono s2.ft, .of (r.mono s2.ft), .of r2, g _ rfl, out_int k (s1.trans s2)⟩⟩⟩
theorem p_b2 {f : B2} (hc : X.calm = true) (hg : Gl X f.name) (hm : X.mg f.name = if f.name = "gcd" then some (.builtin "math.gcd") else none) (ha : PE X a (tP ia)) (hb : PE X b (tP ib)) (hs : starless a = true) (hs2 : starless b = true) :
    PE X (.Call (.Name f.name p) [a, b] [] pos) (tP (.b2 f ia ib)) := by
  have sa : (backTo pos (starEach [b] X.env)).any (·.1) = false := star_any pos (by simp [starlessAll, hs2])
  have key : PE X (.Call (.Name f.name p) [a, b] [] pos) (tCB (rB2 f) (tCons (tP ia) (tCons (tP ib) tNil))) := by
    cases f with
    | max => exact pe_callB (c_max2 hc) hg (by rw [hm]; rfl) (by rfl) (pa_two ha hb hs hs2) (by decide) (by decide) (star_cons hs) sa
    | min => exact pe_callB (c_min2 hc) hg (by rw [hm]; rfl) (by rfl) (pa_two ha hb hs hs2) (by decide) (by decide) (star_cons hs) sa
    | gcd => exact pe_callBfun c_gcd hg (by rw [hm]; rfl) (pa_two ha hb hs hs2) (by decide) (star_cons hs) sa
  refine pe_imp key fun σ H Q ⟨env, fp, d, E, h, k⟩ => ?_
  obtain ⟨m, n, c, h1, h2, rfl, g⟩ := evP_b2 h
  refine ⟨env, fp, _, E, h1, fun v H1 r s1 => ⟨env, fp, _, E.grow s1, h2, fun u H2 r2 s2 => ⟨v, u, _, _, fun w => w = .d (.int c), rfl, .of (r.mono s2.ft), .of r2, g _ rfl, out_int k (s1.trans s2)⟩⟩⟩

/-! ### what a slot owns -/
theorem RpWs.at_ {H : Hp} : ∀ {vs : List V} {ws : List W} {fp : List Addr}, RpWs H vs ws fp → ∀ {j : Nat} {w : W}, ws[j]? = some w → ∃ v f pre post, fp = pre ++ f ++ post ∧ vs[j]? = some v ∧ RpW H v w f ∧
    ∀ {H' : Hp} (v' : V) (w' : W) (f' : List Addr), FT H H' → (∀ a ∈ pre ++ post, H' a = H a) → RpW H' v' w' f' → RpWs H' (vs.set j v') (ws.set j w') (pre ++ f' ++ post)
  | _, _, _, .nil, _, _, h => by simp at h
  | _, _, _, .cons (f := f) (fp := fp) a b, 0, w, h => by
    simp only [List.getElem?_cons_zero, Option.some.injEq] at h
    subst h
    exact ⟨_, f, [], fp, rfl, rfl, a, fun {H'} v' w' f' ft k r => .cons r (b.mono ft fun x hx => k x hx)⟩
  | _, _, _, .cons (f := f) (fp := fp) a b, j + 1, w, h => by
    obtain ⟨v, g, pre, post, e, h1, h2, h3⟩ := b.at_ (j := j) (w := w) (by simpa using h)
    refine ⟨v, g, f ++ pre, post, by rw [e]; simp only [List.append_assoc], by simpa using h1, h2, fun {H'} v' w' f' ft k r => ?_⟩
    have q := h3 v' w' f' ft (fun x hx => k x (by
      rcases List.mem_append.mp hx with z | z
      · exact List.mem_append_left _ (List.mem_append_right _ z)
      · exact List.mem_append_right _ z)) r
    rw [List.append_assoc f, List.append_assoc f]
    exact .cons (a.mono ft fun x hx => k x (List.mem_append_left _ (List.mem_append_left _ hx))) q
/-- the list that slot i owns, and what a change of it does -/
theorem EOk.ol {H : Hp} {σ : Sg} {env : Env} {fp : List Addr} (E : EOk H σ env fp) {i : Nat} {ws : List W} (h : slot env i = some (.ol ws)) (nd : fp.Nodup) : ∃ l vs f pre post, σ[i]? = some (some (.ref l)) ∧ H l = some (.lst vs) ∧ RpWs H vs ws f ∧ l ≠ sysModules ∧ fp = pre ++ (l :: f) ++ post ∧
    ∀ {H' : Hp} (w' : W) (f' : List Addr), FT H H' → (∀ a ∈ pre ++ post, H' a = H a) → RpW H' (.ref l) w' f' → EOk H' σ (env.set i (some w')) (pre ++ f' ++ post) := by
  obtain ⟨f0, pre, post, sv, e, h1, h2, h3⟩ := E.split i (slot_lt h)
  rw [h] at h2
  obtain ⟨v, rfl, r⟩ := h2
  cases r with
  | @ol l vs _ f ne hl rs =>
    refine ⟨l, vs, f, pre, post, h1, hl, rs, ne, e, fun {H'} w' f' ft k r' => ?_⟩
    have q := h3 (some (.ref l)) (some w') f' ft k ⟨_, rfl, r'⟩
    rw [set_same h1] at q
    exact q
theorem EOk.od {H : Hp} {σ : Sg} {env : Env} {fp : List Addr} (E : EOk H σ env fp) {i : Nat} {ks : List PD} {ws : List W} (h : slot env i = some (.od ks ws)) : ∃ l kvs f pre post, σ[i]? = some (some (.ref l)) ∧ H l = some (.dK kvs) ∧ RpWs H (kvs.map (·.2)) ws f ∧ l ≠ sysModules ∧ ks = (kvs.map fun kv => keyPD kv.1) ∧ (kvs.map (·.1)).Nodup ∧ fp = pre ++ (l :: f) ++ post ∧
    ∀ {H' : Hp} (w' : W) (f' : List Addr), FT H H' → (∀ a ∈ pre ++ post, H' a = H a) → RpW H' (.ref l) w' f' → EOk H' σ (env.set i (some w')) (pre ++ f' ++ post) := by
  obtain ⟨f0, pre, post, sv, e, h1, h2, h3⟩ := E.split i (slot_lt h)
  rw [h] at h2
  obtain ⟨v, rfl, r⟩ := h2
  cases r with
  | @od l kvs _ _ f ne hl rs hk nd =>
    refine ⟨l, kvs, f, pre, post, h1, hl, rs, ne, hk, nd, e, fun {H'} w' f' ft k r' => ?_⟩
    have q := h3 (some (.ref l)) (some w') f' ft k ⟨_, rfl, r'⟩
    rw [set_same h1] at q
    exact q
/-- the key's place -/
theorem key_at {key : Str} {H : Hp} : ∀ {kvs : List (Key × V)} {ws : List W} {fp : List Addr}, RpWs H (kvs.map (·.2)) ws fp → (kvs.map (·.1)).Nodup → ∀ {w : W}, lookK key (kvs.map fun kv => keyPD kv.1) ws = some w →
    ∃ j v, ws[j]? = some w ∧ kvs[j]? = some (.inr key, v) ∧ valV kvs (.inr key) = some v ∧ (∀ w', Mn.putK key w' (kvs.map fun kv => keyPD kv.1) ws = ws.set j w') ∧ (∀ v', (L2.putK kvs (.inr key) v').map (·.2) = (kvs.map (·.2)).set j v') ∧ ∀ v', (L2.putK kvs (.inr key) v').map (·.1) = kvs.map (·.1)
  | [], _, _, .nil, _, _, h => by simp [lookK] at h
  | (k, v) :: kvs, w0 :: ws, _, .cons a b, nd, w, h => by
    have ndr := (List.nodup_cons.mp nd)
    by_cases e : k = .inr key
    · subst e
      have hk : keyP key (keyPD (.inr key)) = true := by simp [keyP, keyPD]
      simp only [List.map_cons, lookK, hk, if_true, Option.some.injEq] at h
      subst h
      have nk : ∀ kv ∈ kvs, kv.1 ≠ .inr key := fun kv hkv z => ndr.1 (List.mem_map.mpr ⟨kv, hkv, z⟩)
      have mp : ∀ v', kvs.map (fun kv => if kv.1 = .inr key then (kv.1, v') else kv) = kvs := fun v' => by
        conv => rhs; rw [← List.map_id kvs]
        exact List.map_congr_left fun kv hkv => if_neg (nk kv hkv)
      refine ⟨0, v, rfl, rfl, valV_pos rfl, fun w' => by simp only [List.map_cons, Mn.putK, hk, if_true, List.set_cons_zero], fun v' => ?_, fun v' => ?_⟩
      · unfold L2.putK
        rw [if_pos (by simp), List.map_cons, mp]
        simp
      · unfold L2.putK
        rw [if_pos (by simp), List.map_cons, mp]
        simp
    · have hk : keyP key (keyPD k) = false := by
        cases k with
        | inl i => rfl
        | inr s => simp only [keyP, keyPD, decide_eq_false_iff_not]; exact fun z => e (by rw [z])
      simp only [List.map_cons, lookK, hk, Bool.false_eq_true, if_false] at h
      obtain ⟨j, u, h1, h2, h3, h4, h5, h6⟩ := key_at b ndr.2 h
      have hany : (kvs.any fun kv => decide (kv.1 = .inr key)) = true := by rw [valV_any, h3]; rfl
      have hp : ∀ v', L2.putK ((k, v) :: kvs) (.inr key) v' = (k, v) :: L2.putK kvs (.inr key) v' := fun v' => by
        unfold L2.putK
        rw [if_pos (by rw [List.any_cons, hany]; simp), if_pos hany, List.map_cons, if_neg (show ¬ (k, v).1 = .inr key from e)]
      refine ⟨j + 1, u, by simpa using h1, by simpa using h2, ?_, fun w' => ?_, fun v' => ?_, fun v' => ?_⟩
      · rw [valV_neg e]; exact h3
      · simp only [List.map_cons, Mn.putK, hk, Bool.false_eq_true, if_false, List.set_cons_succ, h4 w']
      · rw [hp, List.map_cons, h5, List.map_cons, List.set_cons_succ]
      · rw [hp, List.map_cons, h6, List.map_cons]

/-- the last member, data -/
theorem RpWs.last {H : Hp} {x : PD} : ∀ {vs : List V} {ws : List W} {f : List Addr}, RpWs H vs ws f → ws.getLast? = some (.d x) → ∃ v, vs[vs.length - 1]? = some v ∧ Rp H v x ∧ RpWs H vs.dropLast ws.dropLast f
  | _, _, _, .nil, h => by simp at h
  | _, _, _, .cons a .nil, h => by
    simp only [List.getLast?_singleton, Option.some.injEq] at h
    subst h
    cases a with
    | d r => exact ⟨_, rfl, r, .nil⟩
  | _, _, _, .cons (v := v) (w := w) a (.cons (v := v2) (vs := vs) (w := w2) (ws := ws) b c), h => by
    obtain ⟨u, h1, h2, h3⟩ := RpWs.last (.cons b c) (by rw [← h, List.getLast?_cons_cons])
    refine ⟨u, ?_, h2, ?_⟩
    · simpa using h1
    · rw [List.dropLast_cons₂, List.dropLast_cons₂]
      exact .cons a h3
theorem Post.same {H : Hp} {fp : List Addr} {a : Addr} {o : HO} (nd : fp.Nodup) (ha : a ∈ fp) (ow : Ow (H a)) : FT H (upd H a o) ∧ ∀ b, b ≠ a → upd H a o b = H b := ⟨(Post.put (o := o) nd ha ow).ft, fun b hb => upd_ne hb⟩
/-- a list that slot i owns, written in place -/
theorem EOk.write {H : Hp} {σ : Sg} {env : Env} {fp : List Addr} (E : EOk H σ env fp) (nd : fp.Nodup) {i : Nat} {ws : List W} (h : slot env i = some (.ol ws)) : ∃ l vs f, σ[i]? = some (some (.ref l)) ∧ H l = some (.lst vs) ∧ RpWs H vs ws f ∧ l ∉ f ∧ (∀ a ∈ f, a ∈ fp) ∧ l ∈ fp ∧
    ∀ {vs' : List V} {ws' : List W} {f' : List Addr}, RpWs H vs' ws' f' → Sm f' f → ∃ fe, EOk (upd H l (.lst vs')) σ (env.set i (some (.ol ws'))) fe ∧ Post H fp (upd H l (.lst vs')) fe := by
  obtain ⟨l, vs, f, pre, post, h1, h2, h3, h4, h5, h6⟩ := E.ol h nd
  subst h5
  have lm : l ∈ pre ++ (l :: f) ++ post := by simp
  have ow : Ow (H l) := by rw [h2]; trivial
  have nd2 := nd
  rw [List.append_assoc, List.nodup_append] at nd2
  have nd3 := nd2.2.1
  rw [List.cons_append] at nd3
  have nl := (List.nodup_cons.mp nd3).1
  have lpre : l ∉ pre := fun z => nd2.2.2 l z l (by simp) rfl
  refine ⟨l, vs, f, h1, h2, h3, fun z => nl (List.mem_append_left _ z), fun a ha => by simp [ha], lm, fun {vs' ws' f'} r s => ?_⟩
  obtain ⟨ft, ot⟩ := Post.same (o := .lst vs') nd lm ow
  have nf : l ∉ f' := fun z => nl (List.mem_append_left _ (s.sub _ z))
  have q := h6 (.ol ws') (l :: f') ft (fun a ha => ot a fun e => by
    subst e
    rcases List.mem_append.mp ha with z | z
    · exact lpre z
    · exact nl (List.mem_append_right _ z)) (.ol h4 upd_same (r.mono ft fun a ha => ot a fun e => nf (e ▸ ha)))
  refine ⟨_, q, (Post.put nd lm ow).sm ?_⟩
  have s1 : Sm (l :: f') (l :: f) := ⟨fun a ha => (List.mem_cons.mp ha).elim (fun z => by rw [z]; exact List.mem_cons_self) fun z => List.mem_cons_of_mem _ (s.sub a z), fun n => List.nodup_cons.mpr ⟨nf, s.nd (List.nodup_cons.mp n).2⟩⟩
  have s2 := s1.app post
  refine ⟨fun a ha => ?_, fun n => ?_⟩
  · simp only [List.mem_append, List.mem_cons] at ha ⊢
    rcases ha with (z | z | z) | z
    · exact .inl (.inl z)
    · exact .inl (.inr (.inl z))
    · exact .inl (.inr (.inr (s.sub a z)))
    · exact .inr z
  · rw [List.append_assoc, List.nodup_append] at n ⊢
    exact ⟨n.1, s2.nd n.2.1, fun a ha b hb => n.2.2 a ha b (s2.sub b hb)⟩
theorem w_fzE {e0 : Expr} {ia : IE} (ha : PE X e0 (tW (evE C ia))) : PE X e0 (tW (evE C (.fzE ia))) := by
  refine pe_imp (pe_fz ha) fun σ H Q ⟨env, fp, Qe, E, nd, hq, k⟩ => ⟨env, fp, fun x e => Qe (.d x) e, E, nd, ?_, fun x e1 v H1 fe g E1 r P => k _ e1 v H1 fe [] g E1 (.d r) (by rw [List.append_nil]; exact P)⟩
  simp only [evE] at hq
  exact hq
theorem w_upr {apos cpos : Pos} (hN : X.N[i]? = some x) (hv : Vis X.env.scope x) (hd : (x == ("__debug__" : Str)) = false) (hcd : (x == ("__classdict__" : Str)) = false) (hline : (apos.endLine == cpos.line) = true) : PE X (.Call (.Attribute (.Name x p) "upper" apos) [] [] cpos) (tW (evE C (.upr i))) := by
  refine pe_imp (pe_upper (pe_var hN hv hd hcd) rfl hline) fun σ H Q ⟨env, fp, Qe, E, nd, hq, k⟩ => ?_
  simp only [evE] at hq
  split at hq
  · next z q =>
    obtain ⟨f, pre, post, sv, e1, h1, h2, _⟩ := E.split i (slot_lt q)
    rw [q] at h2
    obtain ⟨v, rfl, r⟩ := h2
    have P : Post H fp H (fp ++ []) := by rw [List.append_nil]; exact Post.refl nd
    cases r with
    | d r =>
      cases r
      refine ⟨.str z, h1, ⟨_, rfl⟩, z, rfl, rfl, Nat.le_trans hq.1 (by decide), ?_⟩
      exact k _ _ _ H fp [] hq.2 E (.d (.str _)) P
  · exact hq.elim
theorem w_popS {apos cpos : Pos} (hN : X.N[i]? = some x) (hv : Vis X.env.scope x) (hd : (x == ("__debug__" : Str)) = false) (hcd : (x == ("__classdict__" : Str)) = false) (hline : (apos.endLine == cpos.line) = true) : PE X (.Call (.Attribute (.Name x p) "pop" apos) [] [] cpos) (tW (evE C (.popS i))) := by
  refine pe_imp (pe_bm0 F.plainAttrs_list F.slot_list_pop F.type_list_pop mt_pop (pe_var hN hv hd hcd) rfl hline) fun σ H Q ⟨env, fp, Qe, E, nd, hq, k⟩ => ?_
  simp only [evE] at hq
  split at hq
  · next ws hs =>
    split at hq
    · next y hl =>
      obtain ⟨l, vs, f, h1, h2, h3, h4, h5, h6, h7⟩ := E.write nd hs
      obtain ⟨v, e1, e2, e3⟩ := h3.last hl
      obtain ⟨fe, E', P'⟩ := h7 e3 (Sm.refl f)
      refine ⟨.ref l, h1, .inl ⟨rfl, vs, .inl (.inl h2)⟩, l, vs, v, rfl, rfl, h2, e1, ?_⟩
      exact k _ _ v _ fe [] hq E' (.d (e2.mono P'.ft)) (by rw [List.append_nil]; exact P')
    · exact hq.elim
  · exact hq.elim
theorem RpWs.drop1 {H : Hp} : ∀ {vs : List V} {ws : List W} {f : List Addr}, RpWs H vs ws f → ∀ {j : Nat} {y : PD}, ws[j]? = some (.d y) → ∃ v, vs[j]? = some v ∧ Rp H v y ∧ RpWs H (vs.eraseIdx j) (ws.eraseIdx j) f
  | _, _, _, .nil, _, _, h => by simp at h
  | _, _, _, .cons a b, 0, y, h => by
    simp only [List.getElem?_cons_zero, Option.some.injEq] at h
    subst h
    cases a with
    | d r => exact ⟨_, rfl, r, by simpa using b⟩
  | _, _, _, .cons a b, j + 1, y, h => by
    obtain ⟨v, h1, h2, h3⟩ := b.drop1 (j := j) (y := y) (by simpa using h)
    exact ⟨v, by simpa using h1, h2, .cons a h3⟩
theorem place_seq {n j : Nat} {i : Int} (h : place n i = some j) : seqIndex? i n = some j ∧ j < n ∧ -(n : Int) ≤ i ∧ i < n := ixN_seq h
theorem isOl_of {env : Env} {i : Nat} (h : isOl env i = true) : ∃ ws, slot env i = some (.ol ws) := by
  unfold isOl at h
  split at h
  · next ws q => exact ⟨ws, q⟩
  · cases h
theorem w_popI {apos cpos : Pos} (hN : X.N[i]? = some x) (hv : Vis X.env.scope x) (hd : (x == ("__debug__" : Str)) = false) (hcd : (x == ("__classdict__" : Str)) = false) (hline : (apos.endLine == cpos.line) = true) (ha : PE X a (tW (evE C ia))) (hs : starless a = true) :
    PE X (.Call (.Attribute (.Name x p) "pop" apos) [a] [] cpos) (tW (evE C (.popI i ia))) := by
  have few : ((backTo cpos (starEach [a] X.env)).all (fun x => !x.1) && (backToKw cpos (keywordEach [] X.env)).all (fun x => x.1.isSome) && decide (([a] : List Expr).length + ([] : List Keyword).length + (if ([] : List Keyword).isEmpty then 0 else 1) < 30)) = true := by
    rw [star_cons hs]; rfl
  refine pe_imp (pe_bm F.plainAttrs_list F.slot_list_pop F.type_list_pop mt_popAt (pe_var hN hv hd hcd) (pa_one ha hs) rfl few hline (star_cons hs) rfl) fun σ H Q ⟨env, fp, Qe, E, nd, hq, k⟩ => ?_
  simp only [evE] at hq
  obtain ⟨h0, hq⟩ := hq
  obtain ⟨ws0, hs0⟩ := isOl_of h0
  obtain ⟨l, vs0, f0, g1, g2, _⟩ := E.write nd hs0
  refine ⟨.ref l, g1, .inl ⟨rfl, vs0, .inl (.inl g2)⟩, env, fp, _, E, nd, hq, fun w e1 v H1 fe fw g E1 R P => ?_⟩
  obtain ⟨c, rfl, rfl, g⟩ := asI_of g R
  split at g
  · next ws hs1 =>
    obtain ⟨hz0, g⟩ := g
    split at g
    · next j hj =>
      split at g
      · next y hy =>
        obtain ⟨l', vs, f, h1, h2, h3, h4, h5, h6, h7⟩ := E1.write P.envOf.nd hs1
        rw [g1] at h1
        cases h1
        obtain ⟨u, e1', e2, e3⟩ := h3.drop1 hy
        obtain ⟨fe', E', P'⟩ := h7 e3 (Sm.refl f)
        obtain ⟨p1, p2, p3, p4⟩ := place_seq hj
        have hl := h3.length
        have hz : vs.length ≤ 1000000 := by rw [hl]; exact hz0
        refine ⟨l, vs, c, j, u, rfl, rfl, h2, by omega, by omega, by rw [hl]; exact p1, e1', ?_⟩
        exact k _ _ u _ fe' [] g E' (.d (e2.mono P'.ft)) (by rw [List.append_nil]; exact P.envOf.trans P')
      · exact g.elim
    · exact g.elim
  · exact g.elim
/-! ### members of members -/
theorem plain_ix {b : Expr} : (match b with | .Slice .. => False | .Tuple .. => False | _ => True) → PlainIx b := by
  intro h
  cases b <;> first | exact h.elim | (intro _ _; rfl)
theorem w_pth {k j : Expr} {ik ij : IE} {p1 p2 : Pos} (hN : X.N[i]? = some x) (hv : Vis X.env.scope x) (hd : (x == ("__debug__" : Str)) = false) (hcd : (x == ("__classdict__" : Str)) = false) (hk : PE X k (tP ik)) (hj : PE X j (tP ij)) (sk : PlainIx k) (sj : PlainIx j) :
    PE X (.Subscript (.Subscript (.Name x p) k p1) j p2) (tW (evE C (.pth i ik ij))) := by
  refine pe_imp (pe_ix (ix_list.or ix_tup) (pe_ix ix_list (pe_var hN hv hd hcd) hk sk) hj sj) fun σ H Q ⟨env, fp, Qe, E, nd, hq, kk⟩ => ?_
  simp only [evE] at hq
  split at hq
  · next ws a b hs ha hb =>
    obtain ⟨l, vs, f, h1, h2, h3, h4, h5, h6, _⟩ := E.write nd hs
    cases hp : place ws.length a with
    | none => rw [hp] at hq; exact hq.elim
    | some m =>
      rw [hp] at hq
      simp only [Option.bind_some] at hq
      cases hm : ws[m]? with
      | none => rw [hm] at hq; exact hq.elim
      | some wm =>
        rw [hm] at hq
        obtain ⟨v, g, pre, post, e1, e2, e3, _⟩ := h3.at_ hm
        refine ⟨.ref l, h1, env, fp, _, E, ha, fun u H1 ru s1 => ?_⟩
        cases ru
        have hl1 : H1 l = some (.lst vs) := s1.ext _ _ h2
        refine ⟨l, vs, a, v, rfl, rfl, .inl (.inl hl1), ?_, env, fp, _, E.grow s1, hb, fun u2 H2 ru2 s2 => ?_⟩
        · unfold atI
          rw [h3.length, show ixN = place from rfl, hp]
          exact e2
        cases ru2
        have s12 := s1.trans s2
        have kp : ∀ c ∈ g, H2 c = H c := fun c hc => by
          cases q : H c with
          | none => exact absurd q (e3.ow c hc).ne
          | some o => exact s12.ext _ _ q
        have P12 : Post H fp H2 fp := (Post.refl nd).snoc s12 E.ow
        have fin : ∀ {z : PD} {u : V}, Qe (.d z) env → Rp H2 u z → Q u H2 := fun {z u} q r => kk _ env u H2 fp [] q (E.grow s12) (.d r) (by rw [List.append_nil]; exact P12)
        have e3' := e3.mono s12.ft kp
        cases wm with
        | ol vs2 =>
          cases e3' with
          | @ol l2 us _ fp2 n2 q2 r2 =>
            cases hp2 : place vs2.length b with
            | none => simp only [hp2, Option.bind_none] at hq
            | some m2 =>
              simp only [hp2, Option.bind_some] at hq
              split at hq
              · next z hz =>
                obtain ⟨u, _, _, _, _, h8, h9, _⟩ := r2.at_ hz
                cases h9 with
                | d rz =>
                  refine .inl ⟨l2, us, b, u, rfl, rfl, .inl (.inl q2), ?_, fin hq rz⟩
                  unfold atI
                  rw [r2.length, show ixN = place from rfl, hp2]
                  exact h8
              · exact hq.elim
        | d y =>
          cases y with
          | list vs2 =>
            cases e3' with
            | d r =>
              obtain ⟨l2, o2, us, rfl, q2, r2⟩ := r.list
              cases hp2 : place vs2.length b with
              | none => simp only [hp2, Option.bind_none] at hq
              | some m2 =>
                simp only [hp2, Option.bind_some] at hq
                split at hq
                · next z hz =>
                  obtain ⟨u, h8, rz⟩ := r2.get hz
                  refine .inl ⟨l2, us, b, u, rfl, rfl, .inl (.inr ⟨o2, q2⟩), ?_, fin hq rz⟩
                  unfold atI
                  rw [r2.length, show ixN = place from rfl, hp2]
                  exact h8
                · exact hq.elim
          | _ => exact hq.elim
        | _ => exact hq.elim
  · exact hq.elim

/-! ### a dict of texts -/
theorem nosl_str {k : Str} {j : Nat} {p : Pos} : NoSl (.Constant (.str k) j p) := by intro _ _; rfl
/-- the dict of slot i, the value at the key -/
theorem EOk.key {H : Hp} {σ : Sg} {env : Env} {fp : List Addr} (E : EOk H σ env fp) {i : Nat} {ks : List PD} {ws : List W} {k : Str} {w : W} (h : slot env i = some (.od ks ws)) (hl : lookK k ks ws = some w) :
    ∃ l v f, σ[i]? = some (some (.ref l)) ∧ DGet H l (.str k) (some v) ∧ RpW H v w f ∧ ∀ a ∈ f, a ∈ fp := by
  obtain ⟨l, kvs, f, pre, post, h1, h2, h3, h4, h5, h6, h7, _⟩ := E.od h
  subst h5
  obtain ⟨j, v, g1, g2, g3, _⟩ := key_at h3 h6 hl
  obtain ⟨v', f', pr, po, e1, e2, e3, _⟩ := h3.at_ g1
  have : v' = v := by
    rw [List.getElem?_map, g2] at e2
    simpa using e2.symm
  subst this
  refine ⟨l, v', f', h1, ?_, e3, fun a ha => ?_⟩
  · rw [← g3]
    exact DGet.k (k := .inr k) h2
  · rw [h7, e1]
    simp [ha]
theorem w_getK {k : Str} {j : Nat} {p2 : Pos} (hu : X.A.units + 1 < cLine) (hN : X.N[i]? = some x) (hv : Vis X.env.scope x) (hd : (x == ("__debug__" : Str)) = false) (hcd : (x == ("__classdict__" : Str)) = false) : PE X (.Subscript (.Name x p) (.Constant (.str k) j p2) pos) (tW (evE C (.getK i k))) := by
  refine pe_imp (pe_dget hu (pe_var hN hv hd hcd) pe_str nosl_str) fun σ H Q ⟨env, fp, Qe, E, nd, hq, kk⟩ => ?_
  simp only [evE] at hq
  split at hq
  · next ks ws hs =>
    split at hq
    · next z hl =>
      obtain ⟨l, v, f, h1, h2, h3, _⟩ := E.key hs hl
      cases h3 with
      | d r => exact ⟨.ref l, h1, l, v, rfl, h2, kk _ env v H fp [] hq E (.d r) (by rw [List.append_nil]; exact Post.refl nd)⟩
    · exact hq.elim
  · exact hq.elim
theorem neK_mk {k : Str} {σ : Sg} {H : Hp} {Q : VK} (h : tW (evE C (.neK i k)) σ H Q) : tOp (rC (co .ne)) (tDGet (tVar i) (tC (.str k))) (tLst tNil) σ H Q := by
  obtain ⟨env, fp, Qe, E, nd, hq, kk⟩ := h
  simp only [evE] at hq
  split at hq
  · next ks ws hs =>
    split at hq
    · next us hl =>
      split at hq
      · next xs hx =>
        obtain ⟨hsh, hq⟩ := hq
        obtain ⟨l, v, f, h1, h2, h3, _⟩ := E.key hs hl
        refine ⟨.ref l, h1, l, v, rfl, h2, by show 0 ≤ _; exact Nat.zero_le _, fun q nq => ?_⟩
        have h3' := h3.grow (o := .lst []) nq
        have E' := E.new (o := .lst []) nq
        have br : Br (upd H q (.lst [])) v (.list xs) := RpW.brw (w := .ol us) h3' (by simp only [W.fl, hx]; rfl)
        refine ⟨.list xs, .list [], fun b => b = (!PyData.eqv (.list xs) (.list [])), br, .lst (E.sys.ne nq) upd_same .nil, ⟨hsh, by decide, rfl⟩, fun b hb => ?_⟩
        subst hb
        exact kk _ env _ _ fp [] hq E' (.d (.bl _)) (by
          rw [List.append_nil]
          exact (Post.refl nd).snoc (Res.tup nq) E.ow)
      · exact hq.elim
    · exact hq.elim
  · exact hq.elim
theorem w_neK {k : Str} {j : Nat} {p2 p3 p4 : Pos} (hu : X.A.units + 65 < cLine) (hN : X.N[i]? = some x) (hv : Vis X.env.scope x) (hd : (x == ("__debug__" : Str)) = false) (hcd : (x == ("__classdict__" : Str)) = false) : PE X (.Compare (.Subscript (.Name x p) (.Constant (.str k) j p2) p3) [.NotEq] [.List [] p4] pos) (tW (evE C (.neK i k))) :=
  pe_imp (pe_cmpR (op_co hu .ne) (pe_dget (by omega) (pe_var hN hv hd hcd) pe_str nosl_str) (pe_lst pa_nil) rfl) fun σ H Q h => neK_mk h
theorem t_neK {k : Str} {j : Nat} {p2 p3 p4 : Pos} (hu : X.A.units + 65 < cLine) (hN : X.N[i]? = some x) (hv : Vis X.env.scope x) (hd : (x == ("__debug__" : Str)) = false) (hcd : (x == ("__classdict__" : Str)) = false) : PT X (.Compare (.Subscript (.Name x p) (.Constant (.str k) j p2) p3) [.NotEq] [.List [] p4] pos) (tB' (evE C (.neK i k))) :=
  pt_imp (pt_cmpR (op_co hu .ne) (pe_dget (by omega) (pe_var hN hv hd hcd) pe_str nosl_str) (pe_lst pa_nil) rfl) fun σ H Q h => neK_mk (tB'_W h)
theorem set_id {α : Type} {l : List α} {j : Nat} {v : α} (h : l[j]? = some v) : l.set j v = l := by
  apply List.ext_getElem?
  intro k
  by_cases e : j = k
  · subst e
    rw [List.getElem?_set_self (List.getElem?_eq_some_iff.mp h).1, h]
  · rw [List.getElem?_set_ne e]
/-- the list at a key, written in place -/
theorem EOk.keyW {H : Hp} {σ : Sg} {env : Env} {fp : List Addr} (E : EOk H σ env fp) (nd : fp.Nodup) {i : Nat} {ks : List PD} {ws us : List W} {k : Str} (h : slot env i = some (.od ks ws)) (hl : lookK k ks ws = some (.ol us)) :
    ∃ l b vs f kvs, σ[i]? = some (some (.ref l)) ∧ DGet H l (.str k) (some (.ref b)) ∧ H b = some (.lst vs) ∧ RpWs H vs us f ∧ (H l = some (.dK kvs) ∧ valV kvs (.inr k) = some (.ref b)) ∧
    ∀ {vs' : List V} {us' : List W}, RpWs H vs' us' f → EOk (upd H b (.lst vs')) σ (env.set i (some (.od ks (Mn.putK k (.ol us') ks ws)))) fp ∧ Post H fp (upd H b (.lst vs')) fp := by
  obtain ⟨l, kvs, f, pre, post, h1, h2, h3, h4, h5, h6, h7, h8⟩ := E.od h
  subst h5
  obtain ⟨j, v, g1, g2, g3, g4, _⟩ := key_at h3 h6 hl
  obtain ⟨v', f', pr, po, e1, e2, e3, e4⟩ := h3.at_ g1
  have : v' = v := by
    rw [List.getElem?_map, g2] at e2
    simpa using e2.symm
  subst this
  cases e3 with
  | @ol b vs _ fb nb qb rb =>
    refine ⟨l, b, vs, fb, kvs, h1, by rw [← g3]; exact DGet.k (k := .inr k) h2, qb, rb, ⟨h2, g3⟩, fun {vs' us'} r => ?_⟩
    have bm : b ∈ fp := by rw [h7, e1]; simp
    have ow : Ow (H b) := by rw [qb]; trivial
    obtain ⟨ft, ot⟩ := Post.same (o := .lst vs') nd bm ow
    -- b stands once among all
    have nd2 := nd
    rw [h7, e1] at nd2
    have nb_ : ∀ a, a ∈ pre ∨ a = l ∨ a ∈ pr ∨ a ∈ fb ∨ a ∈ po ∨ a ∈ post → a ≠ b := by
      have c := List.nodup_iff_count.mp nd2 b
      simp only [List.count_append, List.count_cons, List.cons_append, beq_self_eq_true, if_true] at c
      rintro a (z | z | z | z | z | z) rfl
      · have := List.count_pos_iff.mpr z; omega
      · subst z; simp only [beq_self_eq_true, if_true] at c; omega
      all_goals have := List.count_pos_iff.mpr z; omega
    have q := e4 (.ref b) (.ol us') (b :: fb) ft (fun a ha => ot a (nb_ a ((List.mem_append.mp ha).elim (fun z => .inr (.inr (.inl z))) fun z => .inr (.inr (.inr (.inr (.inl z))))))) (.ol nb upd_same (r.mono ft fun a ha => ot a (nb_ a (.inr (.inr (.inr (.inl ha)))))))
    rw [set_id e2] at q
    have q2 := h8 (.od (kvs.map fun kv => keyPD kv.1) (Mn.putK k (.ol us') (kvs.map fun kv => keyPD kv.1) ws)) (l :: f) ft (fun a ha => ot a (nb_ a ((List.mem_append.mp ha).elim .inl fun z => .inr (.inr (.inr (.inr (.inr z)))))))
      (.od h4 ((ot l (nb_ l (.inr (.inl rfl)))).trans h2) (by rw [g4, e1]; exact q) rfl h6)
    rw [← h7] at q2
    exact ⟨q2, Post.put nd bm ow⟩
theorem w_popK {k : Str} {j : Nat} {p2 p3 apos cpos : Pos} (hu : X.A.units + 1 < cLine) (hN : X.N[i]? = some x) (hv : Vis X.env.scope x) (hd : (x == ("__debug__" : Str)) = false) (hcd : (x == ("__classdict__" : Str)) = false) (hline : (apos.endLine == cpos.line) = true) :
    PE X (.Call (.Attribute (.Subscript (.Name x p) (.Constant (.str k) j p2) p3) "pop" apos) [] [] cpos) (tW (evE C (.popK i k))) := by
  refine pe_imp (pe_bm0 F.plainAttrs_list F.slot_list_pop F.type_list_pop mt_pop (pe_dget hu (pe_var hN hv hd hcd) pe_str nosl_str) rfl hline) fun σ H Q ⟨env, fp, Qe, E, nd, hq, kk⟩ => ?_
  simp only [evE] at hq
  split at hq
  · next ks ws hs =>
    split at hq
    · next us hl =>
      split at hq
      · next y hy =>
        obtain ⟨l, b, vs, f, kvs, h1, h2, h3, h4, _, h5⟩ := E.keyW nd hs hl
        obtain ⟨v, e1, e2, e3⟩ := h4.last hy
        obtain ⟨E', P'⟩ := h5 e3
        refine ⟨.ref l, h1, l, .ref b, rfl, h2, .inl ⟨rfl, vs, .inl (.inl h3)⟩, b, vs, v, rfl, rfl, h3, e1, ?_⟩
        exact kk _ _ v _ fp [] hq E' (.d (e2.mono P'.ft)) (by rw [List.append_nil]; exact P')
      · exact hq.elim
    · exact hq.elim
  · exact hq.elim
end
end Mn

set_option linter.all false
set_option Elab.async false
set_option maxRecDepth 100000
set_option maxHeartbeats 2000000
/-! Mn: statements. -/
namespace Mn
open PySem PySem.Spec PyProof.Rows L2

theorem Sm.of_count {f g : List Addr} (h : ∀ a, f.count a ≤ g.count a) : Sm f g := by
  refine ⟨fun a ha => List.count_pos_iff.mp (Nat.lt_of_lt_of_le (List.count_pos_iff.mpr ha) (h a)), fun n => List.nodup_iff_count.mpr fun a => Nat.le_trans (h a) (List.nodup_iff_count.mp n a)⟩
def Ag (R : List Nat) (σ σ' : Sg) : Prop := ∀ i ∈ R, σ'[i]? = σ[i]?
theorem Ag.refl {R : List Nat} (σ : Sg) : Ag R σ σ := fun _ _ => rfl
theorem Ag.trans {R : List Nat} {σ σ1 σ2 : Sg} (a : Ag R σ σ1) (b : Ag R σ1 σ2) : Ag R σ σ2 := fun i h => (b i h).trans (a i h)
theorem Ag.set {R : List Nat} {σ : Sg} {i : Nat} (h : i ∉ R) (v : Option V) : Ag R σ (σ.set i v) := fun j hj => List.getElem?_set_ne fun e => h (by rw [e]; exact hj)
structure KOk (R : List Nat) (σ0 : Sg) (H0 : Hp) (fp : List Addr) (k : K) (D : Ends) : Prop where
  nx : ∀ e σ' H' fe, k.nx e → EOk H' σ' e fe → Post H0 fp H' fe → Ag R σ0 σ' → D.nx σ' H'
  bk : ∀ e σ' H' fe, k.bk e → EOk H' σ' e fe → Post H0 fp H' fe → Ag R σ0 σ' → D.bk σ' H'
  ct : ∀ e σ' H' fe, k.ct e → EOk H' σ' e fe → Post H0 fp H' fe → Ag R σ0 σ' → D.ct σ' H'
  rt : ∀ w e v σ' H' fe fw, k.rt w e → EOk H' σ' e fe → RpW H' v w fw → Post H0 fp H' (fe ++ fw) → Ag R σ0 σ' → D.rt v H'
theorem KOk.from {R : List Nat} {σ σ1 : Sg} {H H1 : Hp} {fp f1 : List Addr} {k : K} {D : Ends} (h : KOk R σ H fp k D) (P : Post H fp H1 f1) (a : Ag R σ σ1) : KOk R σ1 H1 f1 k D where
  nx := fun e σ' H' fe q E p b => h.nx e σ' H' fe q E (P.trans p) (a.trans b)
  bk := fun e σ' H' fe q E p b => h.bk e σ' H' fe q E (P.trans p) (a.trans b)
  ct := fun e σ' H' fe q E p b => h.ct e σ' H' fe q E (P.trans p) (a.trans b)
  rt := fun w e v σ' H' fe fw q E r p b => h.rt w e v σ' H' fe fw q E r (P.trans p) (a.trans b)
def tSt (R : List Nat) (ev : Env → K → Prop) : TS := fun D σ H => ∃ (env : Env) (fp : List Addr) (k : K), EOk H σ env fp ∧ fp.Nodup ∧ ev env k ∧ KOk R σ H fp k D
def noComp : Expr → Bool
  | .ListComp .. => false
  | .SetComp .. => false
  | .DictComp .. => false
  | _ => true
theorem swaps_no {e : Expr} {t : Option Expr} {l : Nat} {env : PySem.Env} (h : noComp e = true) : swapsWith e t l env = pure false := by
  cases e <;> first | rfl | cases h
section
variable {X : Cx} {C : Ctx} {R : List Nat} {e a b : Expr} {ie ia ib : IE} {pos p : Pos} {x : Str} {i : Nat} {st : Stmt} {sts : List Stmt} {is : IS} {ib' : IB}
theorem s_nil : PSs X [] (tSt R (evB C .nil)) := pss_imp pss_nil fun D σ H ⟨env, fp, k, E, nd, g, KO⟩ => KO.nx env σ H fp g E (Post.refl nd) (Ag.refl σ)
theorem s_cons (h1 : PS X st (tSt R (evS C is))) (h2 : PSs X sts (tSt R (evB C ib'))) : PSs X (st :: sts) (tSt R (evB C (.cons is ib'))) := by
  refine pss_imp (pss_cons h1 h2) fun D σ H ⟨env, fp, k, E, nd, g, KO⟩ => ?_
  refine ⟨env, fp, { nx := fun e => evB C ib' e k, rt := k.rt, bk := k.bk, ct := k.ct }, E, nd, g, ⟨fun e σ' H' fe q E' P' ag => ?_, KO.bk, KO.ct, KO.rt⟩⟩
  exact ⟨e, fe, k, E', P'.nd, q, KO.from P' ag⟩
theorem s_pas : PS X (.Pass pos) (tSt R (evS C .pas)) := ps_imp ps_pass fun D σ H ⟨env, fp, k, E, nd, g, KO⟩ => KO.nx env σ H fp g E (Post.refl nd) (Ag.refl σ)
theorem s_brk : PS X (.Break pos) (tSt R (evS C .brk)) := ps_imp ps_break fun D σ H ⟨env, fp, k, E, nd, g, KO⟩ => KO.bk env σ H fp g E (Post.refl nd) (Ag.refl σ)
theorem s_cnt : PS X (.Continue pos) (tSt R (evS C .cnt)) := ps_imp ps_continue fun D σ H ⟨env, fp, k, E, nd, g, KO⟩ => KO.ct env σ H fp g E (Post.refl nd) (Ag.refl σ)
theorem s_rse : PS X st (tSt R (evS C .rse)) := ps_imp ps_never fun D σ H ⟨env, fp, k, E, nd, g, KO⟩ => g
theorem s_ife {c : Expr} {sa sb : List Stmt} {ic : IE} {ja jb : IB} (hc : PT X c (tB' (evE C ic))) (ha : PSs X sa (tSt R (evB C ja))) (hb : PSs X sb (tSt R (evB C jb))) : PS X (.If c sa sb pos) (tSt R (evS C (.ife ic ja jb))) := by
  refine ps_imp (ps_if hc ha hb) fun D σ H ⟨env, fp, k, E, nd, g, KO⟩ => ?_
  refine ⟨env, fp, fun c e => if c then evB C ja e k else evB C jb e k, E, nd, g, fun c e H' fe q E' P' => ?_⟩
  cases c with
  | true => exact ⟨e, fe, k, E', P'.nd, q, KO.from P' (Ag.refl σ)⟩
  | false => exact ⟨e, fe, k, E', P'.nd, q, KO.from P' (Ag.refl σ)⟩
/-- handed back -/
theorem pe_give (h : PE X e (tW (evE C ie))) : PE X e (tM fun env Q => evE C ie env fun w e1 => give w e1 Q) := by
  refine pe_imp h fun σ H Q ⟨env, fp, Qe, E, nd, hq, k⟩ => ⟨env, fp, _, E, nd, hq, fun w e1 v H1 fe fw g E1 R P => ?_⟩
  cases w with
  | d x => exact k _ e1 v H1 fe fw g E1 R P
  | ol ws => exact k _ e1 v H1 fe fw g E1 R P
  | od ks ws => exact k _ e1 v H1 fe fw g E1 R P
  | al i =>
    obtain ⟨h1, rfl⟩ := R
    simp only [give] at g
    cases q : slot e1 i with
    | none => rw [q] at g; exact g.elim
    | some c =>
      rw [q] at g
      obtain ⟨f, pre, post, sv, z, h2, h3, h4⟩ := E1.split i (slot_lt q)
      rw [h1] at h2
      cases h2
      rw [q] at h3
      obtain ⟨v0, ev, r⟩ := h3
      cases ev
      have E2 := h4 (some v) none [] (FT.refl H1) (fun _ _ => rfl) rfl
      rw [set_same h1] at E2
      refine k c _ v H1 _ f g E2 r (P.sm (Sm.of_count fun a => ?_))
      rw [z]
      simp only [List.count_append, List.count_nil]
      omega
theorem s_ret (he : PE X e (tW (evE C ie))) : PS X (.Return (some e) pos) (tSt R (evS C (.ret ie))) := by
  refine ps_imp (ps_ret (pe_give he)) fun D σ H ⟨env, fp, k, E, nd, g, KO⟩ => ?_
  exact ⟨env, fp, _, E, nd, g, fun w e1 v H1 fe fw q E1 r P => KO.rt w e1 v σ H1 fe fw q E1 r P (Ag.refl σ)⟩
theorem s_retN : PS X (.Return none pos) (tSt R (evS C .retN)) := ps_imp ps_retN fun D σ H ⟨env, fp, k, E, nd, g, KO⟩ =>
  KO.rt _ env .non σ H fp [] g E (.d .non) (by rw [List.append_nil]; exact Post.refl nd) (Ag.refl σ)
theorem s_exp (he : PE X e (tW (evE C ie))) (hn : noComp e = true) : PS X (.Expr e pos) (tSt R (evS C (.exp ie))) := by
  refine ps_imp (ps_expr he (swaps_no hn)) fun D σ H ⟨env, fp, k, E, nd, g, KO⟩ => ?_
  exact ⟨env, fp, _, E, nd, g, fun w e1 v H1 fe fw q E1 r P => KO.nx e1 σ H1 fe q E1 P.envOf (Ag.refl σ)⟩
theorem s_set {p' : Pos} (nd : X.N.Nodup) (h : NmOk X x i) (hR : i ∉ R) (he : PE X e (tW (evE C ie))) (hs : swapsWith e (some (.Name x p')) pos.line X.env = pure false) : PS X (.Assign [.Name x p'] e pos) (tSt R (evS C (.set i ie))) := by
  refine ps_imp (ps_set nd h.hN h.loc (pe_mv he) hs h.fn) fun D σ H ⟨env, fp, k, E, nd, g, KO⟩ => ?_
  refine ⟨env, fp, fun w e => k.nx (e.set i (some w)), E, nd, g, fun w e1 v H1 fe fw q E1 r P => ?_⟩
  obtain ⟨f, s, E2⟩ := E1.put i (sv := some v) (ow := some w) ⟨v, rfl, r⟩
  exact KO.nx _ _ H1 f q E2 (P.sm s) (Ag.set hR _)
/-- a comprehension stored on its own line -/
theorem s_setOl {p' : Pos} {te : TE} (hR : i ∉ R) (h : PS X (.Assign [.Name x p'] e pos) (tAsg te (gName i))) (hi : ∀ σ H Q, tW (evE C ie) σ H Q → te σ H Q) (hol : ∀ env (Q : W → Env → Prop), evE C ie env Q → evE C ie env fun w e => (∃ ws, w = .ol ws) ∧ Q w e) : PS X (.Assign [.Name x p'] e pos) (tSt R (evS C (.set i ie))) := by
  refine ps_imp h fun D σ H ⟨env, fp, k, E, nd, g, KO⟩ => ?_
  refine hi _ _ _ ⟨env, fp, _, E, nd, hol _ _ g, fun w e1 v H1 fe fw q E1 r P => ?_⟩
  obtain ⟨⟨ws, rfl⟩, q⟩ := q
  obtain ⟨f, s, E2⟩ := E1.put i (sv := some v) (ow := some (.ol ws)) ⟨v, rfl, r⟩
  exact KO.nx _ _ H1 f q E2 (P.sm s) (Ag.set hR _)
/-! ### several names -/
def setV (σ : Sg) : List Nat → List V → Sg
  | i :: is, v :: vs => setV (σ.set i (some v)) is vs
  | _, _ => σ
theorem EOk.putAll {H : Hp} : ∀ {is : List Nat} {vs : List V} {ws : List W} {fw : List Addr} {σ : Sg} {env : Env} {fp : List Addr}, EOk H σ env fp → RpWs H vs ws fw → ∃ fp', Sm fp' (fp ++ fw) ∧ EOk H (setV σ is vs) (setAll env is ws) fp'
  | [], _, _, _, _, _, fp, E, r => ⟨fp, Sm.of_sub (List.sublist_append_left _ _), by unfold setV setAll; exact E⟩
  | _ :: _, _, _, _, _, _, fp, E, .nil => ⟨fp, Sm.of_sub (List.sublist_append_left _ _), by unfold setV setAll; exact E⟩
  | i :: is, _, _, _, σ, env, fp, E, .cons (v := v) (w := w) (f := f) (fp := fw) a b => by
    obtain ⟨f1, s1, E1⟩ := E.put i (sv := some v) (ow := some w) ⟨v, rfl, a⟩
    obtain ⟨f2, s2, E2⟩ := E1.putAll (is := is) b
    refine ⟨f2, s2.trans ((s1.app fw).trans (Sm.of_count fun a => ?_)), E2⟩
    simp only [List.count_append]
    omega
theorem Ag.setV {R : List Nat} : ∀ {is : List Nat} {vs : List V} {σ : Sg}, (∀ i ∈ is, i ∉ R) → Ag R σ (setV σ is vs)
  | [], _, _, _ => by unfold Mn.setV; exact Ag.refl _
  | _ :: _, [], _, _ => by unfold Mn.setV; exact Ag.refl _
  | i :: is, v :: vs, σ, h => (Ag.set (h i List.mem_cons_self) _).trans (Ag.setV fun j hj => h j (List.mem_cons_of_mem _ hj))
theorem gs_set {es : List Expr} {is : List Nat} (nd : X.N.Nodup) (h : NmsOk X es is) : PGs X es (fun vs σ H Q => vs.length = is.length ∧ Q (setV σ is vs) H) := by
  induction h with
  | nil =>
    refine pgs_imp pgs_nil fun vs σ H Q ⟨hl, q⟩ => ?_
    exact ⟨List.length_eq_zero_iff.mp hl, q⟩
  | @cons x p i es is n _ ih =>
    refine pgs_imp (pgs_cons (pg_name nd n.hN n.loc n.fn) ih rfl) fun vs σ H Q ⟨hl, q⟩ => ?_
    cases vs with
    | nil => cases hl
    | cons v vs => exact ⟨v, vs, rfl, by simpa using hl, q⟩
theorem setAll_d : ∀ (is : List Nat) (xs : List PD) (env : Env), setAll env is (xs.map .d) = setD env is xs
  | [], _, _ => by unfold setAll setD; rfl
  | _ :: _, [], _ => rfl
  | i :: is, x :: xs, env => setAll_d is xs _
theorem swaps_tup {ts : List Expr} {k : Nat} {p : Pos} {l : Nat} {env : PySem.Env} : swapsWithSole [.Tuple ts k p] e l env = pure false := by
  cases e <;> rfl
def noTup : Expr → Bool
  | .Tuple .. => false
  | _ => true
theorem stores_no {ts : List Expr} {k : Nat} {p : Pos} {env : PySem.Env} (h : noTup e = true) : swappedStores [.Tuple ts k p] e env = pure none := by
  cases e <;> first | rfl | cases h
/-- names = a tuple -/
theorem s_unp {es : List Expr} {js : List Nat} {k0 : Nat} {p' : Pos} (nd : X.N.Nodup) (hc : X.calm = true) (h : NmsOk X es js) (hR : ∀ i ∈ js, i ∉ R) (he : PE X e (tW (evE C ie))) (hn : noTup e = true) : PS X (.Assign [.Tuple es k0 p'] e pos) (tSt R (evS C (.unp js ie))) := by
  obtain ⟨h1, h2⟩ := names_each h X.env
  refine ps_imp (ps_asg (pe_fz he) (pg_tup hc (gs_set nd h) h1 h2) swaps_tup (stores_no hn) rfl) fun D σ H ⟨env, fp, k, E, nd, g, KO⟩ => ?_
  refine ⟨env, fp, _, E, nd, g, fun d e1 v H1 fe q E1 r P => ?_⟩
  cases d with
  | tuple xs =>
    obtain ⟨hl, q⟩ := q
    obtain ⟨a, vs, rfl, e, l⟩ := r.tuple
    obtain ⟨f, s, E2⟩ := E1.putAll (is := js) l.own
    rw [List.append_nil] at s
    exact ⟨a, vs, rfl, .inl (.inl e), by rw [l.length, hl], by rw [l.length, hl], KO.nx _ _ H1 f q E2 (P.sm s) (Ag.setV hR)⟩
  | _ => exact q.elim
/-- names = a display -/
theorem s_parT {es vs : List Expr} {js : List Nat} {il : IL} {k0 k1 : Nat} {p' p2 : Pos} (nd : X.N.Nodup) (hc : X.calm = true) (h : NmsOk X es js) (hR : ∀ i ∈ js, i ∉ R) (he : PA X vs (tLM (evM C il))) (hw : swappedStores [.Tuple es k0 p'] (.Tuple vs k1 p2) X.env = pure none) (hz : js.length ≤ 1000) :
    PS X (.Assign [.Tuple es k0 p'] (.Tuple vs k1 p2) pos) (tSt R (evS C (.par js il))) := by
  obtain ⟨h1, h2⟩ := names_each h X.env
  refine ps_imp (ps_asg (pe_tup he) (pg_tup hc (gs_set nd h) h1 h2) swaps_tup hw rfl) fun D σ H ⟨env, fp, k, E, nd, g, KO⟩ => ?_
  refine ⟨env, fp, _, E, nd, g, fun ws e1 us H1 fe fw q E1 r P => ?_⟩
  obtain ⟨hl, q⟩ := q
  refine ⟨by rw [r.length, hl, sizeLine_eq]; omega, fun z nz => ?_⟩
  have E1' := E1.new (o := .tup us) nz
  obtain ⟨f, s, E2⟩ := E1'.putAll (is := js) (r.grow (o := .tup us) nz)
  refine ⟨z, us, rfl, .inl (.inl upd_same), by rw [r.length, hl], by rw [r.length, hl], KO.nx _ _ _ f q E2 (Post.sm ?_ s) (Ag.setV hR)⟩
  exact P.snoc (Res.tup nz) fun a ha => (List.mem_append.mp ha).elim (E1.ow a) (r.ow a)
theorem s_par2 {v1 v2 : Expr} {i j : Nat} {x y : Str} {il : IL} {k0 k1 : Nat} {px py p' p2 : Pos} (nd : X.N.Nodup) (hc : X.calm = true) (hi : NmOk X x i) (hj : NmOk X y j) (hij : i ≠ j) (hR : i ∉ R ∧ j ∉ R) (he : PA X [v1, v2] (tLM (evM C il))) (hx : X.env.scope.names.lookup x = some .local) (hy : X.env.scope.names.lookup y = some .local)
    (hw : swappedStores [.Tuple [.Name x px, .Name y py] k0 p'] (.Tuple [v1, v2] k1 p2) X.env = pure (some [x, y])) : PS X (.Assign [.Tuple [.Name x px, .Name y py] k0 p'] (.Tuple [v1, v2] k1 p2) pos) (tSt R (evS C (.par [i, j] il))) := by
  refine ps_imp (ps_par hc nd hi.hN hj.hN hij hx hy he hw swaps_tup) fun D σ H ⟨env, fp, k, E, nd, g, KO⟩ => ?_
  refine ⟨env, fp, _, E, nd, g, fun ws e1 us H1 fe fw q E1 r P => ?_⟩
  obtain ⟨hl, q⟩ := q
  have hu : us.length = 2 := by rw [r.length, hl]; rfl
  obtain ⟨v, w, rfl⟩ : ∃ v w, us = [v, w] := by
    match us, hu with
    | [v, w], _ => exact ⟨v, w, rfl⟩
  obtain ⟨f, s, E2⟩ := E1.putAll (is := [i, j]) r
  exact ⟨v, w, rfl, KO.nx _ _ H1 f q E2 (P.sm s) ((Ag.set hR.1 _).trans (Ag.set hR.2 _))⟩
theorem s_par3 {v1 v2 v3 : Expr} {i j l : Nat} {x y z : Str} {il : IL} {k0 k1 : Nat} {px py pz p' p2 : Pos} (nd : X.N.Nodup) (hc : X.calm = true) (hi : NmOk X x i) (hj : NmOk X y j) (hl' : NmOk X z l) (hij : i ≠ j) (hil : i ≠ l) (hjl : j ≠ l) (hR : i ∉ R ∧ j ∉ R ∧ l ∉ R) (he : PA X [v1, v2, v3] (tLM (evM C il)))
    (hx : X.env.scope.names.lookup x = some .local) (hy : X.env.scope.names.lookup y = some .local) (hz : X.env.scope.names.lookup z = some .local)
    (hw : swappedStores [.Tuple [.Name x px, .Name y py, .Name z pz] k0 p'] (.Tuple [v1, v2, v3] k1 p2) X.env = pure (some [x, y, z])) : PS X (.Assign [.Tuple [.Name x px, .Name y py, .Name z pz] k0 p'] (.Tuple [v1, v2, v3] k1 p2) pos) (tSt R (evS C (.par [i, j, l] il))) := by
  refine ps_imp (ps_par3 hc nd hi.hN hj.hN hl'.hN hij hil hjl hx hy hz he hw swaps_tup) fun D σ H ⟨env, fp, k, E, nd, g, KO⟩ => ?_
  refine ⟨env, fp, _, E, nd, g, fun ws e1 us H1 fe fw q E1 r P => ?_⟩
  obtain ⟨hl, q⟩ := q
  have hu : us.length = 3 := by rw [r.length, hl]; rfl
  obtain ⟨v, w, u, rfl⟩ : ∃ v w u, us = [v, w, u] := by
    match us, hu with
    | [v, w, u], _ => exact ⟨v, w, u, rfl⟩
  obtain ⟨f, s, E2⟩ := E1.putAll (is := [i, j, l]) r
  exact ⟨v, w, u, rfl, KO.nx _ _ H1 f q E2 (P.sm s) (((Ag.set hR.1 _).trans (Ag.set hR.2.1 _)).trans (Ag.set hR.2.2 _))⟩
/-! ### x += e -/
theorem s_aug {p' : Pos} (nd : X.N.Nodup) (h : NmOk X x i) (hR : i ∉ R) (he : PE X e (tW (evE C ie))) : PS X (.AugAssign (.Name x p') .Add e pos) (tSt R (evS C (.aug i ie))) := by
  refine ps_imp (ps_aug nd h.hN h.loc he ip_add h.fn) fun D σ H ⟨env, fp, k, E, nd, g, KO⟩ => ?_
  simp only [evS] at g
  split at g
  · next a hs =>
    obtain ⟨f, pre, post, sv, e1, h1, h2, _⟩ := E.split i (slot_lt hs)
    rw [hs] at h2
    obtain ⟨v, rfl, r⟩ := h2
    cases r with
    | d r =>
      cases r
      refine ⟨.int a, h1, env, fp, _, E, nd, g, fun w e1 v H1 fe fw q E1 R1 P => ?_⟩
      obtain ⟨c, rfl, rfl, q⟩ := asI_of q R1
      obtain ⟨f, s, E2⟩ := E1.setD i (Rp.int (a + c))
      exact ⟨a, c, rfl, rfl, KO.nx _ _ H1 f q E2 (P.envOf.sm s) (Ag.set hR _)⟩
  · exact g.elim
/-! ### loops -/
theorem s_for {tg iter : Expr} {body : List Stmt} {it : Tg} {ii : II} {jb : IB} (hp : PassesOwn (model X.prog X.w) X.A X.env X.xe) (hc : X.calm = true) (hi : PI X tg iter (tSrc (evI C ii))) (hg : PG X tg (tG it)) (hb : PSs X body (tSt R (evB C jb))) (hR : ∀ i ∈ it.slots, i ∉ R)
    (hgR : PG X tg (fun v σ H Q => tG it v σ H fun σ' H' => Ag R σ σ' → Q σ' H')) (hs : ∀ x, foldedSetIterable iter X.env x = pure x) : PS X (.For tg iter body [] pos) (tSt R (evS C (.fora it ii jb))) := by
  refine ps_imp (ps_for hp hc hi hgR hb hs) fun D σ H ⟨env, fp, k, E, nd, g, KO⟩ => ?_
  refine ⟨env, fp, _, E, nd, g, fun items e1 H1 fe J src g E1 P1 wd s0 => ?_⟩
  obtain ⟨st, hst⟩ : ∃ st : PD → Env → K → Prop, st = fun x e k' => bindT it x e fun e2 => evB C jb e2 k' := ⟨_, rfl⟩
  have g : forW st items e1 k := by rw [hst]; exact g
  obtain ⟨I, hI⟩ : ∃ I : Nat → Sg → Hp → Prop, I = fun i σ' H' => i ≤ items.length ∧ src H' ∧ Ag R σ σ' ∧ ∃ e fe, EOk H' σ' e fe ∧ Post H fp H' fe ∧ forW st (items.drop i) e k := ⟨_, rfl⟩
  refine ⟨fun i m σ' H' => m = items.length - i ∧ I i σ' H', ⟨_, rfl, by rw [hI]; exact ⟨Nat.zero_le _, s0, Ag.refl σ, e1, fe, E1, P1, by rw [List.drop_zero]; exact g⟩⟩, ?_⟩
  rintro i m σ2 H2 ⟨rfl, q⟩
  rw [hI] at q
  obtain ⟨hi, s2, ag2, e2, fe2, E2, P2, g2⟩ := q
  by_cases hlt : i < items.length
  · refine .inr ⟨wd.go i H2 hlt s2, I (i + 1), fun σ' H' q => ⟨items.length - (i + 1), by omega, rfl, q⟩, fun x H3 y => ?_⟩
    obtain ⟨d, hd, rx, rs⟩ := wd.yld i H2 x H3 hlt s2 y
    rw [drop_at hd] at g2
    have g2 : st d e2 { nx := fun e => forW st (items.drop (i + 1)) e k, rt := k.rt, bk := k.nx, ct := fun e => forW st (items.drop (i + 1)) e k } := g2
    rw [show st d e2 _ = _ from congrFun (congrFun (congrFun hst d) e2) _] at g2
    have E3 := E2.grow rs
    have P23 : Post H2 fe2 H3 fe2 := (Post.refl P2.nd).snoc rs E2.ow
    refine ⟨e2, fe2, d, _, E3, rx, g2, fun σ' e3 fe3 g3 E4 sm3 w3 ag3 => ?_⟩
    have P4 : Post H fp H3 fe3 := (P2.trans P23).sm sm3
    have nx : ∀ e σ4 H4 fe4, forW st (items.drop (i + 1)) e k → EOk H4 σ4 e fe4 → Post H3 fe3 H4 fe4 → Ag R σ' σ4 → I (i + 1) σ4 H4 := fun e σ4 H4 fe4 g E p a => by
      rw [hI]
      exact ⟨hlt, wd.mono _ _ (rs.ft.trans p.ft) s2, (ag2.trans ag3).trans a, e, fe4, E, P4.trans p, g⟩
    refine ⟨e3, fe3, _, E4, P4.nd, g3, ⟨nx, ?_, nx, ?_⟩⟩
    · exact fun e σ4 H4 fe4 g E p a => KO.nx e σ4 H4 fe4 g E (P4.trans p) ((ag2.trans ag3).trans a)
    · exact fun w e v σ4 H4 fe4 fw g E r p a => KO.rt w e v σ4 H4 fe4 fw g E r (P4.trans p) ((ag2.trans ag3).trans a)
  · have e : i = items.length := by omega
    subst e
    rw [List.drop_length] at g2
    exact .inl ⟨wd.stop H2 s2, KO.nx _ _ _ _ g2 E2 P2 ag2⟩
theorem s_whl {c : Expr} {body : List Stmt} {ic : IE} {jb : IB} (hp : PassesOwn (model X.prog X.w) X.A X.env X.xe) (hc : PT X c (tB' (evE C ic))) (hb : PSs X body (tSt R (evB C jb))) : PS X (.While c body [] pos) (tSt R (evS C (.whl ic jb))) := by
  refine ps_imp (ps_while hp hc hb) fun D σ H ⟨env, fp, k, E, nd, g, KO⟩ => ?_
  obtain ⟨m0, g⟩ := g
  obtain ⟨T, hT⟩ : ∃ T : Env → (Bool → Env → Prop) → Prop, T = fun e f => evE C ic e fun x e1 => asB x fun c => f c e1 := ⟨_, rfl⟩
  obtain ⟨B, hB⟩ : ∃ B : Env → K → Prop, B = fun e k' => evB C jb e k' := ⟨_, rfl⟩
  have g : whlW T B m0 env k := by rw [hT, hB]; exact g
  refine ⟨fun m σ' H' => Ag R σ σ' ∧ ∃ e fe, EOk H' σ' e fe ∧ Post H fp H' fe ∧ whlW T B m e k, ⟨m0, Ag.refl σ, env, fp, E, Post.refl nd, g⟩, ?_⟩
  rintro m σ2 H2 ⟨ag2, e2, fe2, E2, P2, g2⟩
  cases m with
  | zero => exact g2.elim
  | succ m =>
    have g2 : T e2 fun c e => if c then B e { nx := fun e => whlW T B m e k, rt := k.rt, bk := k.nx, ct := fun e => whlW T B m e k } else k.nx e := g2
    rw [show T e2 _ = _ from congrFun (congrFun hT e2) _] at g2
    refine ⟨e2, fe2, _, E2, P2.nd, g2, fun c e3 H3 fe3 g3 E3 P3 => ?_⟩
    cases c with
    | true =>
      rw [if_pos rfl] at g3
      rw [show B e3 _ = _ from congrFun (congrFun hB e3) _] at g3
      show ∃ N : Sg → Hp → Prop, _
      have P23 := P2.trans P3
      refine ⟨fun σ' H' => Ag R σ σ' ∧ ∃ e fe, EOk H' σ' e fe ∧ Post H fp H' fe ∧ whlW T B m e k, fun σ' H' q => ⟨m, Nat.lt_succ_self m, q⟩, e3, fe3, _, E3, P3.nd, g3, ⟨?_, ?_, ?_, ?_⟩⟩
      · exact fun e σ4 H4 fe4 g E p a => ⟨ag2.trans a, e, fe4, E, P23.trans p, g⟩
      · exact fun e σ4 H4 fe4 g E p a => KO.nx e σ4 H4 fe4 g E (P23.trans p) (ag2.trans a)
      · exact fun e σ4 H4 fe4 g E p a => ⟨ag2.trans a, e, fe4, E, P23.trans p, g⟩
      · exact fun w e v σ4 H4 fe4 fw g E r p a => KO.rt w e v σ4 H4 fe4 fw g E r (P23.trans p) (ag2.trans a)
    | false =>
      rw [if_neg Bool.false_ne_true] at g3
      exact KO.nx _ _ _ _ g3 E3 (P2.trans P3) ag2
end
end Mn

set_option linter.all false
set_option Elab.async false
set_option maxRecDepth 100000
set_option maxHeartbeats 2000000
/-! Mn: writes into what a slot owns. -/
namespace Mn
open PySem PySem.Spec PyProof.Rows L2

theorem g_ag {X : Cx} {tg : Expr} {it : Tg} {R : List Nat} (h : PG X tg (tG it)) (hR : ∀ i ∈ it.slots, i ∉ R) : PG X tg (fun v σ H Q => tG it v σ H fun σ' H' => Ag R σ σ' → Q σ' H') := by
  refine pg_imp h fun v σ H Q ⟨env, fp, d, Qe, E, r, g, k⟩ => ⟨env, fp, d, Qe, E, r, g, fun σ' env' fp' q E' s w => k σ' env' fp' q E' s w fun i hi => ?_⟩
  have e := w it.slots fun _ h => h
  have hn : i ∉ it.slots := fun z => hR i z hi
  have a1 := wipe_get σ' it.slots i
  have a2 := wipe_get σ it.slots i
  rw [if_neg hn] at a1 a2
  rw [← a1, ← a2, e]
/-- the list of slot i, changed, with things that stood beside -/
theorem EOk.olW {H : Hp} {σ : Sg} {env : Env} {fp fw : List Addr} (E : EOk H σ env fp) (nd : (fp ++ fw).Nodup) {i : Nat} {ws : List W} (h : slot env i = some (.ol ws)) : ∃ l vs f, σ[i]? = some (some (.ref l)) ∧ H l = some (.lst vs) ∧ RpWs H vs ws f ∧
    (∀ a, a ∈ f ++ fw → a ≠ l) ∧ ∀ {vs' : List V} {ws' : List W} {f' : List Addr}, (∀ H', FT H H' → (∀ a ∈ f ++ fw, H' a = H a) → RpWs H' vs' ws' f') → (∀ a, f'.count a ≤ (f ++ fw).count a) → ∃ fe, EOk (upd H l (.lst vs')) σ (env.set i (some (.ol ws'))) fe ∧ ∀ {H0 : Hp} {fp0 : List Addr}, Post H0 fp0 H (fp ++ fw) → Post H0 fp0 (upd H l (.lst vs')) fe := by
  obtain ⟨l, vs, f, pre, post, h1, h2, h3, h4, h5, h6⟩ := E.ol h (List.nodup_append.mp nd).1
  subst h5
  have ow : Ow (H l) := by rw [h2]; trivial
  have lm : l ∈ pre ++ (l :: f) ++ post ++ fw := by simp
  have c := List.nodup_iff_count.mp nd l
  simp only [List.count_append, List.count_cons, beq_self_eq_true, if_true] at c
  have ne : ∀ a, a ∈ pre ∨ a ∈ f ∨ a ∈ post ∨ a ∈ fw → a ≠ l := by
    rintro a (z | z | z | z) rfl
    all_goals have := List.count_pos_iff.mpr z; omega
  refine ⟨l, vs, f, h1, h2, h3, fun a ha => ne a ((List.mem_append.mp ha).elim (fun z => .inr (.inl z)) fun z => .inr (.inr (.inr z))), fun {vs' ws' f'} hr hc => ?_⟩
  obtain ⟨ft, ot⟩ := Post.same (o := .lst vs') nd lm ow
  have r := hr (upd H l (.lst vs')) ft fun a ha => ot a (ne a ((List.mem_append.mp ha).elim (fun z => .inr (.inl z)) fun z => .inr (.inr (.inr z))))
  refine ⟨pre ++ (l :: f') ++ post, h6 (.ol ws') (l :: f') ft (fun a ha => ot a (ne a ((List.mem_append.mp ha).elim .inl fun z => .inr (.inr (.inl z))))) (.ol h4 upd_same r), fun {H0 fp0} P => ?_⟩
  refine (P.trans (Post.put P.nd lm ow)).sm (Sm.of_count fun a => ?_)
  have q := hc a
  simp only [List.count_append, List.count_cons] at q ⊢
  omega
section
variable {X : Cx} {C : Ctx} {R : List Nat} {e a b : Expr} {ie ia ib : IE} {pos p : Pos} {x : Str} {i : Nat}
theorem few1 {cpos : Pos} {env : PySem.Env} (hs : starless e = true) : ((backTo cpos (starEach [e] env)).all (fun x => !x.1) && (backToKw cpos (keywordEach [] env)).all (fun x => x.1.isSome) && decide (([e] : List Expr).length + ([] : List Keyword).length + (if ([] : List Keyword).isEmpty then 0 else 1) < 30)) = true := by
  rw [star_cons hs]; rfl
/-- x.append(e) -/
theorem s_app {apos cpos : Pos} (hN : X.N[i]? = some x) (hv : Vis X.env.scope x) (hd : (x == ("__debug__" : Str)) = false) (hcd : (x == ("__classdict__" : Str)) = false) (hline : (apos.endLine == cpos.line) = true) (ha : PE X e (tW (evE C ie))) (hs : starless e = true) :
    PS X (.Expr (.Call (.Attribute (.Name x p) "append" apos) [e] [] cpos) pos) (tSt R (evS C (.app i ie))) := by
  refine ps_imp (ps_expr (pe_bm F.plainAttrs_list F.slot_list_append F.type_list_append mt_append (pe_var hN hv hd hcd) (pa_one (pe_mv ha) hs) rfl (few1 hs) hline (star_cons hs) rfl) rfl) fun D σ H ⟨env, fp, k, E, nd, g, KO⟩ => ?_
  simp only [evS] at g
  obtain ⟨h0, g⟩ := g
  obtain ⟨ws0, hs0⟩ := isOl_of h0
  obtain ⟨l, vs0, f0, pre, post, g1, g2, _⟩ := E.ol hs0 nd
  refine ⟨.ref l, g1, .inl ⟨rfl, vs0, .inl (.inl g2)⟩, env, fp, _, E, nd, g, fun w e1 v H1 fe fw q E1 r P => ?_⟩
  split at q
  · next ws hs1 =>
    obtain ⟨hz, q⟩ := q
    obtain ⟨l', vs, f, h1, h2, h3, h4, h5⟩ := E1.olW P.nd hs1
    rw [g1] at h1
    cases h1
    obtain ⟨fe', E2, P2⟩ := h5 (vs' := vs ++ [v]) (ws' := ws ++ [w]) (f' := f ++ fw) (fun H' ft k => RpWs.snoc (r.mono ft fun a ha => k a (List.mem_append_right _ ha)) (h3.mono ft fun a ha => k a (List.mem_append_left _ ha))) fun a => Nat.le_refl _
    refine ⟨l, vs, v, rfl, rfl, h2, by rw [h3.length]; exact Nat.lt_of_lt_of_le hz lim_line, ?_⟩
    exact KO.nx _ σ _ fe' q E2 (P2 P) (Ag.refl σ)
  · exact q.elim
theorem RpWs.app {H : Hp} : ∀ {vs us : List V} {ws zs : List W} {f g : List Addr}, RpWs H vs ws f → RpWs H us zs g → RpWs H (vs ++ us) (ws ++ zs) (f ++ g)
  | _, _, _, _, _, _, .nil, b => b
  | _, _, _, _, _, _, .cons a t, b => by
    rw [List.append_assoc]
    exact .cons a (RpWs.app t b)
/-- x.extend(a new list) -/
theorem s_ext {apos cpos : Pos} (hN : X.N[i]? = some x) (hv : Vis X.env.scope x) (hd : (x == ("__debug__" : Str)) = false) (hcd : (x == ("__classdict__" : Str)) = false) (hline : (apos.endLine == cpos.line) = true) (ha : PE X e (tW (evE C ie))) (hs : starless e = true) :
    PS X (.Expr (.Call (.Attribute (.Name x p) "extend" apos) [e] [] cpos) pos) (tSt R (evS C (.ext i ie))) := by
  refine ps_imp (ps_expr (pe_bm F.plainAttrs_list F.slot_list_extend F.type_list_extend mt_extend (pe_var hN hv hd hcd) (pa_one ha hs) rfl (few1 hs) hline (star_cons hs) rfl) rfl) fun D σ H ⟨env, fp, k, E, nd, g, KO⟩ => ?_
  simp only [evS] at g
  obtain ⟨h0, g⟩ := g
  obtain ⟨ws0, hs0⟩ := isOl_of h0
  obtain ⟨l, vs0, f0, pre, post, g1, g2, _⟩ := E.ol hs0 nd
  refine ⟨.ref l, g1, .inl ⟨rfl, vs0, .inl (.inl g2)⟩, env, fp, _, E, nd, g, fun w e1 v H1 fe fw q E1 r P => ?_⟩
  cases w with
  | ol zs =>
    have r : RpW H1 v (.ol zs) fw := r
    cases r with
    | @ol b us _ fz nb hb rz =>
      dsimp only at q
      split at q
      · next ws hs1 =>
        obtain ⟨hz, q⟩ := q
        obtain ⟨l', vs, f, h1, h2, h3, h4, h5⟩ := E1.olW P.nd hs1
        rw [g1] at h1
        cases h1
        obtain ⟨fe', E2, P2⟩ := h5 (vs' := vs ++ us) (ws' := ws ++ zs) (f' := f ++ fz) (fun H' ft k => RpWs.app (h3.mono ft fun a ha => k a (List.mem_append_left _ ha)) (rz.mono ft fun a ha => k a (List.mem_append_right _ (List.mem_cons_of_mem _ ha)))) fun a => by simp only [List.count_append, List.count_cons]; omega
        refine ⟨l, b, vs, us, rfl, rfl, h2, hb, by rw [h3.length, rz.length]; exact Nat.le_trans hz lim_line, ?_⟩
        exact KO.nx _ σ _ fe' q E2 (P2 P) (Ag.refl σ)
      · exact q.elim
  | _ => exact q.elim
/-- x[k] = e -/
theorem s_sub {k : Expr} {ik : IE} {p1 : Pos} (hN : X.N[i]? = some x) (hv : Vis X.env.scope x) (hd : (x == ("__debug__" : Str)) = false) (hcd : (x == ("__classdict__" : Str)) = false) (he : PE X e (tW (evE C ie))) (hk : PE X k (tW (evE C ik))) (hn : noComp e = true)
    (hset : ∀ v, assign (.Subscript (.Name x p) k p1) X.env v = (do
      let ov ← holding [v] (eval (.Name x p) X.env)
      let iv ← holding [v, ov] (eval k X.env)
      standAt p1
      holding [v, ov, iv] (setItem ov iv v)
      release [v, ov, iv] [])) : PS X (.Assign [.Subscript (.Name x p) k p1] e pos) (tSt R (evS C (.sub i ik ie))) := by
  have sw : swapsWithSole [.Subscript (.Name x p) k p1] e pos.line X.env = pure false := by unfold swapsWithSole; exact swaps_no hn
  have ss : swappedStores [.Subscript (.Name x p) k p1] e X.env = pure none := by cases e <;> rfl
  refine ps_imp (ps_asg (pe_mv he) (pg_sub (pe_var hN hv hd hcd) hk set_list hset) sw ss rfl) fun D σ H ⟨env, fp, k, E, nd, g, KO⟩ => ?_
  simp only [evS] at g
  obtain ⟨h0, g⟩ := g
  obtain ⟨ws0, hs0⟩ := isOl_of h0
  obtain ⟨l, vs0, f0, pre, post, g1, g2, _⟩ := E.ol hs0 nd
  refine ⟨env, fp, _, E, nd, g, fun w e1 v H1 fe fw q E1 r P => ⟨.ref l, g1, e1, fe, _, E1, P.envOf.nd, q, fun z e2 u H2 fe2 fw2 q E2 r2 P2 => ?_⟩⟩
  obtain ⟨c, rfl, rfl, q⟩ := asI_of q r2
  have kp := P2.envOf.keep P.nd fun a ha => (r.ow a ha).ne
  have r' := r.mono P2.ft kp
  have P12 : Post H fp H2 (fe2 ++ fw) := P.trans (P2.envOf.frame P.nd fun a ha => (r.ow a ha).ne)
  split at q
  · next ws hs1 =>
    split at q
    · next j hj =>
      obtain ⟨l', vs, f, h1, h2, h3, h4, h5⟩ := E2.olW P12.nd hs1
      rw [g1] at h1
      cases h1
      obtain ⟨p1, p2, p3, p4⟩ := place_seq hj
      obtain ⟨v0, f1, pr, po, e1', e2', e3', e4'⟩ := h3.at_ (List.getElem?_eq_getElem p2)
      obtain ⟨fe', E3, P3⟩ := h5 (vs' := vs.set j v) (ws' := ws.set j w) (f' := pr ++ fw ++ po) (fun H' ft k => e4' v w fw ft (fun a ha => k a (by
        rw [e1']
        rcases List.mem_append.mp ha with z | z <;> simp [z])) (r'.mono ft fun a ha => k a (List.mem_append_right _ ha))) (fun a => by
          rw [e1']
          simp only [List.count_append]
          omega)
      exact ⟨l, vs, c, j, rfl, rfl, h2, by rw [h3.length]; exact hj, KO.nx _ σ _ fe' q E3 (P3 P12) (Ag.refl σ)⟩
    · exact q.elim
  · exact q.elim
theorem get_list : PGet X (rIxL X.K) := by
  intro pins s σ H x y v u Q I rx ry h
  obtain ⟨p, xs, i, z, rfl, rfl, hq, he, q⟩ := h
  cases rx
  obtain ⟨t, rfl⟩ := ry
  obtain ⟨its, r, pl, hz⟩ := I.list hq
  obtain ⟨j, h1, h2, h3, h4, h5⟩ := atI_get he
  obtain ⟨w, ew, rw'⟩ := r.get h2
  have hl := r.length
  have hn := line63
  have fin : EP X pins σ Q w s := ⟨z, H, I, rw', q⟩
  by_cases h0 : 0 ≤ i
  · have hj : i.toNat = j := by
      rw [seqIndex_of h0 h5] at h1
      exact Option.some.inj h1
    exact wpAny_getItem_list pl.isList h0 (by omega) (by rw [hj]; simpa using ew) fin
  · have hj : (i + (its.toArray.size : Int)).toNat = j := by
      rw [seqIndex_neg (by omega) h4] at h1
      rw [List.size_toArray, ← hl]
      exact Option.some.inj h1
    exact wpAny_getItem_list_neg pl.isList (by omega) (by rw [List.size_toArray] <;> omega) (by omega) (by rw [hj]; simpa using ew) fin
/-- x[k] += e -/
theorem s_augs {k : Expr} {ik : IE} {p1 : Pos} (hN : X.N[i]? = some x) (hv : Vis X.env.scope x) (hd : (x == ("__debug__" : Str)) = false) (hcd : (x == ("__classdict__" : Str)) = false) (hk : PE X k (tW (evE C ik))) (he : PE X e (tW (evE C ie)))
    (ha : ∀ ov iv new, augStore k ov iv new = (do holding [new, ov, iv] (setItem ov iv new); release [new, ov, iv] []; pure .next)) : PS X (.AugAssign (.Subscript (.Name x p) k p1) .Add e pos) (tSt R (evS C (.augs i ik ie))) := by
  refine ps_imp (ps_augS (pe_var hN hv hd hcd) hk get_list he ip_add set_list ha) fun D σ H ⟨env, fp, kk, E, nd, g, KO⟩ => ?_
  simp only [evS] at g
  obtain ⟨h0, g⟩ := g
  obtain ⟨ws0, hs0⟩ := isOl_of h0
  obtain ⟨l, vs0, f0, pre, post, g1, g2, _⟩ := E.ol hs0 nd
  refine ⟨.ref l, g1, env, fp, _, E, nd, g, fun w e1 v H1 fe fw q E1 r P => ?_⟩
  obtain ⟨c, rfl, rfl, q⟩ := asI_of q r
  obtain ⟨hc0, q⟩ := q
  split at q
  · next ws hs1 =>
    obtain ⟨hz, q⟩ := q
    split at q
    · next a hj =>
      obtain ⟨l1, vs1, f1, pre1, post1, k1, k2, k3, _⟩ := E1.ol hs1 P.envOf.nd
      rw [g1] at k1
      cases k1
      obtain ⟨v0, f, pr, po, e1', e2', e3', _⟩ := k3.at_ hj
      have e3 : v0 = .int a := by
        cases e3' with
        | d rr => cases rr; rfl
      subst e3
      have at1 : atI vs1 c = some (.int a) := by
        obtain ⟨m, rfl⟩ : ∃ m : Nat, c = (m : Int) := ⟨c.toNat, by omega⟩
        exact atI_nat (by simpa using e2')
      refine ⟨l, vs1, c, .int a, rfl, rfl, .inl (.inl k2), at1, e1, fe, _, E1, P.envOf.nd, q, fun y e2 u H2 fe2 fw2 q E2 r2 P2 => ?_⟩
      obtain ⟨b, rfl, rfl, q⟩ := asI_of q r2
      have P12 : Post H fp H2 fe2 := P.envOf.trans P2.envOf
      split at q
      · next us hs2 =>
        split at q
        · next j hj2 =>
          obtain ⟨l', vs, f2, h1, h2, h3, h4, h5⟩ := E2.olW (fw := []) (by rw [List.append_nil]; exact P12.nd) hs2
          rw [g1] at h1
          cases h1
          obtain ⟨p1, p2, p3, p4⟩ := place_seq hj2
          obtain ⟨v2, f3, pr2, po2, z1, z2, z3, z4⟩ := h3.at_ (List.getElem?_eq_getElem p2)
          obtain ⟨fe', E3, P3⟩ := h5 (vs' := vs.set j (.int (a + b))) (ws' := us.set j (.d (.int (a + b)))) (f' := pr2 ++ [] ++ po2) (fun H' ft k => z4 (.int (a + b)) (.d (.int (a + b))) [] ft (fun a ha => k a (by
            rw [z1]
            rcases List.mem_append.mp ha with z | z <;> simp [z])) (.d (.int _))) (fun a => by
              rw [z1]
              simp only [List.count_append, List.count_nil]
              omega)
          exact ⟨a, b, rfl, rfl, l, vs, c, j, rfl, rfl, h2, by rw [h3.length]; exact hj2, KO.nx _ σ _ fe' q E3 (P3 (by rw [List.append_nil]; exact P12)) (Ag.refl σ)⟩
        · exact q.elim
      · exact q.elim
    · exact q.elim
  · exact q.elim
/-- x[k][j] = e -/
theorem s_sub2 {k j : Expr} {ik ij : IE} {p1 p2 : Pos} (hN : X.N[i]? = some x) (hv : Vis X.env.scope x) (hd : (x == ("__debug__" : Str)) = false) (hcd : (x == ("__classdict__" : Str)) = false) (he : PE X e (tW (evE C ie))) (hk : PE X k (tP ik)) (hj : PE X j (tP ij)) (sk : PlainIx k) (hn : noComp e = true)
    (hset : ∀ v, assign (.Subscript (.Subscript (.Name x p) k p1) j p2) X.env v = (do
      let ov ← holding [v] (eval (.Subscript (.Name x p) k p1) X.env)
      let iv ← holding [v, ov] (eval j X.env)
      standAt p2
      holding [v, ov, iv] (setItem ov iv v)
      release [v, ov, iv] [])) : PS X (.Assign [.Subscript (.Subscript (.Name x p) k p1) j p2] e pos) (tSt R (evS C (.sub2 i ik ij ie))) := by
  have sw : swapsWithSole [.Subscript (.Subscript (.Name x p) k p1) j p2] e pos.line X.env = pure false := by unfold swapsWithSole; exact swaps_no hn
  have ss : swappedStores [.Subscript (.Subscript (.Name x p) k p1) j p2] e X.env = pure none := by cases e <;> rfl
  refine ps_imp (ps_asg (pe_mv he) (pg_sub (pe_ix ix_list (pe_var hN hv hd hcd) hk sk) hj set_list hset) sw ss rfl) fun D σ H ⟨env, fp, kk, E, nd, g, KO⟩ => ?_
  simp only [evS] at g
  obtain ⟨h0, g⟩ := g
  refine ⟨env, fp, _, E, nd, g, fun w e1 v H1 fe fw q E1 r P => ?_⟩
  split at q
  · next ws a b hs ha hb =>
    split at q
    · next m hm =>
      split at q
      · next us hu =>
        split at q
        · next n hn' =>
          obtain ⟨l, vs, f, pre, post, h1, h2, h3, h4, h5, h6⟩ := E1.ol hs P.envOf.nd
          obtain ⟨p1, p2, p3, p4⟩ := place_seq hm
          obtain ⟨q1, q2, q3, q4⟩ := place_seq hn'
          obtain ⟨y, g0, pr, po, e1', e2', e3', e4'⟩ := h3.at_ hu
          cases e3' with
          | @ol b2 us2 _ fb nb hb2 rb =>
            refine ⟨.ref l, h1, e1, fe, _, E1, ha, fun u1 H2 ru1 s1 => ?_⟩
            cases ru1
            refine ⟨l, vs, a, .ref b2, rfl, rfl, .inl (.inl (s1.ext _ _ h2)), ?_, e1, fe, _, E1.grow s1, hb, fun u2 H3 ru2 s2 => ?_⟩
            · unfold atI
              rw [h3.length, show ixN = place from rfl, hm]
              exact e2'
            cases ru2
            have s12 := s1.trans s2
            have E3 := E1.grow s12
            have P3 : Post H fp H3 (fe ++ fw) := P.snoc s12 fun a ha => (List.mem_append.mp ha).elim (E1.ow a) (r.ow a)
            have kp : ∀ {c : Addr}, H1 c ≠ none → H3 c = H1 c := fun {c} hc => by
              cases z : H1 c with
              | none => exact absurd z hc
              | some o => exact s12.ext _ _ z
            have hb3 : H3 b2 = some (.lst us2) := s12.ext _ _ hb2
            have hl3 : H3 l = some (.lst vs) := s12.ext _ _ h2
            have h3' : RpWs H3 vs ws f := h3.mono s12.ft fun a ha => kp (h3.ow a ha).ne
            have rb3 : RpWs H3 us2 us fb := rb.mono s12.ft fun a ha => kp (rb.ow a ha).ne
            have r3 : RpW H3 v w fw := r.mono s12.ft fun a ha => kp (r.ow a ha).ne
            have bm : b2 ∈ fe ++ fw := by rw [h5, e1']; simp
            have ow : Ow (H3 b2) := by rw [hb3]; trivial
            obtain ⟨v0, f1, pr2, po2, k1, k2, k3, k4⟩ := rb3.at_ (List.getElem?_eq_getElem q2)
            obtain ⟨ft, ot⟩ := Post.same (o := .lst (us2.set n v)) P3.nd bm ow
            have nd2 := P3.nd
            rw [h5, e1', k1] at nd2
            have cb := List.nodup_iff_count.mp nd2 b2
            simp only [List.count_append, List.count_cons, List.cons_append, beq_self_eq_true, if_true] at cb
            have nb_ : ∀ a, a ∈ pre ∨ a = l ∨ a ∈ pr ∨ a ∈ pr2 ∨ a ∈ f1 ∨ a ∈ po2 ∨ a ∈ po ∨ a ∈ post ∨ a ∈ fw → a ≠ b2 := by
              rintro a (z | z | z | z | z | z | z | z | z) rfl
              · have := List.count_pos_iff.mpr z; omega
              · subst z; simp only [beq_self_eq_true, if_true] at cb; omega
              all_goals have := List.count_pos_iff.mpr z; omega
            -- the inner list
            have in1 := k4 v w fw ft (fun a ha => ot a (nb_ a ((List.mem_append.mp ha).elim (fun z => .inr (.inr (.inr (.inl z)))) fun z => .inr (.inr (.inr (.inr (.inr (.inl z))))))))
              (r3.mono ft fun a ha => ot a (nb_ a (.inr (.inr (.inr (.inr (.inr (.inr (.inr (.inr ha))))))))))
            have in2 := e4' (.ref b2) (.ol (us.set n w)) (b2 :: (pr2 ++ fw ++ po2)) (s12.ft.trans ft) (fun a ha => (ot a (nb_ a ((List.mem_append.mp ha).elim (fun z => .inr (.inr (.inl z))) fun z => .inr (.inr (.inr (.inr (.inr (.inr (.inl z))))))))).trans (kp (h3.ow a (by
              rw [e1']
              rcases List.mem_append.mp ha with z | z <;> simp [z])).ne)) (.ol nb upd_same in1)
            rw [set_id e2'] at in2
            have ef : ∀ a ∈ pre ++ post, a ∈ fe := fun a ha => by
              rw [h5]
              rcases List.mem_append.mp ha with z | z <;> simp [z]
            have in3 := h6 (.ol (ws.set m (.ol (us.set n w)))) (l :: (pr ++ (b2 :: (pr2 ++ fw ++ po2)) ++ po)) (s12.ft.trans ft) (fun a ha => (ot a (nb_ a ((List.mem_append.mp ha).elim .inl fun z => .inr (.inr (.inr (.inr (.inr (.inr (.inr (.inl z))))))))))
              |>.trans (kp (E1.ow a (ef a ha)).ne)) (.ol h4 ((ot l (nb_ l (.inr (.inl rfl)))).trans hl3) in2)
            refine ⟨b2, us2, b, n, rfl, rfl, hb3, by rw [rb.length]; exact hn', KO.nx _ σ _ _ q in3 ((P3.trans (Post.put P3.nd bm ow)).sm (Sm.of_count fun a => ?_)) (Ag.refl σ)⟩
            rw [h5, e1', k1]
            simp only [List.count_append, List.count_cons]
            omega
        · exact q.elim
      · exact q.elim
    · exact q.elim
  · exact q.elim
/-- x["k"] = e -/
theorem s_subK {k : Str} {j : Nat} {p1 p2 : Pos} (hu : X.A.units + 1 < cLine) (hN : X.N[i]? = some x) (hv : Vis X.env.scope x) (hd : (x == ("__debug__" : Str)) = false) (hcd : (x == ("__classdict__" : Str)) = false) (he : PE X e (tW (evE C ie))) (hn : noComp e = true) :
    PS X (.Assign [.Subscript (.Name x p) (.Constant (.str k) j p2) p1] e pos) (tSt R (evS C (.subK i k ie))) := by
  refine ps_imp (ps_dput hu (pe_var hN hv hd hcd) pe_str (pe_mv he) (swaps_no hn)) fun D σ H ⟨env, fp, kk, E, nd, g, KO⟩ => ?_
  refine ⟨env, fp, _, E, nd, g, fun w e1 v H1 fe fw q E1 r P => ?_⟩
  split at q
  · next ks ws hs =>
    obtain ⟨hl, hz, q⟩ := q
    obtain ⟨w0, hl⟩ := Option.isSome_iff_exists.mp hl
    obtain ⟨l, kvs, f, pre, post, h1, h2, h3, h4, h5, h6, h7, h8⟩ := E1.od hs
    subst h5
    obtain ⟨m, v0, g1, g2, g3, g4, g5, g6⟩ := key_at h3 h6 hl
    obtain ⟨v', f', pr, po, e1', e2', e3', e4'⟩ := h3.at_ g1
    rw [List.length_map] at hz
    have lm : l ∈ fe ++ fw := by rw [h7]; simp
    have ow : Ow (H1 l) := by rw [h2]; trivial
    obtain ⟨ft, ot⟩ := Post.same (o := .dK (L2.putK kvs (.inr k) v)) P.nd lm ow
    have nd2 := P.nd
    rw [h7, e1'] at nd2
    have cb := List.nodup_iff_count.mp nd2 l
    simp only [List.count_append, List.count_cons, List.cons_append, beq_self_eq_true, if_true] at cb
    have nb_ : ∀ a, a ∈ pre ∨ a ∈ pr ∨ a ∈ po ∨ a ∈ post ∨ a ∈ fw → a ≠ l := by
      rintro a (z | z | z | z | z) rfl
      all_goals have := List.count_pos_iff.mpr z; omega
    have in1 := e4' v w fw ft (fun a ha => ot a (nb_ a ((List.mem_append.mp ha).elim (fun z => .inr (.inl z)) fun z => .inr (.inr (.inl z))))) (r.mono ft fun a ha => ot a (nb_ a (.inr (.inr (.inr (.inr ha))))))
    have in2 := h8 (.od (kvs.map fun kv => keyPD kv.1) (Mn.putK k w (kvs.map fun kv => keyPD kv.1) ws)) (l :: (pr ++ fw ++ po)) ft (fun a ha => ot a (nb_ a ((List.mem_append.mp ha).elim .inl fun z => .inr (.inr (.inr (.inl z))))))
      (.od h4 upd_same (by rw [g5, g4]; exact in1) (by
        have := g6 v
        have e : ∀ l : List (Key × V), (l.map fun kv => keyPD kv.1) = (l.map (·.1)).map keyPD := fun l => by rw [List.map_map]; rfl
        rw [e, e, this]) (by rw [g6]; exact h6))
    refine ⟨.ref l, h1, l, _, rfl, DPut.k (k := .inr k) h2 (by rw [sizeLine_eq]; omega), KO.nx _ σ _ _ q in2 ((P.trans (Post.put P.nd lm ow)).sm (Sm.of_count fun a => ?_)) (Ag.refl σ)⟩
    rw [h7, e1']
    simp only [List.count_append, List.count_cons]
    omega
  · exact q.elim
/-- x["k"].append(e) -/
theorem s_appK {k : Str} {j : Nat} {p1 p2 apos cpos : Pos} (hu : X.A.units + 1 < cLine) (hN : X.N[i]? = some x) (hv : Vis X.env.scope x) (hd : (x == ("__debug__" : Str)) = false) (hcd : (x == ("__classdict__" : Str)) = false) (hline : (apos.endLine == cpos.line) = true) (he : PE X e (tP ie)) (hs : starless e = true) :
    PS X (.Expr (.Call (.Attribute (.Subscript (.Name x p) (.Constant (.str k) j p2) p1) "append" apos) [e] [] cpos) pos) (tSt R (evS C (.appK i k ie))) := by
  refine ps_imp (ps_expr (pe_bm F.plainAttrs_list F.slot_list_append F.type_list_append mt_append (pe_dget hu (pe_var hN hv hd hcd) pe_str nosl_str) (pa_one he hs) rfl (few1 hs) hline (star_cons hs) rfl) rfl) fun D σ H ⟨env, fp, kk, E, nd, g, KO⟩ => ?_
  simp only [evS] at g
  split at g
  · next ks ws y hs1 hy =>
    split at g
    · next us hl =>
      obtain ⟨hz, g⟩ := g
      obtain ⟨l, b, vs, f, kvs, h1, h2, h3, h4, h6, _⟩ := E.keyW nd hs1 hl
      refine ⟨.ref l, h1, l, .ref b, rfl, h2, .inl ⟨rfl, vs, .inl (.inl h3)⟩, env, fp, _, E, hy, fun v H1 rv s1 => ?_⟩
      have E1 := E.grow s1
      have P1 : Post H fp H1 fp := (Post.refl nd).snoc s1 E.ow
      obtain ⟨l', b', vs', f', kvs', h1', h2', h3', h4', h6', h5'⟩ := E1.keyW nd hs1 hl
      rw [h1] at h1'
      cases h1'
      have hb : b' = b := by
        have q1 := s1.ext _ _ h6.1
        rw [h6'.1] at q1
        cases q1
        have q2 := h6'.2
        rw [h6.2] at q2
        cases q2
        rfl
      subst hb
      have e3 : H1 b' = some (.lst vs) := s1.ext _ _ h3
      rw [e3] at h3'
      cases h3'
      have sn := RpWs.snoc (RpW.d rv) h4'
      rw [List.append_nil] at sn
      obtain ⟨E2, P2⟩ := h5' sn
      refine ⟨b', vs, v, rfl, rfl, e3, by rw [h4.length]; exact Nat.lt_of_lt_of_le hz lim_line, ?_⟩
      exact KO.nx _ σ _ fp g E2 (P1.trans P2) (Ag.refl σ)
    · exact g.elim
  · exact g.elim
end
section
variable {X : Cx} {x : Str} {i : Nat} {p : Pos}
/-- x[k] = a plain value, as a target -/
def gS1 (i : Nat) (ik : IE) : TG := fun v σ H Q => ∃ (env : Env) (fp : List Addr) (d : PD) (us : List W) (a : Int) (m : Nat), EOk H σ env fp ∧ fp.Nodup ∧ Rp H v d ∧ slot env i = some (.ol us) ∧ evP ik env = some (.int a) ∧ place us.length a = some m ∧
  ∀ H' fp', EOk H' σ (env.set i (some (.ol (us.set m (.d d))))) fp' → Post H fp H' fp' → Q σ H'
theorem pg_s1 {k : Expr} {ik : IE} {p1 : Pos} (hN : X.N[i]? = some x) (hv : Vis X.env.scope x) (hd : (x == ("__debug__" : Str)) = false) (hcd : (x == ("__classdict__" : Str)) = false) (hk : PE X k (tP ik))
    (hset : ∀ v, assign (.Subscript (.Name x p) k p1) X.env v = (do
      let ov ← holding [v] (eval (.Name x p) X.env)
      let iv ← holding [v, ov] (eval k X.env)
      standAt p1
      holding [v, ov, iv] (setItem ov iv v)
      release [v, ov, iv] [])) : PG X (.Subscript (.Name x p) k p1) (gS1 i ik) := by
  have q := pg_sub (pe_var hN hv hd hcd) hk set_list hset
  refine ⟨fun pins s σ H v u Q I r h => q.run pins s σ H v u Q I r ?_⟩
  obtain ⟨env, fp, d, us, a, m, E, nd, rv, hs, ha, hm, hQ⟩ := h
  obtain ⟨l, vs, f0, pre, post, g1, g2, g3, g4, g5, g6⟩ := E.ol hs nd
  refine ⟨.ref l, g1, env, fp, _, E, ha, fun w H2 rw_ s1 => ?_⟩
  cases rw_
  have E2 := E.grow s1
  obtain ⟨l', vs', f, h1, h2, h3, h4, h5⟩ := E2.olW (fw := []) (by rw [List.append_nil]; exact nd) hs
  rw [g1] at h1
  cases h1
  obtain ⟨p1, p2, p3, p4⟩ := place_seq hm
  obtain ⟨v0, f1, pr, po, e1', e2', e3', e4'⟩ := h3.at_ (List.getElem?_eq_getElem p2)
  obtain ⟨fe', E3, P3⟩ := h5 (vs' := vs'.set m v) (ws' := us.set m (.d d)) (f' := pr ++ [] ++ po) (fun H' ft k => e4' v (.d d) [] ft (fun a ha => k a (by
    rw [e1']
    rcases List.mem_append.mp ha with z | z <;> simp [z])) ((RpW.d rv).mono (s1.ft.trans ft) fun a ha => absurd ha (by simp))) (fun a => by
      rw [e1']
      simp only [List.count_append, List.count_nil]
      omega)
  have P1 : Post H fp H2 fp := (Post.refl nd).snoc s1 E.ow
  exact ⟨l, vs', a, m, rfl, rfl, h2, by rw [h3.length]; exact hm, hQ _ fe' E3 (P3 (by rw [List.append_nil]; exact P1))⟩
/-- x[k][j] = a plain value, as a target -/
def gS2 (i : Nat) (ik ij : IE) : TG := fun v σ H Q => ∃ (env : Env) (fp : List Addr) (d : PD) (ws us : List W) (a b : Int) (m n : Nat), EOk H σ env fp ∧ fp.Nodup ∧ Rp H v d ∧ slot env i = some (.ol ws) ∧ evP ik env = some (.int a) ∧ evP ij env = some (.int b) ∧ place ws.length a = some m ∧ ws[m]? = some (.ol us) ∧ place us.length b = some n ∧
  ∀ H' fp', EOk H' σ (env.set i (some (.ol (ws.set m (.ol (us.set n (.d d))))))) fp' → Post H fp H' fp' → Q σ H'
theorem pg_s2 {k j : Expr} {ik ij : IE} {p1 p2 : Pos} (hN : X.N[i]? = some x) (hv : Vis X.env.scope x) (hd : (x == ("__debug__" : Str)) = false) (hcd : (x == ("__classdict__" : Str)) = false) (hk : PE X k (tP ik)) (hj : PE X j (tP ij)) (sk : PlainIx k)
    (hset : ∀ v, assign (.Subscript (.Subscript (.Name x p) k p1) j p2) X.env v = (do
      let ov ← holding [v] (eval (.Subscript (.Name x p) k p1) X.env)
      let iv ← holding [v, ov] (eval j X.env)
      standAt p2
      holding [v, ov, iv] (setItem ov iv v)
      release [v, ov, iv] [])) : PG X (.Subscript (.Subscript (.Name x p) k p1) j p2) (gS2 i ik ij) := by
  have q := pg_sub (pe_ix ix_list (pe_var hN hv hd hcd) hk sk) hj set_list hset
  refine ⟨fun pins s σ H v u Q I r0 h => q.run pins s σ H v u Q I r0 ?_⟩
  obtain ⟨e1, fe, d, ws, us, a, b, m, n, E1, ndE, rv, hs, ha, hb, hm, hu, hn', hQ⟩ := h
  have r : RpW H v (.d d) [] := .d rv
  have P : Post H fe H (fe ++ []) := by rw [List.append_nil]; exact Post.refl ndE
  obtain ⟨l, vs, f, pre, post, h1, h2, h3, h4, h5, h6⟩ := E1.ol hs P.envOf.nd
  obtain ⟨p1, p2, p3, p4⟩ := place_seq hm
  obtain ⟨q1, q2, q3, q4⟩ := place_seq hn'
  obtain ⟨y, g0, pr, po, e1', e2', e3', e4'⟩ := h3.at_ hu
  cases e3' with
  | @ol b2 us2 _ fb nb hb2 rb =>
    refine ⟨.ref l, h1, e1, fe, _, E1, ha, fun u1 H2 ru1 s1 => ?_⟩
    cases ru1
    refine ⟨l, vs, a, .ref b2, rfl, rfl, .inl (.inl (s1.ext _ _ h2)), ?_, e1, fe, _, E1.grow s1, hb, fun u2 H3 ru2 s2 => ?_⟩
    · unfold atI
      rw [h3.length, show ixN = place from rfl, hm]
      exact e2'
    cases ru2
    have s12 := s1.trans s2
    have P3 : Post H fe H3 (fe ++ []) := P.snoc s12 fun a ha => (List.mem_append.mp ha).elim (E1.ow a) (r.ow a)
    have kp : ∀ {c : Addr}, H c ≠ none → H3 c = H c := fun {c} hc => by
      cases z : H c with
      | none => exact absurd z hc
      | some o => exact s12.ext _ _ z
    have hb3 : H3 b2 = some (.lst us2) := s12.ext _ _ hb2
    have hl3 : H3 l = some (.lst vs) := s12.ext _ _ h2
    have rb3 : RpWs H3 us2 us fb := rb.mono s12.ft fun a ha => kp (rb.ow a ha).ne
    have r3 : RpW H3 v (.d d) [] := r.mono s12.ft fun a ha => kp (r.ow a ha).ne
    have bm : b2 ∈ fe ++ [] := by rw [h5, e1']; simp
    have ow : Ow (H3 b2) := by rw [hb3]; trivial
    obtain ⟨v0, f1, pr2, po2, k1, k2, k3, k4⟩ := rb3.at_ (List.getElem?_eq_getElem q2)
    obtain ⟨ft, ot⟩ := Post.same (o := .lst (us2.set n v)) P3.nd bm ow
    have nd2 := P3.nd
    rw [h5, e1', k1] at nd2
    have cb := List.nodup_iff_count.mp nd2 b2
    simp only [List.count_append, List.count_cons, List.cons_append, beq_self_eq_true, if_true] at cb
    have nb_ : ∀ a, a ∈ pre ∨ a = l ∨ a ∈ pr ∨ a ∈ pr2 ∨ a ∈ f1 ∨ a ∈ po2 ∨ a ∈ po ∨ a ∈ post → a ≠ b2 := by
      rintro a (z | z | z | z | z | z | z | z) rfl
      · have := List.count_pos_iff.mpr z; omega
      · subst z; simp only [beq_self_eq_true, if_true] at cb; omega
      all_goals have := List.count_pos_iff.mpr z; omega
    have in1 := k4 v (.d d) [] ft (fun a ha => ot a (nb_ a ((List.mem_append.mp ha).elim (fun z => .inr (.inr (.inr (.inl z)))) fun z => .inr (.inr (.inr (.inr (.inr (.inl z))))))))
      (r3.mono ft fun a ha => absurd ha (by simp))
    have in2 := e4' (.ref b2) (.ol (us.set n (.d d))) (b2 :: (pr2 ++ [] ++ po2)) (s12.ft.trans ft) (fun a ha => (ot a (nb_ a ((List.mem_append.mp ha).elim (fun z => .inr (.inr (.inl z))) fun z => .inr (.inr (.inr (.inr (.inr (.inr (.inl z))))))))).trans (kp (h3.ow a (by
      rw [e1']
      rcases List.mem_append.mp ha with z | z <;> simp [z])).ne)) (.ol nb upd_same in1)
    rw [set_id e2'] at in2
    have ef : ∀ a ∈ pre ++ post, a ∈ fe := fun a ha => by
      rw [h5]
      rcases List.mem_append.mp ha with z | z <;> simp [z]
    have in3 := h6 (.ol (ws.set m (.ol (us.set n (.d d))))) (l :: (pr ++ (b2 :: (pr2 ++ [] ++ po2)) ++ po)) (s12.ft.trans ft) (fun a ha => (ot a (nb_ a ((List.mem_append.mp ha).elim .inl fun z => .inr (.inr (.inr (.inr (.inr (.inr (.inr z)))))))))
      |>.trans (kp (E1.ow a (ef a ha)).ne)) (.ol h4 ((ot l (nb_ l (.inr (.inl rfl)))).trans hl3) in2)
    refine ⟨b2, us2, b, n, rfl, rfl, hb3, by rw [rb.length]; exact hn', hQ _ _ in3 ((P3.trans (Post.put P3.nd bm ow)).sm (Sm.of_count fun a => ?_))⟩
    rw [h5, e1', k1]
    simp only [List.count_append, List.count_cons]
    omega
end
theorem sto_mono : ∀ {ts : List (Nat × IE × Option IE)} {xs : List PD} {e : Env} {Q Q' : Env → Prop}, (∀ e, Q e → Q' e) → sto ts xs e Q → sto ts xs e Q'
  | [], [], _, _, _, h, q => by
    simp only [sto] at q ⊢
    exact h _ q
  | (i, kx, none) :: ts, x :: xs, e, _, _, h, q => by
    simp only [sto] at q ⊢
    obtain ⟨us, a, m, h1, h2, h3, q⟩ := q
    exact ⟨us, a, m, h1, h2, h3, sto_mono h q⟩
  | (i, kx, some jx) :: ts, x :: xs, e, _, _, h, q => by
    simp only [sto] at q ⊢
    obtain ⟨ws, us, a, b, m, n, h1, h2, h3, h4, h5, h6, q⟩ := q
    exact ⟨ws, us, a, b, m, n, h1, h2, h3, h4, h5, h6, sto_mono h q⟩
  | [], _ :: _, _, _, _, _, q => by simp [sto] at q
  | (_, _, none) :: _, [], _, _, _, _, q => by simp [sto] at q
  | (_, _, some _) :: _, [], _, _, _, _, q => by simp [sto] at q
def gSto (ts : List (Nat × IE × Option IE)) : TGs := fun vs σ H Q => ∃ (env : Env) (fp : List Addr) (xs : List PD), EOk H σ env fp ∧ fp.Nodup ∧ RpWs H vs (xs.map W.d) [] ∧
  sto ts xs env fun env' => ∀ H' fp', EOk H' σ env' fp' → Post H fp H' fp' → Q σ H'
section
variable {X : Cx}
inductive SubsOk (X : Cx) : List Expr → List (Nat × IE × Option IE) → Prop
  | nil : SubsOk X [] []
  | one {e : Expr} {es : List Expr} {i : Nat} {kx : IE} {ts : List (Nat × IE × Option IE)} : PG X e (gS1 i kx) → ((assignEach (e :: es) X.env).map (·.2) = assign e X.env :: (assignEach es X.env).map (·.2)) → SubsOk X es ts → SubsOk X (e :: es) ((i, kx, none) :: ts)
  | two {e : Expr} {es : List Expr} {i : Nat} {kx jx : IE} {ts : List (Nat × IE × Option IE)} : PG X e (gS2 i kx jx) → ((assignEach (e :: es) X.env).map (·.2) = assign e X.env :: (assignEach es X.env).map (·.2)) → SubsOk X es ts → SubsOk X (e :: es) ((i, kx, some jx) :: ts)
theorem gs_sub {es : List Expr} {ts : List (Nat × IE × Option IE)} (h : SubsOk X es ts) : PGs X es (gSto ts) := by
  induction h with
  | nil =>
    refine pgs_imp pgs_nil fun vs σ H Q ⟨env, fp, xs, E, nd, r, q⟩ => ?_
    cases xs with
    | nil =>
      cases r
      simp only [sto] at q
      exact ⟨rfl, q H fp E (Post.refl nd)⟩
    | cons x xs => simp [sto] at q
  | @one e es i kx ts g ha _ ih =>
    refine pgs_imp (pgs_cons g ih ha) fun vs σ H Q ⟨env, fp, xs, E, nd, r, q⟩ => ?_
    cases xs with
    | nil => simp [sto] at q
    | cons x xs =>
      simp only [sto] at q
      obtain ⟨us, a, m, h1, h2, h3, q⟩ := q
      generalize hf : ([] : List Addr) = f0 at r
      cases r with
      | @cons v vr _ _ f f' rv rr =>
        obtain ⟨rfl, rfl⟩ := List.append_eq_nil_iff.mp hf.symm
        cases rv with
        | d rv =>
          refine ⟨_, _, rfl, env, fp, x, us, a, m, E, nd, rv, h1, h2, h3, fun H' fp' E' P => ?_⟩
          refine ⟨_, fp', xs, E', P.nd, rr.mono P.ft fun a ha => absurd ha (by simp), sto_mono (fun e k H2 fp2 E2 P2 => k H2 fp2 E2 (P.trans P2)) q⟩
  | @two e es i kx jx ts g ha _ ih =>
    refine pgs_imp (pgs_cons g ih ha) fun vs σ H Q ⟨env, fp, xs, E, nd, r, q⟩ => ?_
    cases xs with
    | nil => simp [sto] at q
    | cons x xs =>
      simp only [sto] at q
      obtain ⟨ws, us, a, b, m, n, h1, h2, h3, h4, h5, h6, q⟩ := q
      generalize hf : ([] : List Addr) = f0 at r
      cases r with
      | @cons v vr _ _ f f' rv rr =>
        obtain ⟨rfl, rfl⟩ := List.append_eq_nil_iff.mp hf.symm
        cases rv with
        | d rv =>
          refine ⟨_, _, rfl, env, fp, x, ws, us, a, b, m, n, E, nd, rv, h1, h2, h3, h4, h5, h6, fun H' fp' E' P => ?_⟩
          refine ⟨_, fp', xs, E', P.nd, rr.mono P.ft fun a ha => absurd ha (by simp), sto_mono (fun e k H2 fp2 E2 P2 => k H2 fp2 E2 (P.trans P2)) q⟩
end
theorem allD_map' : ∀ {ws : List W} {xs : List PD}, allD ws = some xs → ws = xs.map W.d
  | [], xs, h => by
    simp only [allD] at h
    cases h
    rfl
  | .d x :: ws, xs, h => by
    simp only [allD] at h
    cases e : allD ws with
    | none => rw [e] at h; cases h
    | some ys =>
      rw [e] at h
      cases h
      rw [allD_map' e]
      rfl
  | .ol _ :: _, _, h => by simp [allD] at h
  | .od _ _ :: _, _, h => by simp [allD] at h
theorem own_nil {H : Hp} : ∀ {xs : List PD} {vs : List V} {f : List Addr}, RpWs H vs (xs.map W.d) f → f = []
  | [], _, _, r => by
    cases r
    rfl
  | x :: xs, _, _, r => by
    cases r with
    | cons a b =>
      cases a
      rw [own_nil b]
      rfl
section
variable {X : Cx} {C : Ctx} {R : List Nat} {pos : Pos}
theorem s_psub {es vs : List Expr} {ts : List (Nat × IE × Option IE)} {il : IL} {k0 k1 n : Nat} {p' p2 : Pos} (hc : X.calm = true) (h : SubsOk X es ts) (he : PA X vs (tLM (evM C il)))
    (h1 : (assignEach es X.env).length = ts.length) (h2 : (assignEach es X.env).findIdx? (·.1) = none) (hw : swappedStores [.Tuple es k0 p'] (.Tuple vs k1 p2) X.env = pure none) (hz : ts.length ≤ 1000) :
    PS X (.Assign [.Tuple es k0 p'] (.Tuple vs k1 p2) pos) (tSt R fun env k => evM C il env fun ws e => ∃ xs, allD ws = some xs ∧ xs.length = ts.length ∧ sto ts xs e k.nx) := by
  refine ps_imp (ps_asg (pe_tup he) (pg_tup hc (gs_sub h) h1 h2) swaps_tup hw rfl) fun D σ H ⟨env, fp, k, E, nd, g, KO⟩ => ?_
  refine ⟨env, fp, _, E, nd, g, fun ws e1 us H1 fe fw q E1 r P => ?_⟩
  obtain ⟨xs, hx, hl, q⟩ := q
  have hws := allD_map' hx
  subst hws
  have hf := own_nil r
  subst hf
  rw [List.append_nil] at P
  have hlen : us.length = ts.length := by
    have := r.length
    rw [List.length_map] at this
    omega
  refine ⟨by rw [sizeLine_eq]; omega, fun z nz => ?_⟩
  have E1' := E1.new (o := .tup us) nz
  have P' : Post H fp (upd H1 z (HO.tup us)) fe := P.snoc (Res.tup nz) E1.ow
  refine ⟨z, us, rfl, .inl (.inl upd_same), hlen, e1, fe, xs, E1', P'.nd, r.grow (o := .tup us) nz, sto_mono (fun e k1 H' fp' E' Pq => ?_) q⟩
  exact KO.nx _ σ _ _ k1 E' (P'.trans Pq) (Ag.refl σ)
end
end Mn

set_option linter.all false
set_option Elab.async false
set_option maxRecDepth 100000
set_option maxHeartbeats 2000000
/-! Mn: how arguments are bound. -/
namespace Mn
open PySem PySem.Spec PyProof.Rows L2
theorem forIn_inv {α β : Type} (f : α → β → Sem (ForInStep β)) (step : β → α → β) (I : List α → β → Prop) (h : ∀ x r b, I (x :: r) b → f x b = pure (.yield (step b x)) ∧ I r (step b x)) : ∀ (l : List α) (b : β), I l b → forIn l b f = (pure (l.foldl step b) : Sem β)
  | [], b, _ => by rw [List.forIn_nil]; rfl
  | x :: r, b, i => by
    obtain ⟨e, i'⟩ := h x r b i
    rw [List.forIn_cons, e, pure_bind]
    exact forIn_inv f step I h r _ i'
theorem foldl_snoc {α γ : Type} : ∀ (l : List α) (s : List α) (t : γ), l.foldl (fun (s : List α × γ) x => (s.1 ++ [x], s.2)) (s, t) = (s ++ l, t)
  | [], s, t => by simp
  | x :: l, s, t => by
    rw [List.foldl_cons, foldl_snoc l]
    simp
theorem bind_gen {x qual : Str} {body : List Stmt} {scope : Scope} {kV doc pm cdv ct : Value} {an : Option Addr} {as : List PySem.Arg} {ps : List Str} {us : List Value} {kw : List (Str × Value)} (hps : as.map (·.arg) = ps) (hu : us.length ≤ ps.length) (hk : ∀ q ∈ kw, q.1 ∈ ps)
    (hn : ∀ q ∈ kw, (ps.zip us).lookup q.1 = none) (hd : (kw.map (·.1)).Nodup) (hall : ∀ n ∈ ps, ((ps.zip us ++ kw).lookup n).isSome = true) :
    bindArgs (PySem.W.fnOf x qual ⟨[], as, none, [], [], none, []⟩ body scope .none kV doc pm an cdv ct) ⟨us, kw⟩ = pure (ps.filterMap fun n => ((ps.zip us ++ kw).lookup n).map (n, ·)) := by
  unfold bindArgs
  dsimp only [PySem.W.fnOf]
  simp only [List.map_nil, List.nil_append, hps, List.contains_nil, Bool.or_false]
  have hm : (ps.filter fun n => ((ps.zip us ++ kw).lookup n).isNone) = [] := by
    rw [List.filter_eq_nil_iff]
    intro n h
    have := hall n h
    cases e : (ps.zip us ++ kw).lookup n with
    | none => rw [e] at this; cases this
    | some v => simp
  rw [forIn_inv (l := kw) (b := (ps.zip us, [])) (step := fun s x => (s.1 ++ [x], s.2)) (I := fun r s => (∀ q ∈ r, q.1 ∈ ps ∧ s.1.lookup q.1 = none) ∧ (r.map (·.1)).Nodup)]
  · rw [foldl_snoc]
    have si : seqItems? Value.none = pure none := rfl
    have lt : ¬ us.length > ps.length := by omega
    simp only [pure_bind, si, Option.getD_none, List.length_nil, List.drop_nil, Nat.sub_zero, List.drop_zero, List.take_length, Nat.sub_self, hm, lt, List.isEmpty_nil, List.zip_nil_right, List.forIn_nil, Bool.not_true, Bool.false_eq_true, if_false, List.append_nil, decide_false, Bool.false_and, Nat.zero_sub]
    try simp
  · rintro q r s ⟨i1, i2⟩
    obtain ⟨m, l⟩ := i1 q List.mem_cons_self
    have hc : ps.contains q.1 = true := List.contains_iff_mem.mpr m
    refine ⟨?_, fun q' hq' => ?_, (List.nodup_cons.mp i2).2⟩
    · simp only [hc, l, if_true, Option.isSome_none, Bool.false_eq_true, if_false]
    · obtain ⟨m', l'⟩ := i1 q' (List.mem_cons_of_mem _ hq')
      refine ⟨m', ?_⟩
      have ne : q'.1 ≠ q.1 := fun e => (List.nodup_cons.mp i2).1 (List.mem_map.mpr ⟨q', hq', e⟩)
      rw [List.lookup_append, l', Option.none_or]
      have nb : (q'.1 == q.1) = false := beq_eq_false_iff_ne.mpr ne
      simp only [List.lookup, nb]
  · exact ⟨fun q hq => ⟨hk q hq, hn q hq⟩, hd⟩

theorem lookup_zip {α : Type} : ∀ {ks : List Str} {vs : List α} {j : Nat} {k : Str}, ks.Nodup → ks.length = vs.length → ks[j]? = some k → (ks.zip vs).lookup k = vs[j]?
  | [], _, _, _, _, _, h => by simp at h
  | k0 :: ks, [], _, _, _, hl, _ => by simp at hl
  | k0 :: ks, v :: vs, 0, k, nd, hl, h => by
    simp only [List.getElem?_cons_zero, Option.some.injEq] at h
    subst h
    simp [List.lookup]
  | k0 :: ks, v :: vs, j + 1, k, nd, hl, h => by
    have h' : ks[j]? = some k := by simpa using h
    have ne : (k == k0) = false := beq_eq_false_iff_ne.mpr fun e => (List.nodup_cons.mp nd).1 (e ▸ List.mem_of_getElem? h')
    rw [List.zip_cons_cons, List.lookup_cons, ne, lookup_zip (List.nodup_cons.mp nd).2 (by simpa using hl) h']
    simp
/-- how many arguments come by place, the others' names, and which argument each parameter takes -/
structure Bd (ps : List Str) (m : Nat) (ks : List Str) (kw : List Nat) : Prop where
  hm : m ≤ ps.length
  nd : (ps.take m ++ ks).Nodup
  sub : ∀ k ∈ ks, k ∈ ps
  len : m + ks.length = ps.length
  at_ : kw.map (fun j => (ps.take m ++ ks)[j]?) = ps.map some
def bdC (ps : List Str) (m : Nat) (ks : List Str) (kw : List Nat) : Bool := decide (m ≤ ps.length) && decide ((ps.take m ++ ks).Nodup) && (ks.all fun k => decide (k ∈ ps)) && decide (m + ks.length = ps.length) && decide (kw.map (fun j => (ps.take m ++ ks)[j]?) = ps.map some)
theorem Bd.of {ps : List Str} {m : Nat} {ks : List Str} {kw : List Nat} (h : bdC ps m ks kw = true) : Bd ps m ks kw := by
  unfold bdC at h
  simp only [Bool.and_eq_true, decide_eq_true_eq, List.all_eq_true] at h
  obtain ⟨⟨⟨⟨h1, h2⟩, h3⟩, h4⟩, h5⟩ := h
  exact ⟨h1, h2, h3, h4, h5⟩
theorem zip_take {α β : Type} : ∀ (ps : List α) (us : List β), ps.zip us = (ps.take us.length).zip us
  | [], _ => by simp
  | p :: ps, [] => by simp
  | p :: ps, u :: us => by
    rw [List.zip_cons_cons, zip_take ps us]
    rfl
theorem Bd.look {α : Type} {ps ks : List Str} {m : Nat} {kw : List Nat} (b : Bd ps m ks kw) {us ws : List α} (hu : us.length = m) (hw : ws.length = ks.length) : ∀ {qs : List Str} {js : List Nat}, js.map (fun j => (ps.take m ++ ks)[j]?) = qs.map some →
    ∃ xs : List α, js.map (fun j => (us ++ ws)[j]?) = xs.map some ∧ qs.map (fun n => ((ps.zip us ++ ks.zip ws).lookup n)) = xs.map some
  | [], [], _ => ⟨[], rfl, rfl⟩
  | [], _ :: _, h => by simp at h
  | _ :: _, [], h => by simp at h
  | q :: qs, j :: js, h => by
    simp only [List.map_cons, List.cons.injEq] at h
    obtain ⟨xs, e1, e2⟩ := b.look hu hw h.2
    have z : ps.zip us ++ ks.zip ws = (ps.take m ++ ks).zip (us ++ ws) := by
      rw [List.zip_append (by rw [List.length_take, hu]; have := b.hm; omega)]
      congr 1
      rw [← hu]
      exact zip_take ps us
    have hl : (ps.take m ++ ks).length = (us ++ ws).length := by
      rw [List.length_append, List.length_append, List.length_take]
      have := b.hm
      omega
    have hj : j < (us ++ ws).length := by
      have := (List.getElem?_eq_some_iff.mp h.1).1
      omega
    refine ⟨(us ++ ws)[j] :: xs, by rw [List.map_cons, List.map_cons, e1, List.getElem?_eq_getElem hj], ?_⟩
    rw [List.map_cons, List.map_cons, e2, z, lookup_zip b.nd hl h.1, List.getElem?_eq_getElem hj]

theorem filterMap_of {α β : Type} {f : α → Option β} : ∀ {l : List α} {xs : List β}, l.map f = xs.map some → l.filterMap f = xs
  | [], [], _ => rfl
  | [], _ :: _, h => by simp at h
  | _ :: _, [], h => by simp at h
  | a :: l, x :: xs, h => by
    simp only [List.map_cons, List.cons.injEq] at h
    rw [List.filterMap_cons, h.1, filterMap_of h.2]
/-- how a call binds -/
def BdX (ps : List Str) (m : Nat) (ks : List Str) (kw : List Nat) : Prop := (kw = [] ∧ ks = [] ∧ m = ps.length ∧ ps.Nodup) ∨ (kw ≠ [] ∧ Bd ps m ks kw)
def bdXC (ps : List Str) (m : Nat) (ks : List Str) (kw : List Nat) : Bool := match kw with
  | [] => ks.isEmpty && decide (m = ps.length) && decide ps.Nodup
  | _ => bdC ps m ks kw
theorem BdX.of {ps : List Str} {m : Nat} {ks : List Str} {kw : List Nat} (h : bdXC ps m ks kw = true) : BdX ps m ks kw := by
  unfold bdXC at h
  cases kw with
  | nil =>
    simp only [Bool.and_eq_true, decide_eq_true_eq, List.isEmpty_iff] at h
    exact .inl ⟨rfl, h.1.1, h.1.2, h.2⟩
  | cons j kw => exact .inr ⟨fun z => (nomatch z), Bd.of h⟩
theorem permute_some {α : Type} {kw : List Nat} (h : kw ≠ []) (ws : List α) : permute kw ws = kw.filterMap fun j => ws[j]? := by
  cases kw with
  | nil => exact absurd rfl h
  | cons => rfl
theorem bind_x {x qual : Str} {body : List Stmt} {scope : Scope} {kV doc pm cdv ct : Value} {an : Option Addr} {as : List PySem.Arg} {ps ks : List Str} {m : Nat} {kw : List Nat} {us ws : List Value} (hps : as.map (·.arg) = ps) (b : BdX ps m ks kw) (hu : us.length = m) (hw : ws.length = ks.length) :
    bindArgs (PySem.W.fnOf x qual ⟨[], as, none, [], [], none, []⟩ body scope .none kV doc pm an cdv ct) ⟨us, ks.zip ws⟩ = pure (ps.zip (permute kw (us ++ ws))) ∧ (permute kw (us ++ ws)).length = ps.length := by
  have core : ∀ {kw : List Nat} {xs : List Value}, Bd ps m ks kw → kw.map (fun j => (us ++ ws)[j]?) = xs.map some → ps.map (fun n => ((ps.zip us ++ ks.zip ws).lookup n)) = xs.map some → bindArgs (PySem.W.fnOf x qual ⟨[], as, none, [], [], none, []⟩ body scope .none kV doc pm an cdv ct) ⟨us, ks.zip ws⟩ = pure (ps.zip xs) := by
    intro kw xs b e1 e2
    have hall : ∀ n ∈ ps, ((ps.zip us ++ ks.zip ws).lookup n).isSome = true := fun n hn => by
      have : (ps.zip us ++ ks.zip ws).lookup n ∈ ps.map fun n => (ps.zip us ++ ks.zip ws).lookup n := List.mem_map.mpr ⟨n, hn, rfl⟩
      rw [e2] at this
      obtain ⟨v, _, e⟩ := List.mem_map.mp this
      rw [← e]
      rfl
    have hk : ∀ q ∈ ks.zip ws, q.1 ∈ ks := fun q hq => (List.of_mem_zip (a := q.1) (b := q.2) hq).1
    have nd := List.nodup_append.mp b.nd
    rw [bind_gen hps (by rw [hu]; exact b.hm) (fun q hq => b.sub _ (hk q hq)) (fun q hq => ?_) ?_ hall]
    · congr 1
      have go : ∀ (qs : List Str) (zs : List Value), qs.map (fun n => ((ps.zip us ++ ks.zip ws).lookup n)) = zs.map some → qs.filterMap (fun n => ((ps.zip us ++ ks.zip ws).lookup n).map (n, ·)) = qs.zip zs := by
        intro qs
        induction qs with
        | nil => intro zs _; rfl
        | cons q qs ih =>
          intro zs h
          cases zs with
          | nil => simp at h
          | cons z zs =>
            simp only [List.map_cons, List.cons.injEq] at h
            rw [List.filterMap_cons, h.1, Option.map_some, ih zs h.2, List.zip_cons_cons]
      exact go ps xs e2
    · have : (ks.zip ws).map (·.1) = ks := by
        rw [List.map_fst_zip]
        omega
      rw [this]
      exact nd.2.1
    · rw [zip_take ps us, hu]
      have nz : ∀ (l : List (Str × Value)), (∀ z ∈ l, z.1 ≠ q.1) → l.lookup q.1 = none := by
        intro l
        induction l with
        | nil => intro _; rfl
        | cons z l ih =>
          intro h
          have : (q.1 == z.1) = false := beq_eq_false_iff_ne.mpr fun e => h z List.mem_cons_self e.symm
          rw [List.lookup_cons, this]
          exact ih fun y hy => h y (List.mem_cons_of_mem _ hy)
      exact nz _ fun z hz e => nd.2.2 z.1 (List.of_mem_zip (a := z.1) (b := z.2) hz).1 q.1 (hk q hq) e
  rcases b with ⟨rfl, rfl, rfl, ndp⟩ | ⟨hne, b⟩
  · have hw0 : ws = [] := List.length_eq_zero_iff.mp hw
    subst hw0
    have b : Bd ps ps.length [] (List.range ps.length) := ⟨Nat.le_refl _, by rw [List.take_length, List.append_nil]; exact ndp, fun k hk => (nomatch hk), by simp, by
      rw [List.take_length, List.append_nil]
      apply List.ext_getElem?
      intro j
      rw [List.getElem?_map, List.getElem?_map]
      by_cases hj : j < ps.length
      · rw [List.getElem?_range hj, Option.map_some, List.getElem?_eq_getElem hj]; rfl
      · rw [List.getElem?_eq_none (by simpa using Nat.le_of_not_lt hj), List.getElem?_eq_none (by omega)]; rfl⟩
    obtain ⟨xs, e1, e2⟩ := b.look hu hw b.at_
    have ex : xs = us := by
      have : xs.map some = us.map some := by
        rw [← e1, List.append_nil, ← hu]
        apply List.ext_getElem?
        intro j
        rw [List.getElem?_map, List.getElem?_map]
        by_cases hj : j < us.length
        · rw [List.getElem?_range hj, Option.map_some, List.getElem?_eq_getElem hj]; rfl
        · rw [List.getElem?_eq_none (by simpa using Nat.le_of_not_lt hj), List.getElem?_eq_none (by omega)]; rfl
      have q := filterMap_of (f := some) this.symm
      rw [List.filterMap_some] at q
      exact q.symm
    subst ex
    exact ⟨by rw [core b e1 e2]; show _ = pure (ps.zip (xs ++ [])); rw [List.append_nil], by show (xs ++ []).length = _; rw [List.append_nil, hu]⟩
  · obtain ⟨xs, e1, e2⟩ := b.look hu hw b.at_
    rw [permute_some hne, filterMap_of e1]
    refine ⟨core b e1 e2, ?_⟩
    have := congrArg List.length e2
    simpa using this.symm
theorem Vals.pick {vs : List V} {us : List Value} (r : Vals vs us) : ∀ (kw : List Nat), Vals (kw.filterMap fun j => vs[j]?) (kw.filterMap fun j => us[j]?)
  | [] => .nil
  | j :: kw => by
    rw [List.filterMap_cons, List.filterMap_cons]
    cases e : vs[j]? with
    | none => rw [Vals.none_of r e]; exact Vals.pick r kw
    | some v =>
      obtain ⟨u, e2, ru⟩ := r.get e
      rw [e2]
      exact .cons ru (Vals.pick r kw)
theorem Vals.permute {vs : List V} {us : List Value} (r : Vals vs us) (kw : List Nat) : Vals (Mn.permute kw vs) (Mn.permute kw us) := by
  cases kw with
  | nil => exact r
  | cons j kw => exact Vals.pick r _
/-- a def's plain parameters -/
def plainP (p : Arguments) : Option (List Str) := match p with
  | ⟨[], as, none, [], [], none, []⟩ => some (as.map (·.arg))
  | _ => none
theorem bind_fun {K : PySem.W.Frag} {x qual : Str} {params : Arguments} {body : List Stmt} {scope : Scope} {f : Addr} {fd : FuncData} {ps ks : List Str} {m : Nat} {kw : List Nat} (F : FunD K x qual params body scope [] [] f fd) (hp : plainP params = some ps) (b : BdX ps m ks kw) {s : Shared} {us ws : List Value} (hu : us.length = m) (hw : ws.length = ks.length) :
    BindsTo s fd ⟨us, ks.zip ws⟩ (ps.zip (permute kw (us ++ ws))) := by
  obtain ⟨oc, od, dV, kV, doc, pm, an, cdv, ct, osl, rfl, lk, hcd, hD, hK⟩ := F.ex
  rcases hD with ⟨_, rfl⟩ | ⟨e, _⟩
  · unfold plainP at hp
    split at hp
    · next as =>
      cases hp
      exact .of_eq (bind_x rfl b hu hw).1
    · cases hp
  · exact absurd rfl e
end Mn

set_option linter.all false
set_option Elab.async false
set_option maxRecDepth 100000
set_option maxHeartbeats 2000000
/-! Mn: calls of the text's defs, displays of dicts. -/
namespace Mn
open PySem PySem.Spec PyProof.Rows L2

def Arg.sh : Arg → Option Nat
  | .v _ => none
  | .r i => some i
def IL.sh : IL → List (Option Nat)
  | .nil => []
  | .cons _ r => none :: r.sh
  | .ref i r => some i :: r.sh
inductive ArgsOk (H : Hp) (σ : Sg) : List V → List Arg → Prop
  | nil : ArgsOk H σ [] []
  | v {v : V} {x : PD} {vs : List V} {as : List Arg} : Rp H v x → ArgsOk H σ vs as → ArgsOk H σ (v :: vs) (.v x :: as)
  | r {v : V} {i : Nat} {vs : List V} {as : List Arg} : σ[i]? = some (some v) → ArgsOk H σ vs as → ArgsOk H σ (v :: vs) (.r i :: as)
theorem ArgsOk.mono {H H' : Hp} {σ : Sg} (ft : FT H H') : ∀ {vs : List V} {as : List Arg}, ArgsOk H σ vs as → ArgsOk H' σ vs as
  | _, _, .nil => .nil
  | _, _, .v rr t => .v (rr.mono ft) (t.mono ft)
  | _, _, .r e t => .r e (t.mono ft)
theorem ArgsOk.app {H : Hp} {σ : Sg} : ∀ {vs us : List V} {as bs : List Arg}, ArgsOk H σ vs as → ArgsOk H σ us bs → ArgsOk H σ (vs ++ us) (as ++ bs)
  | _, _, _, _, .nil, b => b
  | _, _, _, _, .v rr t, b => .v rr (t.app b)
  | _, _, _, _, .r e t, b => .r e (t.app b)
theorem ArgsOk.length {H : Hp} {σ : Sg} : ∀ {vs : List V} {as : List Arg}, ArgsOk H σ vs as → vs.length = as.length
  | _, _, .nil => rfl
  | _, _, .v _ t => by simp only [List.length_cons, t.length]
  | _, _, .r _ t => by simp only [List.length_cons, t.length]
def tAr (sh : List (Option Nat)) (ev : Env → (List Arg → Env → Prop) → Prop) : TA := fun σ H Q => ∃ (env : Env) (fp : List Addr) (Qe : List Arg → Env → Prop), EOk H σ env fp ∧ fp.Nodup ∧ ev env Qe ∧
  ∀ as env' vs H' fe, Qe as env' → EOk H' σ env' fe → ArgsOk H' σ vs as → Post H fp H' fe → as.map Arg.sh = sh → Q vs H'
theorem pk_imp {X : Cx} {e : List Keyword} {t t' : TA} (h : PK X e t) (w : ∀ σ H Q, t' σ H Q → t σ H Q) : PK X e t' := ⟨fun pos pins s σ H Q I q => h.run pos pins s σ H Q I (w σ H Q q)⟩
section
variable {X : Cx} {C : Ctx} {e : Expr} {es : List Expr} {ie : IE} {r : IL} {pos p : Pos} {x : Str} {i : Nat} {kws : List Keyword}
theorem ar_nil {σ : Sg} {H : Hp} {Q : List V → Hp → Prop} (h : tAr IL.nil.sh (evA C .nil) σ H Q) : tNil σ H Q := by
  obtain ⟨env, fp, Qe, E, nd, g, k⟩ := h
  exact k [] env [] H fp g E .nil (Post.refl nd) rfl
theorem ar_cons {t : TA} {σ : Sg} {H : Hp} {Q : List V → Hp → Prop} (hr : ∀ {σ H Q}, tAr r.sh (evA C r) σ H Q → t σ H Q) (h : tAr (IL.cons ie r).sh (evA C (.cons ie r)) σ H Q) : tCons (tD fun env Q => evE C ie env fun w e1 => fz w e1 Q) t σ H Q := by
  obtain ⟨env, fp, Qe, E, nd, g, k⟩ := h
  refine ⟨env, fp, fun y e2 => evA C r e2 fun xs e3 => Qe (.v y :: xs) e3, E, nd, g, fun y e2 v H1 fe q E1 rv P => hr ?_⟩
  refine ⟨e2, fe, _, E1, P.nd, q, fun as e3 vs H2 fe2 q2 E2 A P2 hs => ?_⟩
  exact k _ e3 (v :: vs) H2 fe2 q2 E2 (.v (rv.mono P2.ft) A) (P.trans P2) (by rw [List.map_cons, hs]; rfl)
theorem ar_ref {t : TA} {σ : Sg} {H : Hp} {Q : List V → Hp → Prop} (hr : ∀ {σ H Q}, tAr r.sh (evA C r) σ H Q → t σ H Q) (h : tAr (IL.ref i r).sh (evA C (.ref i r)) σ H Q) : tCons (tVar i) t σ H Q := by
  obtain ⟨env, fp, Qe, E, nd, g, k⟩ := h
  obtain ⟨h0, g⟩ := g
  obtain ⟨c, hc⟩ := Option.isSome_iff_exists.mp h0
  obtain ⟨f, pre, post, sv, _, h1, h2, _⟩ := E.split i (slot_lt hc)
  rw [hc] at h2
  obtain ⟨v, rfl, _⟩ := h2
  refine ⟨v, h1, hr ⟨env, fp, _, E, nd, g, fun as e3 vs H2 fe2 q2 E2 A P2 hs => ?_⟩⟩
  exact k _ e3 (v :: vs) H2 fe2 q2 E2 (.r h1 A) P2 (by rw [List.map_cons, hs]; rfl)
theorem a_nil : PA X [] (tAr IL.nil.sh (evA C .nil)) := pa_imp pa_nil fun _ _ _ => ar_nil
theorem a_cons (ha : PE X e (tW (evE C ie))) (hr : PA X es (tAr r.sh (evA C r))) (hs : starless e = true) : PA X (e :: es) (tAr (IL.cons ie r).sh (evA C (.cons ie r))) :=
  pa_imp (pa_cons (pe_fz ha) hr (star_cons hs)) fun _ _ _ => ar_cons id
theorem a_ref (hN : X.N[i]? = some x) (hv : Vis X.env.scope x) (hd : (x == ("__debug__" : Str)) = false) (hcd : (x == ("__classdict__" : Str)) = false) (hr : PA X es (tAr r.sh (evA C r))) : PA X (.Name x p :: es) (tAr (IL.ref i r).sh (evA C (.ref i r))) :=
  pa_imp (pa_cons (pe_var hN hv hd hcd) hr rfl) fun _ _ _ => ar_ref id
theorem k_nil : PK X [] (tAr IL.nil.sh (evA C .nil)) := pk_imp pk_nil fun _ _ _ => ar_nil
theorem k_cons {nm : Option Str} {kpos : Pos} (ha : PE X e (tW (evE C ie))) (hr : PK X kws (tAr r.sh (evA C r))) : PK X (⟨nm, e, kpos⟩ :: kws) (tAr (IL.cons ie r).sh (evA C (.cons ie r))) :=
  pk_imp (pk_cons (pe_fz ha) hr) fun _ _ _ => ar_cons id
end
/-! ### lending -/
theorem lend_no {H : Hp} {σ : Sg} {e : Env} : ∀ {vs : List V} {as : List Arg}, ArgsOk H σ vs as → (∀ s ∈ as.map Arg.sh, s = none) → ∃ xs : List PD, RpL H vs xs ∧ lend e as = some (xs.map W.d) ∧ ∀ os e', taken e as os = some e' → os = [] ∧ e' = e
  | _, _, .nil, _ => ⟨[], .nil, rfl, fun os e' h => by
    cases os with
    | nil => exact ⟨rfl, by simpa [taken] using h.symm⟩
    | cons _ _ => simp [taken] at h⟩
  | _, _, .v r t, h => by
    obtain ⟨xs, h1, h2, h3⟩ := lend_no (e := e) t fun s hs => h s (List.mem_cons_of_mem _ hs)
    exact ⟨_ :: xs, .cons r h1, by simp only [lend, h2, Option.map_some, List.map_cons], fun os e' q => h3 os e' q⟩
  | _, _, .r e t, h => absurd (h _ List.mem_cons_self) (by simp [Arg.sh])
theorem lend_one {H : Hp} {σ : Sg} {e : Env} {i : Nat} : ∀ {l1 l2 : List (Option Nat)} {vs : List V} {as : List Arg} {ws : List W}, ArgsOk H σ vs as → as.map Arg.sh = l1 ++ some i :: l2 → (∀ s ∈ l1, s = none) → (∀ s ∈ l2, s = none) → lend e as = some ws →
    ∃ (xs ys : List PD) (v : V) (vs1 vs2 : List V) (c : W), vs = vs1 ++ v :: vs2 ∧ vs1.length = l1.length ∧ RpL H vs1 xs ∧ RpL H vs2 ys ∧ ws = xs.map W.d ++ c :: ys.map W.d ∧ slot e i = some c ∧ σ[i]? = some (some v) ∧ ∀ os e', taken e as os = some e' → ∃ o, os = [o] ∧ e' = e.set i (some o)
  | [], l2, _, _, ws, .r (v := v) (i := j) (vs := vs) (as := as) e1 t, hs, _, h2, hl => by
    simp only [List.map_cons, List.nil_append, List.cons.injEq, Arg.sh, Option.some.injEq] at hs
    obtain ⟨rfl, hs⟩ := hs
    obtain ⟨ys, g1, g2, g3⟩ := lend_no (e := e) t (by rw [hs]; exact h2)
    have fin : ∀ c, slot e j = some c → lend e (.r j :: as) = (lend e as).map (c :: ·) → ∃ (xs ys : List PD) (v' : V) (vs1 vs2 : List V) (c : W), v :: vs = vs1 ++ v' :: vs2 ∧ vs1.length = ([] : List (Option Nat)).length ∧ RpL H vs1 xs ∧ RpL H vs2 ys ∧ ws = xs.map W.d ++ c :: ys.map W.d ∧ slot e j = some c ∧ σ[j]? = some (some v') ∧ ∀ os e', taken e (.r j :: as) os = some e' → ∃ o, os = [o] ∧ e' = e.set j (some o) := by
      intro c hc hle
      rw [hle, g2] at hl
      simp only [Option.map_some, Option.some.injEq] at hl
      refine ⟨[], ys, v, [], vs, c, rfl, rfl, .nil, g1, hl.symm, hc, e1, fun os e' q => ?_⟩
      cases os with
      | nil => simp [taken] at q
      | cons o os =>
        simp only [taken] at q
        cases z : taken e as os with
        | none => rw [z] at q; cases q
        | some e2 =>
          rw [z] at q
          obtain ⟨rfl, rfl⟩ := g3 os e2 z
          simp only [Option.map_some, Option.some.injEq] at q
          exact ⟨o, rfl, q.symm⟩
    have ex : ∃ c, slot e j = some c := by
      cases z : slot e j with
      | none => simp [lend, z] at hl
      | some c => exact ⟨c, rfl⟩
    obtain ⟨c, hc⟩ := ex
    cases c with
    | ol xs => exact fin _ hc (by simp only [lend, hc])
    | od ks xs => exact fin _ hc (by simp only [lend, hc])
    | _ => simp [lend, hc] at hl
  | [], l2, _, _, ws, .v _ _, hs, _, _, _ => by simp [Arg.sh] at hs
  | [], l2, _, _, ws, .nil, hs, _, _, _ => by simp at hs
  | s :: l1, l2, _, _, ws, .nil, hs, _, _, _ => by simp at hs
  | s :: l1, l2, _, _, ws, .r _ _, hs, h1, _, _ => by
    simp only [List.map_cons, List.cons_append, List.cons.injEq, Arg.sh] at hs
    have := h1 s List.mem_cons_self
    rw [← hs.1] at this
    cases this
  | s :: l1, l2, _, _, ws, .v (v := v0) (x := x0) r t, hs, h1, h2, hl => by
    simp only [List.map_cons, List.cons_append, List.cons.injEq, Arg.sh] at hs
    simp only [lend] at hl
    rename_i vs as
    cases z : lend e as with
    | none => rw [z] at hl; cases hl
    | some ws' =>
      rw [z] at hl
      simp only [Option.map_some, Option.some.injEq] at hl
      obtain ⟨xs, ys, v, vs1, vs2, c, k1, k2, k3, k4, k5, k6, k7, k8⟩ := lend_one t hs.2 (fun s hs => h1 s (List.mem_cons_of_mem _ hs)) h2 z
      exact ⟨x0 :: xs, ys, v, v0 :: vs1, vs2, c, by rw [k1]; rfl, by simp [k2], .cons r k3, k4, by rw [← hl, k5]; rfl, k6, k7, fun os e' q => k8 os e' q⟩
/-! ### a def's promise -/
def spC (call : List W → (W → List W → Prop) → Prop) (refs : List Nat) (m : Nat) : Sp := fun vs H Q _ => vs.length = m ∧ ∃ (ws : List W) (fw : List Addr) (Qe : W → List W → Prop), RpWs H vs ws fw ∧ fw.Nodup ∧ Sys H ∧ call ws Qe ∧
  ∀ w os v H' fo fr, Qe w os → RpWs H' (refs.filterMap fun j => vs[j]?) os fo → RpW H' v w fr → Post H fw H' (fo ++ fr) → Q v H'
theorem RpW.res {H : Hp} {σ : Sg} {v : V} {w : W} {fp : List Addr} (h : RpW H v w fp) : RpR H σ v w fp := h.rpr fun i e => by subst e; cases h
/-- which parameter is lent -/
def lent (kw : List Nat) (sh : List (Option Nat)) (refs : List Nat) : Prop := (refs = [] ∧ ∀ s ∈ sh, s = none) ∨ (kw = [] ∧ ∃ l1 i l2, sh = l1 ++ some i :: l2 ∧ (∀ s ∈ l1, s = none) ∧ (∀ s ∈ l2, s = none) ∧ refs = [l1.length])
def lentC (kw : List Nat) (sh : List (Option Nat)) (refs : List Nat) : Bool := match refs with
  | [] => sh.all (·.isNone)
  | [j] => kw.isEmpty && (sh.take j).all (·.isNone) && (match sh.drop j with | some _ :: r => r.all (·.isNone) | _ => false) && decide (j ≤ sh.length)
  | _ => false
theorem lent.of {kw : List Nat} {sh : List (Option Nat)} {refs : List Nat} (h : lentC kw sh refs = true) : lent kw sh refs := by
  unfold lentC at h
  split at h
  · exact .inl ⟨rfl, fun s hs => by simpa using List.all_eq_true.mp h s hs⟩
  · next j =>
    simp only [Bool.and_eq_true, List.isEmpty_iff, decide_eq_true_eq] at h
    obtain ⟨⟨⟨h1, h2⟩, h3⟩, h4⟩ := h
    refine .inr ⟨h1, ?_⟩
    split at h3
    · next i r e =>
      refine ⟨sh.take j, i, r, ?_, fun s hs => by simpa using List.all_eq_true.mp h2 s hs, fun s hs => by simpa using List.all_eq_true.mp h3 s hs, by rw [List.length_take, Nat.min_eq_left h4]⟩
      rw [← e, List.take_append_drop]
    · cases h3
  · cases h
theorem RpL.pick {H : Hp} : ∀ {vs : List V} {xs : List PD} (kw : List Nat), RpL H vs xs → RpL H (kw.filterMap fun j => vs[j]?) (kw.filterMap fun j => xs[j]?)
  | _, _, [], _ => .nil
  | vs, xs, j :: kw, r => by
    rw [List.filterMap_cons, List.filterMap_cons]
    cases e : xs[j]? with
    | none =>
      rw [List.getElem?_eq_none (by rw [r.length]; exact List.getElem?_eq_none_iff.mp e)]
      exact RpL.pick kw r
    | some x =>
      obtain ⟨v, h1, h2⟩ := r.get e
      rw [h1]
      exact .cons h2 (RpL.pick kw r)
theorem RpL.permute {H : Hp} {vs : List V} {xs : List PD} (kw : List Nat) (r : RpL H vs xs) : RpL H (Mn.permute kw vs) (Mn.permute kw xs) := by
  cases kw with
  | nil => exact r
  | cons j kw => exact RpL.pick _ r
theorem permute_map {α β : Type} (f : α → β) (kw : List Nat) (xs : List α) : permute kw (xs.map f) = (permute kw xs).map f := by
  cases kw with
  | nil => rfl
  | cons j kw =>
    show List.filterMap _ _ = List.map f (List.filterMap _ _)
    rw [List.map_filterMap]
    congr 1
    funext j
    rw [List.getElem?_map]
/-- the evaluator's call is the promise's -/
theorem call_mk {call : List W → (W → List W → Prop) → Prop} {refs kw : List Nat} {m : Nat} {H1 H0 : Hp} {σ : Sg} {e : Env} {fe fp : List Addr} {vs : List V} {as : List Arg} {Qe : W → Env → Prop} {Q : VK} (E : EOk H1 σ e fe) (P : Post H0 fp H1 fe) (A : ArgsOk H1 σ vs as) (hl : lent kw (as.map Arg.sh) refs) (hm : (permute kw vs).length = m)
    (g : match lend e as with
      | some ws => call (permute kw ws) fun w os => match taken e as os with
        | some e' => Qe w e'
        | none => False
      | none => False)
    (k : ∀ w env' v H' fe fw, Qe w env' → EOk H' σ env' fe → RpR H' σ v w fw → Post H0 fp H' (fe ++ fw) → Q v H') : spC call refs m (permute kw vs) H1 Q E0 := by
  rcases hl with ⟨rfl, hno⟩ | ⟨rfl, l1, i, l2, hs, h1, h2, rfl⟩
  · obtain ⟨xs, r, hle, htk⟩ := lend_no (e := e) A hno
    rw [hle] at g
    dsimp only at g
    rw [permute_map] at g
    refine ⟨hm, _, [], _, (r.permute kw).own, List.nodup_nil, E.sys, g, fun w os v H' fo fr q ro rw_ P' => ?_⟩
    cases ro
    rw [List.nil_append] at P'
    split at q
    · next e' he =>
      obtain ⟨_, rfl⟩ := htk _ _ he
      have kp : ∀ a ∈ fe, H' a = H1 a := fun a ha => by
        cases z : H1 a with
        | none => exact absurd z (E.ow a ha).ne
        | some o => exact P'.fr a o z (by simp)
      have Pf := P'.frame (g := fe) (by simpa using P.nd) (fun a ha => (E.ow a ha).ne)
      rw [List.nil_append] at Pf
      refine k w e' v H' fe fr q (E.mono P'.ft kp) rw_.res ((P.trans Pf).sm (Sm.perm List.perm_append_comm))
    · exact q.elim
  · cases hle : lend e as with
    | none => rw [hle] at g; exact g.elim
    | some ws =>
      rw [hle] at g
      dsimp only at g
      obtain ⟨xs, ys, v0, vs1, vs2, c, k1, k2, k3, k4, k5, k6, k7, k8⟩ := lend_one A hs h1 h2 hle
      obtain ⟨f, pre, post, sv, z1, z2, z3, z4⟩ := E.split i (slot_lt k6)
      rw [k7] at z2
      cases z2
      rw [k6] at z3
      obtain ⟨v', ev, rc⟩ := z3
      cases ev
      have ndf : (f ++ (pre ++ post)).Nodup := by
        have := P.nd
        rw [z1] at this
        refine (List.Perm.nodup_iff ?_).mp this
        rw [List.append_assoc]
        exact (List.perm_append_comm_assoc ..)
      have hne : ∀ a ∈ pre ++ post, H1 a ≠ none := fun a ha => (E.ow a (by
        rw [z1]
        rcases List.mem_append.mp ha with y | y <;> simp [y])).ne
      have rws : RpWs H1 vs ws f := by
        rw [k1, k5]
        have q := RpWs.app k3.own (RpWs.cons rc k4.own)
        rw [List.nil_append, List.append_nil] at q
        exact q
      refine ⟨hm, ws, f, _, rws, (List.nodup_append.mp ndf).1, E.sys, g, fun w os v H' fo fr q ro rw_ P' => ?_⟩
      split at q
      · next e' he =>
        obtain ⟨o, rfl, rfl⟩ := k8 _ _ he
        have hv : (permute [] vs)[l1.length]? = some v0 := by
          show vs[l1.length]? = _
          rw [k1, ← k2]
          simp
        rw [List.filterMap_cons, hv] at ro
        have ro : RpWs H' [v0] [o] fo := ro
        cases ro with
        | @cons _ _ _ _ fa fb ra rb =>
          cases rb
          rw [List.append_nil] at P'
          have E2 := z4 (some v0) (some o) fa P'.ft (P'.keep ndf hne) ⟨v0, rfl, ra⟩
          rw [set_same k7] at E2
          have Pf := P'.frame ndf hne
          have P2 : Post H0 fp H1 (f ++ (pre ++ post)) := P.sm (Sm.perm (by
            rw [z1, List.append_assoc pre]
            exact (List.perm_append_comm_assoc ..)))
          refine k w _ v H' _ fr q E2 rw_.res ((P2.trans Pf).sm (Sm.of_count fun a => ?_))
          simp only [List.count_append]
          omega
      · exact q.elim
end Mn

set_option linter.all false
set_option Elab.async false
set_option maxRecDepth 100000
set_option maxHeartbeats 2000000
/-! Mn: a call, a dict's display. -/
namespace Mn
open PySem PySem.Spec PyProof.Rows L2

section
variable {X : Cx} {C : Ctx} {pos p : Pos} {x : Str} {kws : List Keyword} {es : List Expr} {e : Expr}
theorem kw_names {env : PySem.Env} {pos : Pos} : ∀ {kws : List Keyword} {ks : List Str}, kws.map (·.arg) = ks.map some →
    (backToKw pos (keywordEach kws env)).all (·.1.isSome) = true ∧ (backToKw pos (keywordEach kws env)).filterMap (·.1) = ks ∧ (backToKw pos (keywordEach kws env)).any (·.1.isNone) = false
  | [], [], _ => ⟨rfl, rfl, rfl⟩
  | [], _ :: _, h => by simp at h
  | _ :: _, [], h => by simp at h
  | ⟨nm, e, q⟩ :: kws, k :: ks, h => by
    simp only [List.map_cons, List.cons.injEq] at h
    obtain ⟨rfl, h⟩ := h
    obtain ⟨h1, h2, h3⟩ := kw_names (env := env) (pos := pos) h
    have e0 : backToKw pos (keywordEach (⟨some k, e, q⟩ :: kws) env) = (some k, do let v ← eval e env; standAt pos; pure v) :: backToKw pos (keywordEach kws env) := rfl
    rw [e0]
    exact ⟨by rw [List.all_cons, h1]; rfl, by rw [List.filterMap_cons, h2], by rw [List.any_cons, h3]; rfl⟩
/-- what is known of a def of the table at a call -/
structure FnK (X : Cx) (x : Str) (call : List W → (W → List W → Prop) → Prop) (fd : Fd) (ps : List Str) : Prop where
  ex : ∃ (fa : Addr) (dat : FuncData) (k : Nat), X.mg x = some (.ref fa) ∧ PySem.W.keepIn X.K (.ref fa) = true ∧ Room k X.A ∧ FnG X.prog X.w X.K X.mg X.base k fa dat ps (spC call fd.refs ps.length) ∧
    ∀ (m : Nat) (ks : List Str) (kw : List Nat), BdX ps m ks kw → ∀ (s : Shared) (us ws : List Value), us.length = m → ws.length = ks.length → BindsTo s dat ⟨us, ks.zip ws⟩ (ps.zip (permute kw (us ++ ws)))
theorem w_cal {f : Nat} {fd : Fd} {ps ks : List Str} {args kwa : IL} {kw : List Nat} (F : FnK X x (C.call f) fd ps) (hgd : X.A.guards = some []) (hg : Gl X x) (hdb : (x == ("__debug__" : Str)) = false) (ha : PA X es (tAr args.sh (evA C args))) (hk : PK X kws (tAr kwa.sh (evA C kwa)))
    (hst : starlessAll es = true) (hks : kws.map (·.arg) = ks.map some) (b : BdX ps es.length ks kw) (hn : args.sh.length = es.length) (hn2 : kwa.sh.length = ks.length) (hl : lent kw (args.sh ++ kwa.sh) fd.refs) (hne : es ≠ [] ∨ kws ≠ []) : PE X (.Call (.Name x p) es kws pos) (tW (evE C (.cal f args kwa kw))) := by
  obtain ⟨fa, dat, k, hm, hkeep, hr, G, hb⟩ := F.ex
  obtain ⟨n1, n2, n3⟩ := kw_names (env := X.env) (pos := pos) hks
  have sa := star_any (env := X.env) pos hst
  refine ⟨fun pins s σ H Q I h => ?_⟩
  obtain ⟨env, fp, Qe, E, nd, g, kk⟩ := h
  -- behind the arguments
  have fin : ∀ (us ws : List Value) (vs zs : List V) (H2 : Hp) (s2 : Shared) (as bs : List Arg) (e2 : Env) (fe2 : List Addr), L2.Inv X pins σ H2 s2 → Vals vs us → Vals zs ws → ArgsOk H2 σ vs as → ArgsOk H2 σ zs bs → as.map Arg.sh = args.sh → bs.map Arg.sh = kwa.sh → EOk H2 σ e2 fe2 → Post H fp H2 fe2 →
      (match lend e2 (as ++ bs) with
        | some ws => C.call f (permute kw ws) fun w os => match taken e2 (as ++ bs) os with
          | some e' => Qe w e'
          | none => False
        | none => False) → wpAny (model X.prog X.w) X.A (call (.ref fa) us (ks.zip ws)) (EP X pins σ Q) X.xe s2 := by
    intro us ws vs zs H2 s2 as bs e2 fe2 I2 r1 r2 A1 A2 h1 h2 E2 P2 g2
    have lu : us.length = es.length := by rw [← r1.length, A1.length, ← hn, ← h1, List.length_map]
    have lw : ws.length = ks.length := by rw [← r2.length, A2.length, ← hn2, ← h2, List.length_map]
    have r := Vals.permute (r1.append r2) kw
    have hps : (permute kw (vs ++ zs)).length = ps.length := by
      have : (permute kw (us ++ ws)).length = ps.length := by
        have q := (bind_x (x := x) (qual := x) (body := []) (scope := X.env.scope) (kV := .none) (doc := .none) (pm := .none) (cdv := .none) (ct := .none) (an := none) (as := ps.map fun n => ⟨n, none, pos⟩) (by rw [List.map_map]; exact List.map_id' ps) b lu lw).2
        exact q
      rw [r.length, this]
    exact runG (args := ⟨us, ks.zip ws⟩) G hr hgd (hb _ ks kw b s2 us ws lu lw) I2 r (call_mk E2 P2 (A1.app A2) (by rw [List.map_append, h1, h2]; exact hl) hps g2 kk)
  refine wpAny_Call_Name_kw (ld_glob I hg hm ?_ hdb)
  have tail : ∀ (us : List Value) (vs : List V) (as : List Arg) (e1 : Env) (H1 : Hp) (s1 : Shared) (fe1 : List Addr), L2.Inv X pins σ H1 s1 → Vals vs us → ArgsOk H1 σ vs as → as.map Arg.sh = args.sh → EOk H1 σ e1 fe1 → Post H fp H1 fe1 →
      (evA C kwa e1 fun bs e => match lend e (as ++ bs) with
        | some ws => C.call f (permute kw ws) fun w os => match taken e (as ++ bs) os with
          | some e' => Qe w e'
          | none => False
        | none => False) → wpAny (model X.prog X.w) X.A (evalAll ((backToKw pos (keywordEach kws X.env)).map (·.2))) (fun ws s2 => X.K.In s2.heap ∧ wpAny (model X.prog X.w) X.A (call (.ref fa) us (((backToKw pos (keywordEach kws X.env)).filterMap (·.1)).zip ws)) (EP X pins σ Q) X.xe s2) X.xe s1 := by
    intro us vs as e1 H1 s1 fe1 I1 r1 A1 h1 E1 P1 g1
    refine thn (hk.run pos pins s1 σ H1 (fun zs H2 => ∃ bs e2 fe2, ArgsOk H2 σ zs bs ∧ bs.map Arg.sh = kwa.sh ∧ EOk H2 σ e2 fe2 ∧ Post H fp H2 fe2 ∧ ArgsOk H2 σ vs as ∧ (match lend e2 (as ++ bs) with
        | some ws => C.call f (permute kw ws) fun w os => match taken e2 (as ++ bs) os with
          | some e' => Qe w e'
          | none => False
        | none => False)) I1 ⟨e1, fe1, _, E1, P1.nd, g1, fun bs e2 zs H2 fe2 q E2 A P2 hs => ⟨bs, e2, fe2, A, hs, E2, P1.trans P2, A1.mono P2.ft, q⟩⟩) fun ws s2 ⟨zs, H2, I2, rz, bs, e2, fe2, A2, h2, E2, P2, A1', g2⟩ => ⟨I2.kIn, ?_⟩
    rw [n2]
    exact fin us ws vs zs H2 s2 as bs e2 fe2 I2 r1 rz A1' A2 h1 h2 E2 P2 g2
  cases es with
  | nil =>
    have hkn : kws ≠ [] := hne.resolve_left fun z => z rfl
    refine PySem.W.callWith_KW0 (h₀ := X.base) I.ok.mod.kin hkeep n1 ?_ (by rw [n3]; rfl)
    have ae : args = .nil := by
      cases args with
      | nil => rfl
      | cons _ _ => simp [IL.sh] at hn
      | ref _ _ => simp [IL.sh] at hn
    subst ae
    exact tail [] [] [] env H s fp I .nil .nil rfl E (Post.refl nd) g
  | cons e es =>
    have he : starless e = true := by simp [starlessAll] at hst; exact hst.1
    refine PySem.W.callWith_KW (h₀ := X.base) I.ok.mod.kin hkeep n1 ?_ (by rw [n3, sa]; rfl) (star_cons he)
    refine thn (ha.run pos pins s σ H (fun vs H1 => ∃ as e1 fe1, ArgsOk H1 σ vs as ∧ as.map Arg.sh = args.sh ∧ EOk H1 σ e1 fe1 ∧ Post H fp H1 fe1 ∧ (evA C kwa e1 fun bs e => match lend e (as ++ bs) with
        | some ws => C.call f (permute kw ws) fun w os => match taken e (as ++ bs) os with
          | some e' => Qe w e'
          | none => False
        | none => False)) I ⟨env, fp, _, E, nd, g, fun as e1 vs H1 fe q E1 A P hs => ⟨as, e1, fe, A, hs, E1, P, q⟩⟩) fun us s1 ⟨vs, H1, I1, r1, as, e1, fe1, A1, h1, E1, P1, g1⟩ => ?_
    exact tail us vs as e1 H1 s1 fe1 I1 r1 A1 h1 E1 P1 g1
/-! ### {"k": v, ..} -/
def keyE : Sum Int Str → Option Expr → Bool
  | .inl i, some (.Constant (.int j) _ _) => decide (i = j)
  | .inr s, some (.Constant (.str t) _ _) => decide (s = t)
  | _, _ => false
theorem key_pe {k : Key} {o : Option Expr} (h : keyE k o = true) : ∃ e, o = some e ∧ PE X e (tC (kV k)) := by
  unfold keyE at h
  split at h
  · have := of_decide_eq_true h; subst this; exact ⟨_, rfl, pe_int⟩
  · have := of_decide_eq_true h; subst this; exact ⟨_, rfl, pe_str⟩
  · cases h
theorem merge_id : ∀ (kvs acc : List (Key × V)), ((acc ++ kvs).map (·.1)).Nodup → mergeK acc kvs = acc ++ kvs
  | [], acc, _ => by simp [mergeK]
  | p :: kvs, acc, nd => by
    have e : L2.putK acc p.1 p.2 = acc ++ [p] := by
      refine putK_new p.2 ?_
      cases z : valV acc p.1 with
      | none => rfl
      | some v =>
        exfalso
        have := valV_any p.1 acc
        rw [z] at this
        obtain ⟨q, hq, hd⟩ := List.any_eq_true.mp this
        have hd := of_decide_eq_true hd
        rw [List.map_append, List.nodup_append] at nd
        exact nd.2.2 q.1 (List.mem_map.mpr ⟨q, hq, rfl⟩) p.1 (by simp) hd
    show mergeK (L2.putK acc p.1 p.2) kvs = _
    rw [e, merge_id kvs (acc ++ [p]) (by rw [List.append_assoc]; exact nd), List.append_assoc]
    rfl
def noIf : Expr → Bool
  | .IfExp .. => false
  | _ => true
/-- a list of expressions -/
inductive EsOk (X : Cx) (C : Ctx) : List Expr → IL → Prop
  | nil : EsOk X C [] .nil
  | cons {e : Expr} {ie : IE} {es : List Expr} {r : IL} : PE X e (tW (evE C ie)) → (noIf e = true → PT X e (tB' (evE C ie))) → starless e = true → EsOk X C es r → EsOk X C (e :: es) (.cons ie r)
  | ref {x : Str} {p : Pos} {i : Nat} {es : List Expr} {r : IL} : X.N[i]? = some x → Vis X.env.scope x → (x == ("__debug__" : Str)) = false → (x == ("__classdict__" : Str)) = false → EsOk X C es r → EsOk X C (.Name x p :: es) (.ref i r)
theorem EsOk.l {il : IL} (h : EsOk X C es il) : PA X es (tL (evF C il)) := by
  induction h with
  | nil => exact l_nil
  | cons ha _ hs _ ih => exact l_cons ha ih hs
  | ref _ _ _ _ _ _ => exact ⟨fun pos pins s σ H Q I ⟨env, fp, Qe, E, nd, g, k⟩ => g.elim⟩
theorem EsOk.m {il : IL} (h : EsOk X C es il) : PA X es (tLM (evM C il)) := by
  induction h with
  | nil => exact lm_nil
  | cons ha _ hs _ ih => exact lm_cons ha ih hs
  | ref _ _ _ _ _ _ => exact ⟨fun pos pins s σ H Q I ⟨env, fp, Qe, E, nd, g, k⟩ => g.elim⟩
theorem EsOk.a {il : IL} (h : EsOk X C es il) : PA X es (tAr il.sh (evA C il)) := by
  induction h with
  | nil => exact a_nil
  | cons ha _ hs _ ih => exact a_cons ha ih hs
  | ref h1 h2 h3 h4 _ ih => exact a_ref h1 h2 h3 h4 ih
theorem EsOk.k {il : IL} (h : EsOk X C es il) : ∀ {kws : List Keyword}, kws.map (·.value) = es → PK X kws (tAr il.sh (evA C il)) := by
  induction h with
  | nil =>
    intro kws hk
    cases kws with
    | nil => exact k_nil
    | cons _ _ => simp at hk
  | cons ha _ hs _ ih =>
    intro kws hk
    cases kws with
    | nil => simp at hk
    | cons kw kws =>
      simp only [List.map_cons, List.cons.injEq] at hk
      obtain ⟨nm, e, q⟩ := kw
      obtain ⟨rfl, hk⟩ := hk
      exact k_cons ha (ih hk)
  | ref h1 h2 h3 h4 _ ih =>
    intro kws hk
    cases kws with
    | nil => simp at hk
    | cons kw kws =>
      simp only [List.map_cons, List.cons.injEq] at hk
      obtain ⟨nm, e, q⟩ := kw
      obtain ⟨he, hk⟩ := hk
      have he : e = _ := he
      subst he
      exact pk_imp (pk_cons (pe_var h1 h2 h3 h4) (ih hk)) fun _ _ _ => ar_ref id
theorem EsOk.len {il : IL} (h : EsOk X C es il) : il.sh.length = es.length := by
  induction h with
  | nil => rfl
  | cons _ _ _ _ ih => simp only [IL.sh, List.length_cons, ih]
  | ref _ _ _ _ _ ih => simp only [IL.sh, List.length_cons, ih]
theorem EsOk.stars {il : IL} (h : EsOk X C es il) : starlessAll es = true := by
  induction h with
  | nil => rfl
  | cons _ _ hs _ ih => simp only [starlessAll, List.all_cons, hs, Bool.true_and]; exact ih
  | ref _ _ _ _ _ ih => simp only [starlessAll, List.all_cons, starless, Bool.true_and]; exact ih
def tDv (ks : List Key) (ev : Env → (List W → Env → Prop) → Prop) (σ : Sg) (H : Hp) (Q : List (V × V) → Hp → Prop) : Prop := ∃ (env : Env) (fp : List Addr) (Qe : List W → Env → Prop), EOk H σ env fp ∧ fp.Nodup ∧ ev env Qe ∧
  ∀ ws env' vs H' fe fw, Qe ws env' → EOk H' σ env' fe → RpWs H' vs ws fw → Post H fp H' (fe ++ fw) → vs.length = ks.length → Q ((ks.zip vs).map fun kv => (kV kv.1, kv.2)) H'
def keysOk : List (Sum Int Str) → List (Option Expr) → Bool
  | [], [] => true
  | k :: ks, e :: es => keyE k e && keysOk ks es
  | _, _ => false
theorem EsOk.pairs {il : IL} (h : EsOk X C es il) : ∀ {ks : List Key} {keys : List (Option Expr)}, keysOk ks keys = true → keys.length = es.length → ∃ trs, PPs X pos keys es trs ∧ ∀ σ H Q, tDv ks (evM C il) σ H Q → tPairs trs σ H Q := by
  induction h with
  | nil =>
    intro ks keys hk hl
    cases keys with
    | nil =>
      cases ks with
      | nil => exact ⟨[], pps_nil, fun σ H Q ⟨env, fp, Qe, E, nd, g, k⟩ => k [] env [] H fp [] g E .nil (by rw [List.append_nil]; exact Post.refl nd) rfl⟩
      | cons _ _ => cases hk
    | cons _ _ => simp at hl
  | cons ha _ hs _ ih =>
    intro ks keys hk hl
    cases keys with
    | nil => simp at hl
    | cons ke keys =>
      cases ks with
      | nil => cases hk
      | cons k ks =>
        simp only [keysOk, Bool.and_eq_true] at hk
        obtain ⟨e0, rfl, hke⟩ := key_pe (X := X) hk.1
        obtain ⟨trs, ht, hw⟩ := ih hk.2 (by simpa using hl)
        refine ⟨_, pps_cons hke (pe_mv ha) ht, fun σ H Q ⟨env, fp, Qe, E, nd, g, kk⟩ => ?_⟩
        refine ⟨env, fp, fun x e2 => evM C _ e2 fun xs e3 => Qe (x :: xs) e3, E, nd, g, fun x e2 v H1 fe fw g E1 R P => hw _ _ _ ?_⟩
        refine ⟨e2, fe, _, E1, P.envOf.nd, g, fun xs e3 vs H2 fe2 fw2 g2 E2 R2 P2 hl2 => ?_⟩
        have ne : ∀ a ∈ fw, H1 a ≠ none := fun a ha => (R.ow a ha).ne
        have kp := P2.keep P.nd ne
        have P3 : Post H fp H2 (fe2 ++ fw2 ++ fw) := P.trans (P2.frame P.nd ne)
        exact kk (x :: xs) e3 (v :: vs) H2 fe2 (fw ++ fw2) g2 E2 (.cons (R.mono P2.ft kp) R2) (P3.sm (Sm.of_count fun a => by simp only [List.count_append]; omega)) (by simp [hl2])
  | ref _ _ _ _ _ ih =>
    intro ks keys hk hl
    cases keys with
    | nil => simp at hl
    | cons ke keys =>
      cases ks with
      | nil => cases hk
      | cons k ks =>
        simp only [keysOk, Bool.and_eq_true] at hk
        obtain ⟨e0, rfl, hke⟩ := key_pe (X := X) hk.1
        obtain ⟨trs, ht, hw⟩ := ih hk.2 (by simpa using hl)
        exact ⟨_, pps_cons hke (⟨fun _ _ _ _ _ _ q => q.elim⟩ : PE X _ (fun _ _ _ => False)) ht, fun σ H Q ⟨env, fp, Qe, E, nd, g, kk⟩ => g.elim⟩
theorem w_dct {ks : List (Sum Int Str)} {keys : List (Option Expr)} {il : IL} (h : EsOk X C es il) (hk : keysOk ks keys = true) (hl : keys.length = es.length) (h0 : keys ≠ []) (h15 : keys.length ≤ 15) : PE X (.Dict keys es pos) (tW (evE C (.dct ks il))) := by
  obtain ⟨trs, ht, hw⟩ := h.pairs (pos := pos) hk hl
  have some_ : ∀ {ks : List (Sum Int Str)} {keys : List (Option Expr)}, keysOk ks keys = true → keys.all (·.isSome) = true ∧ ks.length = keys.length := by
    intro ks
    induction ks with
    | nil => intro keys q; cases keys with | nil => exact ⟨rfl, rfl⟩ | cons _ _ => cases q
    | cons k ks ih =>
      intro keys q
      cases keys with
      | nil => cases q
      | cons o keys =>
        simp only [keysOk, Bool.and_eq_true] at q
        obtain ⟨e, rfl, _⟩ := key_pe (X := X) q.1
        obtain ⟨a, b⟩ := ih q.2
        exact ⟨by rw [List.all_cons, a]; rfl, by simp [b]⟩
  obtain ⟨hall, hlk⟩ := some_ hk
  refine pe_imp (pe_disp ht hall hl h0 h15) fun σ H Q ⟨env, fp, Qe, E, nd, g, k⟩ p np => hw _ _ _ ?_
  have E0 := E.new (o := .dK []) np
  refine ⟨env, fp, _, E0, nd, g, fun ws e1 vs H2 fe fw q E1 R P hlv => ?_⟩
  obtain ⟨q1, q2, q3, q⟩ := q
  have np' : ∀ a ∈ fp, a ≠ p := fun a ha e => (E.ow a ha).ne (by rw [e]; exact np)
  have hp : H2 p = some (.dK []) := P.fr p _ upd_same fun z => np' p z rfl
  refine ⟨hp, ks.zip vs, rfl, by rw [List.length_zip]; omega, ?_⟩
  have m1 : (ks.zip vs).map (·.1) = ks := by
    rw [List.map_fst_zip]
    omega
  have m2 : (ks.zip vs).map (·.2) = vs := by
    rw [List.map_snd_zip]
    omega
  rw [merge_id _ [] (by rw [List.nil_append, m1]; exact q3), List.nil_append]
  have Pn : Post H fp (upd H p (.dK [])) (fp ++ [p]) := Post.new nd (fun a ha => (E.ow a ha).ne) np
  have Pf := P.frame (g := [p]) Pn.nd (fun a ha => by rw [List.mem_singleton.mp ha, upd_same]; exact fun z => nomatch z)
  have P2 := (Pn.trans Pf)
  have pm : p ∈ fe ++ fw ++ [p] := by simp
  have op : Ow (H2 p) := by rw [hp]; trivial
  obtain ⟨ft, ot⟩ := Post.same (o := .dK (ks.zip vs)) P2.nd pm op
  have c := P2.nd
  rw [List.nodup_append] at c
  have nb : ∀ a ∈ fe ++ fw, a ≠ p := fun a ha e => c.2.2 a ha p (List.mem_singleton.mpr rfl) e
  have P3 := P2.trans (Post.put (o := .dK (ks.zip vs)) P2.nd pm op)
  have ek : ∀ k : Sum Int Str, (match k with | .inl i => PyData.int i | .inr s => PyData.str s) = keyPD k := fun k => by cases k <;> rfl
  refine k _ e1 _ _ fe (p :: fw) q (E1.mono ft fun a ha => ot a (nb a (List.mem_append_left _ ha))) (RpW.od (E.sys.ne np) upd_same (by
    rw [m2]
    exact R.mono ft fun a ha => ot a (nb a (List.mem_append_right _ ha))) (by
      have : ((ks.zip vs).map fun kv => keyPD kv.1) = ((ks.zip vs).map (·.1)).map keyPD := by rw [List.map_map]; rfl
      rw [this, m1]
      exact List.map_congr_left fun k _ => ek k) (by rw [m1]; exact q3)) (P3.sm (Sm.of_count fun a => by simp only [List.count_append, List.count_cons, List.count_nil]; omega))
theorem w_dct0 {pos : Pos} : PE X (.Dict [] [] pos) (tW (evE C (.dct [] .nil))) := by
  refine pe_imp pe_dnewK fun σ H Q ⟨env, fp, Qe, E, nd, g, k⟩ p np => ?_
  simp only [evE, evM] at g
  obtain ⟨_, _, _, q⟩ := g
  exact k _ env _ _ fp [p] q (E.new np) (RpW.od (E.sys.ne np) upd_same .nil rfl List.nodup_nil) (Post.new nd (fun a ha => (E.ow a ha).ne) np)
end
end Mn

set_option linter.all false
set_option Elab.async false
set_option maxRecDepth 100000
set_option maxHeartbeats 2000000
/-! Mn: the check of a term against a syntax tree. -/
namespace Mn
open PySem PySem.Spec PyProof.Rows L2

/-- what is fixed of a table and of a def in it -/
structure Gt where
  N : List Str
  fns : List (Str × List Str)
  tb : List Fd
  blt : List Str
  gl : List (Str × Value)
abbrev FnB := Str → Bool
def visC (sc : Scope) (x : Str) : Bool := match sc.names.lookup x with
  | some .local => true
  | some .cell => true
  | some .free => true
  | _ => false
def glC (sc : Scope) (x : Str) : Bool := decide (sc.names.lookup x = some .globalImplicit)
def hidC (x : Str) : Bool := !(x == ("__debug__" : Str)) && !(x == ("__classdict__" : Str))
def nvC (G : Gt) (sc : Scope) (x : Str) (i : Nat) : Bool := decide (G.N[i]? = some x) && visC sc x && hidC x
def nmC (G : Gt) (sc : Scope) (fn : FnB) (x : Str) (i : Nat) : Bool := decide (G.N[i]? = some x) && (match sc.names.lookup x with
  | some .local => true
  | some .cell => fn x
  | _ => false)
def freeC (G : Gt) (sc : Scope) (x : Str) : Bool := glC sc x && decide (x ∈ G.blt)
def nmsC (G : Gt) (sc : Scope) (fn : FnB) : List Expr → List Nat → Bool
  | [], [] => true
  | .Name x _ :: es, i :: is => nmC G sc fn x i && nmsC G sc fn es is
  | _, _ => false
def tgC (G : Gt) (sc : Scope) (fn : FnB) : Tg → Expr → Bool
  | .nm i, .Name x _ => nmC G sc fn x i
  | .tp is, .Tuple es _ _ => nmsC G sc fn es is
  | _, _ => false
def plainC : Expr → Bool
  | .Slice .. => false
  | .Tuple .. => false
  | _ => true
def notSet : Expr → Bool
  | .Set .. => false
  | _ => true
def ownN (G : Gt) (own : List Nat) : List (Str × Nat) := own.filterMap fun i => (G.N[i]?).map fun x => (x, i)
def blkFn (scope : Scope) : FnB := fun x => scope.names.lookup x == some .cell
def yesC : IE → List Expr → Bool
  | .cB true, [] => true
  | _, _ => false
def eqBo (o : Bo) (p : Operator) : Bool := decide (o.op = p)
def eqCo (o : Co) (p : CmpOp) : Bool := decide (o.op = p)
/-- expressions without effect -/
def chkP (G : Gt) (sc : Scope) : IE → Expr → Bool
  | .var i, .Name x _ => nvC G sc x i
  | .cI n, .Constant (.int m) _ _ => decide (n = m)
  | .bin o a b, .BinOp ea p eb _ => eqBo o p && chkP G sc a ea && chkP G sc b eb
  | .b2 f a b, .Call (.Name x _) [ea, eb] [] _ => decide (x = f.name) && freeC G sc x && !decide (f.name = "gcd") && starless ea && starless eb && chkP G sc a ea && chkP G sc b eb
  | _, _ => false
/-- what may be frozen at once -/
def fzC : Expr → Bool
  | .Call .. => true
  | .List .. => true
  | .Dict .. => true
  | .Subscript .. => true
  | .Name .. => true
  | .IfExp .. => true
  | .BinOp .. => true
  | _ => false
mutual
def chkE (G : Gt) : IE → Scope → FnB → Expr → Bool
  | .var i, sc, _, .Name x _ => nvC G sc x i
  | .frz i, sc, _, .Name x _ => nvC G sc x i
  | .cI n, _, _, .Constant (.int m) _ _ => decide (n = m)
  | .cS s, _, _, .Constant (.str t) _ _ => decide (s = t)
  | .cB b, _, _, .Constant (.bool c) _ _ => decide (b = c)
  | .cN, _, _, .Constant .none _ _ => true
  | .bin o a b, sc, fn, .BinOp ea p eb _ => eqBo o p && chkE G a sc fn ea && chkE G b sc fn eb
  | .repL a b, sc, fn, .BinOp ea p eb _ => decide (p = .Mult) && chkE G a sc fn ea && chkE G b sc fn eb
  | .neg a, sc, fn, .UnaryOp .USub ea _ => chkE G a sc fn ea
  | .notv a, sc, fn, .UnaryOp .Not ea _ => chkE G a sc fn ea && noIf ea
  | .cmp o a b, sc, fn, .Compare ea [p] [eb] _ => eqCo o p && !behindInMarks p eb && chkE G a sc fn ea && chkE G b sc fn eb
  | .cmp2 o o' a b c, sc, fn, .Compare ea [p, p'] [eb, ec] _ => eqCo o p && eqCo o' p' && !lastMarks [p, p'] [eb, ec] && chkE G a sc fn ea && chkE G b sc fn eb && chkE G c sc fn ec
  | .isN false a, sc, fn, .Compare ea [.Is] [.Constant .none _ _] _ => chkE G a sc fn ea
  | .isN true a, sc, fn, .Compare ea [.IsNot] [.Constant .none _ _] _ => chkE G a sc fn ea
  | .andv es, sc, fn, .BoolOp .And vs _ => chkL G es sc fn vs && vs.all noIf && !vs.isEmpty
  | .orv es, sc, fn, .BoolOp .Or vs _ => chkL G es sc fn vs && vs.all noIf && !vs.isEmpty
  | .ife t a b, sc, fn, .IfExp et ea eb _ => chkE G t sc fn et && noIf et && chkE G a sc fn ea && chkE G b sc fn eb
  | .tup es, sc, fn, .Tuple vs _ _ => chkL G es sc fn vs
  | .lst es, sc, fn, .List vs _ => chkL G es sc fn vs
  | .dct ks es, sc, fn, .Dict keys vs _ => chkL G es sc fn vs && keysOk ks keys && decide (keys.length = vs.length) && decide (keys.length ≤ 15)
  | .idx a b, sc, fn, .Subscript ea eb _ => plainC eb && chkE G a sc fn ea && chkE G b sc fn eb
  | .pth i k j, sc, _, .Subscript (.Subscript (.Name x _) ek _) ej _ => nvC G sc x i && plainC ek && plainC ej && chkP G sc k ek && chkP G sc j ej
  | .getK i k, sc, _, .Subscript (.Name x _) (.Constant (.str t) _ _) _ => nvC G sc x i && decide (k = t)
  | .neK i k, sc, _, .Compare (.Subscript (.Name x _) (.Constant (.str t) _ _) _) [.NotEq] [.List [] _] _ => nvC G sc x i && decide (k = t)
  | .slc a lo hi, sc, fn, .Subscript ea (.Slice (some el) (some eh) none _) _ => chkE G a sc fn ea && chkE G lo sc fn el && chkE G hi sc fn eh
  | .slcL a lo, sc, fn, .Subscript ea (.Slice (some el) none none _) _ => chkE G a sc fn ea && chkE G lo sc fn el
  | .slcH a hi, sc, fn, .Subscript ea (.Slice none (some eh) none _) _ => chkE G a sc fn ea && chkE G hi sc fn eh
  | .slcA a, sc, fn, .Subscript ea (.Slice none none none _) _ => chkE G a sc fn ea
  | .rev a, sc, fn, .Subscript ea (.Slice none none (some (.UnaryOp .USub (.Constant (.int n) _ _) _)) _) _ => decide (n = 1) && chkE G a sc fn ea
  | .b1 f a, sc, fn, .Call (.Name x _) [ea] [] _ => decide (x = f.name) && (if f.name = "isqrt" then decide ((("isqrt" : Str), Value.builtin "math.isqrt") ∈ G.gl) && glC sc x else freeC G sc x) && starless ea && chkE G a sc fn ea
  | .b2 f a b, sc, fn, .Call (.Name x _) [ea, eb] [] _ => decide (x = f.name) && (if f.name = "gcd" then decide ((("gcd" : Str), Value.builtin "math.gcd") ∈ G.gl) && glC sc x else freeC G sc x) && starless ea && starless eb && chkE G a sc fn ea && chkE G b sc fn eb
  | .isi a t, sc, fn, .Call (.Name x _) [ea, .Name y _] [] _ => decide (x = "isinstance") && freeC G sc x && freeC G sc y && decide (y = t.nm) && starless ea && chkE G a sc fn ea
  | .cal f args kwa kw, sc, fn, .Call (.Name x _) es kws _ => (match G.fns[f]?, G.tb[f]? with
    | some (y, ps), some fd => decide (x = y) && glC sc x && hidC x && chkL G args sc fn es && chkL G kwa sc fn (kws.map (·.value)) && kws.all (·.arg.isSome) && bdXC ps es.length (kws.filterMap (·.arg)) kw && lentC kw (args.sh ++ kwa.sh) fd.refs && (!es.isEmpty || !kws.isEmpty)
    | _, _ => false)
  | .lc _ own tg src ifs elt, sc, fn, .ListComp el [⟨t, it, fs, a⟩] scope _ => decide (a = 0) && blkC G.N sc scope (ownN G own) && decide ((ownN G own).map (·.2) = own) && (tg.slots.all fun i => decide (i ∈ own)) && tgC G (relS scope sc) (blkFn scope) tg t && notSet it && chkI G src sc fn t it &&
      (yesC ifs fs || (match fs with | [c] => chkE G ifs (relS scope sc) (blkFn scope) c && noIf c | _ => false)) && chkE G elt (relS scope sc) (blkFn scope) el
  | .lc2 _ own own1 tg src tg1 src1 elt, sc, fn, .ListComp el [⟨t, it, [], a⟩, ⟨t1, it1, [], a1⟩] scope _ => decide (a = 0) && decide (a1 = 0) && blkC G.N sc scope (ownN G own) && decide ((ownN G own).map (·.2) = own) && (tg.slots.all fun i => decide (i ∈ own)) && (tg1.slots.all fun i => decide (i ∈ own1)) && (own1.all fun i => decide (i ∈ own)) &&
      tgC G (relS scope sc) (blkFn scope) tg t && tgC G (relS scope sc) (blkFn scope) tg1 t1 && notSet it && notSet it1 && chkI G src sc fn t it && chkI G src1 (relS scope sc) (blkFn scope) t1 it1 && chkE G elt (relS scope sc) (blkFn scope) el
  | .popS i, sc, _, .Call (.Attribute (.Name x _) at_ apos) [] [] cpos => decide (at_ = "pop") && nvC G sc x i && (apos.endLine == cpos.line)
  | .popI i a, sc, fn, .Call (.Attribute (.Name x _) at_ apos) [ea] [] cpos => decide (at_ = "pop") && nvC G sc x i && (apos.endLine == cpos.line) && starless ea && chkE G a sc fn ea
  | .popK i k, sc, _, .Call (.Attribute (.Subscript (.Name x _) (.Constant (.str t) _ _) _) at_ apos) [] [] cpos => decide (at_ = "pop") && nvC G sc x i && decide (k = t) && (apos.endLine == cpos.line)
  | .upr i, sc, _, .Call (.Attribute (.Name x _) at_ apos) [] [] cpos => decide (at_ = "upper") && nvC G sc x i && (apos.endLine == cpos.line)
  | .fzE a, sc, fn, e => fzC e && chkE G a sc fn e
  | _, _, _, _ => false
def chkL (G : Gt) : IL → Scope → FnB → List Expr → Bool
  | .nil, _, _, [] => true
  | .cons e r, sc, fn, x :: xs => starless x && chkE G e sc fn x && chkL G r sc fn xs
  | .ref i r, sc, fn, .Name x _ :: xs => nvC G sc x i && chkL G r sc fn xs
  | _, _, _, _ => false
def chkI (G : Gt) : II → Scope → FnB → Expr → Expr → Bool
  | .rng1 a, sc, fn, _, .Call (.Name x _) [ea] [] _ => decide (x = "range") && freeC G sc x && starless ea && chkE G a sc fn ea
  | .rng2 a b, sc, fn, _, .Call (.Name x _) [ea, eb] [] _ => decide (x = "range") && freeC G sc x && starless ea && starless eb && chkE G a sc fn ea && chkE G b sc fn eb
  | .seq a, sc, fn, _, ea => chkE G a sc fn ea
  | .enm a, sc, fn, .Tuple _ _ _, .Call (.Name x _) [ea] [] _ => decide (x = "enumerate") && freeC G sc x && starless ea && chkE G a sc fn ea
  | .zip a b, sc, fn, .Tuple _ _ _, .Call (.Name x _) [ea, eb] [] _ => decide (x = "zip") && freeC G sc x && starless ea && starless eb && chkE G a sc fn ea && chkE G b sc fn eb
  | _, _, _, _, _ => false
end
end Mn

set_option linter.all false
set_option Elab.async false
set_option maxRecDepth 100000
set_option maxHeartbeats 4000000
/-! Mn: the check is right: expressions. -/
namespace Mn
open PySem PySem.Spec PyProof.Rows L2

structure Gx (G : Gt) (C : Ctx) (sc : Scope) (fn : FnB) (X : Cx) : Prop where
  hN : X.N = G.N
  hsc : X.env.scope = sc
  nd : X.N.Nodup
  calm : X.calm = true
  gd : X.A.guards = some []
  un : X.A.units + 200 < cLine
  hfn : X.fn = fn
  kind : sc.kind = .function
  xe : X.xe = fun _ _ => False
  blt : ∀ x ∈ G.blt, X.mg x = none
  gl : ∀ q ∈ G.gl, X.mg q.1 = some q.2
  fns : ∀ (f : Nat) (x : Str) (ps : List Str) (fd : Fd), G.fns[f]? = some (x, ps) → G.tb[f]? = some fd → FnK X x (C.call f) fd ps
def isLC : Expr → Bool
  | .ListComp .. => true
  | _ => false
structure EOut (X : Cx) (C : Ctx) (e : Expr) (ie : IE) : Prop where
  pe : PE X e (tW (evE C ie))
  pt : noIf e = true → PT X e (tB' (evE C ie))
  lc : isLC e = true → ∀ (R : List Nat) (y : Str) (i : Nat) (py pos : Pos), NmOk X y i → X.env.scope.names.lookup y = some .local → i ∉ R → swapsWith e (some (.Name y py)) pos.line X.env = pure true → PS X (.Assign [.Name y py] e pos) (tSt R (evS C (.set i ie)))
section
variable {G : Gt} {C : Ctx} {sc : Scope} {fn : FnB} {X : Cx}
theorem EOut.of {e : Expr} {ie : IE} (h : PE X e (tW (evE C ie))) (ht : noIf e = true → ∀ whole, isTrue e X.env whole = (do let v ← whole; standAt e.pos; holding [v] (truthy v))) (hl : isLC e = false) : EOut X C e ie :=
  ⟨h, fun n => t_val h (ht n), fun z => by rw [hl] at z; cases z⟩
theorem EOut.of2 {e : Expr} {ie : IE} (h : PE X e (tW (evE C ie))) (ht : PT X e (tB' (evE C ie))) (hl : isLC e = false) : EOut X C e ie := ⟨h, fun _ => ht, fun z => by rw [hl] at z; cases z⟩
theorem vis_of {x : Str} (h : visC sc x = true) : Vis sc x := by
  unfold visC at h
  split at h
  · exact .inl (by assumption)
  · exact .inr (.inl (by assumption))
  · exact .inr (.inr (by assumption))
  · cases h
theorem nv_of (g : Gx G C sc fn X) {x : Str} {i : Nat} (h : nvC G sc x i = true) : X.N[i]? = some x ∧ Vis X.env.scope x ∧ (x == ("__debug__" : Str)) = false ∧ (x == ("__classdict__" : Str)) = false := by
  unfold nvC hidC at h
  simp only [Bool.and_eq_true, decide_eq_true_eq, Bool.not_eq_true'] at h
  exact ⟨by rw [g.hN]; exact h.1.1, by rw [g.hsc]; exact vis_of h.1.2, h.2.1, h.2.2⟩
theorem nm_of (g : Gx G C sc fn X) {x : Str} {i : Nat} (h : nmC G sc fn x i = true) : NmOk X x i := by
  unfold nmC at h
  simp only [Bool.and_eq_true, decide_eq_true_eq] at h
  obtain ⟨h1, h2⟩ := h
  split at h2
  · exact ⟨by rw [g.hN]; exact h1, by rw [g.hsc]; exact .inl (by assumption), by rw [g.hsc]; exact .inr (by assumption)⟩
  · exact ⟨by rw [g.hN]; exact h1, by rw [g.hsc]; exact .inr (by assumption), by rw [g.hfn]; exact .inl h2⟩
  · cases h2
theorem gl_of (g : Gx G C sc fn X) {x : Str} (h : glC sc x = true) : Gl X x := by
  have := of_decide_eq_true h
  show X.env.scope.names.lookup x = _
  rw [g.hsc]
  exact this
theorem free_of (g : Gx G C sc fn X) {x : Str} (h : freeC G sc x = true) : Gl X x ∧ X.mg x = none := by
  unfold freeC at h
  simp only [Bool.and_eq_true, decide_eq_true_eq] at h
  exact ⟨gl_of g h.1, g.blt x h.2⟩
theorem nms_of (g : Gx G C sc fn X) : ∀ {es : List Expr} {is : List Nat}, nmsC G sc fn es is = true → NmsOk X es is
  | [], [], _ => .nil
  | [], _ :: _, h => by cases h
  | e :: es, [], h => by cases e <;> simp [nmsC] at h
  | e :: es, i :: is, h => by
    cases e <;> simp only [nmsC, Bool.false_eq_true] at h
    simp only [Bool.and_eq_true] at h
    exact .cons (nm_of g h.1) (nms_of g h.2)
theorem tg_of (g : Gx G C sc fn X) {t : Tg} {e : Expr} (h : tgC G sc fn t e = true) : PG X e (tG t) := by
  unfold tgC at h
  split at h
  · exact g_nm g.nd (nm_of g h)
  · exact g_tp g.nd g.calm (nms_of g h)
  · cases h
theorem plain_of {b : Expr} (h : plainC b = true) : PlainIx b := by
  cases b <;> first | exact absurd h Bool.false_ne_true | (intro _ _; rfl)
theorem notset_of {b : Expr} (h : notSet b = true) : ∀ env x, foldedSetIterable b env x = pure x := by
  intro env x
  cases b <;> first | exact absurd h Bool.false_ne_true | rfl
theorem Gx.blk (g : Gx G C sc fn X) (scope : Scope) (hk : scope.kind = .function) (s : Shared) (H : Hp) (D : Addr) (cl : List (Str × Addr)) (fp : List Addr) : Gx G C (relS scope sc) (blkFn scope) (X.blk s H scope (compEnvC scope cl D X.env) fp) where
  hN := g.hN
  hsc := by rw [← g.hsc]; rfl
  nd := g.nd
  calm := g.calm
  gd := g.gd
  un := g.un
  hfn := rfl
  kind := hk
  xe := rfl
  blt := g.blt
  gl := g.gl
  fns := fun f x ps fd h1 h2 => by
    obtain ⟨fa, dat, k, a1, a2, a3, a4, a5⟩ := (g.fns f x ps fd h1 h2).ex
    exact ⟨fa, dat, k, a1, a2, a3, a4, a5⟩
theorem bo_of {o : Bo} {p : Operator} (h : eqBo o p = true) : p = o.op := (of_decide_eq_true h).symm
theorem co_of {o : Co} {p : CmpOp} (h : eqCo o p = true) : p = o.op := (of_decide_eq_true h).symm
theorem chkP_ok (g : Gx G C sc fn X) (k : IE) (e : Expr) (h : chkP G sc k e = true) : PE X e (tP k) := by
  fun_induction chkP G sc k e with
  | case1 i x p =>
    obtain ⟨h1, h2, h3, h4⟩ := nv_of g h
    exact p_var h1 h2 h3 h4
  | case2 n m _ _ =>
    have := of_decide_eq_true h
    subst this
    exact p_int
  | case3 o a b ea p eb _ iha ihb =>
    simp only [Bool.and_eq_true] at h
    rw [bo_of h.1.1]
    exact p_bin (iha h.1.2) (ihb h.2)
  | case4 f a b x _ ea eb _ iha ihb =>
    simp only [Bool.and_eq_true, decide_eq_true_eq, Bool.not_eq_true', decide_eq_false_iff_not] at h
    obtain ⟨⟨⟨⟨⟨⟨rfl, h2⟩, h3⟩, h4⟩, h5⟩, h6⟩, h7⟩ := h
    obtain ⟨a1, a2⟩ := free_of g h2
    exact p_b2 g.calm a1 (by rw [a2, if_neg h3]) (iha h6) (ihb h7) h4 h5
  | case5 => cases h
theorem and_of {vs : List Expr} {es : IL} {pos : Pos} (h : EsOk X C vs es) : vs.all noIf = true → vs ≠ [] → PE X (.BoolOp .And vs pos) (tW (evAnd C es)) ∧ PW X (.BoolOp .And vs pos) (tB' (evAnd C es)) := by
  induction h with
  | nil => intro _ h; exact absurd rfl h
  | @cons e ie es r hp ht hs hr ih =>
    intro ha _
    simp only [List.all_cons, Bool.and_eq_true] at ha
    cases hr with
    | nil => exact ⟨w_and1 hp, t_and1 (ht ha.1)⟩
    | cons a b c d =>
      obtain ⟨i1, i2⟩ := ih ha.2 (by simp)
      exact ⟨w_and hp i1, t_and (ht ha.1) i2⟩
    | ref a b c d f =>
      obtain ⟨i1, i2⟩ := ih ha.2 (by simp)
      exact ⟨w_and hp i1, t_and (ht ha.1) i2⟩
  | ref _ _ _ _ _ _ => exact fun _ _ => ⟨⟨fun pins s σ H Q I ⟨env, fp, Qe, E, nd, g, k⟩ => g.elim⟩, ⟨fun wh pins s σ H Q I ⟨env, fp, Qe, E, nd, g, k⟩ => g.elim⟩⟩
theorem or_of {vs : List Expr} {es : IL} {pos : Pos} (h : EsOk X C vs es) : vs.all noIf = true → vs ≠ [] → PE X (.BoolOp .Or vs pos) (tW (evOr C es)) ∧ PW X (.BoolOp .Or vs pos) (tB' (evOr C es)) := by
  induction h with
  | nil => intro _ h; exact absurd rfl h
  | @cons e ie es r hp ht hs hr ih =>
    intro ha _
    simp only [List.all_cons, Bool.and_eq_true] at ha
    cases hr with
    | nil => exact ⟨w_or1 hp, t_or1 (ht ha.1)⟩
    | cons a b c d =>
      obtain ⟨i1, i2⟩ := ih ha.2 (by simp)
      exact ⟨w_or hp i1, t_or (ht ha.1) i2⟩
    | ref a b c d f =>
      obtain ⟨i1, i2⟩ := ih ha.2 (by simp)
      exact ⟨w_or hp i1, t_or (ht ha.1) i2⟩
  | ref _ _ _ _ _ _ => exact fun _ _ => ⟨⟨fun pins s σ H Q I ⟨env, fp, Qe, E, nd, g, k⟩ => g.elim⟩, ⟨fun wh pins s σ H Q I ⟨env, fp, Qe, E, nd, g, k⟩ => g.elim⟩⟩
theorem pts_imp {X : Cx} {fs : List Expr} {t t' : TT} (h : PTs X fs t) (w : ∀ σ H Q, t' σ H Q → t σ H Q) : PTs X fs t' := ⟨fun pins s σ H Q I q => h.run pins s σ H Q I (w σ H Q q)⟩
theorem pts_yes {X : Cx} : PTs X [] (tB' (evE C (.cB true))) := pts_imp pts_nil fun σ H Q ⟨env, fp, Qb, E, nd, g, k⟩ => k true env H fp g E (Post.refl nd)
/-- a comprehension stored on its line, once more -/
theorem setOl_of {x : Str} {i : Nat} {R : List Nat} {e : Expr} {ie : IE} {te : TE} {p' pos : Pos} (hR : i ∉ R) (h : PS X (.Assign [.Name x p'] e pos) (tAsg te (gName i))) (hi : ∀ σ H Q, tW (evE C ie) σ H Q → te σ H Q)
    (hex : ∀ env (Q1 Q2 : W → Env → Prop), (∀ ws e, Q1 (.ol ws) e = Q2 (.ol ws) e) → evE C ie env Q1 → evE C ie env Q2) : PS X (.Assign [.Name x p'] e pos) (tSt R (evS C (.set i ie))) := by
  refine ps_imp h fun D σ H ⟨env, fp, k, E, nd, g, KO⟩ => ?_
  have g : evE C ie env fun w e1 => mv w e1 fun w e2 => k.nx (e2.set i (some w)) := g
  refine hi _ _ _ ⟨env, fp, fun w e => (∃ ws, w = .ol ws) ∧ mv w e fun w e2 => k.nx (e2.set i (some w)), E, nd, hex env _ _ (fun ws e => propext ⟨fun h => ⟨⟨ws, rfl⟩, h⟩, fun h => h.2⟩) g, fun w e1 v H1 fe fw q E1 r P => ?_⟩
  obtain ⟨⟨ws, rfl⟩, q⟩ := q
  obtain ⟨f, s, E2⟩ := E1.put i (sv := some v) (ow := some (.ol ws)) ⟨v, rfl, r⟩
  exact KO.nx _ _ H1 f q E2 (P.sm s) (Ag.set hR _)
theorem lc_out (g : Gx G C sc fn X) {mvd : Bool} {own : List Nat} {tg : Tg} {src : II} {ifs elt : IE} {el t it : Expr} {fs : List Expr} {scope : Scope} {pos : Pos} (hb : blkC G.N sc scope (ownN G own) = true) (ho : (ownN G own).map (·.2) = own) (hsl : ∀ i ∈ tg.slots, i ∈ own) (htg : tgC G (relS scope sc) (blkFn scope) tg t = true) (hns : notSet it = true)
    (hi : PI X t it (tSrc (evI C src))) (hif : ∀ X', Gx G C (relS scope sc) (blkFn scope) X' → PTs X' fs (tB' (evE C ifs))) (he : ∀ X', Gx G C (relS scope sc) (blkFn scope) X' → PE X' el (tW (evE C elt))) : EOut X C (.ListComp el [⟨t, it, fs, 0⟩] scope pos) (.lc mvd own tg src ifs elt) := by
  have ok : BlkOk X.N X.env.scope scope (ownN G own) := by rw [g.hN, g.hsc]; exact blkOk_by hb
  have rd : ∀ σ H Q, tW (evE C (.lc mvd own tg src ifs elt)) σ H Q → tLc (tSrc (evI C src)) (tG tg) (tB' (evE C ifs)) (tPut mvd (evE C elt)) ((ownN G own).map (·.2)) σ H Q := fun σ H Q h => by
    rw [ho]
    exact lc_mk hsl h
  have b1 : ∀ (s : Shared) (H : Hp) (D : Addr) (cl : List (Str × Addr)) (fp : List Addr), Gx G C (relS scope sc) (blkFn scope) (X.blk s H scope (compEnvC scope cl D X.env) fp) := fun s H D cl fp => g.blk scope ok.kind s H D cl fp
  have c1 : ∀ (s : Shared) (H : Hp) (D : Addr) (cl : List (Str × Addr)) (fp : List Addr), PG (X.blk s H scope (compEnvC scope cl D X.env) fp) t (tG tg) := fun s H D cl fp => tg_of (b1 s H D cl fp) htg
  have c2 : ∀ (s : Shared) (H : Hp) (D : Addr) (cl : List (Str × Addr)) (fp : List Addr), PTs (X.blk s H scope (compEnvC scope cl D X.env) fp) fs (tB' (evE C ifs)) := fun s H D cl fp => hif _ (b1 s H D cl fp)
  have c3 : ∀ (s : Shared) (H : Hp) (D : Addr) (cl : List (Str × Addr)) (fp : List Addr), PE (X.blk s H scope (compEnvC scope cl D X.env) fp) el (tPut mvd (evE C elt)) := fun s H D cl fp => pe_put mvd (he _ (b1 s H D cl fp))
  have pe : PE X (.ListComp el [⟨t, it, fs, 0⟩] scope pos) (tW (evE C (.lc mvd own tg src ifs elt))) := pe_imp (pe_lc g.calm g.nd hi ok c1 c2 c3 (fun x => notset_of hns _ x)) rd
  refine ⟨pe, fun _ => t_val pe fun _ => rfl, fun _ R y i py spos hn hl hR hsw => ?_⟩
  exact setOl_of hR (ps_setLc g.calm g.nd hn.hN hl hsw hi ok c1 c2 c3 (fun x => notset_of hns _ x)) rd fun env Q1 Q2 hq h => by
    simp only [evE, hq] at h ⊢
    exact h
theorem lc2_out (g : Gx G C sc fn X) {mvd : Bool} {own own1 : List Nat} {tg tg1 : Tg} {src src1 : II} {elt : IE} {el t it t1 it1 : Expr} {scope : Scope} {pos : Pos} (hb : blkC G.N sc scope (ownN G own) = true) (ho : (ownN G own).map (·.2) = own) (hsl : ∀ i ∈ tg.slots, i ∈ own) (hsl1 : ∀ i ∈ tg1.slots, i ∈ own1) (ho1 : ∀ i ∈ own1, i ∈ own)
    (htg : tgC G (relS scope sc) (blkFn scope) tg t = true) (htg1 : tgC G (relS scope sc) (blkFn scope) tg1 t1 = true) (hns : notSet it = true) (hns1 : notSet it1 = true)
    (hi : PI X t it (tSrc (evI C src))) (hi1 : ∀ X', Gx G C (relS scope sc) (blkFn scope) X' → PI X' t1 it1 (tSrc (evI C src1))) (he : ∀ X', Gx G C (relS scope sc) (blkFn scope) X' → PE X' el (tW (evE C elt))) : EOut X C (.ListComp el [⟨t, it, [], 0⟩, ⟨t1, it1, [], 0⟩] scope pos) (.lc2 mvd own own1 tg src tg1 src1 elt) := by
  have ok : BlkOk X.N X.env.scope scope (ownN G own) := by rw [g.hN, g.hsc]; exact blkOk_by hb
  have hv : ∀ i ∈ own1, i ∈ (ownN G own).map (·.2) := by rw [ho]; exact ho1
  have rd : ∀ σ H Q, tW (evE C (.lc2 mvd own own1 tg src tg1 src1 elt)) σ H Q → tLc2 (tSrc (evI C src)) (tG tg) tYes (tSrc (evI C src1)) (tG tg1) tYes (tPut mvd (evE C elt)) ((ownN G own).map (·.2)) own1 σ H Q := fun σ H Q h => by
    rw [ho]
    exact lc2_mk hsl hsl1 ho1 h
  have b1 : ∀ (s : Shared) (H : Hp) (D : Addr) (cl : List (Str × Addr)) (fp : List Addr), Gx G C (relS scope sc) (blkFn scope) (X.blk s H scope (compEnvC scope cl D X.env) fp) := fun s H D cl fp => g.blk scope ok.kind s H D cl fp
  have c1 : ∀ (s : Shared) (H : Hp) (D : Addr) (cl : List (Str × Addr)) (fp : List Addr), PG (X.blk s H scope (compEnvC scope cl D X.env) fp) t (tG tg) := fun s H D cl fp => tg_of (b1 s H D cl fp) htg
  have c2 : ∀ (s : Shared) (H : Hp) (D : Addr) (cl : List (Str × Addr)) (fp : List Addr), PTs (X.blk s H scope (compEnvC scope cl D X.env) fp) [] tYes := fun s H D cl fp => pts_nil
  have c3 : ∀ (s : Shared) (H : Hp) (D : Addr) (cl : List (Str × Addr)) (fp : List Addr), PE (X.blk s H scope (compEnvC scope cl D X.env) fp) el (tPut mvd (evE C elt)) := fun s H D cl fp => pe_put mvd (he _ (b1 s H D cl fp))
  have c4 : ∀ (s : Shared) (H : Hp) (D : Addr) (cl : List (Str × Addr)) (fp : List Addr), PG (X.blk s H scope (compEnvC scope cl D X.env) fp) t1 (tG tg1) := fun s H D cl fp => tg_of (b1 s H D cl fp) htg1
  have c5 : ∀ (s : Shared) (H : Hp) (D : Addr) (cl : List (Str × Addr)) (fp : List Addr), PI (X.blk s H scope (compEnvC scope cl D X.env) fp) t1 it1 (tSrc (evI C src1)) := fun s H D cl fp => hi1 _ (b1 s H D cl fp)
  have pe : PE X (.ListComp el [⟨t, it, [], 0⟩, ⟨t1, it1, [], 0⟩] scope pos) (tW (evE C (.lc2 mvd own own1 tg src tg1 src1 elt))) := pe_imp (pe_lc2 g.calm g.nd hi ok hv c1 c2 c5 c4 c2 c3 (fun x => notset_of hns _ x) (fun env x => notset_of hns1 env x)) rd
  refine ⟨pe, fun _ => t_val pe fun _ => rfl, fun _ R y i py spos hn hl hR hsw => ?_⟩
  exact setOl_of hR (ps_setLc2 g.calm g.nd hn.hN hl hsw hi ok hv c1 c2 c5 c4 c2 c3 (fun x => notset_of hns _ x) (fun env x => notset_of hns1 env x)) rd fun env Q1 Q2 hq h => by
    simp only [evE, hq] at h ⊢
    exact h
end
end Mn

set_option linter.all false
set_option Elab.async false
set_option maxRecDepth 100000
set_option maxHeartbeats 8000000
/-! Mn: the check is right: all expressions. -/
namespace Mn
open PySem PySem.Spec PyProof.Rows L2
theorem chk_all (G : Gt) (C : Ctx) : (∀ ie sc fn e, ∀ X, Gx G C sc fn X → chkE G ie sc fn e = true → EOut X C e ie) ∧ (∀ ii sc fn t e, ∀ X, Gx G C sc fn X → chkI G ii sc fn t e = true → PI X t e (tSrc (evI C ii))) ∧ (∀ il sc fn es, ∀ X, Gx G C sc fn X → chkL G il sc fn es = true → EsOk X C es il) := by
  apply chkE.mutual_induct G (fun ie sc fn e => ∀ X, Gx G C sc fn X → chkE G ie sc fn e = true → EOut X C e ie) (fun ii sc fn t e => ∀ X, Gx G C sc fn X → chkI G ii sc fn t e = true → PI X t e (tSrc (evI C ii))) (fun il sc fn es => ∀ X, Gx G C sc fn X → chkL G il sc fn es = true → EsOk X C es il)
  case case1 =>
    intro i sc fn x pos X g h
    simp only [chkE] at h
    obtain ⟨h1, h2, h3, h4⟩ := nv_of g h
    exact .of (w_var h1 h2 h3 h4) (fun _ _ => rfl) rfl
  case case2 =>
    intro i sc fn x pos X g h
    simp only [chkE] at h
    obtain ⟨h1, h2, h3, h4⟩ := nv_of g h
    exact .of (w_frz h1 h2 h3 h4) (fun _ _ => rfl) rfl
  case case3 =>
    intro n sc fn m k pos X g h
    simp only [chkE, decide_eq_true_eq] at h
    subst h
    exact .of w_int (fun _ _ => rfl) rfl
  case case4 =>
    intro n sc fn m k pos X g h
    simp only [chkE, decide_eq_true_eq] at h
    subst h
    exact .of w_str (fun _ _ => rfl) rfl
  case case5 =>
    intro n sc fn m k pos X g h
    simp only [chkE, decide_eq_true_eq] at h
    subst h
    exact .of w_bool (fun _ _ => rfl) rfl
  case case6 =>
    intro sc fn k pos X g h
    exact .of w_none (fun _ _ => rfl) rfl
  case case7 =>
    intro o a b sc fn ea p eb pos ha hb X g h
    simp only [chkE, Bool.and_eq_true] at h
    rw [bo_of h.1.1]
    exact .of (w_bin (ha X g h.1.2).pe (hb X g h.2).pe fun _ _ q => q) (fun _ _ => rfl) rfl
  case case8 =>
    intro a b sc fn ea p eb pos ha hb X g h
    simp only [chkE, Bool.and_eq_true, decide_eq_true_eq] at h
    rw [h.1.1]
    exact .of (w_repL (ha X g h.1.2).pe (hb X g h.2).pe) (fun _ _ => rfl) rfl
  case case9 =>
    intro a sc fn ea pos ha X g h
    simp only [chkE] at h
    exact .of (w_neg (ha X g h).pe) (fun _ _ => rfl) rfl
  case case10 =>
    intro a sc fn ea pos ha X g h
    simp only [chkE, Bool.and_eq_true] at h
    have q := ha X g h.1
    exact .of2 (w_not q.pe) (t_not (q.pt h.2)) rfl
  case case11 =>
    intro o a b sc fn ea p eb pos ha hb X g h
    simp only [chkE, Bool.and_eq_true, Bool.not_eq_true'] at h
    obtain ⟨⟨⟨h1, h2⟩, h3⟩, h4⟩ := h
    have e := co_of h1
    subst e
    have u : X.A.units + 65 < cLine := by have := g.un; omega
    exact .of2 (w_cmp u (ha X g h3).pe (hb X g h4).pe h2 fun _ _ q => q) (t_cmp u (ha X g h3).pe (hb X g h4).pe h2 fun _ _ q => q) rfl
  case case12 =>
    intro o o' a b c sc fn ea p p' eb ec pos ha hb hc X g h
    simp only [chkE, Bool.and_eq_true, Bool.not_eq_true'] at h
    obtain ⟨⟨⟨⟨⟨h1, h2⟩, h3⟩, h4⟩, h5⟩, h6⟩ := h
    have e := co_of h1
    have e' := co_of h2
    subst e e'
    have u : X.A.units + 65 < cLine := by have := g.un; omega
    exact .of2 (w_cmp2 u h3 (ha X g h4).pe (hb X g h5).pe (hc X g h6).pe) (t_cmp2 u h3 (ha X g h4).pe (hb X g h5).pe (hc X g h6).pe) rfl
  case case13 =>
    intro a sc fn ea k pos pos1 ha X g h
    simp only [chkE] at h
    exact .of2 (w_isN (ha X g h).pe) (t_isN (ha X g h).pe) rfl
  case case14 =>
    intro a sc fn ea k pos pos1 ha X g h
    simp only [chkE] at h
    exact .of2 (w_notN (ha X g h).pe) (t_notN (ha X g h).pe) rfl
  case case15 =>
    intro es sc fn vs pos hl X g h
    simp only [chkE, Bool.and_eq_true, Bool.not_eq_true', List.isEmpty_eq_false_iff] at h
    obtain ⟨a, b⟩ := and_of (pos := pos) (hl X g h.1.1) h.1.2 h.2
    exact .of2 (pe_imp a fun _ _ _ q => q) (pt_imp b.pt fun _ _ _ q => q) rfl
  case case16 =>
    intro es sc fn vs pos hl X g h
    simp only [chkE, Bool.and_eq_true, Bool.not_eq_true', List.isEmpty_eq_false_iff] at h
    obtain ⟨a, b⟩ := or_of (pos := pos) (hl X g h.1.1) h.1.2 h.2
    exact .of2 (pe_imp a fun _ _ _ q => q) (pt_imp b.pt fun _ _ _ q => q) rfl
  case case17 =>
    intro t a b sc fn et ea eb pos ht ha hb X g h
    simp only [chkE, Bool.and_eq_true] at h
    obtain ⟨⟨⟨h1, h2⟩, h3⟩, h4⟩ := h
    exact ⟨w_ife ((ht X g h1).pt h2) (ha X g h3).pe (hb X g h4).pe, (fun z => nomatch z), (fun z => nomatch z)⟩
  case case18 =>
    intro es sc fn vs k pos hl X g h
    simp only [chkE] at h
    exact .of (w_tup (hl X g h).l) (fun _ _ => rfl) rfl
  case case19 =>
    intro es sc fn vs pos hl X g h
    simp only [chkE] at h
    exact .of (w_lst (hl X g h).m) (fun _ _ => rfl) rfl
  case case20 =>
    intro ks es sc fn keys vs pos hl X g h
    simp only [chkE, Bool.and_eq_true, decide_eq_true_eq] at h
    obtain ⟨⟨⟨h1, h2⟩, h3⟩, h5⟩ := h
    by_cases h4 : keys = []
    · subst h4
      obtain rfl := List.length_eq_zero_iff.mp h3.symm
      cases ks with
      | cons _ _ => simp [keysOk] at h2
      | nil =>
        cases es with
        | nil => exact .of w_dct0 (fun _ _ => rfl) rfl
        | cons _ _ => simp [chkL] at h1
        | ref _ _ => simp [chkL] at h1
    · exact .of (w_dct (hl X g h1) h2 h3 h4 h5) (fun _ _ => rfl) rfl
  case case21 =>
    intro a b sc fn ea eb pos ha hb X g h
    simp only [chkE, Bool.and_eq_true] at h
    exact .of (w_idx (ha X g h.1.2).pe (hb X g h.2).pe (plain_of h.1.1)) (fun _ _ => rfl) rfl
  case case22 =>
    intro i k j sc fn x pos ek pos1 ej pos2 X g h
    simp only [chkE, Bool.and_eq_true] at h
    obtain ⟨⟨⟨⟨h1, h2⟩, h3⟩, h4⟩, h5⟩ := h
    obtain ⟨a1, a2, a3, a4⟩ := nv_of g h1
    exact .of (w_pth a1 a2 a3 a4 (chkP_ok g _ _ h4) (chkP_ok g _ _ h5) (plain_of h2) (plain_of h3)) (fun _ _ => rfl) rfl
  case case23 =>
    intro i k sc fn x pos t k1 pos1 pos2 X g h
    simp only [chkE, Bool.and_eq_true, decide_eq_true_eq] at h
    obtain ⟨h1, rfl⟩ := h
    obtain ⟨a1, a2, a3, a4⟩ := nv_of g h1
    exact .of (w_getK (by have := g.un; omega) a1 a2 a3 a4) (fun _ _ => rfl) rfl
  case case24 =>
    intro i k sc fn x pos t k1 pos1 pos2 pos3 pos4 X g h
    simp only [chkE, Bool.and_eq_true, decide_eq_true_eq] at h
    obtain ⟨h1, rfl⟩ := h
    obtain ⟨a1, a2, a3, a4⟩ := nv_of g h1
    have u : X.A.units + 65 < cLine := by have := g.un; omega
    exact .of2 (w_neK u a1 a2 a3 a4) (t_neK u a1 a2 a3 a4) rfl
  case case25 =>
    intro a lo hi sc fn ea el eh pos pos1 ha hb hc X g h
    simp only [chkE, Bool.and_eq_true] at h
    exact .of (w_slc (ha X g h.1.1).pe (hb X g h.1.2).pe (hc X g h.2).pe) (fun _ _ => rfl) rfl
  case case26 =>
    intro a lo sc fn ea el pos pos1 ha hb X g h
    simp only [chkE, Bool.and_eq_true] at h
    exact .of (w_slcL (ha X g h.1).pe (hb X g h.2).pe) (fun _ _ => rfl) rfl
  case case27 =>
    intro a lo sc fn ea el pos pos1 ha hb X g h
    simp only [chkE, Bool.and_eq_true] at h
    exact .of (w_slcH (ha X g h.1).pe (hb X g h.2).pe) (fun _ _ => rfl) rfl
  case case28 =>
    intro a sc fn ea pos pos1 ha X g h
    simp only [chkE] at h
    exact .of (w_slcA (ha X g h).pe) (fun _ _ => rfl) rfl
  case case29 =>
    intro a sc fn ea n k pos pos1 pos2 pos3 ha X g h
    simp only [chkE, Bool.and_eq_true, decide_eq_true_eq] at h
    obtain ⟨rfl, h⟩ := h
    exact .of (w_rev (ha X g h).pe) (fun _ _ => rfl) rfl
  case case30 =>
    intro f a sc fn x pos ea pos1 ha X g h
    simp only [chkE, Bool.and_eq_true, decide_eq_true_eq] at h
    obtain ⟨⟨⟨rfl, h2⟩, h4⟩, h5⟩ := h
    have key : Gl X f.name ∧ X.mg f.name = if f.name = "isqrt" then some (.builtin "math.isqrt") else none := by
      by_cases e : f.name = "isqrt"
      · rw [if_pos e] at h2 ⊢
        simp only [Bool.and_eq_true] at h2
        exact ⟨gl_of g h2.2, by rw [e]; exact g.gl _ (of_decide_eq_true h2.1)⟩
      · rw [if_neg e] at h2 ⊢
        exact free_of g h2
    exact .of (w_b1 g.calm g.un g.gd key.1 key.2 (ha X g h5).pe h4) (fun _ _ => rfl) rfl
  case case31 =>
    intro f a b sc fn x pos ea eb pos1 ha hb X g h
    simp only [chkE, Bool.and_eq_true, decide_eq_true_eq] at h
    obtain ⟨⟨⟨⟨⟨rfl, h2⟩, h3⟩, h4⟩, h5⟩, h6⟩ := h
    have key : Gl X f.name ∧ X.mg f.name = if f.name = "gcd" then some (.builtin "math.gcd") else none := by
      by_cases e : f.name = "gcd"
      · rw [if_pos e] at h2 ⊢
        simp only [Bool.and_eq_true] at h2
        exact ⟨gl_of g h2.2, by rw [e]; exact g.gl _ (of_decide_eq_true h2.1)⟩
      · rw [if_neg e] at h2 ⊢
        exact free_of g h2
    exact .of (w_b2 g.calm key.1 key.2 (ha X g h5).pe (hb X g h6).pe h3 h4) (fun _ _ => rfl) rfl
  case case32 =>
    intro a t sc fn x pos ea y pos1 pos2 ha X g h
    simp only [chkE, Bool.and_eq_true, decide_eq_true_eq] at h
    obtain ⟨⟨⟨⟨⟨rfl, h2⟩, h3⟩, h4⟩, h5⟩, h6⟩ := h
    obtain ⟨a1, a2⟩ := free_of g h2
    obtain ⟨b1, b2⟩ := free_of g h3
    exact .of (w_isi h4 a1 a2 b1 b2 (ha X g h6).pe h5) (fun _ _ => rfl) rfl
  case case33 =>
    intro f args kwa kw sc fn x pos es kws pos1 y ps fd ht hf ha hk X g h
    simp only [chkE, hf, ht, Bool.and_eq_true, decide_eq_true_eq, Bool.or_eq_true, Bool.not_eq_true', List.isEmpty_eq_false_iff] at h
    obtain ⟨⟨⟨⟨⟨⟨⟨⟨rfl, h2⟩, h3⟩, h4⟩, h5⟩, h6⟩, h7⟩, h8⟩, h9⟩ := h
    have q1 := ha X g h4
    have q2 := hk X g h5
    have hks : kws.map (·.arg) = (kws.filterMap (·.arg)).map some := by
      have go : ∀ l : List Keyword, l.all (·.arg.isSome) = true → l.map (·.arg) = (l.filterMap (·.arg)).map some := by
        intro l
        induction l with
        | nil => intro _; rfl
        | cons k l ih =>
          intro hl
          simp only [List.all_cons, Bool.and_eq_true] at hl
          obtain ⟨z, hz⟩ := Option.isSome_iff_exists.mp hl.1
          rw [List.map_cons, List.filterMap_cons, hz, ih hl.2]
          rfl
      exact go kws h6
    have hlen : (kws.filterMap (·.arg)).length = kws.length := by
      have := congrArg List.length hks
      simpa using this.symm
    unfold hidC at h3
    simp only [Bool.and_eq_true, Bool.not_eq_true'] at h3
    exact .of (w_cal (g.fns f x ps fd hf ht) g.gd (gl_of g h2) h3.1 q1.a (q2.k rfl) q1.stars hks (.of h7) q1.len (by rw [q2.len, List.length_map, hlen]) (.of h8) h9) (fun _ _ => rfl) rfl
  case case34 =>
    intro f args kwa kw sc fn x pos es kws pos1 hn X g h
    simp only [chkE] at h
    cases h
  case case35 =>
    intro mvd own tg src ifs elt sc fn el t it fs a scope pos h1 h2 h3 X g h
    simp only [chkE, Bool.and_eq_true, decide_eq_true_eq, List.all_eq_true] at h
    obtain ⟨⟨⟨⟨⟨⟨⟨⟨rfl, k2⟩, k3⟩, k4⟩, k5⟩, k6⟩, k7⟩, k8⟩, k9⟩ := h
    refine lc_out g k2 k3 k4 k5 k6 (h1 X g k7) (fun X' g' => ?_) fun X' g' => (h3 X' g' k9).pe
    rcases Bool.or_eq_true _ _ ▸ k8 with z | z
    · unfold yesC at z
      split at z
      · exact pts_yes
      · cases z
    · split at z
      · next c =>
        simp only [Bool.and_eq_true] at z
        exact pts_one ((h2 c X' g' z.1).pt z.2)
      · cases z
  case case36 =>
    intro mvd own own1 tg src tg1 src1 elt sc fn el t it a t1 it1 a1 scope pos h1 h2 h3 X g h
    simp only [chkE, Bool.and_eq_true, decide_eq_true_eq, List.all_eq_true] at h
    obtain ⟨⟨⟨⟨⟨⟨⟨⟨⟨⟨⟨⟨⟨rfl, rfl⟩, k2⟩, k3⟩, k4⟩, k5⟩, k6⟩, k7⟩, k8⟩, k9⟩, k10⟩, k11⟩, k12⟩, k13⟩ := h
    exact lc2_out g k2 k3 k4 k5 k6 k7 k8 k9 k10 (h1 X g k11) (fun X' g' => h2 X' g' k12) fun X' g' => (h3 X' g' k13).pe
  case case37 =>
    intro i sc fn x pos at_ apos cpos X g h
    simp only [chkE, Bool.and_eq_true, decide_eq_true_eq] at h
    obtain ⟨⟨rfl, h2⟩, h3⟩ := h
    obtain ⟨a1, a2, a3, a4⟩ := nv_of g h2
    exact .of (w_popS a1 a2 a3 a4 h3) (fun _ _ => rfl) rfl
  case case38 =>
    intro i a sc fn x pos at_ apos ea cpos ha X g h
    simp only [chkE, Bool.and_eq_true, decide_eq_true_eq] at h
    obtain ⟨⟨⟨⟨rfl, h2⟩, h3⟩, h4⟩, h5⟩ := h
    obtain ⟨a1, a2, a3, a4⟩ := nv_of g h2
    exact .of (w_popI a1 a2 a3 a4 h3 (ha X g h5).pe h4) (fun _ _ => rfl) rfl
  case case39 =>
    intro i k sc fn x pos t k1 pos1 pos2 at_ apos cpos X g h
    simp only [chkE, Bool.and_eq_true, decide_eq_true_eq] at h
    obtain ⟨⟨⟨rfl, h2⟩, rfl⟩, h3⟩ := h
    obtain ⟨a1, a2, a3, a4⟩ := nv_of g h2
    exact .of (w_popK (by have := g.un; omega) a1 a2 a3 a4 h3) (fun _ _ => rfl) rfl
  case case40 =>
    intro i sc fn x pos at_ apos cpos X g h
    simp only [chkE, Bool.and_eq_true, decide_eq_true_eq] at h
    obtain ⟨⟨rfl, h2⟩, h3⟩ := h
    obtain ⟨a1, a2, a3, a4⟩ := nv_of g h2
    exact .of (w_upr a1 a2 a3 a4 h3) (fun _ _ => rfl) rfl
  case case41 =>
    intro a sc fn e ha X g h
    simp only [chkE, Bool.and_eq_true] at h
    have q := ha X g h.2
    have l : isLC e = false := by cases e <;> first | rfl | (have := h.1; simp [fzC] at this)
    refine .of (w_fzE q.pe) (fun n => ?_) l
    have hf := h.1
    cases e <;> first | (simp [fzC] at hf; done) | (exact fun _ => rfl) | (cases n)
  case case42 =>
    intros
    rename_i h
    simp [chkE, *] at h
  case case43 =>
    intros
    exact .nil
  case case44 =>
    intro e r sc fn x xs h1 h2 X g h
    simp only [chkL, Bool.and_eq_true] at h
    have q := h1 X g h.1.2
    exact .cons q.pe q.pt h.1.1 (h2 X g h.2)
  case case45 =>
    intro i r sc fn x pos xs h1 X g h
    simp only [chkL, Bool.and_eq_true] at h
    obtain ⟨a1, a2, a3, a4⟩ := nv_of g h.1
    exact .ref a1 a2 a3 a4 (h1 X g h.2)
  case case46 =>
    intros
    rename_i h
    simp [chkL, *] at h
  case case47 =>
    intro a sc fn tg x pos ea pos1 ha X g h
    simp only [chkI, Bool.and_eq_true, decide_eq_true_eq] at h
    obtain ⟨⟨⟨rfl, h2⟩, h3⟩, h4⟩ := h
    obtain ⟨a1, a2⟩ := free_of g h2
    exact i_rng1 a1 a2 (ha X g h4).pe h3
  case case48 =>
    intro a b sc fn tg x pos ea eb pos1 ha hb X g h
    simp only [chkI, Bool.and_eq_true, decide_eq_true_eq] at h
    obtain ⟨⟨⟨⟨⟨rfl, h2⟩, h3⟩, h4⟩, h5⟩, h6⟩ := h
    obtain ⟨a1, a2⟩ := free_of g h2
    exact i_rng2 a1 a2 (ha X g h5).pe (hb X g h6).pe h3 h4
  case case49 =>
    intro a sc fn tg ea ha X g h
    simp only [chkI] at h
    exact i_seq (ha X g h).pe
  case case50 =>
    intro a sc fn elts k pos x pos1 ea pos2 ha X g h
    simp only [chkI, Bool.and_eq_true, decide_eq_true_eq] at h
    obtain ⟨⟨⟨rfl, h2⟩, h3⟩, h4⟩ := h
    obtain ⟨a1, a2⟩ := free_of g h2
    exact i_enm a1 a2 (ha X g h4).pe h3
  case case51 =>
    intro a b sc fn elts k pos x pos1 ea eb pos2 ha hb X g h
    simp only [chkI, Bool.and_eq_true, decide_eq_true_eq] at h
    obtain ⟨⟨⟨⟨⟨rfl, h2⟩, h3⟩, h4⟩, h5⟩, h6⟩ := h
    obtain ⟨a1, a2⟩ := free_of g h2
    exact i_zip a1 a2 (ha X g h5).pe (hb X g h6).pe h3 h4
  case case52 =>
    intros
    rename_i h
    simp [chkI, *] at h
end Mn

set_option linter.all false
set_option Elab.async false
set_option maxRecDepth 100000
set_option maxHeartbeats 8000000
/-! Mn: the check of statements. -/
namespace Mn
open PySem PySem.Spec PyProof.Rows L2
def nmL (sc : Scope) (l : Nat) : Expr → Option Str
  | .Name y q => if (sc.names.lookup y == some .local && q.line == l) = true then some y else none
  | _ => none
def headL (ts : List Expr) : Nat := (ts.head?.map (·.pos.line)).getD 0
def parN (sc : Scope) (ts vs : List Expr) : Bool := (decide (ts.length ≠ 2) && decide (ts.length ≠ 3)) || !(ts.all fun e => (nmL sc (headL ts) e).isSome) || vs.all (foldedForSure 8)
def parS (sc : Scope) (ts vs : List Expr) : Bool := (decide (ts.length = 2) || decide (ts.length = 3)) && decide (vs.length = ts.length) && (ts.all fun e => (nmL sc (headL ts) e).isSome) && starlessAll vs && !vs.all (foldedForSure 8) && !vs.all (constantsAlone 8) && decide (((ts.filterMap (nmL sc (headL ts))).eraseDups).length = ts.length)
theorem fm_lt {α β : Type} {f : α → Option β} : ∀ {l : List α}, (l.all fun e => (f e).isSome) = false → (l.filterMap f).length < l.length
  | [], h => by simp at h
  | a :: l, h => by
    rw [List.filterMap_cons]
    cases e : f a with
    | none => exact Nat.lt_succ_of_le (List.length_filterMap_le _ _)
    | some b =>
      simp only [List.all_cons, e, Option.isSome_some, Bool.true_and] at h
      exact Nat.succ_lt_succ (fm_lt h)
theorem fm_eq {α β : Type} {f : α → Option β} : ∀ {l : List α}, (l.all fun e => (f e).isSome) = true → (l.filterMap f).length = l.length
  | [], h => rfl
  | a :: l, h => by
    simp only [List.all_cons, Bool.and_eq_true] at h
    obtain ⟨b, e⟩ := Option.isSome_iff_exists.mp h.1
    rw [List.filterMap_cons, e]
    exact congrArg Nat.succ (fm_eq h.2)
theorem par_shape {ts vs : List Expr} {k k2 : Nat} {p p2 : Pos} {env : PySem.Env} : ∃ (b1 b2 : Bool) (u : Sem (Option (List Str))), swappedStores [.Tuple ts k p] (.Tuple vs k2 p2) env = (if (!(ts.length == 2 || ts.length == 3) || b1) = true then pure none else if b2 = true then pure none
    else if ((ts.filterMap (nmL env.scope (headL ts))).length != ts.length || (ts.filterMap (nmL env.scope (headL ts))).eraseDups.length != (ts.filterMap (nmL env.scope (headL ts))).length) = true then pure none else if vs.all (foldedForSure 8) = true then pure none else if vs.all (constantsAlone 8) = true then u else pure (some (ts.filterMap (nmL env.scope (headL ts)))))
    ∧ (env.scope.kind = .function → vs.length = ts.length → b1 = false) ∧ (starlessAll vs = true → b2 = false) := by
  refine ⟨vs.length != ts.length || env.blockKind != .function, vs.any fun | .Starred .. => true | _ => false, (do unsupported "assign.tuple-of-constant-expressions:order-of-the-stores"; pure (some (ts.filterMap (nmL env.scope (headL ts))))), ?_, fun hk hl => ?_, fun hs => ?_⟩
  · unfold swappedStores
    dsimp only
    rw [Bool.or_assoc]
    rfl
  · have hb : env.blockKind = .function := by unfold Env.blockKind; rw [hk]; rfl
    rw [hl, hb]
    simp
  · rw [List.any_eq_false]
    intro e he
    have := List.all_eq_true.mp hs e he
    cases e <;> first | exact Bool.false_ne_true | cases this
theorem par_none {ts vs : List Expr} {k k2 : Nat} {p p2 : Pos} {env : PySem.Env} (h : parN env.scope ts vs = true) : swappedStores [.Tuple ts k p] (.Tuple vs k2 p2) env = pure none := by
  obtain ⟨b1, b2, u, e, _, _⟩ := par_shape (ts := ts) (vs := vs) (k := k) (k2 := k2) (p := p) (p2 := p2) (env := env)
  rw [e]
  unfold parN at h
  split
  · rfl
  · next c1 =>
    split
    · rfl
    · split
      · rfl
      · next c3 =>
        split
        · rfl
        · next c4 =>
          exfalso
          simp only [Bool.or_eq_true, Bool.and_eq_true, decide_eq_true_eq, Bool.not_eq_true'] at h
          rcases h with (h | h) | h
          · apply c1
            simp only [Bool.or_eq_true, Bool.not_eq_true', Bool.or_eq_false_iff, beq_eq_false_iff_ne]
            exact .inl h
          · apply c3
            have := fm_lt h
            simp only [Bool.or_eq_true, bne_iff_ne]
            exact .inl (by omega)
          · exact c4 h
theorem par_some {ts vs : List Expr} {k k2 : Nat} {p p2 : Pos} {env : PySem.Env} (hk : env.scope.kind = .function) (h : parS env.scope ts vs = true) : swappedStores [.Tuple ts k p] (.Tuple vs k2 p2) env = pure (some (ts.filterMap (nmL env.scope (headL ts)))) := by
  obtain ⟨b1, b2, u, e, h1, h2⟩ := par_shape (ts := ts) (vs := vs) (k := k) (k2 := k2) (p := p) (p2 := p2) (env := env)
  rw [e]
  unfold parS at h
  simp only [Bool.and_eq_true, Bool.or_eq_true, decide_eq_true_eq, Bool.not_eq_true'] at h
  obtain ⟨⟨⟨⟨⟨⟨l1, l2⟩, l3⟩, l4⟩, l5⟩, l6⟩, l7⟩ := h
  have e3 := fm_eq l3
  rw [h1 hk l2, h2 l4, l5, l6, e3, l7]
  rcases l1 with l | l <;> simp [l]

/-- how a value is stored into a name -/
def setT (sc : Scope) (x : Str) (p : Pos) : Expr → Bool
  | .ListComp _ _ scope q => decide (sc.names.lookup x = some .local) && (p.line == q.line) && !(scope.names.any fun (m, k) => m == x && (k == .local || k == .cell))
  | _ => false
def setF (sc : Scope) (x : Str) : Expr → Bool
  | .ListComp _ _ _ _ => decide (sc.names.lookup x = some .cell)
  | e => noComp e
theorem setF_of {sc : Scope} {x : Str} {e : Expr} {p : Pos} {l : Nat} {env : PySem.Env} (h : setF sc x e = true) (hs : env.scope = sc) : swapsWith e (some (.Name x p)) l env = pure false := by
  by_cases n : noComp e = true
  · exact swaps_no n
  · cases e <;> first | exact absurd rfl n | exact absurd h Bool.false_ne_true | skip
    have h := of_decide_eq_true h
    unfold swapsWith
    have ky : env.kindOf x = some .cell := by show env.scope.names.lookup x = _; rw [hs]; exact h
    have cl : (NameKind.cell == NameKind.local) = false := by decide
    simp [ky, cl]
def subC (G : Gt) (sc : Scope) : List Expr → List (Nat × IE × Option IE) → Bool
  | [], [] => true
  | .Subscript (.Name x _) ek _ :: es, (i, k, none) :: ts => nvC G sc x i && plainC ek && chkP G sc k ek && subC G sc es ts
  | .Subscript (.Subscript (.Name x _) ek _) ej _ :: es, (i, k, some j) :: ts => nvC G sc x i && plainC ek && plainC ej && chkP G sc k ek && chkP G sc j ej && subC G sc es ts
  | _, _ => false
mutual
def chkS (G : Gt) (R : List Nat) (sc : Scope) (fn : FnB) : IS → Stmt → Bool
  | .set i e, .Assign [.Name x p] v _ => nmC G sc fn x i && !decide (i ∈ R) && chkE G e sc fn v && (setF sc x v || setT sc x p v)
  | .par is es, .Assign [.Tuple ts _ _] (.Tuple vs _ _) _ => chkL G es sc fn vs && nmsC G sc fn ts is && (is.all fun i => !decide (i ∈ R)) && decide is.Nodup && decide (is.length ≤ 1000) && (parN sc ts vs || parS sc ts vs)
  | .unp is e, .Assign [.Tuple ts _ _] v _ => chkE G e sc fn v && nmsC G sc fn ts is && (is.all fun i => !decide (i ∈ R)) && noTup v
  | .sub i k e, .Assign [.Subscript (.Name x _) ek _] v _ => nvC G sc x i && plainC ek && noComp v && chkE G k sc fn ek && chkE G e sc fn v
  | .sub2 i k j e, .Assign [.Subscript (.Subscript (.Name x _) ek _) ej _] v _ => nvC G sc x i && plainC ek && plainC ej && noComp v && chkP G sc k ek && chkP G sc j ej && chkE G e sc fn v
  | .subK i k e, .Assign [.Subscript (.Name x _) (.Constant (.str t) _ _) _] v _ => nvC G sc x i && decide (k = t) && noComp v && chkE G e sc fn v
  | .aug i e, .AugAssign (.Name x _) p v _ => decide (p = .Add) && nmC G sc fn x i && !decide (i ∈ R) && chkE G e sc fn v
  | .app i e, .Expr (.Call (.Attribute (.Name x _) at_ apos) [v] [] cpos) _ => decide (at_ = "append") && nvC G sc x i && (apos.endLine == cpos.line) && starless v && chkE G e sc fn v
  | .ext i e, .Expr (.Call (.Attribute (.Name x _) at_ apos) [v] [] cpos) _ => decide (at_ = "extend") && nvC G sc x i && (apos.endLine == cpos.line) && starless v && chkE G e sc fn v
  | .appK i k e, .Expr (.Call (.Attribute (.Subscript (.Name x _) (.Constant (.str t) _ _) _) at_ apos) [v] [] cpos) _ => decide (at_ = "append") && nvC G sc x i && decide (k = t) && (apos.endLine == cpos.line) && starless v && chkP G sc e v
  | .exp e, .Expr v _ => noComp v && chkE G e sc fn v
  | .ret e, .Return (some v) _ => chkE G e sc fn v
  | .retN, .Return none _ => true
  | .ife t a b, .If c sa sb _ => noIf c && chkE G t sc fn c && chkB G R sc fn a sa && chkB G R sc fn b sb
  | .fora tg src body, .For t it bd [] _ => tgC G sc fn tg t && notSet it && (tg.slots.all fun i => !decide (i ∈ R)) && chkI G src sc fn t it && chkB G R sc fn body bd
  | .whl t body, .While c bd [] _ => noIf c && chkE G t sc fn c && chkB G R sc fn body bd
  | .brk, .Break _ => true
  | .cnt, .Continue _ => true
  | .pas, .Pass _ => true
  | .rse, _ => true
  | .augs i k e, .AugAssign (.Subscript (.Name x _) ek _) p v _ => decide (p = .Add) && nvC G sc x i && plainC ek && chkE G k sc fn ek && chkE G e sc fn v
  | .psub ts es, .Assign [.Tuple tg _ _] (.Tuple vs _ _) _ => chkL G es sc fn vs && subC G sc tg ts && parN sc tg vs && decide (ts.length ≤ 1000)
  | _, _ => false
def chkB (G : Gt) (R : List Nat) (sc : Scope) (fn : FnB) : IB → List Stmt → Bool
  | .nil, [] => true
  | .cons s r, st :: sts => chkS G R sc fn s st && chkB G R sc fn r sts
  | _, _ => false
end
theorem augset_of {k : Expr} (h : plainC k = true) : ∀ ov iv new, augStore k ov iv new = (do holding [new, ov, iv] (setItem ov iv new); release [new, ov, iv] []; pure .next) := by
  intro ov iv new
  cases k <;> first | exact absurd h Bool.false_ne_true | rfl
theorem hset_of {o k : Expr} {p : Pos} {env : PySem.Env} (h : plainC k = true) : ∀ v, assign (.Subscript o k p) env v = (do
      let ov ← holding [v] (eval o env)
      let iv ← holding [v, ov] (eval k env)
      standAt p
      holding [v, ov, iv] (setItem ov iv v)
      release [v, ov, iv] []) := by
  intro v
  cases k <;> first | exact absurd h Bool.false_ne_true | rfl
section
variable {G : Gt} {C : Ctx} {sc : Scope} {fn : FnB} {X : Cx} {R : List Nat}
theorem nms_get (g : Gx G C sc fn X) : ∀ {es : List Expr} {is : List Nat}, nmsC G sc fn es is = true → es.length = is.length
  | [], [], _ => rfl
  | [], _ :: _, h => by cases h
  | e :: es, [], h => by cases e <;> simp [nmsC] at h
  | e :: es, i :: is, h => by
    cases e <;> simp only [nmsC, Bool.false_eq_true] at h
    simp only [Bool.and_eq_true] at h
    simp [nms_get g h.2]
theorem s_par (g : Gx G C sc fn X) {ts vs : List Expr} {is : List Nat} {es : IL} {k k2 : Nat} {p p2 pos : Pos} (he : EsOk X C vs es) (hn : nmsC G sc fn ts is = true) (hR : ∀ i ∈ is, i ∉ R) (nd : is.Nodup) (hz : is.length ≤ 1000) (h : parN sc ts vs = true ∨ parS sc ts vs = true) :
    PS X (.Assign [.Tuple ts k p] (.Tuple vs k2 p2) pos) (tSt R (evS C (.par is es))) := by
  rcases h with h | h
  · exact s_parT g.nd g.calm (nms_of g hn) hR he.m (par_none (by rw [g.hsc]; exact h)) hz
  · have hs := par_some (ts := ts) (vs := vs) (k := k) (k2 := k2) (p := p) (p2 := p2) (env := X.env) (by rw [g.hsc]; exact g.kind) (by rw [g.hsc]; exact h)
    have hl := nms_get g hn
    unfold parS at h
    simp only [Bool.and_eq_true, Bool.or_eq_true, decide_eq_true_eq, Bool.not_eq_true'] at h
    obtain ⟨⟨⟨⟨⟨⟨l1, l2⟩, l3⟩, _⟩, _⟩, _⟩, _⟩ := h
    have nm : ∀ {e : Expr} {i : Nat} {es : List Expr} {is : List Nat}, nmsC G sc fn (e :: es) (i :: is) = true → (nmL sc (headL ts) e).isSome = true → ∃ x q, e = .Name x q ∧ NmOk X x i ∧ X.env.scope.names.lookup x = some .local ∧ nmL sc (headL ts) e = some x ∧ nmsC G sc fn es is = true := by
      intro e i es is h1 h2
      cases e <;> simp only [nmsC, Bool.false_eq_true] at h1
      next x q =>
      simp only [Bool.and_eq_true] at h1
      unfold nmL at h2
      dsimp only at h2
      by_cases hc : (sc.names.lookup x == some .local && q.line == headL ts) = true
      · have hc' := hc
        simp only [Bool.and_eq_true, beq_iff_eq] at hc'
        refine ⟨x, q, rfl, nm_of g h1.1, by rw [g.hsc]; exact hc'.1, ?_, h1.2⟩
        unfold nmL
        dsimp only
        rw [if_pos hc]
      · rw [if_neg hc] at h2
        cases h2
    rw [g.hsc] at hs
    rcases l1 with l | l
    · match ts, is, l, hl with
      | [e1, e2], [i, j], _, _ =>
        simp only [List.all_cons, List.all_nil, Bool.and_true, Bool.and_eq_true] at l3
        obtain ⟨x, q, rfl, n1, lo1, f1, hn⟩ := nm hn l3.1
        obtain ⟨y, q', rfl, n2, lo2, f2, hn⟩ := nm hn l3.2
        match vs, l2 with
        | [v1, v2], _ =>
          simp only [List.filterMap_cons, List.filterMap_nil, f1, f2] at hs
          exact s_par2 g.nd g.calm n1 n2 (fun z => by simp [z] at nd) ⟨hR _ (by simp), hR _ (by simp)⟩ he.m lo1 lo2 hs
    · match ts, is, l, hl with
      | [e1, e2, e3], [i, j, m], _, _ =>
        simp only [List.all_cons, List.all_nil, Bool.and_true, Bool.and_eq_true] at l3
        obtain ⟨x, q, rfl, n1, lo1, f1, hn⟩ := nm hn l3.1
        obtain ⟨y, q', rfl, n2, lo2, f2, hn⟩ := nm hn l3.2.1
        obtain ⟨z, q'', rfl, n3, lo3, f3, hn⟩ := nm hn l3.2.2
        match vs, l2 with
        | [v1, v2, v3], _ =>
          simp only [List.filterMap_cons, List.filterMap_nil, f1, f2, f3] at hs
          exact s_par3 g.nd g.calm n1 n2 n3 (fun z => by simp [z] at nd) (fun z => by simp [z] at nd) (fun z => by simp [z] at nd) ⟨hR _ (by simp), hR _ (by simp), hR _ (by simp)⟩ he.m lo1 lo2 lo3 hs
end
section
variable {G : Gt} {C : Ctx} {sc : Scope} {fn : FnB} {X : Cx} {R : List Nat}
theorem subC_ok (g : Gx G C sc fn X) : ∀ (es : List Expr) (ts : List (Nat × IE × Option IE)), subC G sc es ts = true → SubsOk X es ts ∧ (assignEach es X.env).length = ts.length ∧ (assignEach es X.env).findIdx? (·.1) = none := by
  intro es ts
  apply subC.induct (fun es ts => subC G sc es ts = true → SubsOk X es ts ∧ (assignEach es X.env).length = ts.length ∧ (assignEach es X.env).findIdx? (·.1) = none)
  · intro _
    exact ⟨.nil, rfl, rfl⟩
  · intro x p ek p1 es i k ts ih h
    simp only [subC, Bool.and_eq_true] at h
    obtain ⟨⟨⟨h1, h2⟩, h3⟩, h4⟩ := h
    obtain ⟨a1, a2, a3, a4⟩ := nv_of g h1
    obtain ⟨q1, q2, q3⟩ := ih h4
    refine ⟨.one (pg_s1 a1 a2 a3 a4 (chkP_ok g _ _ h3) (hset_of h2)) rfl q1, congrArg Nat.succ q2, ?_⟩
    show List.findIdx? _ ((false, _) :: assignEach es X.env) = none
    rw [List.findIdx?_cons, if_neg (by simp), q3]
    rfl
  · intro x p ek p1 ej p2 es i k j ts ih h
    simp only [subC, Bool.and_eq_true] at h
    obtain ⟨⟨⟨⟨⟨h1, h2⟩, h3⟩, h4⟩, h5⟩, h6⟩ := h
    obtain ⟨a1, a2, a3, a4⟩ := nv_of g h1
    obtain ⟨q1, q2, q3⟩ := ih h6
    refine ⟨.two (pg_s2 a1 a2 a3 a4 (chkP_ok g _ _ h4) (chkP_ok g _ _ h5) (plain_of h2) (hset_of h3)) rfl q1, congrArg Nat.succ q2, ?_⟩
    show List.findIdx? _ ((false, _) :: assignEach es X.env) = none
    rw [List.findIdx?_cons, if_neg (by simp), q3]
    rfl
  · intros
    rename_i h
    simp [subC, *] at h
end
theorem chk_st (G : Gt) (C : Ctx) (R : List Nat) (sc : Scope) (fn : FnB) (X : Cx) (g : Gx G C sc fn X) : (∀ is st, chkS G R sc fn is st = true → PS X st (tSt R (evS C is))) ∧ (∀ ib sts, chkB G R sc fn ib sts = true → PSs X sts (tSt R (evB C ib))) := by
  obtain ⟨hE, hI, hL⟩ := chk_all G C
  have pass : PassesOwn (model X.prog X.w) X.A X.env X.xe := by rw [g.xe]; exact PassesOwn.never
  have E : ∀ {ie e}, chkE G ie sc fn e = true → EOut X C e ie := fun {ie e} h => hE ie sc fn e X g h
  apply chkS.mutual_induct (fun is st => chkS G R sc fn is st = true → PS X st (tSt R (evS C is))) (fun ib sts => chkB G R sc fn ib sts = true → PSs X sts (tSt R (evB C ib)))
  case case1 =>
    intro i e x p v pos h
    simp only [chkS, Bool.and_eq_true, Bool.or_eq_true, Bool.not_eq_true', decide_eq_false_iff_not] at h
    obtain ⟨⟨⟨h1, h2⟩, h3⟩, h4⟩ := h
    have q := E h3
    have n := nm_of g h1
    rcases h4 with h4 | h4
    · exact s_set g.nd n h2 q.pe (setF_of h4 g.hsc)
    · unfold setT at h4
      split at h4
      · simp only [Bool.and_eq_true, decide_eq_true_eq, Bool.not_eq_true'] at h4
        obtain ⟨⟨k1, k2⟩, k3⟩ := h4
        have lo : X.env.scope.names.lookup x = some .local := by rw [g.hsc]; exact k1
        exact q.lc rfl R x i p pos n lo h2 (sw_true (by rw [g.hsc]; exact g.kind) lo k2 k3)
      · cases h4
  case case2 =>
    intro is es ts k p vs k2 p2 pos h
    simp only [chkS, Bool.and_eq_true, Bool.or_eq_true, List.all_eq_true, Bool.not_eq_true', decide_eq_false_iff_not, decide_eq_true_eq] at h
    obtain ⟨⟨⟨⟨⟨h1, h2⟩, h3⟩, h4⟩, h5⟩, h6⟩ := h
    exact s_par g (hL _ _ _ _ X g h1) h2 h3 h4 h5 h6
  case case3 =>
    intro is e ts k p v pos h
    simp only [chkS, Bool.and_eq_true, List.all_eq_true, Bool.not_eq_true', decide_eq_false_iff_not] at h
    obtain ⟨⟨⟨h1, h2⟩, h3⟩, h4⟩ := h
    exact s_unp g.nd g.calm (nms_of g h2) h3 (E h1).pe h4
  case case4 =>
    intro i k e x p1 ek p2 v pos h
    simp only [chkS, Bool.and_eq_true] at h
    obtain ⟨⟨⟨⟨h1, h2⟩, h3⟩, h4⟩, h5⟩ := h
    obtain ⟨a1, a2, a3, a4⟩ := nv_of g h1
    exact s_sub a1 a2 a3 a4 (E h5).pe (E h4).pe h3 (hset_of h2)
  case case5 =>
    intro i k j e x p1 ek p2 ej p3 v pos h
    simp only [chkS, Bool.and_eq_true] at h
    obtain ⟨⟨⟨⟨⟨⟨h1, h2⟩, h3⟩, h4⟩, h5⟩, h6⟩, h7⟩ := h
    obtain ⟨a1, a2, a3, a4⟩ := nv_of g h1
    exact s_sub2 a1 a2 a3 a4 (E h7).pe (chkP_ok g _ _ h5) (chkP_ok g _ _ h6) (plain_of h2) h4 (hset_of h3)
  case case6 =>
    intro i k e x p1 t k1 p2 p3 v pos h
    simp only [chkS, Bool.and_eq_true, decide_eq_true_eq] at h
    obtain ⟨⟨⟨h1, rfl⟩, h3⟩, h4⟩ := h
    obtain ⟨a1, a2, a3, a4⟩ := nv_of g h1
    exact s_subK (by have := g.un; omega) a1 a2 a3 a4 (E h4).pe h3
  case case7 =>
    intro i e x p1 p v pos h
    simp only [chkS, Bool.and_eq_true, decide_eq_true_eq, Bool.not_eq_true', decide_eq_false_iff_not] at h
    obtain ⟨⟨⟨rfl, h2⟩, h3⟩, h4⟩ := h
    exact s_aug g.nd (nm_of g h2) h3 (E h4).pe
  case case8 =>
    intro i e x p1 at_ apos v cpos pos h
    simp only [chkS, Bool.and_eq_true, decide_eq_true_eq] at h
    obtain ⟨⟨⟨⟨rfl, h1⟩, h2⟩, h3⟩, h4⟩ := h
    obtain ⟨a1, a2, a3, a4⟩ := nv_of g h1
    exact s_app a1 a2 a3 a4 h2 (E h4).pe h3
  case case9 =>
    intro i e x p1 at_ apos v cpos pos h
    simp only [chkS, Bool.and_eq_true, decide_eq_true_eq] at h
    obtain ⟨⟨⟨⟨rfl, h1⟩, h2⟩, h3⟩, h4⟩ := h
    obtain ⟨a1, a2, a3, a4⟩ := nv_of g h1
    exact s_ext a1 a2 a3 a4 h2 (E h4).pe h3
  case case10 =>
    intro i k e x p1 t k1 p2 p3 at_ apos v cpos pos h
    simp only [chkS, Bool.and_eq_true, decide_eq_true_eq] at h
    obtain ⟨⟨⟨⟨⟨rfl, h1⟩, rfl⟩, h2⟩, h3⟩, h4⟩ := h
    obtain ⟨a1, a2, a3, a4⟩ := nv_of g h1
    exact s_appK (by have := g.un; omega) a1 a2 a3 a4 h2 (chkP_ok g _ _ h4) h3
  case case11 =>
    intro e v pos h
    simp only [chkS, Bool.and_eq_true] at h
    exact s_exp (E h.2).pe h.1
  case case12 =>
    intro e v pos h
    simp only [chkS] at h
    exact s_ret (E h).pe
  case case13 =>
    intro pos h
    exact s_retN
  case case14 =>
    intro t a b c sa sb pos ha hb h
    simp only [chkS, Bool.and_eq_true] at h
    obtain ⟨⟨⟨h1, h2⟩, h3⟩, h4⟩ := h
    exact s_ife ((E h2).pt h1) (ha h3) (hb h4)
  case case15 =>
    intro tg src body t it bd pos hb h
    simp only [chkS, Bool.and_eq_true, List.all_eq_true, Bool.not_eq_true', decide_eq_false_iff_not] at h
    obtain ⟨⟨⟨⟨h1, h2⟩, h3⟩, h4⟩, h5⟩ := h
    exact s_for pass g.calm (hI _ _ _ _ _ X g h4) (tg_of g h1) (hb h5) h3 (g_ag (tg_of g h1) h3) fun x => notset_of h2 _ x
  case case16 =>
    intro t body c bd pos hb h
    simp only [chkS, Bool.and_eq_true] at h
    obtain ⟨⟨h1, h2⟩, h3⟩ := h
    exact s_whl pass ((E h2).pt h1) (hb h3)
  case case17 =>
    intro pos h
    exact s_brk
  case case18 =>
    intro pos h
    exact s_cnt
  case case19 =>
    intro pos h
    exact s_pas
  case case20 =>
    intro st h
    exact s_rse
  case case21 =>
    intro i k e x p1 ek p2 p v pos h
    simp only [chkS, Bool.and_eq_true, decide_eq_true_eq] at h
    obtain ⟨⟨⟨⟨rfl, h1⟩, h2⟩, h4⟩, h5⟩ := h
    obtain ⟨a1, a2, a3, a4⟩ := nv_of g h1
    exact s_augs a1 a2 a3 a4 (E h4).pe (E h5).pe (augset_of h2)
  case case22 =>
    intro ts es tg k p vs k2 p2 pos h
    simp only [chkS, Bool.and_eq_true, decide_eq_true_eq] at h
    obtain ⟨⟨⟨h1, h2⟩, h3⟩, h4⟩ := h
    obtain ⟨q1, q2, q3⟩ := subC_ok g _ _ h2
    exact s_psub (n := 0) g.calm q1 (hL _ _ _ _ X g h1).m q2 q3 (par_none (by rw [g.hsc]; exact h3)) h4
  case case23 =>
    intros
    rename_i h
    simp [chkS, *] at h
  case case24 =>
    intro h
    exact s_nil
  case case25 =>
    intro s r st sts h1 h2 h
    simp only [chkB, Bool.and_eq_true] at h
    exact s_cons (h1 h.1) (h2 h.2)
  case case26 =>
    intros
    rename_i h
    simp [chkB, *] at h
end Mn

set_option linter.all false
set_option Elab.async false
set_option maxRecDepth 100000
set_option maxHeartbeats 4000000
/-! Mn: the promise of a def whose body is a term. -/
namespace Mn
open PySem PySem.Spec PyProof.Rows L2

/-- a def by its body, where nothing is shown -/
theorem fnG_of {P : Program} {w : World} {K : PySem.W.Frag} {mg : Str → Option Value} {base : Heap} {k : Nat} {f : Addr} {x qual : Str} {params : Arguments} {body : List Stmt} {scope : Scope} {dvs : List V} {kws : List (Str × V)} {fd : FuncData} {N ps : List Str} {sp : Sp}
    (F : FunD K x qual params body scope dvs kws f fd) (S : FnScope N ps scope) (len : ∀ vs H Q E, sp vs H Q E → vs.length = ps.length)
    (hbody : ∀ (cdv : Value) (A : Around) (outer : List PySem.Env) (s : Shared) (H : Hp) (vs : List V) (Q : VK) (E : XK), Room k (A.deeper (envOfC qual scope s.heap.objs.size f cdv)) → A.guards = some [] → sp vs H Q E →
      ∃ t, PSs (cxOf CX0 P w K mg base N qual scope f cdv A outer s H E) body t ∧ t { nx := fun _ H' => Q .non H', rt := Q } (start N vs) H) : FnG P w K mg base (k + 1) f fd ps sp := by
  obtain ⟨oc, od, dV, kV, doc, pm, an, cdv, ct, osl, rfl, lk, hcd, _, _⟩ := F.ex
  constructor
  · exact len
  intro A outer s H args us vs Q E hr hgd e0 hb r hsp
  have KX := e0.mod.kin.keeps fun b o e => (e0.bs b o e).1
  have noL := e0.mod.nolimit.keeps fun b o e => (e0.bs b o e).1
  have hl := len _ _ _ _ hsp
  refine codeAny_call_function hr.depth (KX _ _ lk) rfl S.co S.gen rfl (PySem.W.codeRec_of KX hcd) (hb _ _ _ _ ?_)
  refine wpAny_newFunctionEnv_cells S.kind ?_ fun env he s1 xx => ?_
  · rintro ⟨n, v⟩ hy
    have q := S.par n (List.of_mem_zip hy).1
    exact q.imp id fun q => ⟨q, PySem.W.cellsFrom_some _ _ _ (.inl q)⟩
  subst he
  refine ⟨noL.keeps xx.toInCall.keep, codeAny_func ?_⟩
  obtain ⟨t, ht, hq⟩ := hbody cdv A outer s H vs Q E (hr.deeper _) hgd hsp
  have I := inv_start (CX := CX0) (P := P) (w := w) (K := K) (mg := mg) (base := base) (E := E) S hr.hd e0 hl r xx
  refine wpAny_mono (ht.run [] s1 _ H _ I hq) (fun fl s' hs => ?_) fun e s' hs => hs
  cases fl with
  | ret u =>
    obtain ⟨v, σ', H', J, rv, q⟩ := hs
    exact ⟨v, H', J.os, J.bare, J.base, J.hok, rv, q⟩
  | next =>
    obtain ⟨σ', H', J, q⟩ := hs
    exact ⟨.non, H', J.os, J.bare, J.base, J.hok, rfl, q⟩
  | brk =>
    obtain ⟨σ', H', J, q⟩ := hs
    exact q.elim
  | cont =>
    obtain ⟨σ', H', J, q⟩ := hs
    exact q.elim
/-- the slots at the entry -/
theorem start_ok {H : Hp} (sy : Sys H) : ∀ {vs : List V} {ws : List W} {fw : List Addr} (m : Nat), RpWs H vs ws fw → EOk H (vs.map some ++ List.replicate m none) (ws.map some ++ List.replicate m none) fw
  | _, _, _, 0, .nil => .nil sy
  | _, _, _, m + 1, .nil => by
    rw [List.replicate_succ, List.replicate_succ]
    exact EOk.cons (f := []) (fp := []) rfl (start_ok sy m .nil)
  | _, _, _, m, .cons a b => EOk.cons ⟨_, rfl, a⟩ (start_ok sy m b)
theorem outs_ok {H' : Hp} {σ σ' : Sg} {e : Env} {fe fr : List Addr} {refs : List Nat} {vs : List V} {os : List W} (h1 : refs.length ≤ 1) (hlt : ∀ j ∈ refs, ∃ v, vs[j]? = some v ∧ σ[j]? = some (some v)) (E : EOk H' σ' e fe) (ag : Ag refs σ σ') (ho : outs e refs = some os) :
    ∃ fo, RpWs H' (refs.filterMap fun j => vs[j]?) os fo ∧ Sm (fo ++ fr) (fe ++ fr) := by
  match refs, h1 with
  | [], _ =>
    cases ho
    exact ⟨[], .nil, Sm.of_count fun a => by simp only [List.count_append, List.count_nil]; omega⟩
  | [j], _ =>
    obtain ⟨v, k1, k2⟩ := hlt j (by simp)
    simp only [outs] at ho
    cases q : slot e j with
    | none => rw [q] at ho; cases ho
    | some c =>
      rw [q] at ho
      cases ho
      obtain ⟨f, pre, post, sv, z1, z2, z3, _⟩ := E.split j (slot_lt q)
      rw [ag j (by simp), k2] at z2
      cases z2
      rw [q] at z3
      obtain ⟨v', ev, rc⟩ := z3
      cases ev
      refine ⟨f, ?_, Sm.of_count fun a => ?_⟩
      · rw [List.filterMap_cons, k1]
        have r := RpWs.cons rc (RpWs.nil (H := H'))
        rw [List.append_nil] at r
        exact r
      · rw [z1]
        simp only [List.count_append]
        omega
/-- one row of the table -/
structure RowOk (K : PySem.W.Frag) (mg : Str → Option Value) (G : Gt) (i : Nat) (x : Str) (ps : List Str) (fd : Fd) : Prop where
  ex : ∃ (qual : Str) (params : Arguments) (body : List Stmt) (scope : Scope) (f : Addr) (dat : FuncData) (N : List Str),
    mg x = some (.ref f) ∧ FunD K x qual params body scope [] [] f dat ∧ plainP params = some ps ∧ FnScope N ps scope ∧ fd.ps = ps.length ∧ fd.n = N.length ∧ fd.refs.length ≤ 1 ∧ (∀ j ∈ fd.refs, j < ps.length) ∧ chkB { G with N := N } fd.refs scope (fun _ => true) fd.body body = true
structure TabOk (K : PySem.W.Frag) (mg : Str → Option Value) (G : Gt) : Prop where
  rows : ∀ (i : Nat) (x : Str) (ps : List Str) (fd : Fd), G.fns[i]? = some (x, ps) → G.tb[i]? = some fd → RowOk K mg G i x ps fd
  blt : ∀ x ∈ G.blt, mg x = none
  gl : ∀ q ∈ G.gl, mg q.1 = some q.2
/-- at level n each def keeps the evaluator's promise -/
theorem level {P : Program} {w : World} {K : PySem.W.Frag} {mg : Str → Option Value} {base : Heap} {G : Gt} (T : TabOk K mg G) : ∀ (n i : Nat) (x : Str) (ps : List Str) (fd : Fd), G.fns[i]? = some (x, ps) → G.tb[i]? = some fd →
    ∃ (f : Addr) (dat : FuncData) (qual : Str) (params : Arguments) (body : List Stmt) (scope : Scope), mg x = some (.ref f) ∧ FunD K x qual params body scope [] [] f dat ∧ plainP params = some ps ∧ FnG P w K mg base n f dat ps (spC (callN G.tb n i) fd.refs ps.length)
  | 0, i, x, ps, fd, h1, h2 => by
    obtain ⟨qual, params, body, scope, f, dat, N, r1, r2, r3, _⟩ := (T.rows i x ps fd h1 h2).ex
    refine ⟨f, dat, qual, params, body, scope, r1, r2, r3, ⟨fun vs H Q E h => h.1, fun A outer s H args us vs Q E _ _ _ _ _ h => ?_⟩⟩
    obtain ⟨_, ws, fw, Qe, _, _, _, g, _⟩ := h
    exact g.elim
  | n + 1, i, x, ps, fd, h1, h2 => by
    obtain ⟨qual, params, body, scope, f, dat, N, r1, r2, r3, S, r4, r5, r6, r7, r8⟩ := (T.rows i x ps fd h1 h2).ex
    refine ⟨f, dat, qual, params, body, scope, r1, r2, r3, fnG_of r2 S (fun vs H Q E h => h.1) fun cdv A outer s H vs Q E hr hgd hsp => ?_⟩
    obtain ⟨hlv, ws, fw, Qe, rw_, nd, sy, g, k⟩ := hsp
    simp only [callN, h2] at g
    obtain ⟨hl, g⟩ := g
    have gx : Gx { G with N := N } ⟨callN G.tb n⟩ scope (fun _ => true) (cxOf CX0 P w K mg base N qual scope f cdv A outer s H E).nox := by
      refine ⟨rfl, rfl, S.nd, rfl, hgd, ?_, rfl, S.kind, rfl, T.blt, T.gl, fun j y qs fe e1 e2 => ?_⟩
      · have := hr.un
        show (A.deeper _).units + 200 < cLine
        omega
      · obtain ⟨fa, da, q1, q2, q3, q4, a1, a2, a3, a4⟩ := level T n j y qs fe e1 e2
        exact ⟨fa, da, n, a1, a2.kp, hr, a4, fun m ks kw b s us ws hu hw => bind_fun a2 a3 b hu hw⟩
    refine ⟨_, PSs.nox ((chk_st { G with N := N } ⟨callN G.tb n⟩ fd.refs scope (fun _ => true) _ gx).2 fd.body body r8), ?_⟩
    have hm : fd.n - fd.ps = N.length - vs.length := by rw [r4, r5, hlv]
    have hlt : ∀ j ∈ fd.refs, ∃ v, vs[j]? = some v ∧ (L2.start N vs)[j]? = some (some v) := fun j hj => by
      have h := r7 j hj
      have h' : j < vs.length := by omega
      refine ⟨vs[j], List.getElem?_eq_getElem h', ?_⟩
      unfold L2.start
      rw [List.getElem?_append_left (by simpa using h'), List.getElem?_map, List.getElem?_eq_getElem h']
      rfl
    have fin : ∀ (wr : W) (e : Env) (v : V) (σ' : Sg) (H' : Hp) (fe fr : List Addr), retW fd Qe wr e → EOk H' σ' e fe → RpW H' v wr fr → Post H fw H' (fe ++ fr) → Ag fd.refs (L2.start N vs) σ' → Q v H' := fun wr e v σ' H' fe fr q E r P ag => by
      unfold retW at q
      cases ho : outs e fd.refs with
      | none => rw [ho] at q; exact q.elim
      | some os =>
        rw [ho] at q
        obtain ⟨fo, ro, sm⟩ := outs_ok (fr := fr) r6 hlt E ag ho
        exact k wr os v H' fo fr q ro r (P.sm sm)
    refine ⟨ws.map some ++ List.replicate (fd.n - fd.ps) none, fw, { nx := fun e => retW fd Qe (.d .none) e, rt := fun w e => retW fd Qe w e, bk := fun _ => False, ct := fun _ => False }, ?_, nd, g, ⟨fun e σ' H' fe q E P ag => ?_, fun _ _ _ _ q => q.elim, fun _ _ _ _ q => q.elim, fun wr e v σ' H' fe fr q E r P ag => fin wr e v σ' H' fe fr q E r P ag⟩⟩
    · rw [hm]
      exact start_ok sy _ rw_
    exact fin (.d .none) e .non σ' H' fe [] q E (.d .non) (by rw [List.append_nil]; exact P) ag
end Mn

set_option linter.all false
set_option Elab.async false
set_option maxRecDepth 100000
set_option maxHeartbeats 4000000
/-! Mn: what the head tells, the law's call. -/
namespace Mn
open PySem PySem.Spec PyProof.Rows L2

def isListO (o : Obj) : Bool := match o.cls with
  | .type c => decide (c = "list")
  | _ => false
/-- no list stands in the written part, nor the system's table -/
def exK (gc : List (Str × Value)) (K : PySem.W.Frag) : Bool := (K.lookup sysModules).isNone && K.all (fun q => !isListO q.2) && (gc.all fun q => decide (PySem.W.nsIn K mainGlobals q.1 = some (some q.2)))
def sysB (o : Option Obj) : Bool := match o with
  | some o => !isListO o
  | none => false
theorem sysB_of {o : Option Obj} (h : sysB o = true) : ∃ u, o = some u ∧ isListO u = false := by
  cases o with
  | none => cases h
  | some u => exact ⟨u, rfl, by simpa [sysB] using h⟩
def obsM (gc : List (Str × Value)) (fa : List He.Fa) (fn : List He.DefD) (g : Addr → Option Obj) : He.AlD × Bool := (He.obsDG 4 fa fn g, exK gc (He.frG g (He.asD g 4)) && sysB (g sysModules))
structure SaysM (gc : List (Str × Value)) (fa : List He.Fa) (fn : List He.DefD) (K : PySem.W.Frag) (h : Heap) : Prop where
  d : He.SaysD fa fn K
  ex : exK gc K = true
  sys : ∃ o, h.get? sysModules = some o ∧ isListO o = false
def hookM (gc : List (Str × Value)) (fa : List He.Fa) (fn : List He.DefD) : PySem.W.Hook where
  α := He.AlD × Bool
  obs := fun s => obsM gc fa fn s.heap.get?
  val := fun _ => (He.valD fn, true)
  says := fun _ h => ∃ K : PySem.W.Frag, K.In h ∧ SaysM gc fa fn K h
  of := fun w s e => by
    have e1 := congrArg (fun z : He.AlD × Bool => z.1) e
    have e2 : (exK gc (He.frG s.heap.get? (He.asD s.heap.get? 4)) && sysB (s.heap.get? sysModules)) = true := congrArg (fun z : He.AlD × Bool => z.2) e
    simp only [Bool.and_eq_true] at e2
    exact ⟨_, He.frG_in, ⟨e1, e2.1, sysB_of e2.2⟩⟩
  keeps := fun _ _ _ ⟨K, hK, c⟩ k => ⟨K, PySem.W.Frag.In.keeps hK k, ⟨c.d, c.ex, let ⟨o, e, z⟩ := c.sys; ⟨o, k _ _ e, z⟩⟩⟩
theorem obsM_eq {gc : List (Str × Value)} {fa : List He.Fa} {fn : List He.DefD} {g : Addr → Option Obj} {s : Shared} (h : ∀ a, g a = s.heap.get? a) : obsM gc fa fn g = (hookM gc fa fn).obs s := by
  have e : g = s.heap.get? := funext h
  rw [e]
  rfl

/-- the script and the system's table, known from the start -/
def H0 (a : Addr) (oa om : Obj) (ns : List Int) : Hp := fun b => if b = a then some (.frz oa (.lst (ns.map V.int))) else if b = sysModules then some (.frz om (.ext fun h => h.get? sysModules = some om)) else none
theorem mem_lk {a : Addr} {o : Obj} : ∀ {K : PySem.W.Frag}, K.lookup a = some o → (a, o) ∈ K
  | [], e => by cases e
  | (b, u) :: r, e => by
    by_cases q : a = b
    · subst q
      rw [List.lookup_cons, beq_self_eq_true] at e
      cases e
      exact List.mem_cons_self
    · rw [List.lookup_cons, beq_eq_false_iff_ne.mpr q] at e
      exact List.mem_cons_of_mem _ (mem_lk e)
theorem lawM {P : Program} {w : World} {K : PySem.W.Frag} {mg mb : Str → Option Value} {k : Nat} {fa a : Addr} {fd : FuncData} {x : Str} {s₁ : Shared} {vs : List Value} {ns : List Int} {gc : List (Str × Value)} {call : List W → (W → List W → Prop) → Prop}
    (KX : K.In s₁.heap) (hex : exK gc K = true) (hsys : ∃ o, s₁.heap.get? sysModules = some o ∧ isListO o = false) (hns : s₁.heap.Ns mainGlobals mg) (hb : s₁.heap.Ns builtinsNs mb) (hbb : ∀ y : Str, y ≠ "__name__" → mb y = bootBuiltins y) (hlim : s₁.heap.NoLimit) (hg : s₁.gens = #[])
    (ha : s₁.heap.get? a = some { cls := .type "list", data := .seq vs.toArray }) (hi : IntsAre vs ns) (hl : ns.length ≤ sizeLine) (hr : Room k callerA)
    (F : ∀ base : Heap, K.In base → base.Ns mainGlobals mg → FnG P w K mg base k fa fd [x] (spC call [] 1)) (hbind : BindsTo s₁ fd ⟨[.ref a], []⟩ [(x, .ref a)])
    (hcall : call [.d (.list (ns.map PyData.int))] fun w _ => w = .d (.bool true)) :
    codeAny (model P w) callerA (.call (.ref fa) ⟨[.ref a], []⟩) (fun r s' => r = .ok (.ret (.bool true)) ∧ OldK s₁.heap s'.heap ∧ s'.os = s₁.os ∧ AllBare s'.gens) s₁ := by
  obtain ⟨om, hom, hlm⟩ := hsys
  have nas : a ≠ sysModules := fun e => by
    rw [e, hom] at ha
    cases ha
    cases hlm
  unfold exK at hex
  simp only [Bool.and_eq_true, Option.isNone_iff_eq_none] at hex
  obtain ⟨⟨k1, k2⟩, _⟩ := hex
  have ka : K.lookup a = none := by
    cases e : K.lookup a with
    | none => rfl
    | some o =>
      have q := KX a o e
      rw [ha] at q
      cases q
      have := List.all_eq_true.mp k2 _ (mem_lk e)
      cases this
  obtain ⟨oa, hoa⟩ : ∃ oa : Obj, oa = { cls := .type "list", data := .seq vs.toArray } := ⟨_, rfl⟩
  rw [← hoa] at ha
  obtain ⟨H, hH⟩ : ∃ H, H = H0 a oa om ns := ⟨_, rfl⟩
  have Ha : H a = some (.frz oa (.lst (ns.map V.int))) := by rw [hH]; exact if_pos rfl
  have Hs : H sysModules = some (.frz om (.ext fun h => h.get? sysModules = some om)) := by rw [hH]; exact (if_neg (Ne.symm nas)).trans (if_pos rfl)
  have Hn : ∀ b, b ≠ a → b ≠ sysModules → H b = none := fun b h1 h2 => by rw [hH]; exact (if_neg h1).trans (if_neg h2)
  have rv := vals_ints hi
  have hok : HOk P w H s₁.heap := fun b u e => by
    by_cases e1 : b = a
    · subst e1
      rw [Ha] at e
      cases e
      exact ⟨ha, by rw [List.length_map]; exact hl, vs, _, rv, by rw [ha, hoa]⟩
    · by_cases e2 : b = sysModules
      · subst e2
        rw [Hs] at e
        cases e
        exact ⟨hom, hom, ⟨om, hom⟩, fun h1 h2 z kk => kk _ z⟩
      · rw [Hn b e1 e2] at e
        cases e
  have seen : ∀ {b : Addr} {o : Obj}, s₁.heap.get? b = some o → b ≠ a → b ≠ sysModules → (hidT s₁.heap H).get? b = some o := fun e h1 h2 => hidT_get e (Hn _ h1 h2)
  have nsK : ∀ {b : Addr} {m : Str → Option Value}, b ≠ sysModules → s₁.heap.Ns b m → (hidT s₁.heap H).Ns b m := fun {b m} nb ⟨o, es, ep, e, dd, rr⟩ => by
    refine ⟨o, es, ep, seen e (fun z => ?_) nb, dd, rr⟩
    rw [z, ha, hoa] at e
    cases e
    cases dd
  have hKb : K.In (hidT s₁.heap H) := fun b o e => seen (KX b o e) (fun z => by rw [z, ka] at e; cases e) fun z => by rw [z, k1] at e; cases e
  have hM : Mod K mg (hidT s₁.heap H) := by
    refine ⟨hKb, nsK (by decide) hns, ⟨mb, nsK (by decide) hb, hbb⟩, ?_⟩
    obtain ⟨mc, h1, h2⟩ := hlim
    exact ⟨mc, nsK (by decide) h1, h2⟩
  have e0 : Env0 P w K mg (hidT s₁.heap H) callerA [] s₁ H := by
    refine ⟨rfl, hM, fun b o e => of_hidT e, Nat.le_of_eq (hidT_size _ _), trivial, ?_, hok, .of_eq hg⟩
    intro b hb
    cases hb
  have nn : RpL H (ns.map V.int) (ns.map PyData.int) := by
    clear hl rv hi hcall hok Hs Hn Ha hH
    induction ns with
    | nil => exact .nil
    | cons n ns ih => exact .cons (.int n) ih
  have hsp : spC call [] 1 [.ref a] H (fun v _ => v = .bl true) E0 := by
    refine ⟨rfl, [.d (.list (ns.map PyData.int))], [], _, RpWs.cons (f := []) (.d (.lst nas Ha nn)) .nil, List.nodup_nil, ⟨_, _, Hs⟩, hcall, fun w os v H' fo fr q _ r _ => ?_⟩
    subst q
    cases r with
    | d r => cases r; rfl
  refine codeAny_mono ((F _ hKb (nsK (by decide) hns)).run callerA [] s₁ H ⟨[.ref a], []⟩ [.ref a] [.ref a] _ E0 hr rfl e0 hbind (.cons rfl .nil) hsp) fun r s' h => ?_
  cases r with
  | error e => exact (show False from h).elim
  | ok fl =>
    cases fl with
    | next => exact (show False from h).elim
    | brk => exact (show False from h).elim
    | cont => exact (show False from h).elim
    | ret u =>
      obtain ⟨v, H', os, bare, un, hok', r', q⟩ := h
      have q' : v = .bl true := q
      subst q'
      obtain rfl : u = Value.bool true := r'
      refine ⟨rfl, OldK.of_keep fun b o e => ?_, os, bare⟩
      have frz_ : ∀ ob uu, H b = some (.frz ob uu) → s'.heap.get? b = some o := fun ob uu z => by
        have z2 := un.frzs b ob _ z
        obtain ⟨e1, _⟩ := hok b _ z
        obtain ⟨e2, _⟩ := hok' b _ z2
        rw [e] at e1
        cases e1
        exact e2
      by_cases e1 : b = a
      · exact frz_ _ _ (by rw [e1]; exact Ha)
      · by_cases e2 : b = sysModules
        · exact frz_ _ _ (by rw [e2]; exact Hs)
        · refine un.keep b o e (Hn b e1 e2) (fun z => ?_) (by simp)
          cases z
theorem walkM {l : PySem.W.OpenLaw} {n k : Nat} {q : Program} {loose : List Str} {XP : (Str → Option Value) → Heap → Prop} {YP : World → Heap → Prop} {d : DefRec} {x : Str} {gc : List (Str × Value)} {call : List W → (W → List W → Prop) → Prop}
    (hn : l.most = some n) (hn2 : n ≤ sizeLine) (hdf : d.params.defaults = []) (hr : Room k callerA)
    (F : ∀ (w : World) (mg : Str → Option Value) (fa : Addr) (h : Heap), YP w h → h.Ns mainGlobals mg → mg d.name = some (.ref fa) →
      ∃ (K : PySem.W.Frag) (fd : FuncData), K.In h ∧ exK gc K = true ∧ (∃ o, h.get? sysModules = some o ∧ isListO o = false) ∧ (∀ (s : Shared) (u : Value), BindsTo s fd ⟨[u], []⟩ [(x, u)]) ∧
        ∀ base : Heap, K.In base → base.Ns mainGlobals mg → FnG l.prog w K mg base k fa fd [x] (spC call [] 1))
    (hcall : ∀ ns : List Int, ns.length ≤ n → call [.d (.list (ns.map PyData.int))] fun w _ => w = .d (.bool true)) :
    PySem.W.WalkO q loose XP YP l.row.toRowW d [] (fun f vs => PySem.call f vs) := by
  refine Att.attach_call hn hdf ?_
  intro w s₀ s₁ mg mb fa o pm cd doc a vs ns G Y ho hd hcd hmg hobj hints hlen hg
  obtain ⟨K, fd, KX, hex, hsys, hb, hF⟩ := F w mg fa _ Y G.T.g hmg
  exact lawM KX hex hsys G.T.g G.T.b G.T.builtins G.T.nolimit hg hobj hints (Nat.le_trans hlen hn2) hr hF (hb s₁ (.ref a)) (hcall ns hlen)
end Mn

set_option linter.all false
set_option Elab.async false
set_option maxRecDepth 100000
set_option maxHeartbeats 4000000
/-! Mn: a whole table; the law's end. -/
namespace Mn
open PySem PySem.Spec PyProof.Rows L2

structure Rw where
  x : Str
  ps : List Str
  N : List Str
  fd : Fd
  st : Nat
def gt (rows : List Rw) (blt : List Str) (gc : List (Str × Value)) : Gt := ⟨[], rows.map fun r => (r.x, r.ps), rows.map fun r => r.fd, blt, gc⟩
def mkD (top : Nat → Stmt) (x : Str) (i : Nat) : He.DefD := ⟨(x, none), x, x, defArgs (top i), defBody (top i), defScope (top i), [], []⟩
def fnR (top : Nat → Stmt) (rows : List Rw) : List He.DefD := rows.map fun r => mkD top r.x r.st
def faR (rows : List Rw) (blt : List Str) : List He.Fa := (rows.map fun r => He.Fa.glo r.x) ++ blt.map He.Fa.free
def scC (N ps : List Str) (sc : Scope) : Bool := decide (sc.kind = .function) && !sc.isCoroutine && !sc.isGenerator && decide N.Nodup && decide (N.take ps.length = ps) && (ps.all fun x => decide (sc.names.lookup x = some .local) || decide (sc.names.lookup x = some .cell)) && (sc.names.all fun y => !decide (y.2 = .free))
theorem sc_of {N ps : List Str} {sc : Scope} (h : scC N ps sc = true) : FnScope N ps sc := by
  unfold scC at h
  simp only [Bool.and_eq_true, decide_eq_true_eq, Bool.not_eq_true', List.all_eq_true, Bool.or_eq_true, decide_eq_false_iff_not] at h
  obtain ⟨⟨⟨⟨⟨⟨h1, h2⟩, h3⟩, h4⟩, h5⟩, h6⟩, h7⟩ := h
  exact ⟨h1, h2, h3, h4, h5, h6, h7⟩
def rowC (G : Gt) (top : Nat → Stmt) (r : Rw) : Bool := scC r.N r.ps (defScope (top r.st)) && decide (plainP (defArgs (top r.st)) = some r.ps) && decide (r.fd.ps = r.ps.length) && decide (r.fd.n = r.N.length) && decide (r.fd.refs.length ≤ 1) && (r.fd.refs.all fun j => decide (j < r.ps.length)) &&
  chkB { G with N := r.N } r.fd.refs (defScope (top r.st)) (fun _ => true) r.fd.body (defBody (top r.st))
section
variable {K : PySem.W.Frag} {h : Heap} {mg : Str → Option Value} {top : Nat → Stmt} {rows : List Rw} {blt : List Str} {gc : List (Str × Value)}
theorem tab_of (hc : rows.all (rowC (gt rows blt gc) top) = true) (X : K.In h) (G : h.Ns mainGlobals mg) (c : SaysM gc (faR rows blt) (fnR top rows) K h) : TabOk K mg (gt rows blt gc) := by
  have cf : ∀ f ∈ faR rows blt, f.ok K = true := fun f hf => by
    obtain ⟨i, hi, e⟩ := List.mem_iff_getElem.mp hf
    exact c.d.fact i (f := f) (by rw [List.getElem?_eq_getElem hi, e])
  constructor
  · intro i x ps fd h1 h2
    have h1 : (rows.map fun r => (r.x, r.ps))[i]? = some (x, ps) := h1
    have h2 : (rows.map fun r => r.fd)[i]? = some fd := h2
    rw [List.getElem?_map] at h1 h2
    cases hr : rows[i]? with
    | none => rw [hr] at h1; cases h1
    | some r =>
      rw [hr] at h1 h2
      cases h1
      cases h2
      have hm : r ∈ rows := List.mem_of_getElem? hr
      have q := List.all_eq_true.mp hc r hm
      unfold rowC at q
      simp only [Bool.and_eq_true, decide_eq_true_eq, List.all_eq_true] at q
      obtain ⟨⟨⟨⟨⟨⟨q1, q2⟩, q3⟩, q4⟩, q5⟩, q6⟩, q7⟩ := q
      obtain ⟨dat, F⟩ := c.d.def_ i (d := mkD top r.x r.st) (by
        show (rows.map _)[i]? = _
        rw [List.getElem?_map, hr]
        rfl)
      have g := He.glo_ok X G (cf (.glo r.x) (List.mem_append_left _ (List.mem_map.mpr ⟨r, hm, rfl⟩)))
      exact ⟨r.x, _, _, _, _, dat, r.N, g, F, q2, sc_of q1, q3, q4, q5, q6, q7⟩
  · intro x hx
    exact He.free_ok X G (cf (.free x) (List.mem_append_right _ (List.mem_map.mpr ⟨x, hx, rfl⟩)))
  · intro q hq
    have hq : q ∈ gc := hq
    have e := c.ex
    unfold exK at e
    simp only [Bool.and_eq_true, List.all_eq_true, decide_eq_true_eq] at e
    exact PySem.W.mg_of X G (e.2 q hq)
theorem FunD.at_ {x q : Str} {pa : Arguments} {bo : List Stmt} {sc : Scope} {dv : List V} {kw : List (Str × V)} {f : Addr} {fd : FuncData} (F : FunD K x q pa bo sc dv kw f fd) : ∃ (oc : Value) (od : Option Addr) (osl : Array (Option Value)), K.lookup f = some ⟨oc, od, .func fd, osl⟩ := by
  obtain ⟨oc, od, dV, kV, doc, pm, an, cdv, ct, osl, e, lk, _⟩ := F.ex
  exact ⟨oc, od, osl, lk⟩
/-- the law's def, over every base -/
theorem law_fn {P : Program} {w : World} {G : Gt} (T : TabOk K mg G) {fa : Addr} {n i : Nat} {x y : Str} {fd : Fd} (hfa : mg x = some (.ref fa)) (h1 : G.fns[i]? = some (x, [y])) (h2 : G.tb[i]? = some fd) (h3 : fd.refs = []) :
    ∃ dat : FuncData, (∀ (s : Shared) (u : Value), BindsTo s dat ⟨[u], []⟩ [(y, u)]) ∧ ∀ base : Heap, FnG P w K mg base n fa dat [y] (spC (callN G.tb n i) [] 1) := by
  obtain ⟨f, dat, q, pa, bo, sc, a1, a2, a3, _⟩ := level (P := P) (w := w) (base := default) T n i x [y] fd h1 h2
  rw [hfa] at a1
  cases a1
  refine ⟨dat, fun s u => ?_, fun base => ?_⟩
  · exact bind_fun (kw := []) (ks := []) (m := 1) a2 a3 (.inl ⟨rfl, rfl, rfl, by simp⟩) (us := [u]) (ws := []) rfl rfl
  · obtain ⟨f', dat', q', pa', bo', sc', b1, b2, b3, b4⟩ := level (P := P) (w := w) (base := base) T n i x [y] fd h1 h2
    rw [hfa] at b1
    cases b1
    obtain ⟨_, _, _, e1⟩ := FunD.at_ a2
    obtain ⟨_, _, _, e2⟩ := FunD.at_ b2
    rw [e1] at e2
    cases e2
    rw [h3] at b4
    exact b4
end
end Mn

set_option linter.all false
set_option Elab.async false
set_option maxRecDepth 100000
set_option maxHeartbeats 2000000
/-! Mn: plain rules for the evaluator. -/
namespace Mn
open PySem

/-! ### rewriting -/
theorem slot0 (a : Option W) (l : Env) : slot (a :: l) 0 = a := by cases a <;> rfl
theorem slotS (a : Option W) (l : Env) (n : Nat) : slot (a :: l) (n + 1) = slot l n := rfl
theorem slots : (∀ (a : Option W) (l : Env), slot (a :: l) 0 = a) ∧ (∀ (a : Option W) (l : Env) (n : Nat), slot (a :: l) (n + 1) = slot l n) := ⟨slot0, slotS⟩
theorem sets : (∀ (a b : Option W) (l : Env), List.set (a :: l) 0 b = b :: l) ∧ (∀ (a b : Option W) (l : Env) (n : Nat), List.set (a :: l) (n + 1) b = a :: List.set l n b) := ⟨fun _ _ _ => rfl, fun _ _ _ _ => rfl⟩
theorem ones : (∀ p e f, one (.d p) e f = f p) ∧ (∀ p q e f, two (.d p) (.d q) e f = f p q) ∧ (∀ c f, asB (.d (.bool c)) f = f c) ∧ (∀ c f, asI (.d (.int c)) f = f c) ∧ (∀ xs f, asSeq (.tuple xs) f = f xs) ∧ (∀ xs f, asSeq (.list xs) f = f xs) :=
  ⟨fun _ _ _ => rfl, fun _ _ _ _ => rfl, fun _ _ => rfl, fun _ _ => rfl, fun _ _ => rfl, fun _ _ => rfl⟩
theorem moves : (∀ x e Q, fz (.d x) e Q = Q x e) ∧ (∀ x e Q, mv (.d x) e Q = Q (.d x) e) ∧ (∀ x e Q, give (.d x) e Q = Q (.d x) e) ∧ (∀ x e Q, mv (.ol x) e Q = Q (.ol x) e) ∧ (∀ x e Q, give (.ol x) e Q = Q (.ol x) e) ∧ (∀ x e Q, fz (.ol x) e Q = Q (.list (W.pds x)) e) ∧
    (∀ k x e Q, mv (.od k x) e Q = Q (.od k x) e) ∧ (∀ k x e Q, give (.od k x) e Q = Q (.od k x) e) := ⟨fun _ _ _ => rfl, fun _ _ _ => rfl, fun _ _ _ => rfl, fun _ _ _ => rfl, fun _ _ _ => rfl, fun _ _ _ => rfl, fun _ _ _ _ => rfl, fun _ _ _ _ => rfl⟩
theorem pds_d (xs : List PD) : W.pds (xs.map W.d) = xs := by
  induction xs with
  | nil => rfl
  | cons x xs ih => simp only [List.map_cons, W.pds, ih, W.pd]
theorem one_ol (xs : List PD) (e : Env) (f : PD → Prop) : one (.ol (xs.map .d)) e f = f (.list xs) := by
  simp only [one, bor, allD_map, Option.map_some]
theorem two_ol (xs : List PD) (y : PD) (e : Env) (f : PD → PD → Prop) : two (.ol (xs.map .d)) (.d y) e f = f (.list xs) y := by
  simp only [two, bor, allD_map, Option.map_some]
theorem retW_nil (p n : Nat) (b : IB) (Q : W → List W → Prop) (w : W) (e : Env) : retW ⟨p, [], n, b⟩ Q w e = Q w [] := rfl
theorem perm0 {α : Type} (ws : List α) : permute [] ws = ws := rfl
theorem lends : (∀ e, lend e [] = some []) ∧ (∀ e x r, lend e (.v x :: r) = (lend e r).map (.d x :: ·)) ∧ (∀ e, taken e [] [] = some e) ∧ (∀ e x r os, taken e (.v x :: r) os = taken e r os) := ⟨fun _ => rfl, fun _ _ _ => rfl, fun _ => rfl, fun _ _ _ _ => rfl⟩

/-! ### comprehensions and loops -/
/-- a comprehension whose members are a function of the items -/
theorem acc_map {own : List Nat} {step : PD → Env → List W → (List W → Env → Prop) → Prop} {e : Env} {Q : List W → Env → Prop} (g : PD → W) : ∀ {items : List PD} {acc : List W}, acc.length + items.length ≤ lim →
    (∀ x ∈ items, ∀ (acc : List W) (k : List W → Env → Prop), acc.length < lim → (∀ e', wipes e' own = e → k (acc ++ [g x]) e') → step x e acc k) → Q (acc ++ items.map g) e → accW own step items e acc Q
  | [], acc, _, _, hq => by
    rw [List.map_nil, List.append_nil] at hq
    exact hq
  | x :: items, acc, hl, hs, hq => by
    rw [List.length_cons] at hl
    refine hs x List.mem_cons_self acc _ (by omega) fun e' he => ?_
    rw [he]
    exact acc_map g (by rw [List.length_append, List.length_singleton]; omega) (fun y hy => hs y (List.mem_cons_of_mem _ hy)) (by rw [List.append_assoc]; exact hq)
/-- the same with a test -/
theorem acc_filter {own : List Nat} {step : PD → Env → List W → (List W → Env → Prop) → Prop} {e : Env} {Q : List W → Env → Prop} (p : PD → Bool) (g : PD → W) : ∀ {items : List PD} {acc : List W}, acc.length + items.length ≤ lim →
    (∀ x ∈ items, ∀ (acc : List W) (k : List W → Env → Prop), acc.length < lim → (∀ e', wipes e' own = e → k (if p x then acc ++ [g x] else acc) e') → step x e acc k) → Q (acc ++ (items.filter p).map g) e → accW own step items e acc Q
  | [], acc, _, _, hq => by
    rw [List.filter_nil, List.map_nil, List.append_nil] at hq
    exact hq
  | x :: items, acc, hl, hs, hq => by
    rw [List.length_cons] at hl
    refine hs x List.mem_cons_self acc _ (by omega) fun e' he => ?_
    rw [he]
    by_cases hp : p x = true
    · rw [if_pos hp]
      refine acc_filter p g (by rw [List.length_append, List.length_singleton]; omega) (fun y hy => hs y (List.mem_cons_of_mem _ hy)) ?_
      rw [List.filter_cons_of_pos hp, List.map_cons] at hq
      rw [List.append_assoc]
      exact hq
    · rw [if_neg hp]
      refine acc_filter p g (by omega) (fun y hy => hs y (List.mem_cons_of_mem _ hy)) ?_
      rw [List.filter_cons_of_neg hp] at hq
      exact hq
/-- a loop by an invariant of what is still to come -/
theorem for_inv {step : PD → Env → K → Prop} {k : K} (I : List PD → Env → Prop) (hs : ∀ x xs e, I (x :: xs) e → ∀ k' : K, k'.rt = k.rt → k'.bk = k.nx → (∀ e', I xs e' → k'.nx e') → (∀ e', I xs e' → k'.ct e') → step x e k') (hd : ∀ e, I [] e → k.nx e) : ∀ (items : List PD) (e : Env), I items e → forW step items e k
  | [], e, h => hd e h
  | x :: xs, e, h => hs x xs e h _ rfl rfl (fun e' h' => for_inv I hs hd xs e' h') fun e' h' => for_inv I hs hd xs e' h'
end Mn

set_option linter.all false
set_option Elab.async false
set_option maxRecDepth 100000
set_option maxHeartbeats 2000000
/-! Mn: backward rules for the evaluator. -/
namespace Mn
open PySem
section
variable {C : Ctx} {env e : Env} {Q : W → Env → Prop} {i j f : Nat} {x y z : PD} {a b c t : IE} {es r args kwa : IL} {kw own own1 : List Nat} {k : K} {xs ys : List PD} {m n : Int}
theorem r_var (h : ∃ x, slot env i = some (.d x) ∧ Q (.d x) env) : evE C (.var i) env Q := by obtain ⟨x, h, q⟩ := h; simp only [evE, h]; exact q
theorem r_varL (h : ∃ ws, slot env i = some (.ol ws) ∧ Q (.al i) env) : evE C (.var i) env Q := by obtain ⟨x, h, q⟩ := h; simp only [evE, h]; exact q
theorem r_varD (h : ∃ ks ws, slot env i = some (.od ks ws) ∧ Q (.al i) env) : evE C (.var i) env Q := by obtain ⟨x, y, h, q⟩ := h; simp only [evE, h]; exact q
theorem r_frz (h : ∃ ws, slot env i = some (.ol ws) ∧ Q (.d (.list (W.pds ws))) (env.set i (some (.d (.list (W.pds ws)))))) : evE C (.frz i) env Q := by obtain ⟨x, h, q⟩ := h; simp only [evE, h]; exact q
theorem r_frzd (h : ∃ x, slot env i = some (.d x) ∧ Q (.d x) env) : evE C (.frz i) env Q := by obtain ⟨x, h, q⟩ := h; simp only [evE, h]; exact q
theorem r_cI (q : Q (.d (.int m)) env) : evE C (.cI m) env Q := by simp only [evE]; exact q
theorem r_cS {s : Str} (q : Q (.d (.str s)) env) : evE C (.cS s) env Q := by simp only [evE]; exact q
theorem r_cB {s : Bool} (q : Q (.d (.bool s)) env) : evE C (.cB s) env Q := by simp only [evE]; exact q
theorem r_cN (q : Q (.d .none) env) : evE C .cN env Q := by simp only [evE]; exact q
theorem r_bin {o : Bo} (q : evE C a env fun x e1 => evE C b e1 fun y e2 => two x y e2 fun p q => bo o p q fun w => Q w e2) : evE C (.bin o a b) env Q := by simp only [evE]; exact q
theorem r_neg (q : evE C a env fun x e1 => asI x fun i => Q (.d (.int (-i))) e1) : evE C (.neg a) env Q := by simp only [evE]; exact q
theorem r_cmp {o : Co} (q : evE C a env fun x e1 => evE C b e1 fun y e2 => two x y e2 fun p q => co o p q fun c => Q (.d (.bool c)) e2) : evE C (.cmp o a b) env Q := by simp only [evE]; exact q
theorem r_cmp2 {o p : Co} (q : evE C a env fun x e1 => evE C b e1 fun y e2 => two x y e2 fun u v => co o u v fun k => if k = true then evE C c e2 fun z e3 => two y z e3 fun u v => co p u v fun c => Q (.d (.bool c)) e3 else Q (.d (.bool false)) e2) : evE C (.cmp2 o p a b c) env Q := by simp only [evE]; exact q
theorem r_and (q : evAnd C es env Q) : evE C (.andv es) env Q := by simp only [evE]; exact q
theorem r_or (q : evOr C es env Q) : evE C (.orv es) env Q := by simp only [evE]; exact q
theorem r_andc (q : evE C a env fun x e1 => asB x fun c => if c = true then evAnd C r e1 Q else Q (.d (.bool false)) e1) : evAnd C (.cons a r) env Q := by simp only [evAnd]; exact q
theorem r_andn (q : Q (.d (.bool true)) env) : evAnd C .nil env Q := by simp only [evAnd]; exact q
theorem r_orc (q : evE C a env fun x e1 => asB x fun c => if c = true then Q (.d (.bool true)) e1 else evOr C r e1 Q) : evOr C (.cons a r) env Q := by simp only [evOr]; exact q
theorem r_orn (q : Q (.d (.bool false)) env) : evOr C .nil env Q := by simp only [evOr]; exact q
theorem r_not (q : evE C a env fun x e1 => asB x fun c => Q (.d (.bool (!c))) e1) : evE C (.notv a) env Q := by simp only [evE]; exact q
theorem r_ife (q : evE C t env fun x e1 => asB x fun c => if c = true then evE C a e1 Q else evE C b e1 Q) : evE C (.ife t a b) env Q := by simp only [evE]; exact q
theorem r_tup (q : evF C es env fun xs e => xs.length ≤ lim ∧ Q (.d (.tuple xs)) e) : evE C (.tup es) env Q := by simp only [evE]; exact q
theorem r_lst (q : evM C es env fun xs e => xs.length ≤ lim ∧ Q (.ol xs) e) : evE C (.lst es) env Q := by simp only [evE]; exact q
theorem r_idx (q : evE C a env fun x e1 => evE C b e1 fun y e2 => two x y e2 fun p q => idxD p q fun z => Q (.d z) e2) : evE C (.idx a b) env Q := by simp only [evE]; exact q
theorem r_slc (q : evE C a env fun x e1 => evE C b e1 fun l e2 => asI l fun lo => evE C c e2 fun h e3 => asI h fun hi => one x e3 fun p => slcD p (some lo) (some hi) fun w => Q w e3) : evE C (.slc a b c) env Q := by simp only [evE]; exact q
theorem r_slcL (q : evE C a env fun x e1 => evE C b e1 fun l e2 => asI l fun lo => one x e2 fun p => slcD p (some lo) none fun w => Q w e2) : evE C (.slcL a b) env Q := by simp only [evE]; exact q
theorem r_slcH (q : evE C a env fun x e1 => evE C b e1 fun l e2 => asI l fun hi => one x e2 fun p => slcD p none (some hi) fun w => Q w e2) : evE C (.slcH a b) env Q := by simp only [evE]; exact q
theorem r_slcA (q : evE C a env fun x e1 => one x e1 fun p => slcD p none none fun w => Q w e1) : evE C (.slcA a) env Q := by simp only [evE]; exact q
theorem r_rev (q : evE C a env fun x e1 => one x e1 fun p => revD p fun w => Q w e1) : evE C (.rev a) env Q := by simp only [evE]; exact q
theorem r_b1 {g : B1} (q : evE C a env fun x e1 => one x e1 fun p => b1 g p fun w => Q w e1) : evE C (.b1 g a) env Q := by simp only [evE]; exact q
theorem r_b2 {g : B2} (q : evE C a env fun x e1 => evE C b e1 fun y e2 => two x y e2 fun p q => b2 g p q fun w => Q w e2) : evE C (.b2 g a b) env Q := by simp only [evE]; exact q
theorem r_isi {g : Ty} (q : evE C a env fun x e1 => one x e1 fun p => Q (.d (.bool (tyOf p g))) e1) : evE C (.isi a g) env Q := by simp only [evE]; exact q
theorem r_fn {Q : List PD → Env → Prop} (q : Q [] env) : evF C .nil env Q := by simp only [evF]; exact q
theorem r_fc {Q : List PD → Env → Prop} (q : evE C a env fun w e1 => fz w e1 fun x e2 => evF C r e2 fun xs e3 => Q (x :: xs) e3) : evF C (.cons a r) env Q := by simp only [evF]; exact q
theorem r_mn {Q : List W → Env → Prop} (q : Q [] env) : evM C .nil env Q := by simp only [evM]; exact q
theorem r_mc {Q : List W → Env → Prop} (q : evE C a env fun w e1 => mv w e1 fun x e2 => evM C r e2 fun xs e3 => Q (x :: xs) e3) : evM C (.cons a r) env Q := by simp only [evM]; exact q
theorem r_an {Q : List Arg → Env → Prop} (q : Q [] env) : evA C .nil env Q := by simp only [evA]; exact q
theorem r_ac {Q : List Arg → Env → Prop} (q : evE C a env fun w e1 => fz w e1 fun x e2 => evA C r e2 fun xs e3 => Q (.v x :: xs) e3) : evA C (.cons a r) env Q := by simp only [evA]; exact q
theorem r_ar {Q : List Arg → Env → Prop} (h : (slot env i).isSome = true) (q : evA C r env fun xs e3 => Q (.r i :: xs) e3) : evA C (.ref i r) env Q := by simp only [evA]; exact ⟨h, q⟩
/-- a call's end, apart -/
def goW (C : Ctx) (f : Nat) (kw : List Nat) (as : List Arg) (e : Env) (Q : W → Env → Prop) : Prop := match lend e as with
  | some ws => C.call f (permute kw ws) fun w os => match taken e as os with
    | some e' => Q w e'
    | none => False
  | none => False
theorem r_cal (q : evA C args env fun as e0 => evA C kwa e0 fun bs e => goW C f kw (as ++ bs) e Q) : evE C (.cal f args kwa kw) env Q := by simp only [evE]; exact q
theorem go_v {xs : List PD} (q : C.call f (permute kw (xs.map .d)) fun w os => os = [] ∧ Q w e) : goW C f kw (xs.map .v) e Q := by
  have l : ∀ xs : List PD, lend e (xs.map .v) = some (xs.map .d) := fun xs => by
    induction xs with
    | nil => rfl
    | cons x xs ih => simp only [List.map_cons, lend, ih, Option.map_some]
  have tk : ∀ (xs : List PD) (os : List W), taken e (xs.map .v) os = if os = [] then some e else none := fun xs os => by
    induction xs with
    | nil => cases os <;> rfl
    | cons x xs ih => exact ih
  unfold goW
  rw [l]
  dsimp only
  have : (fun (w : W) (os : List W) => match taken e (xs.map .v) os with | some e' => Q w e' | none => False) = fun w os => os = [] ∧ Q w e := by
    funext w os
    rw [tk]
    by_cases h : os = []
    · simp [h]
    · simp [h]
  rw [this]
  exact q
theorem go1 (q : C.call f [.d x] fun w os => os = [] ∧ Q w e) : goW C f [] ([.v x] ++ []) e Q := go_v (kw := []) (xs := [x]) q
theorem go2 (q : C.call f [.d x, .d y] fun w os => os = [] ∧ Q w e) : goW C f [] ([.v x, .v y] ++ []) e Q := go_v (kw := []) (xs := [x, y]) q
theorem go3 (q : C.call f [.d x, .d y, .d z] fun w os => os = [] ∧ Q w e) : goW C f [] ([.v x, .v y, .v z] ++ []) e Q := go_v (kw := []) (xs := [x, y, z]) q
/-- with a lent dict ahead -/
theorem go_r {ks : List PD} {vs : List W} {xs : List PD} (h : slot e i = some (.od ks vs)) (q : C.call f (.od ks vs :: xs.map .d) fun w os => ∃ o, os = [o] ∧ Q w (e.set i (some o))) : goW C f [] (.r i :: xs.map .v) e Q := by
  have l : ∀ xs : List PD, lend e (xs.map .v) = some (xs.map .d) := fun xs => by
    induction xs with
    | nil => rfl
    | cons x xs ih => simp only [List.map_cons, lend, ih, Option.map_some]
  have tk : ∀ (xs : List PD) (os : List W), taken e (xs.map .v) os = if os = [] then some e else none := fun xs os => by
    induction xs with
    | nil => cases os <;> rfl
    | cons x xs ih => exact ih
  unfold goW
  simp only [lend, h, l, Option.map_some]
  have : (fun (w : W) (os : List W) => match taken e (.r i :: xs.map .v) os with | some e' => Q w e' | none => False) = fun w os => ∃ o, os = [o] ∧ Q w (e.set i (some o)) := by
    funext w os
    cases os with
    | nil => simp [taken]
    | cons o os =>
      simp only [taken, tk]
      by_cases h : os = []
      · simp [h]
      · simp [h]
  rw [this]
  exact q
theorem goR1 {ks : List PD} {vs : List W} (h : slot e i = some (.od ks vs)) (q : C.call f [.od ks vs] fun w os => ∃ o, os = [o] ∧ Q w (e.set i (some o))) : goW C f [] ([.r i] ++ []) e Q := go_r (xs := []) h q
theorem goR2 {ks : List PD} {vs : List W} (h : slot e i = some (.od ks vs)) (q : C.call f [.od ks vs, .d x] fun w os => ∃ o, os = [o] ∧ Q w (e.set i (some o))) : goW C f [] ([.r i, .v x] ++ []) e Q := go_r (xs := [x]) h q
theorem goR3 {ks : List PD} {vs : List W} (h : slot e i = some (.od ks vs)) (q : C.call f [.od ks vs, .d x, .d y] fun w os => ∃ o, os = [o] ∧ Q w (e.set i (some o))) : goW C f [] ([.r i, .v x, .v y] ++ []) e Q := go_r (xs := [x, y]) h q
/-! ### loops, apart -/
def lcStep (C : Ctx) (mvd : Bool) (tg : Tg) (ifs elt : IE) : PD → Env → List W → (List W → Env → Prop) → Prop := fun x e acc k => bindT tg x e fun e2 => evE C ifs e2 fun t e3 => asB t fun c => if c = true then evE C elt e3 fun w e4 => putW mvd acc w e4 k else k acc e3
def lcStep2 (C : Ctx) (mvd : Bool) (tg : Tg) (elt : IE) : PD → Env → List W → (List W → Env → Prop) → Prop := fun y e acc k => bindT tg y e fun e4 => evE C elt e4 fun w e5 => putW mvd acc w e5 k
def forStep (C : Ctx) (tg : Tg) (body : IB) : PD → Env → K → Prop := fun x e k' => bindT tg x e fun e2 => evB C body e2 k'
theorem r_lc {mvd : Bool} {tg : Tg} {src : II} (q : evI C src env fun items e1 => (own.all (plainSlot e1)) = true ∧ accW own (lcStep C mvd tg a b) items (wipes e1 own) [] fun acc e2 => Q (.ol acc) (back e2 e1 own)) : evE C (.lc mvd own tg src a b) env Q := by simp only [evE]; exact q
theorem r_lc2 {mvd : Bool} {tg tg1 : Tg} {src src1 : II} (q : evI C src env fun items e1 => (own.all (plainSlot e1)) = true ∧ accW own (fun x e acc k => bindT tg x e fun e2 => evI C src1 e2 fun items1 e3 => accW own1 (lcStep2 C mvd tg1 b) items1 (wipes e3 own1) acc k) items (wipes e1 own) [] fun acc e2 => Q (.ol acc) (back e2 e1 own)) : evE C (.lc2 mvd own own1 tg src tg1 src1 b) env Q := by simp only [evE]; exact q
theorem r_rng1 {Q : List PD → Env → Prop} (q : evE C a env fun x e1 => asI x fun n => n < 2 ^ 30 ∧ -(2 ^ 30) < n ∧ Q ((List.range n.toNat).map fun i => .int (i : Nat)) e1) : evI C (.rng1 a) env Q := by simp only [evI]; exact q
theorem r_rng2 {Q : List PD → Env → Prop} (q : evE C a env fun x e1 => evE C b e1 fun y e2 => asI x fun m => asI y fun n => (m < 2 ^ 30 ∧ -(2 ^ 30) < m ∧ n < 2 ^ 30 ∧ -(2 ^ 30) < n) ∧ Q ((List.range (n - m).toNat).map fun i => .int (m + (i : Nat))) e2) : evI C (.rng2 a b) env Q := by simp only [evI]; exact q
theorem r_seq {Q : List PD → Env → Prop} (q : evE C a env fun x e1 => fz x e1 fun p e2 => asSeq p fun xs => Q xs e2) : evI C (.seq a) env Q := by simp only [evI]; exact q
theorem r_enm {Q : List PD → Env → Prop} (q : evE C a env fun x e1 => fz x e1 fun p e2 => asSeq p fun xs => Q (xs.zipIdx.map fun z => .tuple [.int (z.2 : Nat), z.1]) e2) : evI C (.enm a) env Q := by simp only [evI]; exact q
theorem r_zip {Q : List PD → Env → Prop} (q : evE C a env fun x e1 => fz x e1 fun p e2 => evE C b e2 fun y e3 => fz y e3 fun q e4 => asSeq p fun xs => asSeq q fun ys => Q ((xs.zip ys).map fun z => .tuple [z.1, z.2]) e4) : evI C (.zip a b) env Q := by simp only [evI]; exact q
/-! ### statements -/
variable {s : IS} {sb sc' : IB} {es' : IL} {is : List Nat}
theorem r_nil (q : k.nx env) : evB C .nil env k := by simp only [evB]; exact q
/-- what follows a statement -/
def kSeq (C : Ctx) (sb : IB) (k : K) : K := { nx := fun e => evB C sb e k, rt := k.rt, bk := k.bk, ct := k.ct }
theorem r_cons (q : evS C s env (kSeq C sb k)) : evB C (.cons s sb) env k := by simp only [evB]; exact q
theorem r_seqnx (q : evB C sb e k) : (kSeq C sb k).nx e := q
theorem r_seqrt {w : W} (q : k.rt w e) : (kSeq C sb k).rt w e := q
theorem r_seqbk (q : k.bk e) : (kSeq C sb k).bk e := q
theorem r_seqct (q : k.ct e) : (kSeq C sb k).ct e := q
theorem r_set (q : evE C a env fun w e1 => mv w e1 fun w e2 => k.nx (e2.set i (some w))) : evS C (.set i a) env k := by simp only [evS]; exact q
theorem r_par (q : evM C es env fun ws e => ws.length = is.length ∧ k.nx (setAll e is ws)) : evS C (.par is es) env k := by simp only [evS]; exact q
theorem r_aug (h : ∃ m, slot env i = some (.d (.int m)) ∧ evE C a env fun y e1 => asI y fun b => k.nx (e1.set i (some (.d (.int (m + b)))))) : evS C (.aug i a) env k := by obtain ⟨m, h, q⟩ := h; simp only [evS, h]; exact q
theorem r_exp (q : evE C a env fun _ e1 => k.nx e1) : evS C (.exp a) env k := by simp only [evS]; exact q
theorem r_ret (q : evE C a env fun w e1 => give w e1 fun w e2 => k.rt w e2) : evS C (.ret a) env k := by simp only [evS]; exact q
theorem r_retN (q : k.rt (.d .none) env) : evS C .retN env k := by simp only [evS]; exact q
theorem r_if (q : evE C t env fun x e1 => asB x fun c => if c = true then evB C sb e1 k else evB C sc' e1 k) : evS C (.ife t sb sc') env k := by simp only [evS]; exact q
theorem r_for {tg : Tg} {src : II} (q : evI C src env fun items e1 => forW (forStep C tg sb) items e1 k) : evS C (.fora tg src sb) env k := by simp only [evS]; exact q
theorem r_app (h0 : isOl env i = true) (q : evE C a env fun w e1 => mv w e1 fun w e2 => ∃ ws, slot e2 i = some (.ol ws) ∧ ws.length < lim ∧ k.nx (e2.set i (some (.ol (ws ++ [w]))))) : evS C (.app i a) env k := by
  simp only [evS]
  refine ⟨h0, ?_⟩
  have : (fun (w : W) (e2 : Env) => ∃ ws, slot e2 i = some (.ol ws) ∧ ws.length < lim ∧ k.nx (e2.set i (some (.ol (ws ++ [w]))))) = fun w e2 => match slot e2 i with
    | some (.ol ws) => ws.length < lim ∧ k.nx (e2.set i (some (.ol (ws ++ [w]))))
    | _ => False := by
    funext w e2
    apply propext
    constructor
    · rintro ⟨ws, h, q⟩
      rw [h]
      exact q
    · intro h
      split at h
      · next ws h1 => exact ⟨ws, h1, h⟩
      · exact h.elim
  rw [this] at q
  exact q
/-! ### operations -/
variable {p q' : PD} {F : PD → Prop} {F2 : PD → PD → Prop} {Qw : W → Prop} {Qb : Bool → Prop} {fb : Bool → Prop} {A B : Prop}
theorem r_one (q : F p) : one (.d p) e F := q
theorem r_oneL (q : F (.list xs)) : one (.ol (xs.map .d)) e F := by rw [one_ol]; exact q
theorem r_two (q : F2 p q') : two (.d p) (.d q') e F2 := q
theorem r_asI {fi : Int → Prop} (q : fi m) : asI (.d (.int m)) fi := q
theorem r_asB {v : Bool} (q1 : v = true → fb true) (q2 : v = false → fb false) : asB (.d (.bool v)) fb := by cases v; exact q2 rfl; exact q1 rfl
theorem r_iteT (q : A) : (if true = true then A else B) := by rw [if_pos rfl]; exact q
theorem r_iteF (q : B) : (if false = true then A else B) := by rw [if_neg Bool.false_ne_true]; exact q
theorem r_fz {Q : PD → Env → Prop} (q : Q x e) : fz (.d x) e Q := q
theorem r_fzL {Q : PD → Env → Prop} (q : Q (.list xs) e) : fz (.ol (xs.map .d)) e Q := by
  show Q (W.pd (.ol _)) e
  simp only [W.pd, pds_d]
  exact q
theorem r_mv (q : Q (.d x) e) : mv (.d x) e Q := q
theorem r_mvL {ws : List W} (q : Q (.ol ws) e) : mv (.ol ws) e Q := q
theorem r_mvD {ks : List PD} {ws : List W} (q : Q (.od ks ws) e) : mv (.od ks ws) e Q := q
theorem r_gv (q : Q (.d x) e) : give (.d x) e Q := q
theorem r_gvL {ws : List W} (q : Q (.ol ws) e) : give (.ol ws) e Q := q
theorem r_gvD {ks : List PD} {ws : List W} (q : Q (.od ks ws) e) : give (.od ks ws) e Q := q
theorem r_add (q : Qw (.d (.int (m + n)))) : bo .add (.int m) (.int n) Qw := q
theorem r_sub (q : Qw (.d (.int (m - n)))) : bo .sub (.int m) (.int n) Qw := q
theorem r_mul (h : MulOk m n) (q : Qw (.d (.int (m * n)))) : bo .mul (.int m) (.int n) Qw := ⟨h, q⟩
theorem r_addT (h : xs.length + ys.length ≤ lim) (q : Qw (.d (.tuple (xs ++ ys)))) : bo .add (.tuple xs) (.tuple ys) Qw := ⟨h, q⟩
theorem r_lt (q : Qb (decide (m < n))) : co .lt (.int m) (.int n) Qb := q
theorem r_le (q : Qb (decide (m ≤ n))) : co .le (.int m) (.int n) Qb := q
theorem r_gt (q : Qb (decide (n < m))) : co .gt (.int m) (.int n) Qb := q
theorem r_ge (q : Qb (decide (n ≤ m))) : co .ge (.int m) (.int n) Qb := q
theorem r_seqT {fs : List PD → Prop} (q : fs xs) : asSeq (.tuple xs) fs := q
theorem r_seqL {fs : List PD → Prop} (q : fs xs) : asSeq (.list xs) fs := q
theorem r_lenT (h : xs.length ≤ lim) (q : Qw (.d (.int xs.length))) : b1 .len (.tuple xs) Qw := ⟨h, q⟩
theorem r_lenL (h : xs.length ≤ lim) (q : Qw (.d (.int xs.length))) : b1 .len (.list xs) Qw := ⟨h, q⟩
theorem r_tupL (q : Qw (.d (.tuple xs))) : b1 .tuple (.list xs) Qw := q
theorem place_nat {n j : Nat} (h : j < n) : place n (j : Int) = some j := by
  unfold place
  rw [if_pos (Int.natCast_nonneg j), if_pos (by omega)]
  rfl
theorem r_idxT {F : PD → Prop} {j : Nat} (h : xs[j]? = some z) (q : F z) : idxD (.tuple xs) (.int (j : Nat)) F := ⟨j, z, place_nat (List.getElem?_eq_some_iff.mp h).1, h, q⟩
theorem r_idxL {F : PD → Prop} {j : Nat} (h : xs[j]? = some z) (q : F z) : idxD (.list xs) (.int (j : Nat)) F := ⟨j, z, place_nat (List.getElem?_eq_some_iff.mp h).1, h, q⟩
theorem r_put {acc : List W} {kk : List W → Env → Prop} (h : acc.length < lim) (q : kk (acc ++ [.d x]) e) : putW false acc (.d x) e kk := ⟨h, q⟩
theorem r_sum {ns : List Int} (h : intL xs = some ns) (q : Qw (.d (.int ns.sum))) : b1 .sum (.list xs) Qw := by
  simp only [b1, h]
  exact q
theorem intL_map (ns : List Int) : intL (ns.map .int) = some ns := by
  induction ns with
  | nil => rfl
  | cons n ns ih => simp only [List.map_cons, intL, ih, Option.map_some]
theorem r_lcs {mvd : Bool} {tg : Tg} {acc : List W} {kk : List W → Env → Prop} (q : bindT tg x e fun e2 => evE C a e2 fun t e3 => asB t fun c => if c = true then evE C b e3 fun w e4 => putW mvd acc w e4 kk else kk acc e3) : lcStep C mvd tg a b x e acc kk := q
theorem r_lcs2 {mvd : Bool} {tg : Tg} {acc : List W} {kk : List W → Env → Prop} (q : bindT tg x e fun e4 => evE C b e4 fun w e5 => putW mvd acc w e5 kk) : lcStep2 C mvd tg b x e acc kk := q
theorem r_fst {tg : Tg} (q : bindT tg x e fun e2 => evB C sb e2 k) : forStep C tg sb x e k := q
theorem r_bnm {Q : Env → Prop} (q : Q (e.set i (some (.d x)))) : bindT (.nm i) x e Q := q
theorem r_btp {Q : Env → Prop} (h : xs.length = is.length ∧ Q ((is.zip xs).foldl (fun e p => e.set p.1 (some (.d p.2))) e)) : bindT (.tp is) (.tuple xs) e Q := h
theorem r_asBv {v : Bool} (q : fb v) : asB (.d (.bool v)) fb := q
theorem r_ifT {v : Bool} (h : v = true ∧ A) : (if v = true then A else B) := by rw [if_pos h.1]; exact h.2
theorem r_ifF {v : Bool} (h : v = false ∧ B) : (if v = true then A else B) := by rw [h.1, if_neg Bool.false_ne_true]; exact h.2
theorem eqv_int (m n : Int) : PyData.eqv (.int m) (.int n) = decide (m = n) := by
  by_cases h : m = n
  · subst h; simp [PyData.eqv]
  · simp [PyData.eqv, h]
theorem r_eqI (q : Qb (decide (m = n))) : co .eq (.int m) (.int n) Qb := ⟨rfl, rfl, by rw [eqv_int]; exact q⟩
theorem r_neI (q : Qb (!decide (m = n))) : co .ne (.int m) (.int n) Qb := ⟨rfl, rfl, by rw [eqv_int]; exact q⟩
theorem r_all {bs : List Bool} (h : boolL xs = some bs) (q : Qw (.d (.bool (bs.all id)))) : b1 .all (.list xs) Qw := by
  simp only [b1, h]
  exact q
theorem boolL_map (bs : List Bool) : boolL (bs.map .bool) = some bs := by
  induction bs with
  | nil => rfl
  | cons n ns ih => simp only [List.map_cons, boolL, ih, Option.map_some]
theorem r_asT (q : fb true) : asB (.d (.bool true)) fb := q
theorem r_asF (q : fb false) : asB (.d (.bool false)) fb := q
theorem r_ret0 {p n : Nat} {bd : IB} {Qr : W → List W → Prop} {w : W} (q : Qr w []) : retW ⟨p, [], n, bd⟩ Qr w e := q
/-- a def's end -/
def kQ (Qr : W → List W → Prop) : K := { nx := fun _ => Qr (.d .none) [], rt := fun w _ => Qr w [], bk := fun _ => False, ct := fun _ => False }
theorem r_qrt {Qr : W → List W → Prop} {w : W} (q : Qr w []) : (kQ Qr).rt w e := q
theorem r_qnx {Qr : W → List W → Prop} (q : Qr (.d .none) []) : (kQ Qr).nx e := q
/-- the same, its first parameter lent -/
def kQ1 (Qr : W → List W → Prop) : K := { nx := fun e => ∃ o, slot e 0 = some o ∧ Qr (.d .none) [o], rt := fun w e => ∃ o, slot e 0 = some o ∧ Qr w [o], bk := fun _ => False, ct := fun _ => False }
theorem r_q1rt {Qr : W → List W → Prop} {w o : W} (h : slot e 0 = some o) (q : Qr w [o]) : (kQ1 Qr).rt w e := ⟨o, h, q⟩
theorem r_call {tb : List Fd} {n p m : Nat} {bd : IB} {ws : List W} {Qr : W → List W → Prop} (h : tb[i]? = some ⟨p, [], m, bd⟩) (hl : ws.length = p) (q : evB ⟨callN tb n⟩ bd (ws.map some ++ List.replicate (m - p) none) (kQ Qr)) : callN tb (n + 1) i ws Qr := by
  simp only [callN, h]
  exact ⟨hl, q⟩
theorem r_call1 {tb : List Fd} {n p m : Nat} {bd : IB} {ws : List W} {Qr : W → List W → Prop} (h : tb[i]? = some ⟨p, [0], m, bd⟩) (hl : ws.length = p) (q : evB ⟨callN tb n⟩ bd (ws.map some ++ List.replicate (m - p) none) (kQ1 Qr)) : callN tb (n + 1) i ws Qr := by
  simp only [callN, h]
  refine ⟨hl, ?_⟩
  have e1 : ∀ w e, retW ⟨p, [0], m, bd⟩ Qr w e = ∃ o, slot e 0 = some o ∧ Qr w [o] := fun w e => by
    unfold retW
    simp only [outs]
    cases slot e 0 <;> simp
  have e2 : kQ1 Qr = { nx := fun e => retW ⟨p, [0], m, bd⟩ Qr (.d .none) e, rt := fun w e => retW ⟨p, [0], m, bd⟩ Qr w e, bk := fun _ => False, ct := fun _ => False } := by
    unfold kQ1
    simp only [e1]
  rw [e2] at q
  exact q
theorem r_slL {lo hi : Option Int} (q : Qw (.ol ((cut xs lo hi).map .d))) : slcD (.list xs) lo hi Qw := q
theorem r_slT {lo hi : Option Int} (q : Qw (.d (.tuple (cut xs lo hi)))) : slcD (.tuple xs) lo hi Qw := q
theorem r_revL (q : Qw (.ol (xs.reverse.map .d))) : revD (.list xs) Qw := q
theorem r_listL (q : Qw (.ol (xs.map .d))) : b1 .list (.list xs) Qw := q
theorem r_listT (q : Qw (.ol (xs.map .d))) : b1 .list (.tuple xs) Qw := q
theorem r_tupT (q : Qw (.d (.tuple xs))) : b1 .tuple (.tuple xs) Qw := q
theorem r_dct {ks : List (Sum Int Str)} (q : evM C es env fun ws e => ks.length = ws.length ∧ ks.length ≤ 15 ∧ ks.Nodup ∧ Q (.od (ks.map fun k => match k with | .inl i => PyData.int i | .inr s => PyData.str s) ws) e) : evE C (.dct ks es) env Q := by simp only [evE]; exact q
/-! ### the deck -/
variable {key : Str}
theorem r_getK (h : ∃ ks vs x, slot env i = some (.od ks vs) ∧ lookK key ks vs = some (.d x) ∧ Q (.d x) env) : evE C (.getK i key) env Q := by
  obtain ⟨ks, vs, x, h1, h2, q⟩ := h
  simp only [evE, h1, h2]
  exact q
theorem r_neK (h : ∃ ks vs ys, slot env i = some (.od ks vs) ∧ lookK key ks vs = some (.ol (List.map W.d ys)) ∧ SeqAt.shaped (.list ys) = true ∧ Q (.d (.bool (!PyData.eqv (.list ys) (.list [])))) env) : evE C (.neK i key) env Q := by
  obtain ⟨ks, vs, ys, h1, h2, h3, q⟩ := h
  simp only [evE, h1, h2, allD_map]
  exact ⟨h3, q⟩
theorem r_popK (h : ∃ ks vs ys x, slot env i = some (.od ks vs) ∧ lookK key ks vs = some (.ol (ys ++ [.d x])) ∧ Q (.d x) (env.set i (some (.od ks (putK key (.ol ys) ks vs))))) : evE C (.popK i key) env Q := by
  obtain ⟨ks, vs, ys, x, h1, h2, q⟩ := h
  simp only [evE, h1, h2, List.getLast?_append, List.getLast?_singleton, Option.some_or, List.dropLast_concat]
  exact q
theorem r_subK (q : evE C a env fun w e1 => mv w e1 fun w e2 => ∃ ks vs, slot e2 i = some (.od ks vs) ∧ (lookK key ks vs).isSome = true ∧ ks.length ≤ 100 ∧ k.nx (e2.set i (some (.od ks (putK key w ks vs))))) : evS C (.subK i key a) env k := by
  simp only [evS]
  have : (fun (w : W) (e2 : Env) => ∃ ks vs, slot e2 i = some (.od ks vs) ∧ (lookK key ks vs).isSome = true ∧ ks.length ≤ 100 ∧ k.nx (e2.set i (some (.od ks (putK key w ks vs))))) = fun w e2 => match slot e2 i with
    | some (.od ks vs) => (lookK key ks vs).isSome = true ∧ ks.length ≤ 100 ∧ k.nx (e2.set i (some (.od ks (putK key w ks vs))))
    | _ => False := by
    funext w e2
    apply propext
    constructor
    · rintro ⟨ks, vs, h, q⟩
      rw [h]
      exact q
    · intro h
      split at h
      · next ks vs h1 => exact ⟨ks, vs, h1, h⟩
      · exact h.elim
  rw [this] at q
  exact q
theorem r_appK (h : ∃ ks vs y ws, slot env i = some (.od ks vs) ∧ evP a env = some y ∧ lookK key ks vs = some (.ol ws) ∧ ws.length < lim ∧ k.nx (env.set i (some (.od ks (putK key (.ol (ws ++ [.d y])) ks vs))))) : evS C (.appK i key a) env k := by
  obtain ⟨ks, vs, y, ws, h1, h2, h3, h4, q⟩ := h
  simp only [evS, h1, h2, h3]
  exact ⟨h4, q⟩
theorem r_mod (h : n ≠ 0) (q : Qw (.d (.int (m.fmod n)))) : bo .mod (.int m) (.int n) Qw := ⟨h, q⟩
theorem r_fdiv (h : n ≠ 0) (h2 : n.natAbs < 2 ^ 4096) (q : Qw (.d (.int (m.fdiv n)))) : bo .fdiv (.int m) (.int n) Qw := ⟨h, h2, q⟩
theorem r_pow (h : 0 ≤ n) (h1 : n ≤ 1000) (h2 : m.natAbs < 2 ^ 64) (q : Qw (.d (.int (m ^ n.toNat)))) : bo .pow (.int m) (.int n) Qw := ⟨h, h1, h2, q⟩
theorem r_intI (q : Qw (.d (.int m))) : b1 .int (.int m) Qw := q
/-- a deck of the law's draws -/
def dk (cells : List Int) (m d : Int) : W := .od [.str "cells", .str "mixed", .str "draws"] [.ol (cells.map fun c => .d (.int c)), .d (.int m), .d (.int d)]
theorem dk_look (cells : List Int) (m d : Int) : lookK "cells" [.str "cells", .str "mixed", .str "draws"] [.ol (cells.map fun c => W.d (.int c)), .d (.int m), .d (.int d)] = some (.ol (cells.map fun c => .d (.int c))) ∧
    lookK "mixed" [.str "cells", .str "mixed", .str "draws"] [.ol (cells.map fun c => W.d (.int c)), .d (.int m), .d (.int d)] = some (.d (.int m)) ∧ lookK "draws" [.str "cells", .str "mixed", .str "draws"] [.ol (cells.map fun c => W.d (.int c)), .d (.int m), .d (.int d)] = some (.d (.int d)) := by
  have a1 : ¬ (Str.ofString "cells" = Str.ofString "draws") := by decide
  have a2 : ¬ (Str.ofString "mixed" = Str.ofString "draws") := by decide
  have a3 : ¬ (Str.ofString "cells" = Str.ofString "mixed") := by decide
  refine ⟨?_, ?_, ?_⟩ <;> simp [lookK, keyP, a1, a2, a3]
theorem dk_put (cells cs : List Int) (m d d' : Int) : putK "cells" (.ol (cs.map fun c => W.d (.int c))) [.str "cells", .str "mixed", .str "draws"] [.ol (cells.map fun c => W.d (.int c)), .d (.int m), .d (.int d)] = [.ol (cs.map fun c => W.d (.int c)), .d (.int m), .d (.int d)] ∧
    putK "draws" (.d (.int d')) [.str "cells", .str "mixed", .str "draws"] [.ol (cells.map fun c => W.d (.int c)), .d (.int m), .d (.int d)] = [.ol (cells.map fun c => W.d (.int c)), .d (.int m), .d (.int d')] := by
  have a1 : ¬ (Str.ofString "cells" = Str.ofString "draws") := by decide
  have a2 : ¬ (Str.ofString "mixed" = Str.ofString "draws") := by decide
  have a3 : ¬ (Str.ofString "cells" = Str.ofString "mixed") := by decide
  refine ⟨?_, ?_⟩ <;> simp [putK, keyP, a1, a2, a3]
end
end Mn

set_option linter.all false
set_option Elab.async false
set_option maxRecDepth 100000
set_option maxHeartbeats 2000000
/-! Mn: the evaluator as rewriting rules; what is still to come stands as a first-order term. -/
namespace Mn.R
open PySem
def sel (b : Bool) (x y : Prop) : Prop := if b = true then x else y
@[simp] theorem sel_t {x y : Prop} : sel true x y = x := if_pos rfl
@[simp] theorem sel_f {x y : Prop} : sel false x y = y := if_neg Bool.false_ne_true
theorem sel_i {b : Bool} {x y : Prop} (h1 : b = true → x) (h2 : b = false → y) : sel b x y := by cases b; exact h2 rfl; exact h1 rfl
def vr (o : Option W) (i : Nat) (env : Env) (Q : W → Env → Prop) : Prop := match o with
  | some (.d x) => Q (.d x) env
  | some (.ol _) => Q (.al i) env
  | some (.od _ _) => Q (.al i) env
  | _ => False
@[simp] theorem vr_d {x : PD} {i : Nat} {env : Env} {Q : W → Env → Prop} : vr (some (.d x)) i env Q = Q (.d x) env := (rfl)
@[simp] theorem vr_l {x : List W} {i : Nat} {env : Env} {Q : W → Env → Prop} : vr (some (.ol x)) i env Q = Q (.al i) env := (rfl)
@[simp] theorem vr_o {k : List PD} {x : List W} {i : Nat} {env : Env} {Q : W → Env → Prop} : vr (some (.od k x)) i env Q = Q (.al i) env := (rfl)
def fzv (o : Option W) (i : Nat) (env : Env) (Q : W → Env → Prop) : Prop := match o with
  | some (.d x) => Q (.d x) env
  | some (.ol ws) => Q (.d (.list (W.pds ws))) (env.set i (some (.d (.list (W.pds ws)))))
  | some (.od ks vs) => Q (.d (.dict (ks.zip (W.pds vs)))) (env.set i (some (.d (.dict (ks.zip (W.pds vs))))))
  | _ => False
@[simp] theorem fzv_d {x : PD} {i : Nat} {env : Env} {Q : W → Env → Prop} : fzv (some (.d x)) i env Q = Q (.d x) env := (rfl)
@[simp] theorem fzv_l {ws : List W} {i : Nat} {env : Env} {Q : W → Env → Prop} : fzv (some (.ol ws)) i env Q = Q (.d (.list (W.pds ws))) (env.set i (some (.d (.list (W.pds ws))))) := (rfl)
def tw (a b : Option PD) (f : PD → PD → Prop) : Prop := match a, b with
  | some p, some q => f p q
  | _, _ => False
@[simp] theorem tw_s {p q : PD} {f : PD → PD → Prop} : tw (some p) (some q) f = f p q := (rfl)
@[simp] theorem two_r {x y : W} {e : Env} {f : PD → PD → Prop} : two x y e f = tw (bor e x) (bor e y) f := by
  unfold two tw
  cases bor e x <;> cases bor e y <;> rfl
def on (a : Option PD) (f : PD → Prop) : Prop := match a with
  | some p => f p
  | none => False
@[simp] theorem on_s {p : PD} {f : PD → Prop} : on (some p) f = f p := (rfl)
@[simp] theorem one_r {x : W} {e : Env} {f : PD → Prop} : one x e f = on (bor e x) f := by
  unfold one on
  cases bor e x <;> rfl
@[simp] theorem bor_d {x : PD} {e : Env} : bor e (.d x) = some x := (rfl)
@[simp] theorem bor_l {x : List W} {e : Env} : bor e (.ol x) = (allD x).map .list := (rfl)
@[simp] theorem bor_o {k : List PD} {x : List W} {e : Env} : bor e (.od k x) = (allD x).map fun xs => .dict (k.zip xs) := (rfl)
@[simp] theorem bor_a {i : Nat} {e : Env} : bor e (.al i) = (slot e i).bind W.fl := (rfl)
@[simp] theorem fl_d {x : PD} : W.fl (.d x) = some x := (rfl)
@[simp] theorem fl_l {x : List W} : W.fl (.ol x) = (allD x).map .list := (rfl)
@[simp] theorem bind_s {α β : Type} {a : α} {f : α → Option β} : (some a).bind f = f a := (rfl)
@[simp] theorem map_s {α β : Type} {a : α} {f : α → β} : (some a).map f = some (f a) := (rfl)
@[simp] theorem allD_n : allD [] = some [] := (rfl)
@[simp] theorem allD_c {x : PD} {r : List W} : allD (.d x :: r) = (allD r).map (x :: ·) := (rfl)
@[simp] theorem allD_m {xs : List PD} : allD (xs.map .d) = some xs := allD_map xs
@[simp] theorem slot_0 {a : Option W} {l : Env} : slot (a :: l) 0 = a := slot0 a l
@[simp] theorem slot_s {a : Option W} {l : Env} {n : Nat} : slot (a :: l) (n + 1) = slot l n := (rfl)
@[simp] theorem set_0 {a b : Option W} {l : Env} : List.set (a :: l) 0 b = b :: l := (rfl)
@[simp] theorem set_s {a b : Option W} {l : Env} {n : Nat} : List.set (a :: l) (n + 1) b = a :: List.set l n b := (rfl)
@[simp] theorem pds_n : W.pds [] = [] := (rfl)
@[simp] theorem pds_c {w : W} {r : List W} : W.pds (w :: r) = W.pd w :: W.pds r := (rfl)
@[simp] theorem pds_m {xs : List PD} : W.pds (xs.map .d) = xs := pds_d xs
@[simp] theorem pd_d {x : PD} : W.pd (.d x) = x := (rfl)
@[simp] theorem pd_l {x : List W} : W.pd (.ol x) = .list (W.pds x) := (rfl)
@[simp] theorem pd_o {k : List PD} {x : List W} : W.pd (.od k x) = .dict (k.zip (W.pds x)) := (rfl)
@[simp] theorem asB_r {c : Bool} {f : Bool → Prop} : asB (.d (.bool c)) f = f c := (rfl)
@[simp] theorem asI_r {c : Int} {f : Int → Prop} : asI (.d (.int c)) f = f c := (rfl)
@[simp] theorem asSeq_t {xs : List PD} {f : List PD → Prop} : asSeq (.tuple xs) f = f xs := (rfl)
@[simp] theorem asSeq_l {xs : List PD} {f : List PD → Prop} : asSeq (.list xs) f = f xs := (rfl)
-- freezing, moving, giving
@[simp] theorem fz_d {x : PD} {e : Env} {Q : PD → Env → Prop} : fz (.d x) e Q = Q x e := (rfl)
@[simp] theorem fz_l {x : List W} {e : Env} {Q : PD → Env → Prop} : fz (.ol x) e Q = Q (.list (W.pds x)) e := (rfl)
@[simp] theorem fz_o {k : List PD} {x : List W} {e : Env} {Q : PD → Env → Prop} : fz (.od k x) e Q = Q (.dict (k.zip (W.pds x))) e := (rfl)
def fza (o : Option W) (i : Nat) (env : Env) (Q : PD → Env → Prop) : Prop := match o with
  | some c => Q c.pd (env.set i (some (.d c.pd)))
  | none => False
@[simp] theorem fza_s {c : W} {i : Nat} {e : Env} {Q : PD → Env → Prop} : fza (some c) i e Q = Q c.pd (e.set i (some (.d c.pd))) := (rfl)
@[simp] theorem fz_a {i : Nat} {e : Env} {Q : PD → Env → Prop} : fz (.al i) e Q = fza (slot e i) i e Q := (rfl)
@[simp] theorem mv_d {x : PD} {e : Env} {Q : W → Env → Prop} : mv (.d x) e Q = Q (.d x) e := (rfl)
@[simp] theorem mv_l {x : List W} {e : Env} {Q : W → Env → Prop} : mv (.ol x) e Q = Q (.ol x) e := (rfl)
@[simp] theorem mv_o {k : List PD} {x : List W} {e : Env} {Q : W → Env → Prop} : mv (.od k x) e Q = Q (.od k x) e := (rfl)
def mva (o : Option W) (i : Nat) (env : Env) (Q : W → Env → Prop) : Prop := match o with
  | some c => Q (.d c.pd) (env.set i (some (.d c.pd)))
  | none => False
@[simp] theorem mva_s {c : W} {i : Nat} {e : Env} {Q : W → Env → Prop} : mva (some c) i e Q = Q (.d c.pd) (e.set i (some (.d c.pd))) := (rfl)
@[simp] theorem mv_a {i : Nat} {e : Env} {Q : W → Env → Prop} : mv (.al i) e Q = mva (slot e i) i e Q := (rfl)
@[simp] theorem gv_d {x : PD} {e : Env} {Q : W → Env → Prop} : give (.d x) e Q = Q (.d x) e := (rfl)
@[simp] theorem gv_l {x : List W} {e : Env} {Q : W → Env → Prop} : give (.ol x) e Q = Q (.ol x) e := (rfl)
@[simp] theorem gv_o {k : List PD} {x : List W} {e : Env} {Q : W → Env → Prop} : give (.od k x) e Q = Q (.od k x) e := (rfl)
def gva (o : Option W) (i : Nat) (env : Env) (Q : W → Env → Prop) : Prop := match o with
  | some c => Q c (env.set i none)
  | none => False
@[simp] theorem gva_s {c : W} {i : Nat} {e : Env} {Q : W → Env → Prop} : gva (some c) i e Q = Q c (e.set i none) := (rfl)
@[simp] theorem gv_a {i : Nat} {e : Env} {Q : W → Env → Prop} : give (.al i) e Q = gva (slot e i) i e Q := (rfl)

def popR (ws : List W) (j : Int) : Option (W × List W) := (place ws.length j).bind fun k => (ws[k]?).map fun w => (w, ws.eraseIdx k)
def popE (o : Option (W × List W)) (i : Nat) (e : Env) (Q : W → Env → Prop) : Prop := match o with
  | some (.d y, r) => Q (.d y) (e.set i (some (.ol r)))
  | _ => False
def popO (o : Option W) (i : Nat) (j : Int) (e : Env) (Q : W → Env → Prop) : Prop := match o with
  | some (.ol ws) => ws.length ≤ lim ∧ popE (popR ws j) i e Q
  | _ => False
section
variable {C : Ctx} {env e : Env} {Q : W → Env → Prop}
variable {i j f n : Nat} {a b d t : IE} {es r args kwa : IL} {kw own own1 : List Nat} {k : K} {m : Int} {s : IS} {sb sc : IB} {is : List Nat} {tg tg1 : Tg} {src src1 : II} {mvd : Bool} {key : Str}
def kW (e : Env) (Q : W → Env → Prop) : W → Prop := fun w => Q w e
@[simp] theorem kW_r {e : Env} {Q : W → Env → Prop} {w : W} : kW e Q w = (Q w e) := (rfl)
def kD (e : Env) (Q : W → Env → Prop) : PD → Prop := fun x => Q (.d x) e
@[simp] theorem kD_r {e : Env} {Q : W → Env → Prop} {x : PD} : kD e Q x = (Q (.d x) e) := (rfl)
def kBl (e : Env) (Q : W → Env → Prop) : Bool → Prop := fun x => Q (.d (.bool x)) e
@[simp] theorem kBl_r {e : Env} {Q : W → Env → Prop} {x : Bool} : kBl e Q x = (Q (.d (.bool x)) e) := (rfl)
def kNot (e : Env) (Q : W → Env → Prop) : Bool → Prop := fun x => Q (.d (.bool (!x))) e
@[simp] theorem kNot_r {e : Env} {Q : W → Env → Prop} {x : Bool} : kNot e Q x = (Q (.d (.bool (!x))) e) := (rfl)
def kNeg (e : Env) (Q : W → Env → Prop) : Int → Prop := fun x => Q (.d (.int (-x))) e
@[simp] theorem kNeg_r {e : Env} {Q : W → Env → Prop} {x : Int} : kNeg e Q x = (Q (.d (.int (-x))) e) := (rfl)
def kBo (o : Bo) (e : Env) (Q : W → Env → Prop) : PD → PD → Prop := fun p q => bo o p q (kW e Q)
@[simp] theorem kBo_r {o : Bo} {e : Env} {Q : W → Env → Prop} {p : PD} {q : PD} : kBo o e Q p q = (bo o p q (kW e Q)) := (rfl)
def kCo (o : Co) (e : Env) (Q : W → Env → Prop) : PD → PD → Prop := fun p q => co o p q (kBl e Q)
@[simp] theorem kCo_r {o : Co} {e : Env} {Q : W → Env → Prop} {p : PD} {q : PD} : kCo o e Q p q = (co o p q (kBl e Q)) := (rfl)
def kIx (e : Env) (Q : W → Env → Prop) : PD → PD → Prop := fun p q => idxD p q (kD e Q)
@[simp] theorem kIx_r {e : Env} {Q : W → Env → Prop} {p : PD} {q : PD} : kIx e Q p q = (idxD p q (kD e Q)) := (rfl)
def kB2 (o : B2) (e : Env) (Q : W → Env → Prop) : PD → PD → Prop := fun p q => b2 o p q (kW e Q)
@[simp] theorem kB2_r {o : B2} {e : Env} {Q : W → Env → Prop} {p : PD} {q : PD} : kB2 o e Q p q = (b2 o p q (kW e Q)) := (rfl)
def kB1 (o : B1) (e : Env) (Q : W → Env → Prop) : PD → Prop := fun p => b1 o p (kW e Q)
@[simp] theorem kB1_r {o : B1} {e : Env} {Q : W → Env → Prop} {p : PD} : kB1 o e Q p = (b1 o p (kW e Q)) := (rfl)
def kRv (e : Env) (Q : W → Env → Prop) : PD → Prop := fun p => revD p (kW e Q)
@[simp] theorem kRv_r {e : Env} {Q : W → Env → Prop} {p : PD} : kRv e Q p = (revD p (kW e Q)) := (rfl)
def kTy (t : Ty) (e : Env) (Q : W → Env → Prop) : PD → Prop := fun p => Q (.d (.bool (tyOf p t))) e
@[simp] theorem kTy_r {t : Ty} {e : Env} {Q : W → Env → Prop} {p : PD} : kTy t e Q p = (Q (.d (.bool (tyOf p t))) e) := (rfl)
def kSl (lo hi : Option Int) (e : Env) (Q : W → Env → Prop) : PD → Prop := fun p => slcD p lo hi (kW e Q)
@[simp] theorem kSl_r {lo hi : Option Int} {e : Env} {Q : W → Env → Prop} {p : PD} : kSl lo hi e Q p = (slcD p lo hi (kW e Q)) := (rfl)
def k_bin2 (o : Bo) (x : W) (Q : W → Env → Prop) : W → Env → Prop := fun y e => two x y e (kBo o e Q)
@[simp] theorem k_bin2_r {o : Bo} {x : W} {Q : W → Env → Prop} {y : W} {e : Env} : k_bin2 o x Q y e = (two x y e (kBo o e Q)) := (rfl)
def k_bin1 (C : Ctx) (o : Bo) (b : IE) (Q : W → Env → Prop) : W → Env → Prop := fun x e => evE C b e (k_bin2 o x Q)
@[simp] theorem k_bin1_r {C : Ctx} {o : Bo} {b : IE} {Q : W → Env → Prop} {x : W} {e : Env} : k_bin1 C o b Q x e = (evE C b e (k_bin2 o x Q)) := (rfl)
def k_cmp2 (o : Co) (x : W) (Q : W → Env → Prop) : W → Env → Prop := fun y e => two x y e (kCo o e Q)
@[simp] theorem k_cmp2_r {o : Co} {x : W} {Q : W → Env → Prop} {y : W} {e : Env} : k_cmp2 o x Q y e = (two x y e (kCo o e Q)) := (rfl)
def k_cmp1 (C : Ctx) (o : Co) (b : IE) (Q : W → Env → Prop) : W → Env → Prop := fun x e => evE C b e (k_cmp2 o x Q)
@[simp] theorem k_cmp1_r {C : Ctx} {o : Co} {b : IE} {Q : W → Env → Prop} {x : W} {e : Env} : k_cmp1 C o b Q x e = (evE C b e (k_cmp2 o x Q)) := (rfl)
def k_b22 (o : B2) (x : W) (Q : W → Env → Prop) : W → Env → Prop := fun y e => two x y e (kB2 o e Q)
@[simp] theorem k_b22_r {o : B2} {x : W} {Q : W → Env → Prop} {y : W} {e : Env} : k_b22 o x Q y e = (two x y e (kB2 o e Q)) := (rfl)
def k_b21 (C : Ctx) (o : B2) (b : IE) (Q : W → Env → Prop) : W → Env → Prop := fun x e => evE C b e (k_b22 o x Q)
@[simp] theorem k_b21_r {C : Ctx} {o : B2} {b : IE} {Q : W → Env → Prop} {x : W} {e : Env} : k_b21 C o b Q x e = (evE C b e (k_b22 o x Q)) := (rfl)
def k_ix2 (x : W) (Q : W → Env → Prop) : W → Env → Prop := fun y e => two x y e (kIx e Q)
@[simp] theorem k_ix2_r {x : W} {Q : W → Env → Prop} {y : W} {e : Env} : k_ix2 x Q y e = (two x y e (kIx e Q)) := (rfl)
def k_ix1 (C : Ctx) (b : IE) (Q : W → Env → Prop) : W → Env → Prop := fun x e => evE C b e (k_ix2 x Q)
@[simp] theorem k_ix1_r {C : Ctx} {b : IE} {Q : W → Env → Prop} {x : W} {e : Env} : k_ix1 C b Q x e = (evE C b e (k_ix2 x Q)) := (rfl)
def kNe (Q : W → Env → Prop) : W → Env → Prop := fun x e => asI x (kNeg e Q)
@[simp] theorem kNe_r {Q : W → Env → Prop} {x : W} {e : Env} : kNe Q x e = (asI x (kNeg e Q)) := (rfl)
def kNo (Q : W → Env → Prop) : W → Env → Prop := fun x e => asB x (kNot e Q)
@[simp] theorem kNo_r {Q : W → Env → Prop} {x : W} {e : Env} : kNo Q x e = (asB x (kNot e Q)) := (rfl)
def kOn1 (o : B1) (Q : W → Env → Prop) : W → Env → Prop := fun x e => one x e (kB1 o e Q)
@[simp] theorem kOn1_r {o : B1} {Q : W → Env → Prop} {x : W} {e : Env} : kOn1 o Q x e = (one x e (kB1 o e Q)) := (rfl)
def kOnR (Q : W → Env → Prop) : W → Env → Prop := fun x e => one x e (kRv e Q)
@[simp] theorem kOnR_r {Q : W → Env → Prop} {x : W} {e : Env} : kOnR Q x e = (one x e (kRv e Q)) := (rfl)
def kOnT (t : Ty) (Q : W → Env → Prop) : W → Env → Prop := fun x e => one x e (kTy t e Q)
@[simp] theorem kOnT_r {t : Ty} {Q : W → Env → Prop} {x : W} {e : Env} : kOnT t Q x e = (one x e (kTy t e Q)) := (rfl)
def kSel (C : Ctx) (a b : IE) (e : Env) (Q : W → Env → Prop) : Bool → Prop := fun x => sel x (evE C a e Q) (evE C b e Q)
@[simp] theorem kSel_t {C : Ctx} {a b : IE} {e : Env} {Q : W → Env → Prop} : kSel C a b e Q true = (evE C a e Q) := sel_t
@[simp] theorem kSel_f {C : Ctx} {a b : IE} {e : Env} {Q : W → Env → Prop} : kSel C a b e Q false = (evE C b e Q) := sel_f
theorem kSel_s {C : Ctx} {a b : IE} {e : Env} {Q : W → Env → Prop} {x : Bool} : kSel C a b e Q x = sel x (evE C a e Q) (evE C b e Q) := rfl
def kIfe (C : Ctx) (a b : IE) (Q : W → Env → Prop) : W → Env → Prop := fun x e => asB x (kSel C a b e Q)
@[simp] theorem kIfe_r {C : Ctx} {a b : IE} {Q : W → Env → Prop} {x : W} {e : Env} : kIfe C a b Q x e = (asB x (kSel C a b e Q)) := (rfl)
def kCmp4 (y : W) (o : Co) (Q : W → Env → Prop) : W → Env → Prop := fun z e => two y z e (kCo o e Q)
@[simp] theorem kCmp4_r {y : W} {o : Co} {Q : W → Env → Prop} {z : W} {e : Env} : kCmp4 y o Q z e = (two y z e (kCo o e Q)) := (rfl)
def kCmp3 (C : Ctx) (y : W) (o : Co) (d : IE) (e : Env) (Q : W → Env → Prop) : Bool → Prop := fun x => sel x (evE C d e (kCmp4 y o Q)) (Q (.d (.bool false)) e)
@[simp] theorem kCmp3_t {C : Ctx} {y : W} {o : Co} {d : IE} {e : Env} {Q : W → Env → Prop} : kCmp3 C y o d e Q true = (evE C d e (kCmp4 y o Q)) := sel_t
@[simp] theorem kCmp3_f {C : Ctx} {y : W} {o : Co} {d : IE} {e : Env} {Q : W → Env → Prop} : kCmp3 C y o d e Q false = (Q (.d (.bool false)) e) := sel_f
theorem kCmp3_s {C : Ctx} {y : W} {o : Co} {d : IE} {e : Env} {Q : W → Env → Prop} {x : Bool} : kCmp3 C y o d e Q x = sel x (evE C d e (kCmp4 y o Q)) (Q (.d (.bool false)) e) := rfl
def kCmpB (C : Ctx) (y : W) (o o' : Co) (d : IE) (e : Env) (Q : W → Env → Prop) : PD → PD → Prop := fun p q => co o p q (kCmp3 C y o' d e Q)
@[simp] theorem kCmpB_r {C : Ctx} {y : W} {o o' : Co} {d : IE} {e : Env} {Q : W → Env → Prop} {p : PD} {q : PD} : kCmpB C y o o' d e Q p q = (co o p q (kCmp3 C y o' d e Q)) := (rfl)
def kCmp2 (C : Ctx) (x : W) (o o' : Co) (d : IE) (Q : W → Env → Prop) : W → Env → Prop := fun y e => two x y e (kCmpB C y o o' d e Q)
@[simp] theorem kCmp2_r {C : Ctx} {x : W} {o o' : Co} {d : IE} {Q : W → Env → Prop} {y : W} {e : Env} : kCmp2 C x o o' d Q y e = (two x y e (kCmpB C y o o' d e Q)) := (rfl)
def kCmp1 (C : Ctx) (o o' : Co) (b d : IE) (Q : W → Env → Prop) : W → Env → Prop := fun x e => evE C b e (kCmp2 C x o o' d Q)
@[simp] theorem kCmp1_r {C : Ctx} {o o' : Co} {b d : IE} {Q : W → Env → Prop} {x : W} {e : Env} : kCmp1 C o o' b d Q x e = (evE C b e (kCmp2 C x o o' d Q)) := (rfl)
@[simp] theorem w_var : evE C (.var i) env Q = (vr (slot env i) i env Q) := by simp only [evE]; try rfl
@[simp] theorem w_frz : evE C (.frz i) env Q = fzv (slot env i) i env Q := by simp only [evE]; rfl
@[simp] theorem w_cI : evE C (.cI m) env Q = (Q (.d (.int m)) env) := by simp only [evE]; try rfl
@[simp] theorem w_cS : evE C (.cS key) env Q = (Q (.d (.str key)) env) := by simp only [evE]; try rfl
@[simp] theorem w_cB : evE C (.cB mvd) env Q = (Q (.d (.bool mvd)) env) := by simp only [evE]; try rfl
@[simp] theorem w_cN : evE C .cN env Q = (Q (.d .none) env) := by simp only [evE]; try rfl
@[simp] theorem w_bin {o : Bo} : evE C (.bin o a b) env Q = (evE C a env (k_bin1 C o b Q)) := by simp only [evE]; try rfl
@[simp] theorem w_cmp {o : Co} : evE C (.cmp o a b) env Q = (evE C a env (k_cmp1 C o b Q)) := by simp only [evE]; try rfl
@[simp] theorem w_b2 {o : B2} : evE C (.b2 o a b) env Q = (evE C a env (k_b21 C o b Q)) := by simp only [evE]; try rfl
@[simp] theorem w_idx : evE C (.idx a b) env Q = (evE C a env (k_ix1 C b Q)) := by simp only [evE]; try rfl
@[simp] theorem w_neg : evE C (.neg a) env Q = (evE C a env (kNe Q)) := by simp only [evE]; try rfl
@[simp] theorem w_not : evE C (.notv a) env Q = (evE C a env (kNo Q)) := by simp only [evE]; try rfl
@[simp] theorem w_ife : evE C (.ife t a b) env Q = (evE C t env (kIfe C a b Q)) := by simp only [evE]; try rfl
@[simp] theorem w_cmp2 {o o2 : Co} : evE C (.cmp2 o o2 a b d) env Q = (evE C a env (kCmp1 C o o2 b d Q)) := by simp only [evE]; try rfl
@[simp] theorem w_b1 {o : B1} : evE C (.b1 o a) env Q = (evE C a env (kOn1 o Q)) := by simp only [evE]; try rfl
@[simp] theorem w_rev : evE C (.rev a) env Q = (evE C a env (kOnR Q)) := by simp only [evE]; try rfl
def kFzD (Q : W → Env → Prop) : PD → Env → Prop := fun x e => Q (.d x) e
@[simp] theorem kFzD_r {x : PD} : kFzD Q x e = Q (.d x) e := (rfl)
def kFzE (Q : W → Env → Prop) : W → Env → Prop := fun w e => fz w e (kFzD Q)
@[simp] theorem kFzE_r {w : W} : kFzE Q w e = fz w e (kFzD Q) := (rfl)
@[simp] theorem w_fzE : evE C (.fzE a) env Q = evE C a env (kFzE Q) := by simp only [evE]; rfl
def uprO (o : Option W) (env : Env) (Q : W → Env → Prop) : Prop := match o with
  | some (.d (.str s)) => s.length ≤ lim ∧ Q (.d (.str (Txt.upper s))) env
  | _ => False
@[simp] theorem uprO_s {s : Str} : uprO (some (.d (.str s))) env Q = (s.length ≤ 1000000 ∧ Q (.d (.str (Txt.upper s))) env) := (rfl)
@[simp] theorem w_upr : evE C (.upr i) env Q = uprO (slot env i) env Q := by simp only [evE]; rfl
@[simp] theorem w_isi {g : Ty} : evE C (.isi a g) env Q = (evE C a env (kOnT g Q)) := by simp only [evE]; try rfl
def isNone : PD → Bool
  | .none => true
  | _ => false
def kIsN (neg : Bool) (e : Env) (Q : W → Env → Prop) : PD → Prop := fun p => Q (.d (.bool (isNone p != neg))) e
@[simp] theorem kIsN_r {neg : Bool} {Q : W → Env → Prop} {p : PD} : kIsN neg e Q p = Q (.d (.bool (isNone p != neg))) e := (rfl)
def kIsN1 (neg : Bool) (Q : W → Env → Prop) : W → Env → Prop := fun x e => one x e (kIsN neg e Q)
@[simp] theorem kIsN1_r {neg : Bool} {x : W} : kIsN1 neg Q x e = one x e (kIsN neg e Q) := (rfl)
@[simp] theorem w_isN {neg : Bool} : evE C (.isN neg a) env Q = evE C a env (kIsN1 neg Q) := by
  simp only [evE]
  show evE C a env _ = _
  congr 1
  funext x e1
  unfold kIsN1 one
  cases bor e1 x with
  | none => rfl
  | some p => cases p <;> cases neg <;> rfl
@[simp] theorem isN_n : isNone .none = true := (rfl)
@[simp] theorem isN_i {v : Int} : isNone (.int v) = false := (rfl)
@[simp] theorem isN_t {v : List PD} : isNone (.tuple v) = false := (rfl)
@[simp] theorem isN_l {v : List PD} : isNone (.list v) = false := (rfl)
@[simp] theorem bne_tt : (true != true) = false := (rfl)
@[simp] theorem bne_tf : (true != false) = true := (rfl)
@[simp] theorem bne_ft : (false != true) = true := (rfl)
@[simp] theorem bne_ff : (false != false) = false := (rfl)
@[simp] theorem not_t : (!true) = false := (rfl)
@[simp] theorem not_f : (!false) = true := (rfl)

def kAnd2 (C : Ctx) (r : IL) (e : Env) (Q : W → Env → Prop) : Bool → Prop := fun x => sel x (evAnd C r e Q) (Q (.d (.bool false)) e)
@[simp] theorem kAnd2_t {C : Ctx} {r : IL} {e : Env} {Q : W → Env → Prop} : kAnd2 C r e Q true = (evAnd C r e Q) := sel_t
@[simp] theorem kAnd2_f {C : Ctx} {r : IL} {e : Env} {Q : W → Env → Prop} : kAnd2 C r e Q false = (Q (.d (.bool false)) e) := sel_f
theorem kAnd2_s {C : Ctx} {r : IL} {e : Env} {Q : W → Env → Prop} {x : Bool} : kAnd2 C r e Q x = sel x (evAnd C r e Q) (Q (.d (.bool false)) e) := rfl
def kAnd (C : Ctx) (r : IL) (Q : W → Env → Prop) : W → Env → Prop := fun x e => asB x (kAnd2 C r e Q)
@[simp] theorem kAnd_r {C : Ctx} {r : IL} {Q : W → Env → Prop} {x : W} {e : Env} : kAnd C r Q x e = (asB x (kAnd2 C r e Q)) := (rfl)
def kOr2 (C : Ctx) (r : IL) (e : Env) (Q : W → Env → Prop) : Bool → Prop := fun x => sel x (Q (.d (.bool true)) e) (evOr C r e Q)
@[simp] theorem kOr2_t {C : Ctx} {r : IL} {e : Env} {Q : W → Env → Prop} : kOr2 C r e Q true = (Q (.d (.bool true)) e) := sel_t
@[simp] theorem kOr2_f {C : Ctx} {r : IL} {e : Env} {Q : W → Env → Prop} : kOr2 C r e Q false = (evOr C r e Q) := sel_f
theorem kOr2_s {C : Ctx} {r : IL} {e : Env} {Q : W → Env → Prop} {x : Bool} : kOr2 C r e Q x = sel x (Q (.d (.bool true)) e) (evOr C r e Q) := rfl
def kOr (C : Ctx) (r : IL) (Q : W → Env → Prop) : W → Env → Prop := fun x e => asB x (kOr2 C r e Q)
@[simp] theorem kOr_r {C : Ctx} {r : IL} {Q : W → Env → Prop} {x : W} {e : Env} : kOr C r Q x e = (asB x (kOr2 C r e Q)) := (rfl)
@[simp] theorem w_and : evE C (.andv es) env Q = (evAnd C es env Q) := by simp only [evE]; try rfl
@[simp] theorem w_or : evE C (.orv es) env Q = (evOr C es env Q) := by simp only [evE]; try rfl
@[simp] theorem w_andn : evAnd C .nil env Q = Q (.d (.bool true)) env := by simp only [evAnd]
@[simp] theorem w_andc : evAnd C (.cons a r) env Q = evE C a env (kAnd C r Q) := by simp only [evAnd]; rfl
@[simp] theorem w_orn : evOr C .nil env Q = Q (.d (.bool false)) env := by simp only [evOr]
@[simp] theorem w_orc : evOr C (.cons a r) env Q = evE C a env (kOr C r Q) := by simp only [evOr]; rfl
def kTup (Q : W → Env → Prop) : List PD → Env → Prop := fun xs e => xs.length ≤ lim ∧ Q (.d (.tuple xs)) e
@[simp] theorem kTup_r {Q : W → Env → Prop} {xs : List PD} {e : Env} : kTup Q xs e = (xs.length ≤ lim ∧ Q (.d (.tuple xs)) e) := (rfl)
def kLst (Q : W → Env → Prop) : List W → Env → Prop := fun xs e => xs.length ≤ lim ∧ Q (.ol xs) e
@[simp] theorem kLst_r {Q : W → Env → Prop} {xs : List W} {e : Env} : kLst Q xs e = (xs.length ≤ lim ∧ Q (.ol xs) e) := (rfl)
@[simp] theorem w_tup : evE C (.tup es) env Q = (evF C es env (kTup Q)) := by simp only [evE]; try rfl
@[simp] theorem w_lst : evE C (.lst es) env Q = (evM C es env (kLst Q)) := by simp only [evE]; try rfl
def kF3 (x : PD) (Q : List PD → Env → Prop) : List PD → Env → Prop := fun xs e => Q (x :: xs) e
@[simp] theorem kF3_r {x : PD} {Q : List PD → Env → Prop} {xs : List PD} {e : Env} : kF3 x Q xs e = (Q (x :: xs) e) := (rfl)
def kF2 (C : Ctx) (r : IL) (Q : List PD → Env → Prop) : PD → Env → Prop := fun x e => evF C r e (kF3 x Q)
@[simp] theorem kF2_r {C : Ctx} {r : IL} {Q : List PD → Env → Prop} {x : PD} {e : Env} : kF2 C r Q x e = (evF C r e (kF3 x Q)) := (rfl)
def kF1 (C : Ctx) (r : IL) (Q : List PD → Env → Prop) : W → Env → Prop := fun w e => fz w e (kF2 C r Q)
@[simp] theorem kF1_r {C : Ctx} {r : IL} {Q : List PD → Env → Prop} {w : W} {e : Env} : kF1 C r Q w e = (fz w e (kF2 C r Q)) := (rfl)
def kM3 (x : W) (Q : List W → Env → Prop) : List W → Env → Prop := fun xs e => Q (x :: xs) e
@[simp] theorem kM3_r {x : W} {Q : List W → Env → Prop} {xs : List W} {e : Env} : kM3 x Q xs e = (Q (x :: xs) e) := (rfl)
def kM2 (C : Ctx) (r : IL) (Q : List W → Env → Prop) : W → Env → Prop := fun x e => evM C r e (kM3 x Q)
@[simp] theorem kM2_r {C : Ctx} {r : IL} {Q : List W → Env → Prop} {x : W} {e : Env} : kM2 C r Q x e = (evM C r e (kM3 x Q)) := (rfl)
def kM1 (C : Ctx) (r : IL) (Q : List W → Env → Prop) : W → Env → Prop := fun w e => mv w e (kM2 C r Q)
@[simp] theorem kM1_r {C : Ctx} {r : IL} {Q : List W → Env → Prop} {w : W} {e : Env} : kM1 C r Q w e = (mv w e (kM2 C r Q)) := (rfl)
def kA3 (x : Arg) (Q : List Arg → Env → Prop) : List Arg → Env → Prop := fun xs e => Q (x :: xs) e
@[simp] theorem kA3_r {x : Arg} {Q : List Arg → Env → Prop} {xs : List Arg} {e : Env} : kA3 x Q xs e = (Q (x :: xs) e) := (rfl)
def kA2 (C : Ctx) (r : IL) (Q : List Arg → Env → Prop) : PD → Env → Prop := fun x e => evA C r e (kA3 (.v x) Q)
@[simp] theorem kA2_r {C : Ctx} {r : IL} {Q : List Arg → Env → Prop} {x : PD} {e : Env} : kA2 C r Q x e = (evA C r e (kA3 (.v x) Q)) := (rfl)
def kA1 (C : Ctx) (r : IL) (Q : List Arg → Env → Prop) : W → Env → Prop := fun w e => fz w e (kA2 C r Q)
@[simp] theorem kA1_r {C : Ctx} {r : IL} {Q : List Arg → Env → Prop} {w : W} {e : Env} : kA1 C r Q w e = (fz w e (kA2 C r Q)) := (rfl)
@[simp] theorem w_fn {Q : List PD → Env → Prop} : evF C .nil env Q = Q [] env := by simp only [evF]
@[simp] theorem w_fc {Q : List PD → Env → Prop} : evF C (.cons a r) env Q = evE C a env (kF1 C r Q) := by simp only [evF]; rfl
@[simp] theorem w_mn {Q : List W → Env → Prop} : evM C .nil env Q = Q [] env := by simp only [evM]
@[simp] theorem w_mc {Q : List W → Env → Prop} : evM C (.cons a r) env Q = evE C a env (kM1 C r Q) := by simp only [evM]; rfl
@[simp] theorem w_an {Q : List Arg → Env → Prop} : evA C .nil env Q = Q [] env := by simp only [evA]
@[simp] theorem w_ac {Q : List Arg → Env → Prop} : evA C (.cons a r) env Q = evE C a env (kA1 C r Q) := by simp only [evA]; rfl
def isS (o : Option W) (P : Prop) : Prop := match o with
  | some _ => P
  | none => False
@[simp] theorem isS_s {w : W} {P : Prop} : isS (some w) P = P := (rfl)
@[simp] theorem w_ar {Q : List Arg → Env → Prop} : evA C (.ref i r) env Q = isS (slot env i) (evA C r env (kA3 (.r i) Q)) := by
  simp only [evA]
  cases slot env i with
  | none => simp [isS]
  | some w => simp [isS]; rfl
@[simp] theorem len_n {α : Type} : List.length ([] : List α) = 0 := (rfl)
@[simp] theorem len_c {α : Type} {x : α} {l : List α} : List.length (x :: l) = l.length + 1 := (rfl)
@[simp] theorem len_m {α β : Type} {g : α → β} {l : List α} : List.length (l.map g) = l.length := List.length_map ..

def kSl3 (x : W) (lo : Int) (e : Env) (Q : W → Env → Prop) : Int → Prop := fun hi => one x e (kSl (some lo) (some hi) e Q)
@[simp] theorem kSl3_r {x : W} {lo : Int} {e : Env} {Q : W → Env → Prop} {hi : Int} : kSl3 x lo e Q hi = (one x e (kSl (some lo) (some hi) e Q)) := (rfl)
def kSl2 (x : W) (lo : Int) (Q : W → Env → Prop) : W → Env → Prop := fun h e => asI h (kSl3 x lo e Q)
@[simp] theorem kSl2_r {x : W} {lo : Int} {Q : W → Env → Prop} {h : W} {e : Env} : kSl2 x lo Q h e = (asI h (kSl3 x lo e Q)) := (rfl)
def kSl1 (C : Ctx) (d : IE) (x : W) (e : Env) (Q : W → Env → Prop) : Int → Prop := fun lo => evE C d e (kSl2 x lo Q)
@[simp] theorem kSl1_r {C : Ctx} {d : IE} {x : W} {e : Env} {Q : W → Env → Prop} {lo : Int} : kSl1 C d x e Q lo = (evE C d e (kSl2 x lo Q)) := (rfl)
def kSlb (C : Ctx) (d : IE) (x : W) (Q : W → Env → Prop) : W → Env → Prop := fun l e => asI l (kSl1 C d x e Q)
@[simp] theorem kSlb_r {C : Ctx} {d : IE} {x : W} {Q : W → Env → Prop} {l : W} {e : Env} : kSlb C d x Q l e = (asI l (kSl1 C d x e Q)) := (rfl)
def kSla (C : Ctx) (b d : IE) (Q : W → Env → Prop) : W → Env → Prop := fun x e => evE C b e (kSlb C d x Q)
@[simp] theorem kSla_r {C : Ctx} {b d : IE} {Q : W → Env → Prop} {x : W} {e : Env} : kSla C b d Q x e = (evE C b e (kSlb C d x Q)) := (rfl)
@[simp] theorem w_slc : evE C (.slc a b d) env Q = (evE C a env (kSla C b d Q)) := by simp only [evE]; try rfl
def kSL2 (x : W) (e : Env) (Q : W → Env → Prop) : Int → Prop := fun lo => one x e (kSl (some lo) none e Q)
@[simp] theorem kSL2_r {x : W} {e : Env} {Q : W → Env → Prop} {lo : Int} : kSL2 x e Q lo = (one x e (kSl (some lo) none e Q)) := (rfl)
def kSL1 (x : W) (Q : W → Env → Prop) : W → Env → Prop := fun l e => asI l (kSL2 x e Q)
@[simp] theorem kSL1_r {x : W} {Q : W → Env → Prop} {l : W} {e : Env} : kSL1 x Q l e = (asI l (kSL2 x e Q)) := (rfl)
def kSL (C : Ctx) (b : IE) (Q : W → Env → Prop) : W → Env → Prop := fun x e => evE C b e (kSL1 x Q)
@[simp] theorem kSL_r {C : Ctx} {b : IE} {Q : W → Env → Prop} {x : W} {e : Env} : kSL C b Q x e = (evE C b e (kSL1 x Q)) := (rfl)
@[simp] theorem w_slcL : evE C (.slcL a b) env Q = (evE C a env (kSL C b Q)) := by simp only [evE]; try rfl
def kSH2 (x : W) (e : Env) (Q : W → Env → Prop) : Int → Prop := fun hi => one x e (kSl none (some hi) e Q)
@[simp] theorem kSH2_r {x : W} {e : Env} {Q : W → Env → Prop} {hi : Int} : kSH2 x e Q hi = (one x e (kSl none (some hi) e Q)) := (rfl)
def kSH1 (x : W) (Q : W → Env → Prop) : W → Env → Prop := fun l e => asI l (kSH2 x e Q)
@[simp] theorem kSH1_r {x : W} {Q : W → Env → Prop} {l : W} {e : Env} : kSH1 x Q l e = (asI l (kSH2 x e Q)) := (rfl)
def kSH (C : Ctx) (b : IE) (Q : W → Env → Prop) : W → Env → Prop := fun x e => evE C b e (kSH1 x Q)
@[simp] theorem kSH_r {C : Ctx} {b : IE} {Q : W → Env → Prop} {x : W} {e : Env} : kSH C b Q x e = (evE C b e (kSH1 x Q)) := (rfl)
@[simp] theorem w_slcH : evE C (.slcH a b) env Q = (evE C a env (kSH C b Q)) := by simp only [evE]; try rfl
def kSA (Q : W → Env → Prop) : W → Env → Prop := fun x e => one x e (kSl none none e Q)
@[simp] theorem kSA_r {Q : W → Env → Prop} {x : W} {e : Env} : kSA Q x e = (one x e (kSl none none e Q)) := (rfl)
@[simp] theorem w_slcA : evE C (.slcA a) env Q = (evE C a env (kSA Q)) := by simp only [evE]; try rfl
def kRet (e : Env) (Q : W → Env → Prop) : W → List W → Prop := fun w os => os = [] ∧ Q w e
@[simp] theorem kRet_r {w : W} : kRet e Q w [] = Q w e := by simp [kRet]
theorem kRet_i {w : W} (h : Q w e) : kRet e Q w [] := ⟨rfl, h⟩
def kRetR (i : Nat) (e : Env) (Q : W → Env → Prop) : W → List W → Prop := fun w os => ∃ o, os = [o] ∧ Q w (e.set i (some o))
@[simp] theorem kRetR_r {w o : W} : kRetR i e Q w [o] = Q w (e.set i (some o)) := by
  apply propext
  constructor
  · rintro ⟨o', h, q⟩
    cases h
    exact q
  · exact fun q => ⟨o, rfl, q⟩
theorem lend_v (e : Env) : ∀ xs : List PD, lend e (xs.map .v) = some (xs.map .d)
  | [] => rfl
  | x :: xs => by simp only [List.map_cons, lend, lend_v e xs, Option.map_some]
theorem taken_v (e : Env) : ∀ (xs : List PD) (os : List W), taken e (xs.map .v) os = if os = [] then some e else none
  | [], os => by cases os <;> rfl
  | x :: xs, os => taken_v e xs os
theorem goW_v (xs : List PD) : goW C f kw (xs.map .v) e Q = C.call f (permute kw (xs.map .d)) (kRet e Q) := by
  unfold goW
  rw [lend_v]
  dsimp only
  congr 1
  funext w os
  rw [taken_v]
  unfold kRet
  by_cases h : os = []
  · simp [h]
  · simp [h]
def lnd (o : Option W) (F : W → Prop) : Prop := match o with
  | some (.ol xs) => F (.ol xs)
  | some (.od ks vs) => F (.od ks vs)
  | _ => False
def kLnd (C : Ctx) (f : Nat) (kw : List Nat) (xs : List PD) (i : Nat) (e : Env) (Q : W → Env → Prop) : W → Prop := fun w => C.call f (permute kw (w :: xs.map .d)) (kRetR i e Q)
@[simp] theorem kLnd_r {xs : List PD} {w : W} : kLnd C f kw xs i e Q w = C.call f (permute kw (w :: xs.map .d)) (kRetR i e Q) := (rfl)
@[simp] theorem lnd_l {xs : List W} {F : W → Prop} : lnd (some (.ol xs)) F = F (.ol xs) := (rfl)
@[simp] theorem lnd_o {ks : List PD} {xs : List W} {F : W → Prop} : lnd (some (.od ks xs)) F = F (.od ks xs) := (rfl)
theorem goW_r (xs : List PD) : goW C f kw (.r i :: xs.map .v) e Q = lnd (slot e i) (kLnd C f kw xs i e Q) := by
  unfold goW
  simp only [lend, lend_v, Option.map_some]
  have t : ∀ (w : W) (os : List W), (match taken e (.r i :: xs.map .v) os with | some e' => Q w e' | none => False) = kRetR i e Q w os := by
    intro w os
    unfold kRetR
    cases os with
    | nil => simp [taken]
    | cons o os =>
      simp only [taken, taken_v]
      by_cases h : os = []
      · simp [h]
      · simp [h]
  cases h : slot e i with
  | none => rfl
  | some w =>
    cases w with
    | d x => rfl
    | al x => rfl
    | ol ws => exact congrArg (C.call f (permute kw (.ol ws :: xs.map .d))) (funext fun w => funext fun os => t w os)
    | od ks vs => exact congrArg (C.call f (permute kw (.od ks vs :: xs.map .d))) (funext fun w => funext fun os => t w os)

@[simp] theorem go_1 {x0 : PD} : goW C f kw [.v x0] e Q = C.call f (permute kw [.d x0]) (kRet e Q) := goW_v [x0]
@[simp] theorem go_2 {x0 x1 : PD} : goW C f kw [.v x0, .v x1] e Q = C.call f (permute kw [.d x0, .d x1]) (kRet e Q) := goW_v [x0, x1]
@[simp] theorem go_3 {x0 x1 x2 : PD} : goW C f kw [.v x0, .v x1, .v x2] e Q = C.call f (permute kw [.d x0, .d x1, .d x2]) (kRet e Q) := goW_v [x0, x1, x2]
@[simp] theorem go_4 {x0 x1 x2 x3 : PD} : goW C f kw [.v x0, .v x1, .v x2, .v x3] e Q = C.call f (permute kw [.d x0, .d x1, .d x2, .d x3]) (kRet e Q) := goW_v [x0, x1, x2, x3]
@[simp] theorem go_5 {x0 x1 x2 x3 x4 : PD} : goW C f kw [.v x0, .v x1, .v x2, .v x3, .v x4] e Q = C.call f (permute kw [.d x0, .d x1, .d x2, .d x3, .d x4]) (kRet e Q) := goW_v [x0, x1, x2, x3, x4]
@[simp] theorem go_6 {x0 x1 x2 x3 x4 x5 : PD} : goW C f kw [.v x0, .v x1, .v x2, .v x3, .v x4, .v x5] e Q = C.call f (permute kw [.d x0, .d x1, .d x2, .d x3, .d x4, .d x5]) (kRet e Q) := goW_v [x0, x1, x2, x3, x4, x5]
@[simp] theorem go_7 {x0 x1 x2 x3 x4 x5 x6 : PD} : goW C f kw [.v x0, .v x1, .v x2, .v x3, .v x4, .v x5, .v x6] e Q = C.call f (permute kw [.d x0, .d x1, .d x2, .d x3, .d x4, .d x5, .d x6]) (kRet e Q) := goW_v [x0, x1, x2, x3, x4, x5, x6]
@[simp] theorem goR_0  : goW C f kw [.r i] e Q = lnd (slot e i) (kLnd C f kw [] i e Q) := goW_r []
@[simp] theorem goR_1 {x0 : PD} : goW C f kw [.r i, .v x0] e Q = lnd (slot e i) (kLnd C f kw [x0] i e Q) := goW_r [x0]
@[simp] theorem goR_2 {x0 x1 : PD} : goW C f kw [.r i, .v x0, .v x1] e Q = lnd (slot e i) (kLnd C f kw [x0, x1] i e Q) := goW_r [x0, x1]
@[simp] theorem goR_3 {x0 x1 x2 : PD} : goW C f kw [.r i, .v x0, .v x1, .v x2] e Q = lnd (slot e i) (kLnd C f kw [x0, x1, x2] i e Q) := goW_r [x0, x1, x2]
@[simp] theorem goR_4 {x0 x1 x2 x3 : PD} : goW C f kw [.r i, .v x0, .v x1, .v x2, .v x3] e Q = lnd (slot e i) (kLnd C f kw [x0, x1, x2, x3] i e Q) := goW_r [x0, x1, x2, x3]
@[simp] theorem goR_5 {x0 x1 x2 x3 x4 : PD} : goW C f kw [.r i, .v x0, .v x1, .v x2, .v x3, .v x4] e Q = lnd (slot e i) (kLnd C f kw [x0, x1, x2, x3, x4] i e Q) := goW_r [x0, x1, x2, x3, x4]
@[simp] theorem goR_6 {x0 x1 x2 x3 x4 x5 : PD} : goW C f kw [.r i, .v x0, .v x1, .v x2, .v x3, .v x4, .v x5] e Q = lnd (slot e i) (kLnd C f kw [x0, x1, x2, x3, x4, x5] i e Q) := goW_r [x0, x1, x2, x3, x4, x5]
@[simp] theorem perm_n {α : Type} {ws : List α} : permute [] ws = ws := (rfl)
def pick1 {α : Type} (ws : List α) : List Nat → List α
  | [] => []
  | j :: r => match ws[j]? with
    | some x => x :: pick1 ws r
    | none => pick1 ws r
@[simp] theorem perm_c {α : Type} {j : Nat} {r : List Nat} {ws : List α} : permute (j :: r) ws = pick1 ws (j :: r) := by
  show List.filterMap _ _ = _
  induction (j :: r) with
  | nil => rfl
  | cons a l ih =>
    unfold pick1
    cases h : ws[a]? with
    | none => simp [h, ih]
    | some x => simp [h, ih]
@[simp] theorem pick_n {α : Type} {ws : List α} : pick1 ws [] = [] := (rfl)
def pickO {α : Type} (o : Option α) (l : List α) : List α := match o with
  | some x => x :: l
  | none => l
@[simp] theorem pickO_s {α : Type} {x : α} {l : List α} : pickO (some x) l = x :: l := (rfl)
@[simp] theorem pick_c {α : Type} {j : Nat} {r : List Nat} {ws : List α} : pick1 ws (j :: r) = pickO ws[j]? (pick1 ws r) := by
  conv => lhs; unfold pick1
  cases ws[j]? <;> rfl
@[simp] theorem get_0 {α : Type} {x : α} {l : List α} : (x :: l)[0]? = some x := (rfl)
@[simp] theorem get_s {α : Type} {x : α} {l : List α} {n : Nat} : (x :: l)[n + 1]? = l[n]? := (rfl)
@[simp] theorem map_n {α β : Type} {g : α → β} : [].map g = [] := (rfl)
@[simp] theorem map_c {α β : Type} {g : α → β} {x : α} {l : List α} : (x :: l).map g = g x :: l.map g := (rfl)
@[simp] theorem app_n {α : Type} {l : List α} : [] ++ l = l := (rfl)
@[simp] theorem app_c {α : Type} {x : α} {l m : List α} : (x :: l) ++ m = x :: (l ++ m) := (rfl)
@[simp] theorem app_e {α : Type} {l : List α} : l ++ [] = l := List.append_nil l
@[simp] theorem rep_n {α : Type} {x : α} : List.replicate 0 x = [] := (rfl)
@[simp] theorem rep_c {α : Type} {n : Nat} {x : α} : List.replicate (n + 1) x = x :: List.replicate n x := (rfl)

def kCal2 (C : Ctx) (f : Nat) (kw : List Nat) (as : List Arg) (Q : W → Env → Prop) : List Arg → Env → Prop := fun bs e => goW C f kw (as ++ bs) e Q
@[simp] theorem kCal2_r {C : Ctx} {f : Nat} {kw : List Nat} {as : List Arg} {Q : W → Env → Prop} {bs : List Arg} {e : Env} : kCal2 C f kw as Q bs e = (goW C f kw (as ++ bs) e Q) := (rfl)
def kCal1 (C : Ctx) (f : Nat) (kwa : IL) (kw : List Nat) (Q : W → Env → Prop) : List Arg → Env → Prop := fun as e => evA C kwa e (kCal2 C f kw as Q)
@[simp] theorem kCal1_r {C : Ctx} {f : Nat} {kwa : IL} {kw : List Nat} {Q : W → Env → Prop} {as : List Arg} {e : Env} : kCal1 C f kwa kw Q as e = (evA C kwa e (kCal2 C f kw as Q)) := (rfl)
@[simp] theorem w_cal : evE C (.cal f args kwa kw) env Q = evA C args env (kCal1 C f kwa kw Q) := by simp only [evE]; rfl
def wipe1 (e : Env) (own : List Nat) : Env := wipes e own
@[simp] theorem wip_n : wipes e [] = e := (rfl)
@[simp] theorem wip_c : wipes e (i :: is) = (wipes e is).set i none := (rfl)
@[simp] theorem back_n {o : Env} : back e o [] = e := (rfl)
@[simp] theorem back_c {o : Env} : back e o (i :: is) = (back e o is).set i (slot o i) := (rfl)
@[simp] theorem all_n {p : Nat → Bool} : List.all [] p = true := (rfl)
@[simp] theorem all_c {p : Nat → Bool} : List.all (i :: is) p = (p i && List.all is p) := (rfl)
@[simp] theorem and_t {x : Bool} : (true && x) = x := Bool.true_and x
@[simp] theorem and_t2 {x : Bool} : (x && true) = x := Bool.and_true x
def plO : Option W → Bool
  | none => true
  | some (.d _) => true
  | _ => false
@[simp] theorem plS : plainSlot e i = plO (slot e i) := (rfl)
@[simp] theorem plO_n : plO none = true := (rfl)
@[simp] theorem plO_d {x : PD} : plO (some (.d x)) = true := (rfl)
@[simp] theorem and_tP {P : Prop} : ((true = true) ∧ P) = P := by simp
@[simp] theorem and_TP {P : Prop} : (True ∧ P) = P := by simp
def olO : Option W → Bool
  | some (.ol _) => true
  | _ => false
@[simp] theorem isOl_r : isOl e i = olO (slot e i) := by
  unfold isOl olO
  cases slot e i with
  | none => rfl
  | some w => cases w <;> rfl
@[simp] theorem olO_l {xs : List W} : olO (some (.ol xs)) = true := (rfl)

def kBack (old : Env) (own : List Nat) (Q : W → Env → Prop) : List W → Env → Prop := fun acc e => Q (.ol acc) (back e old own)
@[simp] theorem kBack_r {old : Env} {own : List Nat} {Q : W → Env → Prop} {acc : List W} {e : Env} : kBack old own Q acc e = (Q (.ol acc) (back e old own)) := (rfl)
def kLc (C : Ctx) (mvd : Bool) (own : List Nat) (tg : Tg) (a b : IE) (Q : W → Env → Prop) : List PD → Env → Prop := fun xs e => (own.all (plainSlot e)) = true ∧ accW own (lcStep C mvd tg a b) xs (wipes e own) [] (kBack e own Q)
@[simp] theorem kLc_r {C : Ctx} {mvd : Bool} {own : List Nat} {tg : Tg} {a b : IE} {Q : W → Env → Prop} {xs : List PD} {e : Env} : kLc C mvd own tg a b Q xs e = ((own.all (plainSlot e)) = true ∧ accW own (lcStep C mvd tg a b) xs (wipes e own) [] (kBack e own Q)) := (rfl)
@[simp] theorem w_lc : evE C (.lc mvd own tg src a b) env Q = evI C src env (kLc C mvd own tg a b Q) := by simp only [evE]; rfl
abbrev AccK := List W → Env → Prop
def kPut (mvd : Bool) (acc : List W) (k : AccK) : W → Env → Prop := fun w e => putW mvd acc w e k
@[simp] theorem kPut_r {acc : List W} {k : AccK} {w : W} : kPut mvd acc k w e = putW mvd acc w e k := (rfl)
def kPF (acc : List W) (k : AccK) : PD → Env → Prop := fun x e => acc.length < lim ∧ k (acc ++ [.d x]) e
@[simp] theorem kPF_r {acc : List W} {k : AccK} {x : PD} : kPF acc k x e = (acc.length < lim ∧ k (acc ++ [.d x]) e) := (rfl)
def kPM (acc : List W) (k : AccK) : W → Env → Prop := fun x e => acc.length < lim ∧ k (acc ++ [x]) e
@[simp] theorem kPM_r {acc : List W} {k : AccK} {x : W} : kPM acc k x e = (acc.length < lim ∧ k (acc ++ [x]) e) := (rfl)
@[simp] theorem put_f {acc : List W} {k : AccK} {w : W} : putW false acc w e k = fz w e (kPF acc k) := (rfl)
@[simp] theorem put_m {acc : List W} {k : AccK} {w : W} : putW true acc w e k = mv w e (kPM acc k) := (rfl)
def kIf2 (C : Ctx) (mvd : Bool) (b : IE) (acc : List W) (e : Env) (k : AccK) : Bool → Prop := fun c => sel c (evE C b e (kPut mvd acc k)) (k acc e)
@[simp] theorem kIf2_t {acc : List W} {k : AccK} : kIf2 C mvd b acc e k true = evE C b e (kPut mvd acc k) := sel_t
@[simp] theorem kIf2_f {acc : List W} {k : AccK} : kIf2 C mvd b acc e k false = k acc e := sel_f
theorem kIf2_s {acc : List W} {k : AccK} {c : Bool} : kIf2 C mvd b acc e k c = sel c (evE C b e (kPut mvd acc k)) (k acc e) := rfl
def kIf1 (C : Ctx) (mvd : Bool) (b : IE) (acc : List W) (k : AccK) : W → Env → Prop := fun w e => asB w (kIf2 C mvd b acc e k)
@[simp] theorem kIf1_r {acc : List W} {k : AccK} {w : W} : kIf1 C mvd b acc k w e = asB w (kIf2 C mvd b acc e k) := (rfl)
def kIf0 (C : Ctx) (mvd : Bool) (a b : IE) (acc : List W) (k : AccK) : Env → Prop := fun e => evE C a e (kIf1 C mvd b acc k)
@[simp] theorem kIf0_r {acc : List W} {k : AccK} : kIf0 C mvd a b acc k e = evE C a e (kIf1 C mvd b acc k) := (rfl)
@[simp] theorem lcStep_r {x : PD} {acc : List W} {k : AccK} : lcStep C mvd tg a b x e acc k = bindT tg x e (kIf0 C mvd a b acc k) := (rfl)
def kEl0 (C : Ctx) (mvd : Bool) (b : IE) (acc : List W) (k : AccK) : Env → Prop := fun e => evE C b e (kPut mvd acc k)
@[simp] theorem kEl0_r {acc : List W} {k : AccK} : kEl0 C mvd b acc k e = evE C b e (kPut mvd acc k) := (rfl)
@[simp] theorem lcStep2_r {x : PD} {acc : List W} {k : AccK} : lcStep2 C mvd tg b x e acc k = bindT tg x e (kEl0 C mvd b acc k) := (rfl)
def kIn2 (C : Ctx) (mvd : Bool) (own1 : List Nat) (tg1 : Tg) (b : IE) (acc : List W) (k : AccK) : List PD → Env → Prop := fun xs e => accW own1 (lcStep2 C mvd tg1 b) xs (wipes e own1) acc k
@[simp] theorem kIn2_r {acc : List W} {k : AccK} {xs : List PD} : kIn2 C mvd own1 tg1 b acc k xs e = accW own1 (lcStep2 C mvd tg1 b) xs (wipes e own1) acc k := (rfl)
def kIn1 (C : Ctx) (mvd : Bool) (own1 : List Nat) (tg1 : Tg) (src1 : II) (b : IE) (acc : List W) (k : AccK) : Env → Prop := fun e => evI C src1 e (kIn2 C mvd own1 tg1 b acc k)
@[simp] theorem kIn1_r {acc : List W} {k : AccK} : kIn1 C mvd own1 tg1 src1 b acc k e = evI C src1 e (kIn2 C mvd own1 tg1 b acc k) := (rfl)
def lcStepO (C : Ctx) (mvd : Bool) (own1 : List Nat) (tg tg1 : Tg) (src1 : II) (b : IE) : PD → Env → List W → AccK → Prop := fun x e acc k => bindT tg x e (kIn1 C mvd own1 tg1 src1 b acc k)
@[simp] theorem lcStepO_r {x : PD} {acc : List W} {k : AccK} : lcStepO C mvd own1 tg tg1 src1 b x e acc k = bindT tg x e (kIn1 C mvd own1 tg1 src1 b acc k) := (rfl)
def kLc2 (C : Ctx) (mvd : Bool) (own own1 : List Nat) (tg tg1 : Tg) (src1 : II) (b : IE) (Q : W → Env → Prop) : List PD → Env → Prop := fun xs e => (own.all (plainSlot e)) = true ∧ accW own (lcStepO C mvd own1 tg tg1 src1 b) xs (wipes e own) [] (kBack e own Q)
@[simp] theorem kLc2_r {xs : List PD} : kLc2 C mvd own own1 tg tg1 src1 b Q xs e = ((own.all (plainSlot e)) = true ∧ accW own (lcStepO C mvd own1 tg tg1 src1 b) xs (wipes e own) [] (kBack e own Q)) := (rfl)
@[simp] theorem w_lc2 : evE C (.lc2 mvd own own1 tg src tg1 src1 b) env Q = evI C src env (kLc2 C mvd own own1 tg tg1 src1 b Q) := by simp only [evE]; rfl
abbrev StepT := PD → Env → List W → AccK → Prop
def kAcc (own : List Nat) (st : StepT) (xs : List PD) (k : AccK) : AccK := fun acc e => accW own st xs (wipes e own) acc k
@[simp] theorem kAcc_r {st : StepT} {xs : List PD} {k : AccK} {acc : List W} : kAcc own st xs k acc e = accW own st xs (wipes e own) acc k := (rfl)
@[simp] theorem acc_n {st : StepT} {k : AccK} {acc : List W} : accW own st [] e acc k = k acc e := (rfl)
@[simp] theorem acc_c {st : StepT} {x : PD} {xs : List PD} {k : AccK} {acc : List W} : accW own st (x :: xs) e acc k = st x e acc (kAcc own st xs k) := (rfl)
@[simp] theorem bt_nm {x : PD} {F : Env → Prop} : bindT (.nm i) x e F = F (e.set i (some (.d x))) := (rfl)
@[simp] theorem bt_2 {i j : Nat} {x y : PD} {F : Env → Prop} : bindT (.tp [i, j]) (.tuple [x, y]) e F = F ((e.set i (some (.d x))).set j (some (.d y))) := by
  apply propext
  exact ⟨fun h => h.2, fun h => ⟨rfl, h⟩⟩
@[simp] theorem bt_3 {i j n : Nat} {x y z : PD} {F : Env → Prop} : bindT (.tp [i, j, n]) (.tuple [x, y, z]) e F = F (((e.set i (some (.d x))).set j (some (.d y))).set n (some (.d z))) := by
  apply propext
  exact ⟨fun h => h.2, fun h => ⟨rfl, h⟩⟩

def kRg (e : Env) (F : List PD → Env → Prop) : Int → Prop := fun n => n < 2 ^ 30 ∧ -(2 ^ 30) < n ∧ F ((List.range n.toNat).map fun i => .int (i : Nat)) e
@[simp] theorem kRg_r {e : Env} {F : List PD → Env → Prop} {n : Int} : kRg e F n = (n < 2 ^ 30 ∧ -(2 ^ 30) < n ∧ F ((List.range n.toNat).map fun i => .int (i : Nat)) e) := (rfl)
def kRg1 (F : List PD → Env → Prop) : W → Env → Prop := fun x e => asI x (kRg e F)
@[simp] theorem kRg1_r {F : List PD → Env → Prop} {x : W} {e : Env} : kRg1 F x e = (asI x (kRg e F)) := (rfl)
@[simp] theorem w_rng1 {F : List PD → Env → Prop} : evI C (.rng1 a) env F = evE C a env (kRg1 F) := by simp only [evI]; rfl
def kRh3 (m : Int) (e : Env) (F : List PD → Env → Prop) : Int → Prop := fun n => (m < 2 ^ 30 ∧ -(2 ^ 30) < m ∧ n < 2 ^ 30 ∧ -(2 ^ 30) < n) ∧ F ((List.range (n - m).toNat).map fun i => .int (m + (i : Nat))) e
@[simp] theorem kRh3_r {m : Int} {e : Env} {F : List PD → Env → Prop} {n : Int} : kRh3 m e F n = ((m < 2 ^ 30 ∧ -(2 ^ 30) < m ∧ n < 2 ^ 30 ∧ -(2 ^ 30) < n) ∧ F ((List.range (n - m).toNat).map fun i => .int (m + (i : Nat))) e) := (rfl)
def kRh2 (y : W) (e : Env) (F : List PD → Env → Prop) : Int → Prop := fun m => asI y (kRh3 m e F)
@[simp] theorem kRh2_r {y : W} {e : Env} {F : List PD → Env → Prop} {m : Int} : kRh2 y e F m = (asI y (kRh3 m e F)) := (rfl)
def kRh1 (x : W) (F : List PD → Env → Prop) : W → Env → Prop := fun y e => asI x (kRh2 y e F)
@[simp] theorem kRh1_r {x : W} {F : List PD → Env → Prop} {y : W} {e : Env} : kRh1 x F y e = (asI x (kRh2 y e F)) := (rfl)
def kRh (C : Ctx) (b : IE) (F : List PD → Env → Prop) : W → Env → Prop := fun x e => evE C b e (kRh1 x F)
@[simp] theorem kRh_r {C : Ctx} {b : IE} {F : List PD → Env → Prop} {x : W} {e : Env} : kRh C b F x e = (evE C b e (kRh1 x F)) := (rfl)
@[simp] theorem w_rng2 {F : List PD → Env → Prop} : evI C (.rng2 a b) env F = evE C a env (kRh C b F) := by simp only [evI]; rfl
def kSq2 (e : Env) (F : List PD → Env → Prop) : List PD → Prop := fun xs => F xs e
@[simp] theorem kSq2_r {e : Env} {F : List PD → Env → Prop} {xs : List PD} : kSq2 e F xs = (F xs e) := (rfl)
def kSq1 (F : List PD → Env → Prop) : PD → Env → Prop := fun x e => asSeq x (kSq2 e F)
@[simp] theorem kSq1_r {F : List PD → Env → Prop} {x : PD} {e : Env} : kSq1 F x e = (asSeq x (kSq2 e F)) := (rfl)
def kSq (F : List PD → Env → Prop) : W → Env → Prop := fun w e => fz w e (kSq1 F)
@[simp] theorem kSq_r {F : List PD → Env → Prop} {w : W} {e : Env} : kSq F w e = (fz w e (kSq1 F)) := (rfl)
@[simp] theorem w_seq {F : List PD → Env → Prop} : evI C (.seq a) env F = evE C a env (kSq F) := by simp only [evI]; rfl
def enmL (xs : List PD) (k : Nat) : List PD := (xs.zipIdx k).map fun z => .tuple [.int (z.2 : Nat), z.1]
@[simp] theorem enm_n {k : Nat} : enmL [] k = [] := (rfl)
@[simp] theorem enm_c {x : PD} {xs : List PD} {k : Nat} : enmL (x :: xs) k = .tuple [.int (k : Nat), x] :: enmL xs (k + 1) := by simp [enmL]
def zipL (xs ys : List PD) : List PD := (xs.zip ys).map fun z => .tuple [z.1, z.2]
@[simp] theorem zip_n {ys : List PD} : zipL [] ys = [] := (rfl)
@[simp] theorem zip_n2 {ys : List PD} : zipL ys [] = [] := by cases ys <;> rfl
@[simp] theorem zip_c {x y : PD} {xs ys : List PD} : zipL (x :: xs) (y :: ys) = .tuple [x, y] :: zipL xs ys := (rfl)
def zip3L (xs ys zs : List PD) : List PD := (xs.zip (ys.zip zs)).map fun z => .tuple [z.1, z.2.1, z.2.2]
@[simp] theorem zip3_n {ys zs : List PD} : zip3L [] ys zs = [] := (rfl)
@[simp] theorem zip3_c {x y z : PD} {xs ys zs : List PD} : zip3L (x :: xs) (y :: ys) (z :: zs) = .tuple [x, y, z] :: zip3L xs ys zs := (rfl)

def kEn2 (e : Env) (F : List PD → Env → Prop) : List PD → Prop := fun xs => F (enmL xs 0) e
@[simp] theorem kEn2_r {e : Env} {F : List PD → Env → Prop} {xs : List PD} : kEn2 e F xs = (F (enmL xs 0) e) := (rfl)
def kEn1 (F : List PD → Env → Prop) : PD → Env → Prop := fun x e => asSeq x (kEn2 e F)
@[simp] theorem kEn1_r {F : List PD → Env → Prop} {x : PD} {e : Env} : kEn1 F x e = (asSeq x (kEn2 e F)) := (rfl)
def kEn (F : List PD → Env → Prop) : W → Env → Prop := fun w e => fz w e (kEn1 F)
@[simp] theorem kEn_r {F : List PD → Env → Prop} {w : W} {e : Env} : kEn F w e = (fz w e (kEn1 F)) := (rfl)
@[simp] theorem w_enm {F : List PD → Env → Prop} : evI C (.enm a) env F = evE C a env (kEn F) := by simp only [evI]; rfl
def kZp6 (xs : List PD) (e : Env) (F : List PD → Env → Prop) : List PD → Prop := fun ys => F (zipL xs ys) e
@[simp] theorem kZp6_r {xs : List PD} {e : Env} {F : List PD → Env → Prop} {ys : List PD} : kZp6 xs e F ys = (F (zipL xs ys) e) := (rfl)
def kZp5 (q : PD) (e : Env) (F : List PD → Env → Prop) : List PD → Prop := fun xs => asSeq q (kZp6 xs e F)
@[simp] theorem kZp5_r {q : PD} {e : Env} {F : List PD → Env → Prop} {xs : List PD} : kZp5 q e F xs = (asSeq q (kZp6 xs e F)) := (rfl)
def kZp4 (p : PD) (F : List PD → Env → Prop) : PD → Env → Prop := fun q e => asSeq p (kZp5 q e F)
@[simp] theorem kZp4_r {p : PD} {F : List PD → Env → Prop} {q : PD} {e : Env} : kZp4 p F q e = (asSeq p (kZp5 q e F)) := (rfl)
def kZp3 (p : PD) (F : List PD → Env → Prop) : W → Env → Prop := fun w e => fz w e (kZp4 p F)
@[simp] theorem kZp3_r {p : PD} {F : List PD → Env → Prop} {w : W} {e : Env} : kZp3 p F w e = (fz w e (kZp4 p F)) := (rfl)
def kZp2 (C : Ctx) (b : IE) (F : List PD → Env → Prop) : PD → Env → Prop := fun p e => evE C b e (kZp3 p F)
@[simp] theorem kZp2_r {C : Ctx} {b : IE} {F : List PD → Env → Prop} {p : PD} {e : Env} : kZp2 C b F p e = (evE C b e (kZp3 p F)) := (rfl)
def kZp1 (C : Ctx) (b : IE) (F : List PD → Env → Prop) : W → Env → Prop := fun w e => fz w e (kZp2 C b F)
@[simp] theorem kZp1_r {C : Ctx} {b : IE} {F : List PD → Env → Prop} {w : W} {e : Env} : kZp1 C b F w e = (fz w e (kZp2 C b F)) := (rfl)
@[simp] theorem w_zip {F : List PD → Env → Prop} : evI C (.zip a b) env F = evE C a env (kZp1 C b F) := by simp only [evI]; rfl
def kSet2 (i : Nat) (k : K) : W → Env → Prop := fun w e => k.nx (e.set i (some w))
@[simp] theorem kSet2_r {i : Nat} {k : K} {w : W} {e : Env} : kSet2 i k w e = (k.nx (e.set i (some w))) := (rfl)
def kSet (i : Nat) (k : K) : W → Env → Prop := fun w e => mv w e (kSet2 i k)
@[simp] theorem kSet_r {i : Nat} {k : K} {w : W} {e : Env} : kSet i k w e = (mv w e (kSet2 i k)) := (rfl)
def kPar (is : List Nat) (k : K) : List W → Env → Prop := fun ws e => ws.length = is.length ∧ k.nx (setAll e is ws)
@[simp] theorem kPar_r {is : List Nat} {k : K} {ws : List W} {e : Env} : kPar is k ws e = (ws.length = is.length ∧ k.nx (setAll e is ws)) := (rfl)
def kAug2 (i : Nat) (m : Int) (e : Env) (k : K) : Int → Prop := fun b => k.nx (e.set i (some (.d (.int (m + b)))))
@[simp] theorem kAug2_r {i : Nat} {m : Int} {e : Env} {k : K} {b : Int} : kAug2 i m e k b = (k.nx (e.set i (some (.d (.int (m + b)))))) := (rfl)
def kAug1 (i : Nat) (m : Int) (k : K) : W → Env → Prop := fun w e => asI w (kAug2 i m e k)
@[simp] theorem kAug1_r {i : Nat} {m : Int} {k : K} {w : W} {e : Env} : kAug1 i m k w e = (asI w (kAug2 i m e k)) := (rfl)
def kExp (k : K) : W → Env → Prop := fun w e => k.nx e
@[simp] theorem kExp_r {k : K} {w : W} {e : Env} : kExp k w e = (k.nx e) := (rfl)
def kRt2 (k : K) : W → Env → Prop := fun w e => k.rt w e
@[simp] theorem kRt2_r {k : K} {w : W} {e : Env} : kRt2 k w e = (k.rt w e) := (rfl)
def kRt1 (k : K) : W → Env → Prop := fun w e => give w e (kRt2 k)
@[simp] theorem kRt1_r {k : K} {w : W} {e : Env} : kRt1 k w e = (give w e (kRt2 k)) := (rfl)
def kIfs2 (C : Ctx) (sb sc : IB) (e : Env) (k : K) : Bool → Prop := fun x => sel x (evB C sb e k) (evB C sc e k)
@[simp] theorem kIfs2_t {C : Ctx} {sb sc : IB} {e : Env} {k : K} : kIfs2 C sb sc e k true = (evB C sb e k) := sel_t
@[simp] theorem kIfs2_f {C : Ctx} {sb sc : IB} {e : Env} {k : K} : kIfs2 C sb sc e k false = (evB C sc e k) := sel_f
theorem kIfs2_s {C : Ctx} {sb sc : IB} {e : Env} {k : K} {x : Bool} : kIfs2 C sb sc e k x = sel x (evB C sb e k) (evB C sc e k) := rfl
def kIfs (C : Ctx) (sb sc : IB) (k : K) : W → Env → Prop := fun w e => asB w (kIfs2 C sb sc e k)
@[simp] theorem kIfs_r {C : Ctx} {sb sc : IB} {k : K} {w : W} {e : Env} : kIfs C sb sc k w e = (asB w (kIfs2 C sb sc e k)) := (rfl)
def kForI (C : Ctx) (tg : Tg) (sb : IB) (k : K) : List PD → Env → Prop := fun xs e => forW (forStep C tg sb) xs e k
@[simp] theorem kForI_r {C : Ctx} {tg : Tg} {sb : IB} {k : K} {xs : List PD} {e : Env} : kForI C tg sb k xs e = (forW (forStep C tg sb) xs e k) := (rfl)
@[simp] theorem w_set : evS C (.set i a) env k = evE C a env (kSet i k) := by simp only [evS]; rfl
@[simp] theorem w_par : evS C (.par is es) env k = evM C es env (kPar is k) := by simp only [evS]; rfl
def augO (C : Ctx) (a : IE) (i : Nat) (e : Env) (k : K) (o : Option W) : Prop := match o with
  | some (.d (.int m)) => evE C a e (kAug1 i m k)
  | _ => False
@[simp] theorem augO_i {m : Int} : augO C a i e k (some (.d (.int m))) = evE C a e (kAug1 i m k) := (rfl)
@[simp] theorem w_aug : evS C (.aug i a) env k = augO C a i env k (slot env i) := by simp only [evS]; rfl
@[simp] theorem w_exp : evS C (.exp a) env k = evE C a env (kExp k) := by simp only [evS]; rfl
@[simp] theorem w_ret : evS C (.ret a) env k = evE C a env (kRt1 k) := by simp only [evS]; rfl
@[simp] theorem w_retN : evS C .retN env k = k.rt (.d .none) env := by simp only [evS]
@[simp] theorem w_if : evS C (.ife t sb sc) env k = evE C t env (kIfs C sb sc k) := by simp only [evS]; rfl
@[simp] theorem w_for : evS C (.fora tg src sb) env k = evI C src env (kForI C tg sb k) := by simp only [evS]; rfl
@[simp] theorem w_brk : evS C .brk env k = k.bk env := by simp only [evS]
@[simp] theorem w_cnt : evS C .cnt env k = k.ct env := by simp only [evS]
@[simp] theorem w_pas : evS C .pas env k = k.nx env := by simp only [evS]
@[simp] theorem w_bn : evB C .nil env k = k.nx env := by simp only [evB]
@[simp] theorem w_bc : evB C (.cons s sb) env k = evS C s env (kSeq C sb k) := by simp only [evB]; rfl
@[simp] theorem sq_nx : (kSeq C sb k).nx e = evB C sb e k := (rfl)
@[simp] theorem sq_rt {w : W} : (kSeq C sb k).rt w e = k.rt w e := (rfl)
@[simp] theorem sq_bk : (kSeq C sb k).bk e = k.bk e := (rfl)
@[simp] theorem sq_ct : (kSeq C sb k).ct e = k.ct e := (rfl)
@[simp] theorem setA_n {ws : List W} : setAll e [] ws = e := by unfold setAll; rfl
@[simp] theorem setA_c {w : W} {ws : List W} : setAll e (i :: is) (w :: ws) = setAll (e.set i (some w)) is ws := (rfl)
-- unpacking
def unpD (is : List Nat) (e : Env) (k : K) (p : PD) : Prop := match p with
    | .tuple xs => xs.length = is.length ∧ k.nx (setAll e is (xs.map .d))
    | _ => False
@[simp] theorem unpD_t {xs : List PD} : unpD is e k (.tuple xs) = (xs.length = is.length ∧ k.nx (setAll e is (xs.map .d))) := (rfl)
def kUnp2 (is : List Nat) (k : K) : PD → Env → Prop := fun p e => unpD is e k p
@[simp] theorem kUnp2_r {p : PD} : kUnp2 is k p e = unpD is e k p := (rfl)
def kUnp (is : List Nat) (k : K) : W → Env → Prop := fun w e => fz w e (kUnp2 is k)
@[simp] theorem kUnp_r {w : W} : kUnp is k w e = fz w e (kUnp2 is k) := (rfl)
@[simp] theorem w_unp : evS C (.unp is a) env k = evE C a env (kUnp is k) := by simp only [evS]; rfl
-- loops
abbrev StepF := PD → Env → K → Prop
def kFor (st : StepF) (xs : List PD) (k : K) : K := { nx := fun e => forW st xs e k, rt := k.rt, bk := k.nx, ct := fun e => forW st xs e k }
@[simp] theorem kFor_nx {st : StepF} {xs : List PD} : (kFor st xs k).nx e = forW st xs e k := (rfl)
@[simp] theorem kFor_ct {st : StepF} {xs : List PD} : (kFor st xs k).ct e = forW st xs e k := (rfl)
@[simp] theorem kFor_bk {st : StepF} {xs : List PD} : (kFor st xs k).bk e = k.nx e := (rfl)
@[simp] theorem kFor_rt {st : StepF} {xs : List PD} {w : W} : (kFor st xs k).rt w e = k.rt w e := (rfl)
@[simp] theorem for_n {st : StepF} : forW st [] e k = k.nx e := (rfl)
@[simp] theorem for_c {st : StepF} {x : PD} {xs : List PD} : forW st (x :: xs) e k = st x e (kFor st xs k) := (rfl)
def kFs (C : Ctx) (sb : IB) (k : K) : Env → Prop := fun e => evB C sb e k
@[simp] theorem kFs_r : kFs C sb k e = evB C sb e k := (rfl)
@[simp] theorem forStep_r {x : PD} : forStep C tg sb x e k = bindT tg x e (kFs C sb k) := (rfl)
@[simp] theorem kQ_rt {Qr : W → List W → Prop} {w : W} : (kQ Qr).rt w e = Qr w [] := (rfl)
@[simp] theorem kQ_nx {Qr : W → List W → Prop} : (kQ Qr).nx e = Qr (.d .none) [] := (rfl)
def kQ1O (Qr : W → List W → Prop) (w : W) (o : Option W) : Prop := match o with
  | some x => Qr w [x]
  | none => False
@[simp] theorem kQ1O_s {Qr : W → List W → Prop} {w x : W} : kQ1O Qr w (some x) = Qr w [x] := (rfl)
theorem kQ1O_e {Qr : W → List W → Prop} {w : W} {o : Option W} : (∃ x, o = some x ∧ Qr w [x]) = kQ1O Qr w o := by
  apply propext
  cases o with
  | none => simp [kQ1O]
  | some x => simp [kQ1O]
@[simp] theorem kQ1_rt {Qr : W → List W → Prop} {w : W} : (kQ1 Qr).rt w e = kQ1O Qr w (slot e 0) := kQ1O_e
@[simp] theorem kQ1_nx {Qr : W → List W → Prop} : (kQ1 Qr).nx e = kQ1O Qr (.d .none) (slot e 0) := kQ1O_e

variable {x y : Int} {xs ys : List PD} {Qw : W → Prop} {Qb : Bool → Prop} {F : PD → Prop}
@[simp] theorem o_add : bo .add (.int x) (.int y) Qw = Qw (.d (.int (x + y))) := (rfl)
@[simp] theorem o_addT : bo .add (.tuple xs) (.tuple ys) Qw = (xs.length + ys.length ≤ lim ∧ Qw (.d (.tuple (xs ++ ys)))) := (rfl)
@[simp] theorem o_addL : bo .add (.list xs) (.list ys) Qw = (xs.length + ys.length ≤ lim ∧ Qw (.ol ((xs ++ ys).map .d))) := (rfl)
@[simp] theorem o_sub : bo .sub (.int x) (.int y) Qw = Qw (.d (.int (x - y))) := (rfl)
@[simp] theorem o_mul : bo .mul (.int x) (.int y) Qw = (MulOk x y ∧ Qw (.d (.int (x * y)))) := (rfl)
@[simp] theorem o_mulT : bo .mul (.tuple xs) (.int y) Qw = (0 ≤ y ∧ y ≤ 1000 ∧ xs.length ≤ 1000 ∧ Qw (.d (.tuple (List.replicate y.toNat xs).flatten))) := (rfl)
def FdOk (y : Int) : Prop := y ≠ 0 ∧ y.natAbs < 2 ^ 4096
@[simp] theorem o_fdiv : bo .fdiv (.int x) (.int y) Qw = (FdOk y ∧ Qw (.d (.int (x.fdiv y)))) := by
  apply propext
  exact ⟨fun h => ⟨⟨h.1, h.2.1⟩, h.2.2⟩, fun h => ⟨h.1.1, h.1.2, h.2⟩⟩
@[simp] theorem o_mod : bo .mod (.int x) (.int y) Qw = (y ≠ 0 ∧ Qw (.d (.int (x.fmod y)))) := (rfl)
@[simp] theorem o_pow : bo .pow (.int x) (.int y) Qw = (0 ≤ y ∧ y ≤ 1000 ∧ x.natAbs < 2 ^ 64 ∧ Qw (.d (.int (x ^ y.toNat)))) := (rfl)
@[simp] theorem o_band : bo .band (.int x) (.int y) Qw = Qw (.d (.int (Builtin.bitAnd x y))) := (rfl)
@[simp] theorem o_eq : co .eq (.int x) (.int y) Qb = Qb (decide (x = y)) := propext ⟨fun h => by rw [← eqv_int]; exact h.2.2, fun h => ⟨rfl, rfl, by rw [eqv_int]; exact h⟩⟩
@[simp] theorem o_ne : co .ne (.int x) (.int y) Qb = Qb (!decide (x = y)) := propext ⟨fun h => by rw [← eqv_int]; exact h.2.2, fun h => ⟨rfl, rfl, by rw [eqv_int]; exact h⟩⟩
@[simp] theorem o_lt : co .lt (.int x) (.int y) Qb = Qb (decide (x < y)) := (rfl)
@[simp] theorem o_le : co .le (.int x) (.int y) Qb = Qb (decide (x ≤ y)) := (rfl)
@[simp] theorem o_gt : co .gt (.int x) (.int y) Qb = Qb (decide (y < x)) := (rfl)
@[simp] theorem o_ge : co .ge (.int x) (.int y) Qb = Qb (decide (y ≤ x)) := (rfl)
@[simp] theorem o_lenT : b1 .len (.tuple xs) Qw = (xs.length ≤ lim ∧ Qw (.d (.int (xs.length : Nat)))) := (rfl)
@[simp] theorem o_lenL : b1 .len (.list xs) Qw = (xs.length ≤ lim ∧ Qw (.d (.int (xs.length : Nat)))) := (rfl)
@[simp] theorem o_abs : b1 .abs (.int x) Qw = Qw (.d (.int (x.natAbs : Nat))) := (rfl)
@[simp] theorem o_intI : b1 .int (.int x) Qw = Qw (.d (.int x)) := (rfl)
@[simp] theorem o_intB {v : Bool} : b1 .int (.bool v) Qw = Qw (.d (.int (if v then 1 else 0))) := (rfl)
@[simp] theorem o_tupL : b1 .tuple (.list xs) Qw = Qw (.d (.tuple xs)) := (rfl)
@[simp] theorem o_tupT : b1 .tuple (.tuple xs) Qw = Qw (.d (.tuple xs)) := (rfl)
@[simp] theorem o_lstL : b1 .list (.list xs) Qw = Qw (.ol (xs.map .d)) := (rfl)
@[simp] theorem o_lstT : b1 .list (.tuple xs) Qw = Qw (.ol (xs.map .d)) := (rfl)
def onI (o : Option (List Int)) (F : List Int → Prop) : Prop := match o with
  | some ns => F ns
  | none => False
def onB (o : Option (List Bool)) (F : List Bool → Prop) : Prop := match o with
  | some ns => F ns
  | none => False
@[simp] theorem onI_s {ns : List Int} {F : List Int → Prop} : onI (some ns) F = F ns := (rfl)
@[simp] theorem onB_s {ns : List Bool} {F : List Bool → Prop} : onB (some ns) F = F ns := (rfl)
def kSum (Qw : W → Prop) : List Int → Prop := fun ns => Qw (.d (.int ns.sum))
@[simp] theorem kSum_r {ns : List Int} : kSum Qw ns = Qw (.d (.int ns.sum)) := (rfl)
@[simp] theorem o_sum : b1 .sum (.list xs) Qw = onI (intL xs) (kSum Qw) := by
  simp only [b1]
  cases intL xs <;> rfl
@[simp] theorem o_sumT : b1 .sum (.tuple xs) Qw = onI (intL xs) (kSum Qw) := by
  simp only [b1]
  cases intL xs <;> rfl
def kMax (Qw : W → Prop) : List Int → Prop := fun ns => ns ≠ [] ∧ Qw (.d (.int (maxI ns)))
@[simp] theorem kMax_r {ns : List Int} : kMax Qw ns = (ns ≠ [] ∧ Qw (.d (.int (maxI ns)))) := (rfl)
@[simp] theorem o_max : b1 .max (.list xs) Qw = onI (intL xs) (kMax Qw) := by
  simp only [b1]
  cases intL xs <;> rfl
@[simp] theorem o_maxT : b1 .max (.tuple xs) Qw = onI (intL xs) (kMax Qw) := by
  simp only [b1]
  cases intL xs <;> rfl
def kMin (Qw : W → Prop) : List Int → Prop := fun ns => ns ≠ [] ∧ Qw (.d (.int (minI ns)))
@[simp] theorem kMin_r {ns : List Int} : kMin Qw ns = (ns ≠ [] ∧ Qw (.d (.int (minI ns)))) := (rfl)
@[simp] theorem o_min : b1 .min (.list xs) Qw = onI (intL xs) (kMin Qw) := by
  simp only [b1]
  cases intL xs <;> rfl
@[simp] theorem o_minT : b1 .min (.tuple xs) Qw = onI (intL xs) (kMin Qw) := by
  simp only [b1]
  cases intL xs <;> rfl
def kAll (Qw : W → Prop) : List Bool → Prop := fun ns => Qw (.d (.bool (ns.all id)))
@[simp] theorem kAll_r {ns : List Bool} : kAll Qw ns = Qw (.d (.bool (ns.all id))) := (rfl)
@[simp] theorem o_all : b1 .all (.list xs) Qw = onB (boolL xs) (kAll Qw) := by
  simp only [b1]
  cases boolL xs <;> rfl
def kAny (Qw : W → Prop) : List Bool → Prop := fun ns => Qw (.d (.bool (ns.any id)))
@[simp] theorem kAny_r {ns : List Bool} : kAny Qw ns = Qw (.d (.bool (ns.any id))) := (rfl)
@[simp] theorem o_any : b1 .any (.list xs) Qw = onB (boolL xs) (kAny Qw) := by
  simp only [b1]
  cases boolL xs <;> rfl
@[simp] theorem intL_n : intL [] = some [] := (rfl)
@[simp] theorem intL_c {r : List PD} : intL (.int x :: r) = (intL r).map (x :: ·) := (rfl)
@[simp] theorem intL_m {ns : List Int} : intL (ns.map .int) = some ns := intL_map ns
@[simp] theorem boolL_n : boolL [] = some [] := (rfl)
@[simp] theorem boolL_c {v : Bool} {r : List PD} : boolL (.bool v :: r) = (boolL r).map (v :: ·) := (rfl)
@[simp] theorem boolL_m {ns : List Bool} : boolL (ns.map .bool) = some ns := boolL_map ns
@[simp] theorem o_b2max : b2 .max (.int x) (.int y) Qw = Qw (.d (.int (max x y))) := (rfl)
@[simp] theorem o_b2min : b2 .min (.int x) (.int y) Qw = Qw (.d (.int (min x y))) := (rfl)
@[simp] theorem o_gcd : b2 .gcd (.int x) (.int y) Qw = Qw (.d (.int (Nat.gcd x.natAbs y.natAbs : Nat))) := (rfl)
@[simp] theorem ty_it : tyOf (.int x) .tuple = false := (rfl)
@[simp] theorem ty_ii : tyOf (.int x) .int = true := (rfl)
@[simp] theorem ty_ib : tyOf (.int x) .bool = false := (rfl)
@[simp] theorem ty_tt : tyOf (.tuple xs) .tuple = true := (rfl)
def ixO (o : Option PD) (F : PD → Prop) : Prop := match o with
  | some z => F z
  | none => False
@[simp] theorem ixO_s {z : PD} : ixO (some z) F = F z := (rfl)
theorem ixO_e {n : Nat} {i : Int} {l : List PD} (hn : n = l.length) : (∃ j z, place n i = some j ∧ l[j]? = some z ∧ F z) = ixO ((place n i).bind fun j => l[j]?) F := by
  apply propext
  constructor
  · rintro ⟨j, z, h1, h2, q⟩
    simp only [h1, Option.bind_some, h2]
    exact q
  · intro h
    cases h1 : place n i with
    | none => rw [h1] at h; exact h.elim
    | some j =>
      rw [h1] at h
      cases h2 : l[j]? with
      | none => simp only [Option.bind_some, h2] at h; exact h.elim
      | some z => simp only [Option.bind_some, h2] at h; exact ⟨j, z, rfl, h2, h⟩
/-- Python's item -/
def ixL (l : List PD) (i : Int) : Option PD := (place l.length i).bind fun j => l[j]?
@[simp] theorem o_ixT {i : Int} : idxD (.tuple xs) (.int i) F = ixO (ixL xs i) F := ixO_e rfl
@[simp] theorem o_ixL {i : Int} : idxD (.list xs) (.int i) F = ixO (ixL xs i) F := ixO_e rfl
theorem ixL_nat {n : Nat} : ixL xs (n : Int) = xs[n]? := by
  unfold ixL
  by_cases h : n < xs.length
  · rw [place_nat h]; rfl
  · unfold place
    rw [if_pos (Int.natCast_nonneg n), if_neg (by omega), List.getElem?_eq_none (by omega)]
    rfl
@[simp] theorem ixL_natr {n : Nat} : ixL xs (n : Int) = xs[n]? := ixL_nat
@[simp] theorem ixL_0 {z : PD} : ixL (z :: xs) 0 = some z := ixL_nat (n := 0)
@[simp] theorem ixL_1 {z : PD} : ixL (z :: xs) 1 = xs[0]? := ixL_nat (n := 1)
@[simp] theorem ixL_2 {z : PD} : ixL (z :: xs) 2 = xs[1]? := ixL_nat (n := 2)
@[simp] theorem ixL_3 {z : PD} : ixL (z :: xs) 3 = xs[2]? := ixL_nat (n := 3)
@[simp] theorem o_slT {lo hi : Option Int} : slcD (.tuple xs) lo hi Qw = Qw (.d (.tuple (cut xs lo hi))) := (rfl)
@[simp] theorem o_slL {lo hi : Option Int} : slcD (.list xs) lo hi Qw = Qw (.ol ((cut xs lo hi).map .d)) := (rfl)
@[simp] theorem o_rev : revD (.list xs) Qw = Qw (.ol (xs.reverse.map .d)) := (rfl)
@[simp] theorem o_revT : revD (.tuple xs) Qw = Qw (.d (.tuple xs.reverse)) := (rfl)
@[simp] theorem o_slS {lo hi : Option Int} {z : Str} : slcD (.str z) lo hi Qw = (z.length ≤ 1000000 ∧ Qw (.d (.str (L2.cutS z lo hi)))) := (rfl)
@[simp] theorem o_strB {v : Bool} : b1 .str (.bool v) Qw = Qw (.d (.str (if v then "True" else "False"))) := (rfl)
@[simp] theorem o_strI {v : Int} : b1 .str (.int v) Qw = (v.natAbs.log2 < 1920 ∧ Qw (.d (.str (toString v)))) := (rfl)
@[simp] theorem o_addB {v : Bool} {u : Int} : bo .add (.bool v) (.int u) Qw = Qw (.d (.int ((if v = true then (1 : Int) else 0) + u))) := (rfl)
@[simp] theorem o_addB2 {v : Bool} {u : Int} : bo .add (.int u) (.bool v) Qw = Qw (.d (.int (u + if v = true then (1 : Int) else 0))) := (rfl)
@[simp] theorem o_subB {v : Bool} {u : Int} : bo .sub (.bool v) (.int u) Qw = Qw (.d (.int ((if v = true then (1 : Int) else 0) - u))) := (rfl)
@[simp] theorem o_subB2 {v : Bool} {u : Int} : bo .sub (.int u) (.bool v) Qw = Qw (.d (.int (u - if v = true then (1 : Int) else 0))) := (rfl)
@[simp] theorem o_mulB {v : Bool} {u : Int} : bo .mul (.bool v) (.int u) Qw = Qw (.d (.int ((if v = true then (1 : Int) else 0) * u))) := (rfl)
@[simp] theorem o_eqT0 {Qb : Bool → Prop} : co .eqT (.tuple xs) (.tuple []) Qb = Qb xs.isEmpty := (rfl)
@[simp] theorem o_neT0 {Qb : Bool → Prop} : co .neT (.tuple xs) (.tuple []) Qb = Qb (!xs.isEmpty) := (rfl)
@[simp] theorem o_eqL0 {Qb : Bool → Prop} : co .eqT (.list xs) (.list []) Qb = Qb xs.isEmpty := (rfl)
@[simp] theorem o_neL0 {Qb : Bool → Prop} : co .neT (.list xs) (.list []) Qb = Qb (!xs.isEmpty) := (rfl)
@[simp] theorem o_isB {Qb : Bool → Prop} {v u : Bool} : co .isB (.bool v) (.bool u) Qb = Qb (decide (v = u)) := (rfl)


def kPop2 (i : Nat) (e : Env) (Q : W → Env → Prop) : Int → Prop := fun j => popO (slot e i) i j e Q
@[simp] theorem kPop2_r {j : Int} : kPop2 i e Q j = popO (slot e i) i j e Q := (rfl)
def kPop1 (i : Nat) (Q : W → Env → Prop) : W → Env → Prop := fun x e => asI x (kPop2 i e Q)
@[simp] theorem kPop1_r {x : W} : kPop1 i Q x e = asI x (kPop2 i e Q) := (rfl)
@[simp] theorem popO_l {ws : List W} {j : Int} : popO (some (.ol ws)) i j e Q = (ws.length ≤ lim ∧ popE (popR ws j) i e Q) := (rfl)
@[simp] theorem popE_s {x : PD} {r : List W} : popE (some (.d x, r)) i e Q = Q (.d x) (e.set i (some (.ol r))) := (rfl)
@[simp] theorem w_popI : evE C (.popI i a) env Q = (isOl env i = true ∧ evE C a env (kPop1 i Q)) := by
  simp only [evE]
  refine congrArg (And _) ?_
  congr 1
  funext x e1
  unfold kPop1
  congr 1
  funext j
  unfold kPop2 popO
  cases h : slot e1 i with
  | none => rfl
  | some w =>
    cases w with
    | d x => rfl
    | al x => rfl
    | od a b => rfl
    | ol ws =>
      refine congrArg (And _) ?_
      unfold popR popE
      cases h1 : place ws.length j with
      | none => rfl
      | some k =>
        simp only [Option.bind_some]
        cases h2 : ws[k]? with
        | none => rfl
        | some y => cases y <;> rfl
@[simp] theorem popR_0 {w : W} {ws : List W} : popR (w :: ws) 0 = some (w, ws) := by
  have h : place (w :: ws).length ((0 : Nat) : Int) = some 0 := place_nat (by simp)
  unfold popR
  rw [show (0 : Int) = ((0 : Nat) : Int) from rfl, h]
  rfl
@[simp] theorem popR_1 {w v : W} {ws : List W} : popR (w :: v :: ws) 1 = some (v, w :: ws) := by
  have h : place (w :: v :: ws).length ((1 : Nat) : Int) = some 1 := place_nat (by simp)
  unfold popR
  rw [show (1 : Int) = ((1 : Nat) : Int) from rfl, h]
  rfl
@[simp] theorem popR_2 {w v u : W} {ws : List W} : popR (w :: v :: u :: ws) 2 = some (u, w :: v :: ws) := by
  have h : place (w :: v :: u :: ws).length ((2 : Nat) : Int) = some 2 := place_nat (by simp)
  unfold popR
  rw [show (2 : Int) = ((2 : Nat) : Int) from rfl, h]
  rfl
def subO (o : Option (List W)) (i : Nat) (e : Env) (k : K) : Prop := match o with
  | some ws => k.nx (e.set i (some (.ol ws)))
  | none => False
@[simp] theorem subO_s {ws : List W} : subO (some ws) i e k = k.nx (e.set i (some (.ol ws))) := (rfl)
def subR (ws : List W) (j : Int) (w : W) : Option (List W) := (place ws.length j).map fun k => ws.set k w
@[simp] theorem subR_0 {w v : W} {ws : List W} : subR (w :: ws) 0 v = some (v :: ws) := by
  have h : place (w :: ws).length ((0 : Nat) : Int) = some 0 := place_nat (by simp)
  unfold subR
  rw [show (0 : Int) = ((0 : Nat) : Int) from rfl, h]
  rfl
@[simp] theorem subR_1 {w w1 v : W} {ws : List W} : subR (w :: w1 :: ws) 1 v = some (w :: v :: ws) := by
  have h : place (w :: w1 :: ws).length ((1 : Nat) : Int) = some 1 := place_nat (by simp)
  unfold subR
  rw [show (1 : Int) = ((1 : Nat) : Int) from rfl, h]
  rfl
@[simp] theorem subR_2 {w w1 w2 v : W} {ws : List W} : subR (w :: w1 :: w2 :: ws) 2 v = some (w :: w1 :: v :: ws) := by
  have h : place (w :: w1 :: w2 :: ws).length ((2 : Nat) : Int) = some 2 := place_nat (by simp)
  unfold subR
  rw [show (2 : Int) = ((2 : Nat) : Int) from rfl, h]
  rfl
@[simp] theorem subR_3 {w w1 w2 w3 v : W} {ws : List W} : subR (w :: w1 :: w2 :: w3 :: ws) 3 v = some (w :: w1 :: w2 :: v :: ws) := by
  have h : place (w :: w1 :: w2 :: w3 :: ws).length ((3 : Nat) : Int) = some 3 := place_nat (by simp)
  unfold subR
  rw [show (3 : Int) = ((3 : Nat) : Int) from rfl, h]
  rfl
def olS (o : Option W) (F : List W → Prop) : Prop := match o with
  | some (.ol ws) => F ws
  | _ => False
@[simp] theorem olS_l {ws : List W} {F : List W → Prop} : olS (some (.ol ws)) F = F ws := (rfl)
def kSub4 (i : Nat) (w : W) (j : Int) (e : Env) (k : K) : List W → Prop := fun ws => subO (subR ws j w) i e k
@[simp] theorem kSub4_r {w : W} {j : Int} {ws : List W} : kSub4 i w j e k ws = subO (subR ws j w) i e k := (rfl)
def kSub3 (i : Nat) (w : W) (e : Env) (k : K) : Int → Prop := fun j => olS (slot e i) (kSub4 i w j e k)
@[simp] theorem kSub3_r {w : W} {j : Int} : kSub3 i w e k j = olS (slot e i) (kSub4 i w j e k) := (rfl)
def kSub2 (i : Nat) (w : W) (k : K) : W → Env → Prop := fun x e => asI x (kSub3 i w e k)
@[simp] theorem kSub2_r {w x : W} : kSub2 i w k x e = asI x (kSub3 i w e k) := (rfl)
def kSub1 (C : Ctx) (i : Nat) (a : IE) (k : K) : W → Env → Prop := fun w e => evE C a e (kSub2 i w k)
@[simp] theorem kSub1_r {w : W} : kSub1 C i a k w e = evE C a e (kSub2 i w k) := (rfl)
def kSub0 (C : Ctx) (i : Nat) (a : IE) (k : K) : W → Env → Prop := fun w e => mv w e (kSub1 C i a k)
@[simp] theorem kSub0_r {w : W} : kSub0 C i a k w e = mv w e (kSub1 C i a k) := (rfl)
@[simp] theorem w_sub : evS C (.sub i a b) env k = (isOl env i = true ∧ evE C b env (kSub0 C i a k)) := by
  simp only [evS]
  refine congrArg (And _) ?_
  congr 1
  funext w e1
  unfold kSub0
  congr 1
  funext w e2
  unfold kSub1
  congr 1
  funext x e3
  unfold kSub2
  congr 1
  funext j
  unfold kSub3
  cases h : slot e3 i with
  | none => rfl
  | some v =>
    cases v with
    | d x => rfl
    | al x => rfl
    | od a b => rfl
    | ol ws =>
      show _ = subO (subR ws j w) i e3 k
      unfold subR subO
      dsimp only
      cases place ws.length j <;> rfl
def kApp3 (i : Nat) (w : W) (e : Env) (k : K) : List W → Prop := fun ws => ws.length < lim ∧ k.nx (e.set i (some (.ol (ws ++ [w]))))
@[simp] theorem kApp3_r {w : W} {ws : List W} : kApp3 i w e k ws = (ws.length < lim ∧ k.nx (e.set i (some (.ol (ws ++ [w]))))) := (rfl)
def kApp2 (i : Nat) (k : K) : W → Env → Prop := fun w e => olS (slot e i) (kApp3 i w e k)
@[simp] theorem kApp2_r {w : W} : kApp2 i k w e = olS (slot e i) (kApp3 i w e k) := (rfl)
def kApp1 (i : Nat) (k : K) : W → Env → Prop := fun w e => mv w e (kApp2 i k)
@[simp] theorem kApp1_r {w : W} : kApp1 i k w e = mv w e (kApp2 i k) := (rfl)
@[simp] theorem w_app : evS C (.app i a) env k = (isOl env i = true ∧ evE C a env (kApp1 i k)) := by
  simp only [evS]
  rfl
-- two places deep
def kS23 (i : Nat) (a : Int) (w : W) (e : Env) (k : K) (ws : List W) : Option (List W) → Prop := fun o => match o with
  | some us => subO (subR ws a (.ol us)) i e k
  | none => False
@[simp] theorem kS23_r {x : Int} {w : W} {ws us : List W} : kS23 i x w e k ws (some us) = subO (subR ws x (.ol us)) i e k := (rfl)
def nth (ws : List W) (a : Int) : Option W := (place ws.length a).bind fun m => ws[m]?
@[simp] theorem nth_0 {w : W} {ws : List W} : nth (w :: ws) 0 = some w := by
  have h : place (w :: ws).length ((0 : Nat) : Int) = some 0 := place_nat (by simp)
  unfold nth
  rw [show (0 : Int) = ((0 : Nat) : Int) from rfl, h]
  rfl
@[simp] theorem nth_1 {w w1 : W} {ws : List W} : nth (w :: w1 :: ws) 1 = some w1 := by
  have h : place (w :: w1 :: ws).length ((1 : Nat) : Int) = some 1 := place_nat (by simp)
  unfold nth
  rw [show (1 : Int) = ((1 : Nat) : Int) from rfl, h]
  rfl
@[simp] theorem nth_2 {w w1 w2 : W} {ws : List W} : nth (w :: w1 :: w2 :: ws) 2 = some w2 := by
  have h : place (w :: w1 :: w2 :: ws).length ((2 : Nat) : Int) = some 2 := place_nat (by simp)
  unfold nth
  rw [show (2 : Int) = ((2 : Nat) : Int) from rfl, h]
  rfl
@[simp] theorem nth_3 {w w1 w2 w3 : W} {ws : List W} : nth (w :: w1 :: w2 :: w3 :: ws) 3 = some w3 := by
  have h : place (w :: w1 :: w2 :: w3 :: ws).length ((3 : Nat) : Int) = some 3 := place_nat (by simp)
  unfold nth
  rw [show (3 : Int) = ((3 : Nat) : Int) from rfl, h]
  rfl
def pI2 (p q : Option PD) (F : Int → Int → Prop) : Prop := match p, q with
  | some (.int a), some (.int b) => F a b
  | _, _ => False
@[simp] theorem pI2_r {x y : Int} {F : Int → Int → Prop} : pI2 (some (.int x)) (some (.int y)) F = F x y := (rfl)
def kS2c (i : Nat) (w : W) (e : Env) (k : K) (ws : List W) : Int → Int → Prop := fun x y => olS (nth ws x) fun vs => kS23 i x w e k ws (subR vs y w)
def s2v (o : Option W) (i : Nat) (w : W) (x y : Int) (e : Env) (k : K) (ws : List W) : Prop := match o with
  | some (.ol vs) => kS23 i x w e k ws (subR vs y w)
  | _ => False
@[simp] theorem s2v_r {w : W} {x y : Int} {ws vs : List W} : s2v (some (.ol vs)) i w x y e k ws = kS23 i x w e k ws (subR vs y w) := (rfl)
def kS2b (i : Nat) (w : W) (e : Env) (k : K) (ws : List W) : Int → Int → Prop := fun x y => s2v (nth ws x) i w x y e k ws
@[simp] theorem kS2b_r {w : W} {x y : Int} {ws : List W} : kS2b i w e k ws x y = s2v (nth ws x) i w x y e k ws := (rfl)
def kS2a (i : Nat) (a b : IE) (w : W) (e : Env) (k : K) : List W → Prop := fun ws => pI2 (evP a e) (evP b e) (kS2b i w e k ws)
@[simp] theorem kS2a_r {w : W} {ws : List W} : kS2a i a b w e k ws = pI2 (evP a e) (evP b e) (kS2b i w e k ws) := (rfl)
def kS2n (i : Nat) (a b : IE) (k : K) : W → Env → Prop := fun w e => olS (slot e i) (kS2a i a b w e k)
@[simp] theorem kS2n_r {w : W} : kS2n i a b k w e = olS (slot e i) (kS2a i a b w e k) := (rfl)
def kS2m (i : Nat) (a b : IE) (k : K) : W → Env → Prop := fun w e => mv w e (kS2n i a b k)
@[simp] theorem kS2m_r {w : W} : kS2m i a b k w e = mv w e (kS2n i a b k) := (rfl)
@[simp] theorem w_sub2 : evS C (.sub2 i a b d) env k = (isOl env i = true ∧ evE C d env (kS2m i a b k)) := by
  simp only [evS]
  refine congrArg (And _) ?_
  congr 1
  funext w e1
  unfold kS2m
  congr 1
  funext w e2
  unfold kS2n
  cases h : slot e2 i with
  | none => rfl
  | some v =>
    cases v with
    | d x => rfl
    | al x => rfl
    | od a b => rfl
    | ol ws =>
      show _ = pI2 (evP a e2) (evP b e2) (kS2b i w e2 k ws)
      unfold pI2
      cases evP a e2 with
      | none => rfl
      | some p =>
        cases p with
        | int x =>
          cases evP b e2 with
          | none => rfl
          | some q =>
            cases q with
            | int y =>
              dsimp only
              show _ = s2v (nth ws x) i w x y e2 k ws
              unfold nth s2v
              cases h1 : place ws.length x with
              | none => rfl
              | some m =>
                simp only [Option.bind_some]
                cases h2 : ws[m]? with
                | none => rfl
                | some u =>
                  cases u with
                  | d x => rfl
                  | al x => rfl
                  | od a b => rfl
                  | ol vs =>
                    dsimp only
                    unfold subR kS23
                    cases place vs.length y with
                    | none => rfl
                    | some b =>
                      have e1 : subR ws x (.ol (vs.set b w)) = some (ws.set m (.ol (vs.set b w))) := by unfold subR; rw [h1]; rfl
                      simp only [Option.map_some]
                      show _ = subO (subR ws x (.ol (vs.set b w))) i e2 k
                      rw [e1]
                      rfl
            | _ => rfl
        | _ => cases evP b e2 <;> rfl
def ptV (o : Option W) (e : Env) (Q : W → Env → Prop) : Prop := match o with
  | some (.d x) => Q (.d x) e
  | _ => False
@[simp] theorem ptV_r {x : PD} : ptV (some (.d x)) e Q = Q (.d x) e := (rfl)
def ptD (o : Option PD) (e : Env) (Q : W → Env → Prop) : Prop := match o with
  | some x => Q (.d x) e
  | _ => False
@[simp] theorem ptD_r {x : PD} : ptD (some x) e Q = Q (.d x) e := (rfl)
def ptU (o : Option W) (y : Int) (e : Env) (Q : W → Env → Prop) : Prop := match o with
  | some (.ol vs) => ptV (nth vs y) e Q
  | some (.d (.list vs)) => ptD (ixL vs y) e Q
  | _ => False
@[simp] theorem ptU_l {vs : List W} {y : Int} : ptU (some (.ol vs)) y e Q = ptV (nth vs y) e Q := (rfl)
@[simp] theorem ptU_d {vs : List PD} {y : Int} : ptU (some (.d (.list vs))) y e Q = ptD (ixL vs y) e Q := (rfl)
def kPt2 (e : Env) (Q : W → Env → Prop) (ws : List W) : Int → Int → Prop := fun x y => ptU (nth ws x) y e Q
@[simp] theorem kPt2_r {ws : List W} {x y : Int} : kPt2 e Q ws x y = ptU (nth ws x) y e Q := (rfl)
def kPt1 (a b : IE) (e : Env) (Q : W → Env → Prop) : List W → Prop := fun ws => pI2 (evP a e) (evP b e) (kPt2 e Q ws)
@[simp] theorem kPt1_r {ws : List W} : kPt1 a b e Q ws = pI2 (evP a e) (evP b e) (kPt2 e Q ws) := (rfl)
@[simp] theorem w_pth : evE C (.pth i a b) env Q = olS (slot env i) (kPt1 a b env Q) := by
  simp only [evE]
  cases h : slot env i with
  | none => rfl
  | some v =>
    cases v with
    | d x => rfl
    | al x => rfl
    | od a b => rfl
    | ol ws =>
      show _ = pI2 (evP a env) (evP b env) (kPt2 env Q ws)
      unfold pI2
      cases evP a env with
      | none => rfl
      | some p =>
        cases p with
        | int x =>
          cases evP b env with
          | none => rfl
          | some q =>
            cases q with
            | int y =>
              show _ = ptU (nth ws x) y env Q
              unfold nth ptU
              dsimp only
              cases ((place ws.length x).bind fun m => ws[m]?) with
              | none => rfl
              | some u =>
                cases u with
                | d z =>
                  cases z with
                  | list vs =>
                    dsimp only
                    unfold ixL ptD
                    cases ((place vs.length y).bind fun m => vs[m]?) <;> rfl
                  | _ => rfl
                | al x => rfl
                | od a b => rfl
                | ol vs =>
                  dsimp only
                  unfold nth ptV
                  cases ((place vs.length y).bind fun m => vs[m]?) with
                  | none => rfl
                  | some z => cases z <;> rfl
            | _ => rfl
        | _ => cases evP b env <;> rfl
-- pure expressions
def evO (o : Option W) : Option PD := match o with
  | some (.d x) => some x
  | _ => none
@[simp] theorem evO_d {x : PD} : evO (some (.d x)) = some x := (rfl)
@[simp] theorem p_var : evP (.var i) e = evO (slot e i) := (rfl)
@[simp] theorem p_cI : evP (.cI m) e = some (.int m) := (rfl)
def addO (p q : Option PD) : Option PD := match p, q with
    | some (.int x), some (.int y) => some (.int (x + y))
    | _, _ => none
def subOO (p q : Option PD) : Option PD := match p, q with
    | some (.int x), some (.int y) => some (.int (x - y))
    | _, _ => none
@[simp] theorem addO_r {x y : Int} : addO (some (.int x)) (some (.int y)) = some (.int (x + y)) := (rfl)
@[simp] theorem subOO_r {x y : Int} : subOO (some (.int x)) (some (.int y)) = some (.int (x - y)) := (rfl)
@[simp] theorem p_add : evP (.bin .add a b) e = addO (evP a e) (evP b e) := by simp only [evP]; rfl
@[simp] theorem p_sub : evP (.bin .sub a b) e = subOO (evP a e) (evP b e) := by simp only [evP]; rfl
-- a list repeated
def rpF (o : Option (List PD)) (n : Int) (ws : List W) (e : Env) (Q : W → Env → Prop) : Prop := match o with
  | some xs => Q (.ol ((List.replicate n.toNat xs).flatten.map .d)) e
  | none => False
@[simp] theorem rpF_s {xs : List PD} {ws : List W} {x : Int} : rpF (some xs) x ws e Q = Q (.ol ((List.replicate x.toNat xs).flatten.map .d)) e := (rfl)
def kRp3 (ws : List W) (e : Env) (Q : W → Env → Prop) : Int → Prop := fun n => 0 ≤ n ∧ n ≤ 1000 ∧ ws.length ≤ 1000 ∧ rpF (allD ws) n ws e Q
@[simp] theorem kRp3_r {ws : List W} {x : Int} : kRp3 ws e Q x = (0 ≤ x ∧ x ≤ 1000 ∧ ws.length ≤ 1000 ∧ rpF (allD ws) x ws e Q) := (rfl)
def kRp2 (ws : List W) (Q : W → Env → Prop) : W → Env → Prop := fun y e => asI y (kRp3 ws e Q)
@[simp] theorem kRp2_r {ws : List W} {y : W} : kRp2 ws Q y e = asI y (kRp3 ws e Q) := (rfl)
def rpW (C : Ctx) (b : IE) (Q : W → Env → Prop) (e : Env) (x : W) : Prop := match x with
  | .ol ws => evE C b e (kRp2 ws Q)
  | _ => False
@[simp] theorem rpW_l {ws : List W} : rpW C b Q e (.ol ws) = evE C b e (kRp2 ws Q) := (rfl)
def kRp1 (C : Ctx) (b : IE) (Q : W → Env → Prop) : W → Env → Prop := fun x e => rpW C b Q e x
@[simp] theorem kRp1_r {x : W} : kRp1 C b Q x e = rpW C b Q e x := (rfl)
@[simp] theorem w_rep : evE C (.repL a b) env Q = evE C a env (kRp1 C b Q) := by
  simp only [evE]
  rfl
@[simp] theorem flat_n {α : Type} : ([] : List (List α)).flatten = [] := (rfl)
@[simp] theorem flat_c {α : Type} {x : List α} {l : List (List α)} : (x :: l).flatten = x ++ l.flatten := (rfl)
@[simp] theorem maxI_1 {x : Int} : maxI [x] = x := (rfl)
@[simp] theorem maxI_c {x y : Int} {r : List Int} : maxI (x :: y :: r) = max x (maxI (y :: r)) := (rfl)
@[simp] theorem minI_1 {x : Int} : minI [x] = x := (rfl)
@[simp] theorem minI_c {x y : Int} {r : List Int} : minI (x :: y :: r) = min x (minI (y :: r)) := (rfl)
@[simp] theorem plO_m {x : Option PD} : plO (x.map W.d) = true := by cases x <;> rfl
-- equality of data
@[simp] theorem lay_i {v : Int} : PyData.canLay0 (.int v) = true := by simp [PyData.canLay0]
@[simp] theorem lay_b {v : Bool} : PyData.canLay0 (.bool v) = true := by simp [PyData.canLay0]
@[simp] theorem lay_n : PyData.canLay0 .none = true := by simp [PyData.canLay0]
@[simp] theorem lay_t {l : List PD} : PyData.canLay0 (.tuple l) = PyData.canLayAll0 l := by simp [PyData.canLay0]
@[simp] theorem lay_l {l : List PD} : PyData.canLay0 (.list l) = PyData.canLayAll0 l := by simp [PyData.canLay0]
@[simp] theorem layA_n : PyData.canLayAll0 [] = true := by simp [PyData.canLayAll0]
@[simp] theorem layA_c {v : PD} {l : List PD} : PyData.canLayAll0 (v :: l) = (v.canLay0 && PyData.canLayAll0 l) := by simp [PyData.canLayAll0]
@[simp] theorem dep_t {xs : List PD} : PyData.depth (.tuple xs) = PyData.depthAll xs + 1 := by simp [PyData.depth]
@[simp] theorem dep_l {xs : List PD} : PyData.depth (.list xs) = PyData.depthAll xs + 1 := by simp [PyData.depth]
@[simp] theorem dep_i {v : Int} : PyData.depth (.int v) = 0 := by simp [PyData.depth]
@[simp] theorem dep_b {v : Bool} : PyData.depth (.bool v) = 0 := by simp [PyData.depth]
@[simp] theorem dep_n : PyData.depth .none = 0 := by simp [PyData.depth]
@[simp] theorem depA_n : PyData.depthAll [] = 0 := by simp [PyData.depthAll]
@[simp] theorem depA_c {v : PD} {l : List PD} : PyData.depthAll (v :: l) = max v.depth (PyData.depthAll l) := by simp [PyData.depthAll]
@[simp] theorem shp {v : PD} : SeqAt.shaped v = (v.canLay0 && decide (v.depth ≤ 64)) := (rfl)
@[simp] theorem eq_ll {l m : List PD} : PyData.eqv (.list l) (.list m) = PyData.eqvAll l m := by simp [PyData.eqv]
@[simp] theorem eq_tt {l m : List PD} : PyData.eqv (.tuple l) (.tuple m) = PyData.eqvAll l m := by simp [PyData.eqv]
@[simp] theorem eq_ii {v w : Int} : PyData.eqv (.int v) (.int w) = decide (v = w) := eqv_int v w
@[simp] theorem eqA_nn : PyData.eqvAll [] [] = true := by simp [PyData.eqvAll]
@[simp] theorem eqA_cn {v : PD} {l : List PD} : PyData.eqvAll (v :: l) [] = false := by simp [PyData.eqvAll]
@[simp] theorem eqA_nc {v : PD} {l : List PD} : PyData.eqvAll [] (v :: l) = false := by simp [PyData.eqvAll]
@[simp] theorem eqA_cc {v w : PD} {l m : List PD} : PyData.eqvAll (v :: l) (w :: m) = (PyData.eqv v w && PyData.eqvAll l m) := by simp [PyData.eqvAll]
@[simp] theorem o_eqT : co .eq (.tuple xs) (.tuple ys) Qb = (SeqAt.shaped (.tuple xs) = true ∧ SeqAt.shaped (.tuple ys) = true ∧ Qb (PyData.eqvAll xs ys)) := by simp only [co, eq_tt]
@[simp] theorem o_neT : co .ne (.tuple xs) (.tuple ys) Qb = (SeqAt.shaped (.tuple xs) = true ∧ SeqAt.shaped (.tuple ys) = true ∧ Qb (!PyData.eqvAll xs ys)) := by simp only [co, eq_tt]
@[simp] theorem o_eqL : co .eq (.list xs) (.list ys) Qb = (SeqAt.shaped (.list xs) = true ∧ SeqAt.shaped (.list ys) = true ∧ Qb (PyData.eqvAll xs ys)) := by simp only [co, eq_ll]
@[simp] theorem o_neL : co .ne (.list xs) (.list ys) Qb = (SeqAt.shaped (.list xs) = true ∧ SeqAt.shaped (.list ys) = true ∧ Qb (!PyData.eqvAll xs ys)) := by simp only [co, eq_ll]

-- loops by a test
def wT (C : Ctx) (t : IE) : Env → (Bool → Env → Prop) → Prop := fun e f => evE C t e fun x e1 => asB x fun c => f c e1
def wB (C : Ctx) (b : IB) : Env → K → Prop := fun e k' => evB C b e k'
theorem w_whl : evS C (.whl t sb) env k = ∃ m, whlW (wT C t) (wB C sb) m env k := by simp only [evS]; rfl
def kWl (C : Ctx) (t : IE) (sb : IB) (m : Nat) (k : K) : K := { nx := fun e => whlW (wT C t) (wB C sb) m e k, rt := k.rt, bk := k.nx, ct := fun e => whlW (wT C t) (wB C sb) m e k }
@[simp] theorem kWl_nx {m : Nat} : (kWl C t sb m k).nx e = whlW (wT C t) (wB C sb) m e k := (rfl)
@[simp] theorem kWl_ct {m : Nat} : (kWl C t sb m k).ct e = whlW (wT C t) (wB C sb) m e k := (rfl)
@[simp] theorem kWl_bk {m : Nat} : (kWl C t sb m k).bk e = k.nx e := (rfl)
@[simp] theorem kWl_rt {m : Nat} {w : W} : (kWl C t sb m k).rt w e = k.rt w e := (rfl)
def kWb (C : Ctx) (t : IE) (sb : IB) (m : Nat) (k : K) (e : Env) : Bool → Prop := fun c => sel c (evB C sb e (kWl C t sb m k)) (k.nx e)
@[simp] theorem kWb_t {m : Nat} : kWb C t sb m k e true = evB C sb e (kWl C t sb m k) := sel_t
@[simp] theorem kWb_f {m : Nat} : kWb C t sb m k e false = k.nx e := sel_f
def kWt (C : Ctx) (t : IE) (sb : IB) (m : Nat) (k : K) : W → Env → Prop := fun x e => asB x (kWb C t sb m k e)
@[simp] theorem kWt_r {m : Nat} {x : W} : kWt C t sb m k x e = asB x (kWb C t sb m k e) := (rfl)
@[simp] theorem whl_s {m : Nat} : whlW (wT C t) (wB C sb) (m + 1) e k = evE C t e (kWt C t sb m k) := by
  unfold whlW wT
  rfl

theorem in_b {tb : List Fd} {n p m : Nat} {bd : IB} {ws : List W} {Qr : W → List W → Prop} (h : tb[i]? = some ⟨p, [], m, bd⟩) : callN tb (n + 1) i ws Qr = (ws.length = p ∧ evB ⟨callN tb n⟩ bd (ws.map some ++ List.replicate (m - p) none) (kQ Qr)) := by
  simp only [callN, h]
  rfl
theorem in_b1 {tb : List Fd} {n p m : Nat} {bd : IB} {ws : List W} {Qr : W → List W → Prop} (h : tb[i]? = some ⟨p, [0], m, bd⟩) : callN tb (n + 1) i ws Qr = (ws.length = p ∧ evB ⟨callN tb n⟩ bd (ws.map some ++ List.replicate (m - p) none) (kQ1 Qr)) := by
  apply propext
  constructor
  · intro q
    simp only [callN, h] at q
    refine ⟨q.1, ?_⟩
    have e1 : ∀ w e, retW ⟨p, [0], m, bd⟩ Qr w e = ∃ o, slot e 0 = some o ∧ Qr w [o] := fun w e => by
      unfold retW
      simp only [outs]
      cases slot e 0 <;> simp
    have e2 : kQ1 Qr = { nx := fun e => retW ⟨p, [0], m, bd⟩ Qr (.d .none) e, rt := fun w e => retW ⟨p, [0], m, bd⟩ Qr w e, bk := fun _ => False, ct := fun _ => False } := by
      unfold kQ1
      simp only [e1]
    rw [e2]
    exact q.2
  · rintro ⟨hl, q⟩
    exact r_call1 h hl q

-- plain values stored one after another at subscripts
def st1b (o : Option (List W)) (i : Nat) (ts : List (Nat × IE × Option IE)) (xs : List PD) (e : Env) (F : Env → Prop) : Prop := match o with
  | some us => sto ts xs (e.set i (some (.ol us))) F
  | none => False
@[simp] theorem st1b_r {us : List W} {i : Nat} {ts : List (Nat × IE × Option IE)} {xs : List PD} {e : Env} {F : Env → Prop} : st1b (some us) i ts xs e F = sto ts xs (e.set i (some (.ol us))) F := (rfl)
def st1 (o : Option W) (q : Option PD) (i : Nat) (x : PD) (ts : List (Nat × IE × Option IE)) (xs : List PD) (e : Env) (F : Env → Prop) : Prop := match o, q with
  | some (.ol us), some (.int a) => st1b (subR us a (.d x)) i ts xs e F
  | _, _ => False
@[simp] theorem st1_r {us : List W} {a : Int} {i : Nat} {x : PD} {ts : List (Nat × IE × Option IE)} {xs : List PD} {e : Env} {F : Env → Prop} : st1 (some (.ol us)) (some (.int a)) i x ts xs e F = st1b (subR us a (.d x)) i ts xs e F := (rfl)
def st2c (o : Option (List W)) (ws : List W) (a : Int) (i : Nat) (ts : List (Nat × IE × Option IE)) (xs : List PD) (e : Env) (F : Env → Prop) : Prop := match o with
  | some us => st1b (subR ws a (.ol us)) i ts xs e F
  | none => False
@[simp] theorem st2c_r {us ws : List W} {a : Int} {i : Nat} {ts : List (Nat × IE × Option IE)} {xs : List PD} {e : Env} {F : Env → Prop} : st2c (some us) ws a i ts xs e F = st1b (subR ws a (.ol us)) i ts xs e F := (rfl)
def st2b (o : Option W) (ws : List W) (a b : Int) (i : Nat) (x : PD) (ts : List (Nat × IE × Option IE)) (xs : List PD) (e : Env) (F : Env → Prop) : Prop := match o with
  | some (.ol us) => st2c (subR us b (.d x)) ws a i ts xs e F
  | _ => False
@[simp] theorem st2b_r {us ws : List W} {a b : Int} {i : Nat} {x : PD} {ts : List (Nat × IE × Option IE)} {xs : List PD} {e : Env} {F : Env → Prop} : st2b (some (.ol us)) ws a b i x ts xs e F = st2c (subR us b (.d x)) ws a i ts xs e F := (rfl)
def st2 (o : Option W) (p q : Option PD) (i : Nat) (x : PD) (ts : List (Nat × IE × Option IE)) (xs : List PD) (e : Env) (F : Env → Prop) : Prop := match o, p, q with
  | some (.ol ws), some (.int a), some (.int b) => st2b (nth ws a) ws a b i x ts xs e F
  | _, _, _ => False
@[simp] theorem st2_r {ws : List W} {a b : Int} {i : Nat} {x : PD} {ts : List (Nat × IE × Option IE)} {xs : List PD} {e : Env} {F : Env → Prop} : st2 (some (.ol ws)) (some (.int a)) (some (.int b)) i x ts xs e F = st2b (nth ws a) ws a b i x ts xs e F := (rfl)
@[simp] theorem sto_n {e : Env} {F : Env → Prop} : sto [] [] e F = F e := by simp only [sto]
@[simp] theorem sto_1 {i : Nat} {kx : IE} {x : PD} {ts : List (Nat × IE × Option IE)} {xs : List PD} {e : Env} {F : Env → Prop} : sto ((i, kx, none) :: ts) (x :: xs) e F = st1 (slot e i) (evP kx e) i x ts xs e F := by
  simp only [sto]
  apply propext
  constructor
  · rintro ⟨us, a, m, h1, h2, h3, q⟩
    rw [h1, h2]
    show st1b (subR us a (.d x)) i ts xs e F
    unfold subR
    rw [h3]
    exact q
  · intro q
    unfold st1 at q
    split at q
    · next us a h1 h2 =>
      unfold subR at q
      cases h3 : place us.length a with
      | none => rw [h3] at q; exact q.elim
      | some m => rw [h3] at q; exact ⟨us, a, m, h1, h2, h3, q⟩
    · exact q.elim
@[simp] theorem sto_2 {i : Nat} {kx jx : IE} {x : PD} {ts : List (Nat × IE × Option IE)} {xs : List PD} {e : Env} {F : Env → Prop} : sto ((i, kx, some jx) :: ts) (x :: xs) e F = st2 (slot e i) (evP kx e) (evP jx e) i x ts xs e F := by
  simp only [sto]
  apply propext
  constructor
  · rintro ⟨ws, us, a, b, m, n, h1, h2, h3, h4, h5, h6, q⟩
    rw [h1, h2, h3]
    show st2b (nth ws a) ws a b i x ts xs e F
    unfold nth
    rw [h4]
    show st2b (ws[m]?) ws a b i x ts xs e F
    rw [h5]
    show st2c (subR us b (.d x)) ws a i ts xs e F
    unfold subR
    rw [h6]
    show st1b (subR ws a (.ol (us.set n (.d x)))) i ts xs e F
    unfold subR
    rw [h4]
    exact q
  · intro q
    unfold st2 at q
    split at q
    · next ws a b h1 h2 h3 =>
      unfold nth at q
      cases h4 : place ws.length a with
      | none => rw [h4] at q; exact q.elim
      | some m =>
        rw [h4] at q
        cases h5 : ws[m]? with
        | none => rw [show (some m).bind (fun m => ws[m]?) = ws[m]? from rfl, h5] at q; exact q.elim
        | some w =>
          rw [show (some m).bind (fun m => ws[m]?) = ws[m]? from rfl, h5] at q
          cases w with
          | ol us =>
            rw [st2b_r] at q
            unfold subR at q
            cases h6 : place us.length b with
            | none => rw [h6] at q; exact q.elim
            | some n =>
              rw [h6, Option.map_some, st2c_r] at q
              unfold subR at q
              rw [h4] at q
              exact ⟨ws, us, a, b, m, n, h1, h2, h3, h4, h5, h6, q⟩
          | _ => exact q.elim
    · exact q.elim
def psO (o : Option (List PD)) (ts : List (Nat × IE × Option IE)) (e : Env) (k : K) : Prop := match o with
  | some xs => xs.length = ts.length ∧ sto ts xs e k.nx
  | none => False
@[simp] theorem psO_r {xs : List PD} {ts : List (Nat × IE × Option IE)} {e : Env} {k : K} : psO (some xs) ts e k = (xs.length = ts.length ∧ sto ts xs e k.nx) := (rfl)
def kPs (ts : List (Nat × IE × Option IE)) (k : K) : List W → Env → Prop := fun ws e => psO (allD ws) ts e k
@[simp] theorem kPs_r {ts : List (Nat × IE × Option IE)} {k : K} {ws : List W} {e : Env} : kPs ts k ws e = psO (allD ws) ts e k := (rfl)
@[simp] theorem w_psub {ts : List (Nat × IE × Option IE)} {es : IL} {k : K} {env : Env} : evS C (.psub ts es) env k = evM C es env (kPs ts k) := by
  simp only [evS]
  congr 1
  funext ws e
  unfold kPs psO
  cases allD ws with
  | none => simp
  | some xs => simp

end
end Mn.R

set_option Elab.async false
set_option linter.all false
set_option maxRecDepth 100000
set_option maxHeartbeats 0
namespace Mn
open PySem
abbrev i_is_integer : Nat := 0
abbrev i_is_step_value : Nat := 1
abbrev i_is_square : Nat := 2
abbrev i_is_table_value : Nat := 3
abbrev i_noughts : Nat := 4
abbrev i_lean_of : Nat := 5
abbrev i_minor : Nat := 6
abbrev i_determinant : Nat := 7
abbrev i_adjugate : Nat := 8
abbrev i_changed_by : Nat := 9
abbrev i_common_divisor : Nat := 10
abbrev i_simplest : Nat := 11
abbrev i_low_step : Nat := 12
abbrev i_is_form_value : Nat := 13
abbrev i_need_form : Nat := 14
abbrev i_is_coarse_value : Nat := 15
abbrev i_need_coarse : Nat := 16
abbrev i_is_coarse : Nat := 17
abbrev i_need_both : Nat := 18
abbrev i_index : Nat := 19
abbrev i_coarse_form : Nat := 20
abbrev i__law_deck : Nat := 21
abbrev i__law_draw : Nat := 22
abbrev i__law_pick : Nat := 23
abbrev i__law_dot : Nat := 24
abbrev i__law_by : Nat := 25
abbrev i__law_lean : Nat := 26
abbrev i__law_plus : Nat := 27
abbrev i__law_led : Nat := 28
abbrev i__law_changed : Nat := 29
abbrev i__law_det : Nat := 30
abbrev i__law_form : Nat := 31
abbrev i__law_is_integer : Nat := 32
abbrev i__law_is_row : Nat := 33
abbrev i__law_change : Nat := 34
abbrev i__law_odd : Nat := 35
abbrev i__law_bent : Nat := 36
abbrev i__law_is_small : Nat := 37
abbrev i__law_coarse : Nat := 38
abbrev i__law_is_coarse : Nat := 39
abbrev i__law_thing : Nat := 40
abbrev i_law : Nat := 41
def b_is_integer : IB := (.cons (.ret (.andv (.cons (.isi (.var 0) .int) (.cons (.notv (.isi (.var 0) .bool)) .nil))))
  .nil)
def f_is_integer : Fd := ⟨1, [], 1, b_is_integer⟩
abbrev E_is_step_value_0 : IE := (.cal i_is_integer (.cons (.var 2) .nil) .nil [])
def b_is_step_value : IB := (.cons (.ret (.andv (.cons (.isi (.var 1) .tuple) (.cons (.cmp .eq (.b1 .len (.var 1)) (.var 0)) (.cons (.b1 .all (.lc false [2] (.nm 2) (.seq (.var 1)) (.cB true) E_is_step_value_0)) .nil)))))
  .nil)
def f_is_step_value : Fd := ⟨2, [], 3, b_is_step_value⟩
abbrev E_is_square_0 : IE := (.cal i_is_step_value (.cons (.b1 .len (.var 0)) (.cons (.var 1) .nil)) .nil [])
def b_is_square : IB := (.cons (.ife (.orv (.cons (.notv (.isi (.var 0) .tuple)) (.cons (.notv (.cmp2 .le .le (.cI 1) (.b1 .len (.var 0)) (.cI 3))) .nil))) (.cons (.ret (.cB false))
  .nil) .nil)
  (.cons (.ret (.b1 .all (.lc false [1] (.nm 1) (.seq (.var 0)) (.cB true) E_is_square_0)))
  .nil))
def f_is_square : Fd := ⟨1, [], 2, b_is_square⟩
abbrev E_is_table_value_0 : IE := (.cmp .eq (.idx (.idx (.var 0) (.var 2)) (.var 3)) (.idx (.idx (.var 0) (.var 3)) (.var 2)))
def b_is_table_value : IB := (.cons (.ife (.notv (.cal i_is_square (.cons (.var 0) .nil) .nil [])) (.cons (.ret (.cB false))
  .nil) .nil)
  (.cons (.set 1 (.b1 .len (.var 0)))
  (.cons (.ret (.b1 .all (.lc2 false [2, 3] [3] (.nm 2) (.rng1 (.var 1)) (.nm 3) (.rng1 (.var 1)) E_is_table_value_0)))
  .nil)))
def f_is_table_value : Fd := ⟨1, [], 4, b_is_table_value⟩
def b_noughts : IB := (.cons (.ret (.bin .mul (.tup (.cons (.cI 0) .nil)) (.var 0)))
  .nil)
def f_noughts : Fd := ⟨1, [], 1, b_noughts⟩
abbrev E_lean_of_0 : IE := (.bin .mul (.var 7) (.idx (.var 2) (.var 6)))
abbrev L_lean_of_1 : IB := (.cons (.aug 3 (.bin .mul (.idx (.var 1) (.var 4)) (.b1 .sum (.lc false [6, 7] (.tp [6, 7]) (.enm (.var 5)) (.cB true) E_lean_of_0))))
  .nil)
def b_lean_of : IB := (.cons (.set 3 (.cI 0))
  (.cons (.fora (.tp [4, 5]) (.enm (.var 0)) L_lean_of_1)
  (.cons (.ret (.var 3))
  .nil)))
def f_lean_of : Fd := ⟨3, [], 8, b_lean_of⟩
abbrev E_minor_0 : IE := (.bin .add (.b1 .tuple (.slcH (.var 4) (.var 2))) (.b1 .tuple (.slcL (.var 4) (.bin .add (.var 2) (.cI 1)))))
def b_minor : IB := (.cons (.ret (.lc false [3, 4] (.tp [3, 4]) (.enm (.var 0)) (.cmp .ne (.var 3) (.var 1)) E_minor_0))
  .nil)
def f_minor : Fd := ⟨3, [], 5, b_minor⟩
abbrev L_determinant_0 : IB := (.cons (.aug 1 (.bin .mul (.bin .mul (.ife (.cmp .eq (.bin .mod (.var 2) (.cI 2)) (.cI 0)) (.cI 1) (.neg (.cI 1))) (.var 3)) (.cal i_determinant (.cons (.cal i_minor (.cons (.var 0) (.cons (.cI 0) (.cons (.var 2) .nil))) .nil []) .nil) .nil [])))
  .nil)
def b_determinant : IB := (.cons (.ife (.cmp .eq (.b1 .len (.var 0)) (.cI 0)) (.cons (.ret (.cI 1))
  .nil) .nil)
  (.cons (.set 1 (.cI 0))
  (.cons (.fora (.tp [2, 3]) (.enm (.idx (.var 0) (.cI 0))) L_determinant_0)
  (.cons (.ret (.var 1))
  .nil))))
def f_determinant : Fd := ⟨1, [], 4, b_determinant⟩
abbrev E_adjugate_0 : IE := (.bin .mul (.ife (.cmp .eq (.bin .mod (.bin .add (.var 3) (.var 4)) (.cI 2)) (.cI 0)) (.cI 1) (.neg (.cI 1))) (.cal i_determinant (.cons (.cal i_minor (.cons (.var 0) (.cons (.var 4) (.cons (.var 3) .nil))) .nil []) .nil) .nil []))
abbrev L_adjugate_1 : IB := (.cons (.app 2 (.b1 .tuple (.lc false [4] (.nm 4) (.rng1 (.var 1)) (.cB true) E_adjugate_0)))
  .nil)
def b_adjugate : IB := (.cons (.set 1 (.b1 .len (.var 0)))
  (.cons (.set 2 (.lst .nil))
  (.cons (.fora (.nm 3) (.rng1 (.var 1)) L_adjugate_1)
  (.cons (.ret (.b1 .tuple (.var 2)))
  .nil))))
def f_adjugate : Fd := ⟨1, [], 5, b_adjugate⟩
abbrev E_changed_by_0 : IE := (.cal i_lean_of (.cons (.var 0) (.cons (.var 2) (.cons (.var 3) .nil))) .nil [])
abbrev E_changed_by_1 : IE := (.b1 .tuple (.lc false [3] (.nm 3) (.seq (.var 1)) (.cB true) E_changed_by_0))
def b_changed_by : IB := (.cons (.ret (.b1 .tuple (.lc false [2] (.nm 2) (.seq (.var 1)) (.cB true) E_changed_by_1)))
  .nil)
def f_changed_by : Fd := ⟨2, [], 4, b_changed_by⟩
abbrev L_common_divisor_0 : IB := (.cons (.set 1 (.b2 .gcd (.var 1) (.var 2)))
  .nil)
def b_common_divisor : IB := (.cons (.set 1 (.cI 0))
  (.cons (.fora (.nm 2) (.seq (.var 0)) L_common_divisor_0)
  (.cons (.ret (.var 1))
  .nil)))
def f_common_divisor : Fd := ⟨1, [], 3, b_common_divisor⟩
abbrev E_simplest_0 : IE := (.bin .fdiv (.var 2) (.var 1))
def b_simplest : IB := (.cons (.set 1 (.cal i_common_divisor (.cons (.var 0) .nil) .nil []))
  (.cons (.ret (.b1 .tuple (.lc false [2] (.nm 2) (.seq (.var 0)) (.cB true) E_simplest_0)))
  .nil))
def f_simplest : Fd := ⟨1, [], 3, b_simplest⟩
abbrev E_low_step_0 : IE := (.slcH (.var 4) (.var 2))
abbrev L_low_step_1 : IB := (.cons (.set 3 (.lc false [4] (.nm 4) (.seq (.slcH (.var 0) (.var 2))) (.cB true) E_low_step_0))
  (.cons (.ife (.cmp .le (.cal i_determinant (.cons (.var 3) .nil) .nil []) (.cI 0)) (.cons (.ret (.bin .add (.cal i_simplest (.cons (.idx (.cal i_adjugate (.cons (.var 3) .nil) .nil []) (.bin .sub (.var 2) (.cI 1))) .nil) .nil []) (.cal i_noughts (.cons (.bin .sub (.var 1) (.var 2)) .nil) .nil [])))
  .nil) .nil)
  .nil))
def b_low_step : IB := (.cons (.set 1 (.b1 .len (.var 0)))
  (.cons (.fora (.nm 2) (.rng2 (.cI 1) (.bin .add (.var 1) (.cI 1))) L_low_step_1)
  (.cons (.ret .cN)
  .nil)))
def f_low_step : Fd := ⟨1, [], 5, b_low_step⟩
def b_is_form_value : IB := (.cons (.ret (.andv (.cons (.cal i_is_table_value (.cons (.var 0) .nil) .nil []) (.cons (.isN false (.cal i_low_step (.cons (.var 0) .nil) .nil [])) .nil))))
  .nil)
def f_is_form_value : Fd := ⟨1, [], 1, b_is_form_value⟩
def b_need_form : IB := (.cons (.ife (.notv (.cal i_is_form_value (.cons (.var 0) .nil) .nil [])) (.cons .rse
  .nil) .nil)
  .nil)
def f_need_form : Fd := ⟨1, [], 1, b_need_form⟩
def b_is_coarse_value : IB := (.cons (.ret (.andv (.cons (.cal i_is_square (.cons (.var 1) .nil) .nil []) (.cons (.cmp .eq (.b1 .len (.var 1)) (.var 0)) (.cons (.cmp .ne (.cal i_determinant (.cons (.var 1) .nil) .nil []) (.cI 0)) .nil)))))
  .nil)
def f_is_coarse_value : Fd := ⟨2, [], 2, b_is_coarse_value⟩
def b_need_coarse : IB := (.cons (.ife (.notv (.cal i_is_coarse_value (.cons (.var 0) (.cons (.var 1) .nil)) .nil [])) (.cons .rse
  .nil) .nil)
  .nil)
def f_need_coarse : Fd := ⟨2, [], 2, b_need_coarse⟩
def b_is_coarse : IB := (.cons (.ret (.cal i_is_coarse_value (.cons (.var 0) (.cons (.var 1) .nil)) .nil []))
  .nil)
def f_is_coarse : Fd := ⟨2, [], 2, b_is_coarse⟩
def b_need_both : IB := (.cons (.exp (.cal i_need_form (.cons (.var 0) .nil) .nil []))
  (.cons (.exp (.cal i_need_coarse (.cons (.b1 .len (.var 0)) (.cons (.var 1) .nil)) .nil []))
  .nil))
def f_need_both : Fd := ⟨2, [], 2, b_need_both⟩
def b_index : IB := (.cons (.exp (.cal i_need_coarse (.cons (.var 0) (.cons (.var 1) .nil)) .nil []))
  (.cons (.ret (.b1 .abs (.cal i_determinant (.cons (.var 1) .nil) .nil [])))
  .nil))
def f_index : Fd := ⟨2, [], 2, b_index⟩
def b_coarse_form : IB := (.cons (.exp (.cal i_need_both (.cons (.var 0) (.cons (.var 1) .nil)) .nil []))
  (.cons (.ret (.cal i_changed_by (.cons (.var 0) (.cons (.var 1) .nil)) .nil []))
  .nil))
def f_coarse_form : Fd := ⟨2, [], 2, b_coarse_form⟩
abbrev L__law_deck_0 : IB := (.cons (.set 1 (.bin .mod (.b1 .int (.bin .add (.bin .add (.bin .mul (.var 1) (.cI 48271)) (.bin .mod (.b1 .int (.var 2)) (.cI 2147483629))) (.cI 97))) (.cI 2147483587)))
  .nil)
def b__law_deck : IB := (.cons (.set 1 (.cI 13736041))
  (.cons (.fora (.nm 2) (.seq (.slcH (.var 0) (.cI 63))) L__law_deck_0)
  (.cons (.ret (.dct [.inr "cells", .inr "mixed", .inr "draws"] (.cons (.rev (.b1 .list (.slcH (.var 0) (.cI 63)))) (.cons (.var 1) (.cons (.cI 0) .nil)))))
  .nil)))
def f__law_deck : Fd := ⟨1, [], 3, b__law_deck⟩
def b__law_draw : IB := (.cons (.subK 0 "draws" (.bin .add (.getK 0 "draws") (.cI 1)))
  (.cons (.set 2 (.bin .add (.getK 0 "mixed") (.bin .mul (.cI 69621) (.getK 0 "draws"))))
  (.cons (.ife (.neK 0 "cells") (.cons (.set 3 (.popK 0 "cells"))
  (.cons (.ife (.cmp .ge (.var 3) (.bin .pow (.cI 10) (.cI 18))) (.cons (.appK 0 "cells" (.bin .fdiv (.var 3) (.b2 .max (.cI 2) (.var 1))))
  (.cons (.ret (.bin .mod (.b1 .int (.var 3)) (.var 1)))
  .nil)) .nil)
  (.cons (.set 2 (.bin .add (.var 2) (.bin .mod (.b1 .int (.var 3)) (.cI 2147483629))))
  .nil))) .nil)
  (.cons (.set 2 (.bin .mod (.b1 .int (.bin .add (.bin .mul (.var 2) (.cI 39373)) (.cI 67))) (.cI 2147483647)))
  (.cons (.set 2 (.bin .mod (.b1 .int (.bin .add (.bin .add (.bin .mul (.var 2) (.var 2)) (.bin .mul (.cI 52713) (.getK 0 "draws"))) (.cI 31))) (.cI 2147483587)))
  (.cons (.set 2 (.bin .mod (.b1 .int (.bin .mul (.var 2) (.cI 40692))) (.cI 2147483563)))
  (.cons (.ret (.bin .mod (.b1 .int (.bin .fdiv (.var 2) (.cI 64))) (.var 1)))
  .nil)))))))
def f__law_draw : Fd := ⟨2, [0], 4, b__law_draw⟩
def b__law_pick : IB := (.cons (.ret (.idx (.var 1) (.cal i__law_draw (.ref 0 (.cons (.b1 .len (.var 1)) .nil)) .nil [])))
  .nil)
def f__law_pick : Fd := ⟨2, [0], 2, b__law_pick⟩
abbrev E__law_dot_0 : IE := (.bin .mul (.var 2) (.var 3))
def b__law_dot : IB := (.cons (.ret (.b1 .sum (.lc false [2, 3] (.tp [2, 3]) (.zip (.var 0) (.var 1)) (.cB true) E__law_dot_0)))
  .nil)
def f__law_dot : Fd := ⟨2, [], 4, b__law_dot⟩
abbrev E__law_by_0 : IE := (.cal i__law_dot (.cons (.var 2) (.cons (.var 1) .nil)) .nil [])
def b__law_by : IB := (.cons (.ret (.b1 .tuple (.lc false [2] (.nm 2) (.seq (.var 0)) (.cB true) E__law_by_0)))
  .nil)
def f__law_by : Fd := ⟨2, [], 3, b__law_by⟩
def b__law_lean : IB := (.cons (.ret (.cal i__law_dot (.cons (.cal i__law_by (.cons (.var 0) (.cons (.var 1) .nil)) .nil []) (.cons (.var 2) .nil)) .nil []))
  .nil)
def f__law_lean : Fd := ⟨3, [], 3, b__law_lean⟩
abbrev E__law_plus_0 : IE := (.bin .add (.var 3) (.bin .mul (.var 2) (.var 4)))
def b__law_plus : IB := (.cons (.ret (.b1 .tuple (.lc false [3, 4] (.tp [3, 4]) (.zip (.var 0) (.var 1)) (.cB true) E__law_plus_0)))
  .nil)
def f__law_plus : Fd := ⟨3, [], 5, b__law_plus⟩
abbrev L__law_led_0 : IB := (.cons (.set 2 (.cal i__law_plus (.cons (.var 2) (.cons (.var 4) (.cons (.var 3) .nil))) .nil []))
  .nil)
def b__law_led : IB := (.cons (.set 2 (.bin .mul (.tup (.cons (.cI 0) .nil)) (.b1 .len (.idx (.var 0) (.cI 0)))))
  (.cons (.fora (.tp [3, 4]) (.zip (.var 1) (.var 0)) L__law_led_0)
  (.cons (.ret (.var 2))
  .nil)))
def f__law_led : Fd := ⟨2, [], 5, b__law_led⟩
abbrev E__law_changed_0 : IE := (.cal i__law_lean (.cons (.var 0) (.cons (.var 2) (.cons (.var 3) .nil))) .nil [])
abbrev E__law_changed_1 : IE := (.b1 .tuple (.lc false [3] (.nm 3) (.seq (.var 1)) (.cB true) E__law_changed_0))
def b__law_changed : IB := (.cons (.ret (.b1 .tuple (.lc false [2] (.nm 2) (.seq (.var 1)) (.cB true) E__law_changed_1)))
  .nil)
def f__law_changed : Fd := ⟨2, [], 4, b__law_changed⟩
def b__law_det : IB := (.cons (.ife (.cmp .lt (.b1 .len (.var 0)) (.cI 2)) (.cons (.ret (.ife (.cmp .eq (.b1 .len (.var 0)) (.cI 1)) (.idx (.idx (.var 0) (.cI 0)) (.cI 0)) (.cI 1)))
  .nil) .nil)
  (.cons (.ife (.cmp .eq (.b1 .len (.var 0)) (.cI 2)) (.cons (.ret (.bin .sub (.bin .mul (.idx (.idx (.var 0) (.cI 0)) (.cI 0)) (.idx (.idx (.var 0) (.cI 1)) (.cI 1))) (.bin .mul (.idx (.idx (.var 0) (.cI 0)) (.cI 1)) (.idx (.idx (.var 0) (.cI 1)) (.cI 0)))))
  .nil) .nil)
  (.cons (.unp [1, 2, 3] (.var 0))
  (.cons (.set 4 (.bin .sub (.bin .mul (.idx (.var 1) (.cI 0)) (.bin .sub (.bin .mul (.idx (.var 2) (.cI 1)) (.idx (.var 3) (.cI 2))) (.bin .mul (.idx (.var 2) (.cI 2)) (.idx (.var 3) (.cI 1))))) (.bin .mul (.idx (.var 1) (.cI 1)) (.bin .sub (.bin .mul (.idx (.var 2) (.cI 0)) (.idx (.var 3) (.cI 2))) (.bin .mul (.idx (.var 2) (.cI 2)) (.idx (.var 3) (.cI 0)))))))
  (.cons (.ret (.bin .add (.var 4) (.bin .mul (.idx (.var 1) (.cI 2)) (.bin .sub (.bin .mul (.idx (.var 2) (.cI 0)) (.idx (.var 3) (.cI 1))) (.bin .mul (.idx (.var 2) (.cI 1)) (.idx (.var 3) (.cI 0)))))))
  .nil)))))
def f__law_det : Fd := ⟨1, [], 5, b__law_det⟩
abbrev E__law_form_0 : IE := (.b1 .abs (.var 17))
abbrev E__law_form_1 : IE := (.b1 .max (.lc false [17] (.nm 17) (.seq (.var 16)) (.cB true) E__law_form_0))
abbrev E__law_form_2 : IE := (.b1 .int (.cmp .eq (.var 6) (.var 7)))
abbrev E__law_form_3 : IE := (.b1 .tuple (.lc false [7] (.nm 7) (.rng1 (.var 1)) (.cB true) E__law_form_2))
abbrev L__law_form_4 : IB := (.cons (.set 9 (.lc false [6] (.nm 6) (.rng1 (.var 1)) (.cB true) E__law_form_3))
  (.cons (.par [6, 7, 12] (.cons (.cal i__law_draw (.ref 0 (.cons (.var 1) .nil)) .nil []) (.cons (.cal i__law_draw (.ref 0 (.cons (.var 1) .nil)) .nil []) (.cons (.cal i__law_pick (.ref 0 (.cons (.lst (.cons (.cI 1) (.cons (.neg (.cI 1)) (.cons (.cI 2) (.cons (.neg (.cI 2)) (.cons (.cI 3) .nil)))))) .nil)) .nil []) .nil))))
  (.cons (.sub 9 (.var 6) (.cal i__law_plus (.cons (.idx (.var 9) (.var 6)) (.cons (.idx (.var 9) (.var 7)) (.cons (.ife (.cmp .ne (.var 6) (.var 7)) (.var 12) (.neg (.cI 2))) .nil))) .nil []))
  (.cons (.set 13 (.cal i__law_changed (.cons (.var 10) (.cons (.var 9) .nil)) .nil []))
  (.cons (.ife (.cmp .le (.b1 .max (.lc false [16] (.nm 16) (.seq (.var 13)) (.cB true) E__law_form_1)) (.var 2)) (.cons (.set 10 (.var 13))
  .nil) .nil)
  .nil)))))
abbrev E__law_form_5 : IE := (.b1 .max (.var 16))
abbrev E__law_form_6 : IE := (.ife (.cmp .eq (.var 6) (.var 7)) (.bin .add (.cal i__law_draw (.ref 0 (.cons (.cI 5) .nil)) .nil []) (.cI 1)) (.cI 0))
abbrev E__law_form_7 : IE := (.b1 .tuple (.lc false [7] (.nm 7) (.rng1 (.var 1)) (.cB true) E__law_form_6))
abbrev E__law_form_8 : IE := (.b1 .tuple (.var 16))
abbrev E__law_form_9 : IE := (.cal i__law_dot (.cons (.var 14) (.cons (.var 15) .nil)) .nil [])
abbrev E__law_form_10 : IE := (.lc false [15] (.nm 15) (.seq (.var 9)) (.cB true) E__law_form_9)
abbrev E__law_form_11 : IE := (.bin .sub (.cal i__law_draw (.ref 0 (.cons (.cI 7) .nil)) .nil []) (.cI 3))
abbrev E__law_form_12 : IE := (.lc false [7] (.nm 7) (.rng1 (.var 1)) (.cB true) E__law_form_11)
abbrev L__law_form_13 : IB := (.cons (.set 8 (.cal i__law_pick (.ref 0 (.cons (.var 3) .nil)) .nil []))
  (.cons (.psub [(5, (.var 6), some (.var 7)), (5, (.var 7), some (.var 6))] (.cons (.neg (.var 8)) (.cons (.neg (.var 8)) .nil)))
  (.cons (.psub [(5, (.var 6), some (.var 6)), (5, (.var 7), some (.var 7))] (.cons (.bin .add (.pth 5 (.var 6) (.var 6)) (.var 8)) (.cons (.bin .add (.pth 5 (.var 7) (.var 7)) (.var 8)) .nil)))
  .nil)))
abbrev L__law_form_14 : IB := (.cons (.sub2 5 (.var 6) (.var 6) (.bin .add (.pth 5 (.var 6) (.var 6)) (.cal i__law_pick (.ref 0 (.cons (.var 3) .nil)) .nil [])))
  (.cons (.fora (.nm 7) (.rng1 (.var 6)) L__law_form_13)
  .nil))
abbrev E__law_form_15 : IE := (.repL (.lst (.cons (.cI 0) .nil)) (.var 1))
def b__law_form : IB := (.cons (.par [3, 4] (.cons (.cal i__law_pick (.ref 0 (.cons (.lst (.cons (.fzE (.lst (.cons (.cI 0) (.cons (.cI 1) (.cons (.cI 1) (.cons (.cI 2) .nil)))))) (.cons (.fzE (.lst (.cons (.cI 0) (.cons (.cI 0) (.cons (.cI 1) (.cons (.cI 3) .nil)))))) (.cons (.fzE (.lst (.cons (.cI 1) (.cons (.cI 2) (.cons (.cI 3) (.cons (.cI 5) .nil)))))) (.cons (.fzE (.lst (.cons (.cI 0) (.cons (.cI 1) (.cons (.cI 4) (.cons (.cI 7) .nil)))))) .nil))))) .nil)) .nil []) (.cons (.cal i__law_draw (.ref 0 (.cons (.cI 4) .nil)) .nil []) .nil)))
  (.cons (.set 5 (.lc true [6] (.nm 6) (.rng1 (.var 1)) (.cB true) E__law_form_15))
  (.cons (.fora (.nm 6) (.rng1 (.var 1)) L__law_form_14)
  (.cons (.ife (.cmp .eq (.var 4) (.cI 0)) (.cons (.set 9 (.lc false [6] (.nm 6) (.rng1 (.var 1)) (.cB true) E__law_form_12))
  (.cons (.set 5 (.lc true [14] (.nm 14) (.seq (.var 9)) (.cB true) E__law_form_10))
  .nil)) .nil)
  (.cons (.set 10 (.b1 .tuple (.lc false [16] (.nm 16) (.seq (.frz 5)) (.cB true) E__law_form_8)))
  (.cons (.ife (.orv (.cons (.cmp .le (.cal i__law_det (.cons (.var 10) .nil) .nil []) (.cI 0)) (.cons (.cmp .gt (.b1 .max (.lc false [16] (.nm 16) (.seq (.var 10)) (.cB true) E__law_form_5)) (.var 2)) .nil))) (.cons (.set 10 (.b1 .tuple (.lc false [6] (.nm 6) (.rng1 (.var 1)) (.cB true) E__law_form_7)))
  .nil) .nil)
  (.cons (.fora (.nm 11) (.rng1 (.cal i__law_pick (.ref 0 (.cons (.lst (.cons (.cI 0) (.cons (.cI 2) (.cons (.cI 5) (.cons (.cI 12) .nil))))) .nil)) .nil [])) L__law_form_4)
  (.cons (.ret (.var 10))
  .nil))))))))
def f__law_form : Fd := ⟨3, [0], 18, b__law_form⟩
def b__law_is_integer : IB := (.cons (.ret (.andv (.cons (.isi (.var 0) .int) (.cons (.notv (.isi (.var 0) .bool)) .nil))))
  .nil)
def f__law_is_integer : Fd := ⟨1, [], 1, b__law_is_integer⟩
abbrev E__law_is_row_0 : IE := (.var 2)
def b__law_is_row : IB := (.cons (.ret (.andv (.cons (.isi (.var 1) .tuple) (.cons (.cmp .eq (.b1 .len (.var 1)) (.var 0)) (.cons (.cmp .eqT (.lc false [2] (.nm 2) (.seq (.var 1)) (.notv (.cal i__law_is_integer (.cons (.var 2) .nil) .nil [])) E__law_is_row_0) (.lst .nil)) .nil)))))
  .nil)
def f__law_is_row : Fd := ⟨2, [], 3, b__law_is_row⟩
abbrev L__law_change_0 : IB := (.cons (.par [5, 6, 7] (.cons (.cal i__law_draw (.ref 0 (.cons (.var 1) .nil)) .nil []) (.cons (.cal i__law_draw (.ref 0 (.cons (.var 1) .nil)) .nil []) (.cons (.cal i__law_pick (.ref 0 (.cons (.lst (.cons (.cI 1) (.cons (.neg (.cI 1)) (.cons (.cI 2) (.cons (.cI 1) (.cons (.neg (.cI 1)) (.cons (.cI 0) .nil))))))) .nil)) .nil []) .nil))))
  (.cons (.ife (.cmp .eq (.var 7) (.cI 0)) (.cons (.psub [(3, (.var 5), none), (3, (.var 6), none)] (.cons (.idx (.var 3) (.var 6)) (.cons (.idx (.var 3) (.var 5)) .nil)))
  .nil) (.cons (.sub 3 (.var 5) (.cal i__law_plus (.cons (.idx (.var 3) (.var 5)) (.cons (.idx (.var 3) (.var 6)) (.cons (.ife (.cmp .ne (.var 5) (.var 6)) (.var 7) (.neg (.cI 2))) .nil))) .nil []))
  .nil))
  .nil))
abbrev E__law_change_1 : IE := (.b1 .int (.cmp .eq (.var 5) (.var 6)))
abbrev E__law_change_2 : IE := (.b1 .tuple (.lc false [6] (.nm 6) (.rng1 (.var 1)) (.cB true) E__law_change_1))
def b__law_change : IB := (.cons (.set 3 (.lc false [5] (.nm 5) (.rng1 (.var 1)) (.cB true) E__law_change_2))
  (.cons (.fora (.nm 4) (.rng1 (.cal i__law_draw (.ref 0 (.cons (.bin .add (.var 2) (.cI 1)) .nil)) .nil [])) L__law_change_0)
  (.cons (.ret (.b1 .tuple (.var 3)))
  .nil)))
def f__law_change : Fd := ⟨3, [0], 8, b__law_change⟩
def b__law_odd : IB := (.cons (.set 2 (.lst (.cons .cN (.cons (.cB true) (.cons (.cB false) (.cons (.cI 0) (.cons (.cI 1) (.cons (.neg (.cI 1)) (.cons (.cI 2) (.cons (.cS "") (.cons (.cS "0") (.cons (.tup .nil) (.cons (.tup (.cons (.tup .nil) .nil)) (.cons (.fzE (.lst .nil)) (.cons (.fzE (.dct [] .nil)) (.cons (.tup (.cons (.cI 0) .nil)) (.cons (.tup (.cons (.cI 0) (.cons (.cI 1) .nil))) (.cons (.fzE (.lst (.cons (.cI 0) (.cons (.cI 1) .nil)))) (.cons (.tup (.cons (.cI 0) (.cons (.cI 0) (.cons (.cI 0) .nil)))) (.cons (.tup (.cons (.cB true) (.cons (.cI 0) .nil))) (.cons (.tup (.cons (.cI 1) (.cons (.cI 2) .nil))) .nil)))))))))))))))))))))
  (.cons (.set 2 (.bin .add (.var 2) (.lst (.cons (.tup (.cons (.cB false) (.cons (.cI 1) .nil))) (.cons (.cS "a b~") (.cons (.fzE (.dct [.inr "a"] (.cons (.tup (.cons (.cI 1) (.cons (.cI 2) .nil))) .nil))) (.cons (.tup (.cons (.tup (.cons (.cI 0) (.cons (.cI 1) .nil))) (.cons (.cI 1) .nil))) (.cons (.tup (.cons .cN (.cons (.cI 0) .nil))) (.cons (.tup (.cons (.cS "0") (.cons (.cI 1) .nil))) (.cons (.tup (.cons (.tup (.cons (.cI 0) .nil)) (.cons (.cI 1) .nil))) (.cons (.tup (.cons (.tup (.cons (.cI 1) (.cons (.cI 1) .nil))) (.cons (.cI 2) .nil))) (.cons (.tup (.cons (.tup (.cons (.cI 1) .nil)) .nil)) .nil))))))))))))
  (.cons (.ife (.isi (.var 1) .tuple) (.cons (.set 2 (.bin .add (.var 2) (.repL (.lst (.cons (.fzE (.b1 .list (.var 1))) (.cons (.bin .add (.var 1) (.tup (.cons (.cI 0) .nil))) (.cons (.slcL (.var 1) (.cI 1)) (.cons (.slcH (.var 1) (.neg (.cI 1))) (.cons (.rev (.var 1)) (.cons (.bin .add (.var 1) (.slcH (.var 1) (.cI 1))) (.cons (.tup (.cons (.var 1) .nil)) (.cons (.bin .add (.slcH (.var 1) (.cI 1)) (.var 1)) .nil))))))))) (.cI 3))))
  .nil) (.cons (.ife (.andv (.cons (.isi (.var 1) .int) (.cons (.cmp .lt (.b1 .abs (.var 1)) (.bin .pow (.cI 10) (.cI 5))) .nil))) (.cons (.set 2 (.bin .add (.var 2) (.repL (.lst (.cons (.bin .add (.var 1) (.cI 1)) (.cons (.bin .sub (.var 1) (.cI 1)) (.cons (.neg (.var 1)) (.cons (.cmp .eq (.var 1) (.cI 1)) (.cons (.cmp .ne (.var 1) (.cI 0)) (.cons (.fzE (.lst (.cons (.var 1) .nil))) (.cons (.tup (.cons (.var 1) .nil)) (.cons (.b1 .str (.var 1)) (.cons (.bin .mul (.var 1) (.cI 2)) .nil)))))))))) (.cI 3))))
  .nil) (.cons (.ife (.isi (.var 1) .str) (.cons (.set 2 (.bin .add (.var 2) (.repL (.lst (.cons (.bin .add (.var 1) (.cS " ")) (.cons (.slcL (.var 1) (.cI 1)) (.cons (.upr 1) (.cons (.fzE (.lst (.cons (.var 1) .nil))) (.cons (.tup (.cons (.var 1) .nil)) (.cons (.bin .add (.var 1) (.var 1)) .nil))))))) (.cI 2))))
  .nil) .nil)
  .nil))
  .nil))
  (.cons (.ret (.cal i__law_pick (.ref 0 (.cons (.var 2) .nil)) .nil []))
  .nil))))
def f__law_odd : Fd := ⟨2, [0], 3, b__law_odd⟩
def b__law_bent : IB := (.cons (.ife (.orv (.cons (.notv (.isi (.var 1) .tuple)) (.cons (.cmp .eqT (.var 1) (.tup .nil)) (.cons (.cmp .eq (.cal i__law_draw (.ref 0 (.cons (.cI 4) .nil)) .nil []) (.cI 0)) .nil)))) (.cons (.ret (.fzE (.cal i__law_odd (.ref 0 (.cons (.var 1) .nil)) .nil [])))
  .nil) .nil)
  (.cons (.set 2 (.cal i__law_draw (.ref 0 (.cons (.b1 .len (.var 1)) .nil)) .nil []))
  (.cons (.ret (.fzE (.bin .add (.bin .add (.slcH (.var 1) (.var 2)) (.tup (.cons (.fzE (.cal i__law_bent (.ref 0 (.cons (.idx (.var 1) (.var 2)) .nil)) .nil [])) .nil))) (.slcL (.var 1) (.bin .add (.var 2) (.cI 1))))))
  .nil)))
def f__law_bent : Fd := ⟨2, [0], 3, b__law_bent⟩
abbrev E__law_is_small_0 : IE := (.b1 .abs (.var 3))
abbrev E__law_is_small_1 : IE := (.b1 .max (.lc false [3] (.nm 3) (.seq (.var 2)) (.cB true) E__law_is_small_0))
def b__law_is_small : IB := (.cons (.ret (.cmp .le (.b1 .max (.lc false [2] (.nm 2) (.seq (.var 0)) (.cB true) E__law_is_small_1)) (.var 1)))
  .nil)
def f__law_is_small : Fd := ⟨2, [], 4, b__law_is_small⟩
abbrev E__law_coarse_0 : IE := (.b1 .abs (.var 6))
abbrev E__law_coarse_1 : IE := (.b1 .max (.lc false [6] (.nm 6) (.seq (.var 12)) (.cB true) E__law_coarse_0))
abbrev E__law_coarse_2 : IE := (.bin .add (.bin .add (.slcH (.var 12) (.var 8)) (.tup (.cons (.bin .add (.idx (.var 12) (.var 8)) (.bin .mul (.var 9) (.idx (.var 12) (.var 5)))) .nil))) (.slcL (.var 12) (.bin .add (.var 8) (.cI 1))))
abbrev L__law_coarse_3 : IB := (.cons (.par [5, 8, 9, 10] (.cons (.cal i__law_draw (.ref 0 (.cons (.var 1) .nil)) .nil []) (.cons (.cal i__law_draw (.ref 0 (.cons (.var 1) .nil)) .nil []) (.cons (.cal i__law_pick (.ref 0 (.cons (.lst (.cons (.cI 1) (.cons (.neg (.cI 1)) (.cons (.cI 1) (.cons (.cI 2) (.cons (.neg (.cI 2)) .nil)))))) .nil)) .nil []) (.cons (.cal i__law_draw (.ref 0 (.cons (.cI 3) .nil)) .nil []) .nil)))))
  (.cons (.set 11 (.b1 .list (.var 3)))
  (.cons (.ife (.orv (.cons (.cmp .gt (.var 10) (.cI 0)) (.cons (.cmp .eq (.var 5) (.var 8)) .nil))) (.cons (.sub 11 (.var 5) (.cal i__law_plus (.cons (.idx (.var 3) (.var 5)) (.cons (.idx (.var 3) (.var 8)) (.cons (.ife (.cmp .ne (.var 5) (.var 8)) (.var 9) (.neg (.cI 2))) .nil))) .nil []))
  .nil) (.cons (.set 11 (.lc false [12] (.nm 12) (.seq (.var 3)) (.cB true) E__law_coarse_2))
  .nil))
  (.cons (.ife (.cmp .le (.b1 .max (.lc false [12] (.nm 12) (.seq (.var 11)) (.cB true) E__law_coarse_1)) (.cI 6)) (.cons (.set 3 (.var 11))
  .nil) .nil)
  .nil))))
abbrev E__law_coarse_4 : IE := (.ife (.cmp .eq (.var 5) (.var 8)) (.var 6) (.cI 0))
abbrev L__law_coarse_5 : IB := (.cons (.set 6 (.bin .add (.cI 1) (.cal i__law_draw (.ref 0 (.cons (.b2 .min (.var 4) (.cal i__law_pick (.ref 0 (.cons (.lst (.cons (.cI 2) (.cons (.cI 3) (.cons (.cI 3) (.cons (.cI 5) (.cons (.cI 6) .nil)))))) .nil)) .nil [])) .nil)) .nil [])))
  (.cons (.set 4 (.bin .fdiv (.var 4) (.var 6)))
  (.cons (.app 3 (.b1 .tuple (.lc false [8] (.nm 8) (.rng1 (.var 1)) (.cB true) E__law_coarse_4)))
  .nil)))
def b__law_coarse : IB := (.cons (.par [3, 4] (.cons (.lst .nil) (.cons (.var 2) .nil)))
  (.cons (.fora (.nm 5) (.rng1 (.var 1)) L__law_coarse_5)
  (.cons (.fora (.nm 7) (.rng1 (.cal i__law_pick (.ref 0 (.cons (.lst (.cons (.cI 0) (.cons (.cI 3) (.cons (.cI 8) (.cons (.cI 12) .nil))))) .nil)) .nil [])) L__law_coarse_3)
  (.cons (.ret (.b1 .tuple (.var 3)))
  .nil))))
def f__law_coarse : Fd := ⟨3, [0], 13, b__law_coarse⟩
abbrev E__law_is_coarse_0 : IE := (.var 2)
def b__law_is_coarse : IB := (.cons (.ife (.orv (.cons (.notv (.isi (.var 1) .tuple)) (.cons (.cmp .ne (.b1 .len (.var 1)) (.var 0)) (.cons (.cmp .neT (.lc false [2] (.nm 2) (.seq (.var 1)) (.notv (.cal i__law_is_row (.cons (.var 0) (.cons (.var 2) .nil)) .nil [])) E__law_is_coarse_0) (.lst .nil)) .nil)))) (.cons (.ret (.cB false))
  .nil) .nil)
  (.cons (.ret (.cmp .ne (.cal i__law_det (.cons (.var 1) .nil) .nil []) (.cI 0)))
  .nil))
def f__law_is_coarse : Fd := ⟨2, [], 3, b__law_is_coarse⟩
abbrev E__law_thing_0 : IE := (.rev (.var 5))
abbrev E__law_thing_1 : IE := (.bin .add (.var 5) (.tup (.cons (.cI 0) .nil)))
abbrev E__law_thing_2 : IE := (.fzE (.b1 .list (.var 5)))
def b__law_thing : IB := (.cons (.par [2, 3] (.cons (.b1 .len (.var 1)) (.cons (.cal i__law_draw (.ref 0 (.cons (.cI 4) .nil)) .nil []) .nil)))
  (.cons (.ife (.cmp .eq (.var 3) (.cI 0)) (.cons (.ret (.cal i__law_pick (.ref 0 (.cons (.lst (.cons (.bin .add (.slcH (.var 1) (.neg (.cI 1))) (.slcH (.var 1) (.cI 1))) (.cons (.bin .add (.slcH (.var 1) (.neg (.cI 1))) (.tup (.cons (.bin .mul (.tup (.cons (.cI 0) .nil)) (.var 2)) .nil))) (.cons (.bin .add (.var 1) (.slcH (.var 1) (.cI 1))) (.cons (.slcL (.var 1) (.cI 1)) (.cons (.fzE (.b1 .list (.var 1))) (.cons (.tup (.cons (.var 1) .nil)) .nil))))))) .nil)) .nil []))
  .nil) .nil)
  (.cons (.ife (.cmp .eq (.var 3) (.cI 1)) (.cons (.set 4 (.lst (.cons (.b1 .tuple (.lc false [5] (.nm 5) (.seq (.var 1)) (.cB true) E__law_thing_2)) (.cons (.b1 .tuple (.lc false [5] (.nm 5) (.seq (.var 1)) (.cB true) E__law_thing_1)) (.cons (.tup (.cons (.tup (.cons (.cI 1) (.cons (.cI 1) .nil))) (.cons (.tup (.cons (.cI 1) (.cons (.cI 1) .nil))) .nil))) (.cons (.tup (.cons (.tup (.cons (.cI 1) (.cons (.cI 2) .nil))) (.cons (.tup (.cons (.cI 2) (.cons (.cI 4) .nil))) .nil))) (.cons (.tup (.cons (.tup (.cons (.cI 0) .nil)) .nil)) (.cons .cN .nil))))))))
  (.cons (.ret (.cal i__law_pick (.ref 0 (.cons (.bin .add (.var 4) (.lst (.cons (.tup (.cons (.tup (.cons (.cI 1) (.cons (.cI 2) (.cons (.cI 3) .nil)))) (.cons (.tup (.cons (.cI 4) (.cons (.cI 5) (.cons (.cI 6) .nil)))) (.cons (.tup (.cons (.cI 5) (.cons (.cI 7) (.cons (.cI 9) .nil)))) .nil)))) (.cons (.tup (.cons (.tup (.cons (.cB true) .nil)) .nil)) (.cons (.tup (.cons (.tup (.cons (.neg (.cI 1)) .nil)) .nil)) (.cons (.tup .nil) (.cons (.fzE (.dct [] .nil)) (.cons (.cS "coarse") (.cons (.bin .pow (.cI 10) (.cI 12)) (.cons (.b1 .tuple (.lc false [5] (.nm 5) (.seq (.var 1)) (.cB true) E__law_thing_0)) .nil)))))))))) .nil)) .nil []))
  .nil)) .nil)
  (.cons (.ret (.fzE (.ife (.cmp .eq (.var 3) (.cI 2)) (.fzE (.cal i__law_bent (.ref 0 (.cons (.var 1) .nil)) .nil [])) (.var 1))))
  .nil))))
def f__law_thing : Fd := ⟨2, [0], 6, b__law_thing⟩
abbrev L_law_0 : IB := (.cons (.par [12, 13] (.cons (.fzE (.cal i__law_thing (.ref 1 (.cons (.var 4) .nil)) .nil [])) (.cons (.cal i__law_pick (.ref 1 (.cons (.lst (.cons (.var 3) (.cons (.var 3) (.cons (.var 3) (.cons (.cI 1) (.cons (.cI 2) (.cons (.cI 3) .nil))))))) .nil)) .nil []) .nil)))
  (.cons (.par [14, 8] (.cons (.b1 .repr (.var 12)) (.cons (.cal i__law_is_coarse (.cons (.var 13) (.cons (.var 12) .nil)) .nil []) .nil)))
  (.cons (.ife (.orv (.cons (.cmp .ne (.b1 .repr (.tup (.cons (.cal i_is_coarse (.cons (.var 13) (.cons (.var 12) .nil)) .nil []) (.cons (.cal i_is_coarse .nil (.cons (.var 12) (.cons (.var 13) .nil)) [1, 0]) .nil)))) (.b1 .repr (.tup (.cons (.var 8) (.cons (.var 8) .nil))))) (.cons (.cmp .ne (.b1 .repr (.var 12)) (.var 14)) .nil))) (.cons (.ret (.cB false))
  .nil) .nil)
  .nil)))
abbrev E_law_1 : IE := (.cal i__law_led (.cons (.var 4) (.cons (.var 15) .nil)) .nil [])
abbrev L_law_2 : IB := (.cons (.set 3 (.cal i__law_pick (.ref 1 (.cons (.lst (.cons (.cI 2) (.cons (.cI 3) (.cons (.cI 1) (.cons (.cI 2) .nil))))) .nil)) .nil []))
  (.cons (.par [4, 5] (.cons (.cal i__law_coarse (.ref 1 (.cons (.var 3) (.cons (.cI 30) .nil))) .nil []) (.cons (.cal i__law_form (.ref 1 (.cons (.var 3) (.cons (.cI 20) .nil))) .nil []) .nil)))
  (.cons (.set 6 (.b1 .abs (.cal i__law_det (.cons (.var 4) .nil) .nil [])))
  (.cons (.set 7 (.tup (.cons (.cal i_index (.cons (.var 3) (.cons (.var 4) .nil)) .nil []) (.cons (.cal i_index .nil (.cons (.var 4) (.cons (.var 3) .nil)) [1, 0]) (.cons (.cal i_is_coarse (.cons (.var 3) (.cons (.var 4) .nil)) .nil []) .nil)))))
  (.cons (.ife (.cmp .ne (.b1 .repr (.var 7)) (.b1 .repr (.tup (.cons (.var 6) (.cons (.var 6) (.cons (.cB true) .nil)))))) (.cons (.ret (.cB false))
  .nil) .nil)
  (.cons (.set 8 (.cal i__law_changed (.cons (.var 5) (.cons (.var 4) .nil)) .nil []))
  (.cons (.ife (.cmp .ne (.b1 .repr (.tup (.cons (.cal i_coarse_form (.cons (.var 5) (.cons (.var 4) .nil)) .nil []) (.cons (.cal i_coarse_form .nil (.cons (.var 4) (.cons (.var 5) .nil)) [1, 0]) .nil)))) (.b1 .repr (.tup (.cons (.var 8) (.cons (.var 8) .nil))))) (.cons (.ret (.cB false))
  .nil) .nil)
  (.cons (.set 9 (.cal i__law_change (.ref 1 (.cons (.var 3) (.cons (.cI 3) .nil))) .nil []))
  (.cons (.set 10 (.b1 .tuple (.lc false [15] (.nm 15) (.seq (.var 9)) (.cB true) E_law_1)))
  (.cons (.ife (.cal i__law_is_small (.cons (.var 10) (.cons (.cI 6) .nil)) .nil []) (.cons (.set 7 (.tup (.cons (.cal i_index (.cons (.var 3) (.cons (.var 10) .nil)) .nil []) (.cons (.cal i_coarse_form (.cons (.var 5) (.cons (.var 10) .nil)) .nil []) .nil))))
  (.cons (.ife (.cmp .ne (.b1 .repr (.var 7)) (.b1 .repr (.tup (.cons (.var 6) (.cons (.cal i__law_changed (.cons (.var 8) (.cons (.var 9) .nil)) .nil []) .nil))))) (.cons (.ret (.cB false))
  .nil) .nil)
  .nil)) .nil)
  (.cons (.ife (.andv (.cons (.cal i__law_is_small (.cons (.var 9) (.cons (.cI 6) .nil)) .nil []) (.cons (.cmp .ne (.b1 .repr (.tup (.cons (.cal i_index (.cons (.var 3) (.cons (.var 9) .nil)) .nil []) (.cons (.cal i_coarse_form (.cons (.var 5) (.cons (.var 9) .nil)) .nil []) .nil)))) (.b1 .repr (.tup (.cons (.cI 1) (.cons (.cal i__law_changed (.cons (.var 5) (.cons (.var 9) .nil)) .nil []) .nil))))) .nil))) (.cons (.ret (.cB false))
  .nil) .nil)
  (.cons (.fora (.nm 11) (.rng1 (.cI 4)) L_law_0)
  .nil))))))))))))
def b_law : IB := (.cons (.set 1 (.cal i__law_deck (.cons (.var 0) .nil) .nil []))
  (.cons (.fora (.nm 2) (.rng1 (.cI 3)) L_law_2)
  (.cons (.ret (.cB true))
  .nil)))
def f_law : Fd := ⟨1, [], 16, b_law⟩
def TB : List Fd := [f_is_integer, f_is_step_value, f_is_square, f_is_table_value, f_noughts, f_lean_of, f_minor, f_determinant, f_adjugate, f_changed_by, f_common_divisor, f_simplest, f_low_step, f_is_form_value, f_need_form, f_is_coarse_value, f_need_coarse, f_is_coarse, f_need_both, f_index, f_coarse_form, f__law_deck, f__law_draw, f__law_pick, f__law_dot, f__law_by, f__law_lean, f__law_plus, f__law_led, f__law_changed, f__law_det, f__law_form, f__law_is_integer, f__law_is_row, f__law_change, f__law_odd, f__law_bent, f__law_is_small, f__law_coarse, f__law_is_coarse, f__law_thing, f_law]
theorem tb_is_integer : TB[i_is_integer]? = some f_is_integer := rfl
theorem tb_is_step_value : TB[i_is_step_value]? = some f_is_step_value := rfl
theorem tb_is_square : TB[i_is_square]? = some f_is_square := rfl
theorem tb_is_table_value : TB[i_is_table_value]? = some f_is_table_value := rfl
theorem tb_noughts : TB[i_noughts]? = some f_noughts := rfl
theorem tb_lean_of : TB[i_lean_of]? = some f_lean_of := rfl
theorem tb_minor : TB[i_minor]? = some f_minor := rfl
theorem tb_determinant : TB[i_determinant]? = some f_determinant := rfl
theorem tb_adjugate : TB[i_adjugate]? = some f_adjugate := rfl
theorem tb_changed_by : TB[i_changed_by]? = some f_changed_by := rfl
theorem tb_common_divisor : TB[i_common_divisor]? = some f_common_divisor := rfl
theorem tb_simplest : TB[i_simplest]? = some f_simplest := rfl
theorem tb_low_step : TB[i_low_step]? = some f_low_step := rfl
theorem tb_is_form_value : TB[i_is_form_value]? = some f_is_form_value := rfl
theorem tb_need_form : TB[i_need_form]? = some f_need_form := rfl
theorem tb_is_coarse_value : TB[i_is_coarse_value]? = some f_is_coarse_value := rfl
theorem tb_need_coarse : TB[i_need_coarse]? = some f_need_coarse := rfl
theorem tb_is_coarse : TB[i_is_coarse]? = some f_is_coarse := rfl
theorem tb_need_both : TB[i_need_both]? = some f_need_both := rfl
theorem tb_index : TB[i_index]? = some f_index := rfl
theorem tb_coarse_form : TB[i_coarse_form]? = some f_coarse_form := rfl
theorem tb__law_deck : TB[i__law_deck]? = some f__law_deck := rfl
theorem tb__law_draw : TB[i__law_draw]? = some f__law_draw := rfl
theorem tb__law_pick : TB[i__law_pick]? = some f__law_pick := rfl
theorem tb__law_dot : TB[i__law_dot]? = some f__law_dot := rfl
theorem tb__law_by : TB[i__law_by]? = some f__law_by := rfl
theorem tb__law_lean : TB[i__law_lean]? = some f__law_lean := rfl
theorem tb__law_plus : TB[i__law_plus]? = some f__law_plus := rfl
theorem tb__law_led : TB[i__law_led]? = some f__law_led := rfl
theorem tb__law_changed : TB[i__law_changed]? = some f__law_changed := rfl
theorem tb__law_det : TB[i__law_det]? = some f__law_det := rfl
theorem tb__law_form : TB[i__law_form]? = some f__law_form := rfl
theorem tb__law_is_integer : TB[i__law_is_integer]? = some f__law_is_integer := rfl
theorem tb__law_is_row : TB[i__law_is_row]? = some f__law_is_row := rfl
theorem tb__law_change : TB[i__law_change]? = some f__law_change := rfl
theorem tb__law_odd : TB[i__law_odd]? = some f__law_odd := rfl
theorem tb__law_bent : TB[i__law_bent]? = some f__law_bent := rfl
theorem tb__law_is_small : TB[i__law_is_small]? = some f__law_is_small := rfl
theorem tb__law_coarse : TB[i__law_coarse]? = some f__law_coarse := rfl
theorem tb__law_is_coarse : TB[i__law_is_coarse]? = some f__law_is_coarse := rfl
theorem tb__law_thing : TB[i__law_thing]? = some f__law_thing := rfl
theorem tb_law : TB[i_law]? = some f_law := rfl
theorem in_is_integer {n : Nat} {ws : List W} {Q : W → List W → Prop} : callN TB (n + 1) i_is_integer ws Q = (ws.length = 1 ∧ evB ⟨callN TB n⟩ b_is_integer (ws.map some ++ List.replicate 0 none) (kQ Q)) := R.in_b tb_is_integer
theorem in_is_step_value {n : Nat} {ws : List W} {Q : W → List W → Prop} : callN TB (n + 1) i_is_step_value ws Q = (ws.length = 2 ∧ evB ⟨callN TB n⟩ b_is_step_value (ws.map some ++ List.replicate 1 none) (kQ Q)) := R.in_b tb_is_step_value
theorem in_is_square {n : Nat} {ws : List W} {Q : W → List W → Prop} : callN TB (n + 1) i_is_square ws Q = (ws.length = 1 ∧ evB ⟨callN TB n⟩ b_is_square (ws.map some ++ List.replicate 1 none) (kQ Q)) := R.in_b tb_is_square
theorem in_is_table_value {n : Nat} {ws : List W} {Q : W → List W → Prop} : callN TB (n + 1) i_is_table_value ws Q = (ws.length = 1 ∧ evB ⟨callN TB n⟩ b_is_table_value (ws.map some ++ List.replicate 3 none) (kQ Q)) := R.in_b tb_is_table_value
theorem in_noughts {n : Nat} {ws : List W} {Q : W → List W → Prop} : callN TB (n + 1) i_noughts ws Q = (ws.length = 1 ∧ evB ⟨callN TB n⟩ b_noughts (ws.map some ++ List.replicate 0 none) (kQ Q)) := R.in_b tb_noughts
theorem in_lean_of {n : Nat} {ws : List W} {Q : W → List W → Prop} : callN TB (n + 1) i_lean_of ws Q = (ws.length = 3 ∧ evB ⟨callN TB n⟩ b_lean_of (ws.map some ++ List.replicate 5 none) (kQ Q)) := R.in_b tb_lean_of
theorem in_minor {n : Nat} {ws : List W} {Q : W → List W → Prop} : callN TB (n + 1) i_minor ws Q = (ws.length = 3 ∧ evB ⟨callN TB n⟩ b_minor (ws.map some ++ List.replicate 2 none) (kQ Q)) := R.in_b tb_minor
theorem in_determinant {n : Nat} {ws : List W} {Q : W → List W → Prop} : callN TB (n + 1) i_determinant ws Q = (ws.length = 1 ∧ evB ⟨callN TB n⟩ b_determinant (ws.map some ++ List.replicate 3 none) (kQ Q)) := R.in_b tb_determinant
theorem in_adjugate {n : Nat} {ws : List W} {Q : W → List W → Prop} : callN TB (n + 1) i_adjugate ws Q = (ws.length = 1 ∧ evB ⟨callN TB n⟩ b_adjugate (ws.map some ++ List.replicate 4 none) (kQ Q)) := R.in_b tb_adjugate
theorem in_changed_by {n : Nat} {ws : List W} {Q : W → List W → Prop} : callN TB (n + 1) i_changed_by ws Q = (ws.length = 2 ∧ evB ⟨callN TB n⟩ b_changed_by (ws.map some ++ List.replicate 2 none) (kQ Q)) := R.in_b tb_changed_by
theorem in_common_divisor {n : Nat} {ws : List W} {Q : W → List W → Prop} : callN TB (n + 1) i_common_divisor ws Q = (ws.length = 1 ∧ evB ⟨callN TB n⟩ b_common_divisor (ws.map some ++ List.replicate 2 none) (kQ Q)) := R.in_b tb_common_divisor
theorem in_simplest {n : Nat} {ws : List W} {Q : W → List W → Prop} : callN TB (n + 1) i_simplest ws Q = (ws.length = 1 ∧ evB ⟨callN TB n⟩ b_simplest (ws.map some ++ List.replicate 2 none) (kQ Q)) := R.in_b tb_simplest
theorem in_low_step {n : Nat} {ws : List W} {Q : W → List W → Prop} : callN TB (n + 1) i_low_step ws Q = (ws.length = 1 ∧ evB ⟨callN TB n⟩ b_low_step (ws.map some ++ List.replicate 4 none) (kQ Q)) := R.in_b tb_low_step
theorem in_is_form_value {n : Nat} {ws : List W} {Q : W → List W → Prop} : callN TB (n + 1) i_is_form_value ws Q = (ws.length = 1 ∧ evB ⟨callN TB n⟩ b_is_form_value (ws.map some ++ List.replicate 0 none) (kQ Q)) := R.in_b tb_is_form_value
theorem in_need_form {n : Nat} {ws : List W} {Q : W → List W → Prop} : callN TB (n + 1) i_need_form ws Q = (ws.length = 1 ∧ evB ⟨callN TB n⟩ b_need_form (ws.map some ++ List.replicate 0 none) (kQ Q)) := R.in_b tb_need_form
theorem in_is_coarse_value {n : Nat} {ws : List W} {Q : W → List W → Prop} : callN TB (n + 1) i_is_coarse_value ws Q = (ws.length = 2 ∧ evB ⟨callN TB n⟩ b_is_coarse_value (ws.map some ++ List.replicate 0 none) (kQ Q)) := R.in_b tb_is_coarse_value
theorem in_need_coarse {n : Nat} {ws : List W} {Q : W → List W → Prop} : callN TB (n + 1) i_need_coarse ws Q = (ws.length = 2 ∧ evB ⟨callN TB n⟩ b_need_coarse (ws.map some ++ List.replicate 0 none) (kQ Q)) := R.in_b tb_need_coarse
theorem in_is_coarse {n : Nat} {ws : List W} {Q : W → List W → Prop} : callN TB (n + 1) i_is_coarse ws Q = (ws.length = 2 ∧ evB ⟨callN TB n⟩ b_is_coarse (ws.map some ++ List.replicate 0 none) (kQ Q)) := R.in_b tb_is_coarse
theorem in_need_both {n : Nat} {ws : List W} {Q : W → List W → Prop} : callN TB (n + 1) i_need_both ws Q = (ws.length = 2 ∧ evB ⟨callN TB n⟩ b_need_both (ws.map some ++ List.replicate 0 none) (kQ Q)) := R.in_b tb_need_both
theorem in_index {n : Nat} {ws : List W} {Q : W → List W → Prop} : callN TB (n + 1) i_index ws Q = (ws.length = 2 ∧ evB ⟨callN TB n⟩ b_index (ws.map some ++ List.replicate 0 none) (kQ Q)) := R.in_b tb_index
theorem in_coarse_form {n : Nat} {ws : List W} {Q : W → List W → Prop} : callN TB (n + 1) i_coarse_form ws Q = (ws.length = 2 ∧ evB ⟨callN TB n⟩ b_coarse_form (ws.map some ++ List.replicate 0 none) (kQ Q)) := R.in_b tb_coarse_form
theorem in__law_deck {n : Nat} {ws : List W} {Q : W → List W → Prop} : callN TB (n + 1) i__law_deck ws Q = (ws.length = 1 ∧ evB ⟨callN TB n⟩ b__law_deck (ws.map some ++ List.replicate 2 none) (kQ Q)) := R.in_b tb__law_deck
theorem in__law_draw {n : Nat} {ws : List W} {Q : W → List W → Prop} : callN TB (n + 1) i__law_draw ws Q = (ws.length = 2 ∧ evB ⟨callN TB n⟩ b__law_draw (ws.map some ++ List.replicate 2 none) (kQ1 Q)) := R.in_b1 tb__law_draw
theorem in__law_pick {n : Nat} {ws : List W} {Q : W → List W → Prop} : callN TB (n + 1) i__law_pick ws Q = (ws.length = 2 ∧ evB ⟨callN TB n⟩ b__law_pick (ws.map some ++ List.replicate 0 none) (kQ1 Q)) := R.in_b1 tb__law_pick
theorem in__law_dot {n : Nat} {ws : List W} {Q : W → List W → Prop} : callN TB (n + 1) i__law_dot ws Q = (ws.length = 2 ∧ evB ⟨callN TB n⟩ b__law_dot (ws.map some ++ List.replicate 2 none) (kQ Q)) := R.in_b tb__law_dot
theorem in__law_by {n : Nat} {ws : List W} {Q : W → List W → Prop} : callN TB (n + 1) i__law_by ws Q = (ws.length = 2 ∧ evB ⟨callN TB n⟩ b__law_by (ws.map some ++ List.replicate 1 none) (kQ Q)) := R.in_b tb__law_by
theorem in__law_lean {n : Nat} {ws : List W} {Q : W → List W → Prop} : callN TB (n + 1) i__law_lean ws Q = (ws.length = 3 ∧ evB ⟨callN TB n⟩ b__law_lean (ws.map some ++ List.replicate 0 none) (kQ Q)) := R.in_b tb__law_lean
theorem in__law_plus {n : Nat} {ws : List W} {Q : W → List W → Prop} : callN TB (n + 1) i__law_plus ws Q = (ws.length = 3 ∧ evB ⟨callN TB n⟩ b__law_plus (ws.map some ++ List.replicate 2 none) (kQ Q)) := R.in_b tb__law_plus
theorem in__law_led {n : Nat} {ws : List W} {Q : W → List W → Prop} : callN TB (n + 1) i__law_led ws Q = (ws.length = 2 ∧ evB ⟨callN TB n⟩ b__law_led (ws.map some ++ List.replicate 3 none) (kQ Q)) := R.in_b tb__law_led
theorem in__law_changed {n : Nat} {ws : List W} {Q : W → List W → Prop} : callN TB (n + 1) i__law_changed ws Q = (ws.length = 2 ∧ evB ⟨callN TB n⟩ b__law_changed (ws.map some ++ List.replicate 2 none) (kQ Q)) := R.in_b tb__law_changed
theorem in__law_det {n : Nat} {ws : List W} {Q : W → List W → Prop} : callN TB (n + 1) i__law_det ws Q = (ws.length = 1 ∧ evB ⟨callN TB n⟩ b__law_det (ws.map some ++ List.replicate 4 none) (kQ Q)) := R.in_b tb__law_det
theorem in__law_form {n : Nat} {ws : List W} {Q : W → List W → Prop} : callN TB (n + 1) i__law_form ws Q = (ws.length = 3 ∧ evB ⟨callN TB n⟩ b__law_form (ws.map some ++ List.replicate 15 none) (kQ1 Q)) := R.in_b1 tb__law_form
theorem in__law_is_integer {n : Nat} {ws : List W} {Q : W → List W → Prop} : callN TB (n + 1) i__law_is_integer ws Q = (ws.length = 1 ∧ evB ⟨callN TB n⟩ b__law_is_integer (ws.map some ++ List.replicate 0 none) (kQ Q)) := R.in_b tb__law_is_integer
theorem in__law_is_row {n : Nat} {ws : List W} {Q : W → List W → Prop} : callN TB (n + 1) i__law_is_row ws Q = (ws.length = 2 ∧ evB ⟨callN TB n⟩ b__law_is_row (ws.map some ++ List.replicate 1 none) (kQ Q)) := R.in_b tb__law_is_row
theorem in__law_change {n : Nat} {ws : List W} {Q : W → List W → Prop} : callN TB (n + 1) i__law_change ws Q = (ws.length = 3 ∧ evB ⟨callN TB n⟩ b__law_change (ws.map some ++ List.replicate 5 none) (kQ1 Q)) := R.in_b1 tb__law_change
theorem in__law_odd {n : Nat} {ws : List W} {Q : W → List W → Prop} : callN TB (n + 1) i__law_odd ws Q = (ws.length = 2 ∧ evB ⟨callN TB n⟩ b__law_odd (ws.map some ++ List.replicate 1 none) (kQ1 Q)) := R.in_b1 tb__law_odd
theorem in__law_bent {n : Nat} {ws : List W} {Q : W → List W → Prop} : callN TB (n + 1) i__law_bent ws Q = (ws.length = 2 ∧ evB ⟨callN TB n⟩ b__law_bent (ws.map some ++ List.replicate 1 none) (kQ1 Q)) := R.in_b1 tb__law_bent
theorem in__law_is_small {n : Nat} {ws : List W} {Q : W → List W → Prop} : callN TB (n + 1) i__law_is_small ws Q = (ws.length = 2 ∧ evB ⟨callN TB n⟩ b__law_is_small (ws.map some ++ List.replicate 2 none) (kQ Q)) := R.in_b tb__law_is_small
theorem in__law_coarse {n : Nat} {ws : List W} {Q : W → List W → Prop} : callN TB (n + 1) i__law_coarse ws Q = (ws.length = 3 ∧ evB ⟨callN TB n⟩ b__law_coarse (ws.map some ++ List.replicate 10 none) (kQ1 Q)) := R.in_b1 tb__law_coarse
theorem in__law_is_coarse {n : Nat} {ws : List W} {Q : W → List W → Prop} : callN TB (n + 1) i__law_is_coarse ws Q = (ws.length = 2 ∧ evB ⟨callN TB n⟩ b__law_is_coarse (ws.map some ++ List.replicate 1 none) (kQ Q)) := R.in_b tb__law_is_coarse
theorem in__law_thing {n : Nat} {ws : List W} {Q : W → List W → Prop} : callN TB (n + 1) i__law_thing ws Q = (ws.length = 2 ∧ evB ⟨callN TB n⟩ b__law_thing (ws.map some ++ List.replicate 4 none) (kQ1 Q)) := R.in_b1 tb__law_thing
theorem in_law {n : Nat} {ws : List W} {Q : W → List W → Prop} : callN TB (n + 1) i_law ws Q = (ws.length = 1 ∧ evB ⟨callN TB n⟩ b_law (ws.map some ++ List.replicate 15 none) (kQ Q)) := R.in_b tb_law
end Mn

set_option Elab.async false
set_option linter.all false
set_option maxRecDepth 100000
set_option maxHeartbeats 0
namespace Mn
open PySem PySem.Spec PyProof.Rows L2
def top (i : Nat) : Stmt := PySem.Challenge.pw_nearsteps_k41_coarse_tables_index_and_co.main.body.getD i (.Pass ⟨0, 0, 0, 0⟩)
def rows : List Rw := [⟨"is_integer", ["thing"], ["thing"], f_is_integer, 6⟩,
  ⟨"is_step_value", ["n", "thing"], ["n", "thing", "number"], f_is_step_value, 7⟩,
  ⟨"is_square", ["thing"], ["thing", "row"], f_is_square, 8⟩,
  ⟨"is_table_value", ["thing"], ["thing", "n", "i", "j"], f_is_table_value, 9⟩,
  ⟨"noughts", ["n"], ["n"], f_noughts, 10⟩,
  ⟨"lean_of", ["table", "one", "other"], ["table", "one", "other", "total", "i", "row", "j", "number"], f_lean_of, 11⟩,
  ⟨"minor", ["rows", "i", "j"], ["rows", "i", "j", "at", "row"], f_minor, 12⟩,
  ⟨"determinant", ["rows"], ["rows", "total", "j", "number"], f_determinant, 13⟩,
  ⟨"adjugate", ["rows"], ["rows", "n", "found", "i", "j"], f_adjugate, 14⟩,
  ⟨"changed_by", ["table", "rows"], ["table", "rows", "one", "other"], f_changed_by, 15⟩,
  ⟨"common_divisor", ["numbers"], ["numbers", "found", "number"], f_common_divisor, 16⟩,
  ⟨"simplest", ["step"], ["step", "common", "number"], f_simplest, 17⟩,
  ⟨"low_step", ["table"], ["table", "n", "k", "part", "row"], f_low_step, 18⟩,
  ⟨"is_form_value", ["thing"], ["thing"], f_is_form_value, 19⟩,
  ⟨"need_form", ["form"], ["form"], f_need_form, 20⟩,
  ⟨"is_coarse_value", ["n", "thing"], ["n", "thing"], f_is_coarse_value, 22⟩,
  ⟨"need_coarse", ["n", "coarse"], ["n", "coarse"], f_need_coarse, 23⟩,
  ⟨"is_coarse", ["n", "thing"], ["n", "thing"], f_is_coarse, 25⟩,
  ⟨"need_both", ["form", "coarse"], ["form", "coarse"], f_need_both, 26⟩,
  ⟨"index", ["n", "coarse"], ["n", "coarse"], f_index, 27⟩,
  ⟨"coarse_form", ["form", "coarse"], ["form", "coarse"], f_coarse_form, 28⟩,
  ⟨"_law_deck", ["script"], ["script", "number", "cell"], f__law_deck, 30⟩,
  ⟨"_law_draw", ["deck", "many"], ["deck", "many", "number", "cell"], f__law_draw, 31⟩,
  ⟨"_law_pick", ["deck", "some"], ["deck", "some"], f__law_pick, 32⟩,
  ⟨"_law_dot", ["one", "other"], ["one", "other", "x", "y"], f__law_dot, 33⟩,
  ⟨"_law_by", ["form", "step"], ["form", "step", "row"], f__law_by, 34⟩,
  ⟨"_law_lean", ["form", "one", "other"], ["form", "one", "other"], f__law_lean, 35⟩,
  ⟨"_law_plus", ["one", "other", "times"], ["one", "other", "times", "x", "y"], f__law_plus, 36⟩,
  ⟨"_law_led", ["rows", "step"], ["rows", "step", "found", "number", "row"], f__law_led, 37⟩,
  ⟨"_law_changed", ["form", "rows"], ["form", "rows", "one", "other"], f__law_changed, 38⟩,
  ⟨"_law_det", ["rows"], ["rows", "one", "two", "three", "found"], f__law_det, 39⟩,
  ⟨"_law_form", ["deck", "n", "most"], ["deck", "n", "most", "menu", "way", "table", "i", "j", "lean", "rows", "found", "turn", "times", "near", "one", "other", "row", "x"], f__law_form, 40⟩,
  ⟨"_law_is_integer", ["thing"], ["thing"], f__law_is_integer, 41⟩,
  ⟨"_law_is_row", ["n", "thing"], ["n", "thing", "x"], f__law_is_row, 42⟩,
  ⟨"_law_change", ["deck", "n", "many"], ["deck", "n", "many", "rows", "turn", "i", "j", "times"], f__law_change, 43⟩,
  ⟨"_law_odd", ["deck", "it"], ["deck", "it", "some"], f__law_odd, 44⟩,
  ⟨"_law_bent", ["deck", "it"], ["deck", "it", "at"], f__law_bent, 45⟩,
  ⟨"_law_is_small", ["form", "most"], ["form", "most", "row", "x"], f__law_is_small, 46⟩,
  ⟨"_law_coarse", ["deck", "n", "most"], ["deck", "n", "most", "rows", "left", "i", "x", "turn", "j", "times", "way", "near", "row"], f__law_coarse, 47⟩,
  ⟨"_law_is_coarse", ["n", "thing"], ["n", "thing", "row"], f__law_is_coarse, 48⟩,
  ⟨"_law_thing", ["deck", "coarse"], ["deck", "coarse", "n", "way", "some", "row"], f__law_thing, 49⟩,
  ⟨"law", ["script"], ["script", "deck", "turn", "n", "coarse", "form", "whole", "told", "due", "rows", "near", "look", "thing", "many", "text", "row"], f_law, 50⟩]
def blt : List Str := ["Exception", "abs", "all", "bool", "enumerate", "int", "isinstance", "len", "list", "max", "min", "range", "repr", "str", "sum", "super", "tuple", "zip"]
def loose0 : List Str := ["gcd", "StepError", "BadForm", "BadCoarse", "is_integer", "is_step_value", "is_square", "is_table_value", "noughts", "lean_of", "minor", "determinant", "adjugate", "changed_by", "common_divisor", "simplest", "low_step", "is_form_value", "need_form", "is_coarse_value", "need_coarse", "is_coarse", "need_both", "index", "coarse_form"]
def loose1 : List Str := ["_law_deck", "_law_draw", "_law_pick", "_law_dot", "_law_by", "_law_lean", "_law_plus", "_law_led", "_law_changed", "_law_det", "_law_form", "_law_is_integer", "_law_is_row", "_law_change", "_law_odd", "_law_bent", "_law_is_small", "_law_coarse", "_law_is_coarse", "_law_thing"]
def loose : List Str := loose0 ++ loose1
abbrev RR : PySem.W.OpenRow := PySem.W.OpenLaw.row PySem.Challenge.rw_nearsteps_k41_coarse_tables_index_and_co
abbrev hk : PySem.W.Hook := hookM ([("gcd", .builtin "math.gcd")] : List (Str × Value)) (faR rows blt) (fnR top rows)
def ob (s : PySem.W.SharedT) : He.AlD × Bool := obsM ([("gcd", .builtin "math.gcd")] : List (Str × Value)) (faR rows blt) (fnR top rows) (HandSHeadRun.getT s)
theorem ob_eq (s : PySem.W.SharedT) : ob s = hk.obs s.abs := obsM_eq (HandSHeadRun.getT_eq s)
theorem rows_ok : rows.all (rowC (gt rows blt ([("gcd", .builtin "math.gcd")] : List (Str × Value))) top) = true := by kernel_rfl
theorem run (w : World) : HandSHeadRun.RunEqI RR (PySem.W.view RR.prog [0, 50]) hk ob 8000 loose w := by
  unfold HandSHeadRun.RunEqI
  kernel_rfl
end Mn
open PySem PySem.W PySem.Calls PyProof.Rows
theorem Mn.law_x (hlaw : ∀ ns : List Int, ns.length ≤ 63 → Mn.callN Mn.TB 40 41 [.d (.list (ns.map PyData.int))] fun w _ => w = .d (.bool true)) : PySem.Challenge.rw_nearsteps_k41_coarse_tables_index_and_co.Holds := by
  w_on; o_law
  refine HandSHeadRun.head_imp (r := OpenLaw.row PySem.Challenge.rw_nearsteps_k41_coarse_tables_index_and_co) (q := view (OpenLaw.row PySem.Challenge.rw_nearsteps_k41_coarse_tables_index_and_co).prog [0, 50]) (H := Mn.hk) (ob := Mn.ob) (M := 8000) (loose := Mn.loose) (d := HandSHeadRun.topDef (OpenLaw.row PySem.Challenge.rw_nearsteps_k41_coarse_tables_index_and_co).prog 50) (kwd := []) Mn.ob_eq Mn.run
    (by kernel_rfl) (by kernel_rfl) (by kernel_rfl) (by rfl) (by first | assumption | decide +kernel) (by decide +kernel) ⟨rfl, rfl, rfl, rfl, rfl, by decide +kernel⟩ ?hw ?hc
  case hw => w_witness2
  case hc =>
    refine Mn.walkM (l := PySem.Challenge.rw_nearsteps_k41_coarse_tables_index_and_co) (n := 63) (k := 40) (x := "script") (gc := ([("gcd", .builtin "math.gcd")] : List (Str × Value))) (call := Mn.callN Mn.TB 40 41) rfl (by decide) (by kernel_rfl) ⟨rfl, by decide, by decide⟩ ?F hlaw
    intro w mg fa h Y G hmg0
    obtain ⟨K, KX, c⟩ := Y
    have hmg : mg ("law" : PySem.Str) = some (.ref fa) := by
      have e : (HandSHeadRun.topDef (OpenLaw.row PySem.Challenge.rw_nearsteps_k41_coarse_tables_index_and_co).prog 50).name = ("law" : PySem.Str) := by kernel_rfl
      rw [← e]
      exact hmg0
    have T := Mn.tab_of (top := Mn.top) (rows := Mn.rows) (blt := Mn.blt) (gc := ([("gcd", .builtin "math.gcd")] : List (Str × Value))) Mn.rows_ok KX G c
    obtain ⟨dat, hb, hF⟩ := Mn.law_fn (P := (PySem.Challenge.rw_nearsteps_k41_coarse_tables_index_and_co).prog) (w := w) T (n := 40) (i := 41) (y := "script") (fd := Mn.f_law) hmg rfl rfl rfl
    exact ⟨K, dat, KX, c.ex, c.sys, hb, fun base _ _ => hF base⟩

set_option linter.all false
set_option maxRecDepth 100000
set_option maxHeartbeats 2000000
namespace Mn
open PySem
theorem sh_ints (xs : List Int) : PyData.canLayAll0 (xs.map .int) = true ∧ PyData.depthAll (xs.map .int) ≤ 1 := by
  induction xs with
  | nil => exact ⟨rfl, by simp [PyData.depthAll]⟩
  | cons x xs ih => 
    refine ⟨?_, ?_⟩
    · simp [PyData.canLayAll0, ih.1, PyData.canLay0]
    · simp [PyData.depthAll, PyData.depth]
      have := ih.2
      omega
theorem shaped_ints (xs : List Int) : SeqAt.shaped (.list (xs.map .int)) = true ∧ SeqAt.shaped (.tuple (xs.map .int)) = true := by
  have h := sh_ints xs
  constructor <;> simp [SeqAt.shaped, PyData.canLay0, PyData.depth, h.1] <;> omega
/-- the end of a draw -/
theorem draw_tail (C : Ctx) (cells : List Int) (m d many number : Int) (s3 : Option W) (hc : cells.length ≤ 63) (h1 : 0 < many) (h2 : many < 2 ^ 64) (Q : W → List W → Prop) (h : ∀ r cs m' d', 0 ≤ r → r < many → cs.length ≤ 63 → Q (.d (.int r)) [dk cs m' d']) :
    evB C (.cons (.set 2 (.bin .mod (.b1 .int (.bin .add (.bin .mul (.var 2) (.cI 39373)) (.cI 67))) (.cI 2147483647))) (.cons (.set 2 (.bin .mod (.b1 .int (.bin .add (.bin .add (.bin .mul (.var 2) (.var 2)) (.bin .mul (.cI 52713) (.getK 0 "draws"))) (.cI 31))) (.cI 2147483587)))
      (.cons (.set 2 (.bin .mod (.b1 .int (.bin .mul (.var 2) (.cI 40692))) (.cI 2147483563))) (.cons (.ret (.bin .mod (.b1 .int (.bin .fdiv (.var 2) (.cI 64))) (.var 1))) .nil)))) [some (dk cells m d), some (.d (.int many)), some (.d (.int number)), s3] (kQ1 Q) := by
  repeat (first | with_reducible refine r_seqnx ?_ | with_reducible refine r_seqrt ?_ | with_reducible refine r_qrt ?_ | with_reducible refine r_cons ?_ | with_reducible refine r_nil ?_ | with_reducible refine r_set ?_ | with_reducible refine r_par ?_ | with_reducible refine r_ret ?_ | with_reducible refine r_retN ?_ | with_reducible refine r_if ?_ | with_reducible refine r_for ?_ | with_reducible refine r_exp ?_ | (with_reducible refine r_var ?_; refine ⟨_, rfl, ?_⟩) | with_reducible refine r_cI ?_ | with_reducible refine r_bin ?_ | with_reducible refine r_cmp ?_ | with_reducible refine r_idx ?_ | with_reducible refine r_cal ?_ | with_reducible refine r_an ?_ | with_reducible refine r_ac ?_ | with_reducible refine r_fz ?_ | with_reducible refine r_mv ?_ | with_reducible refine r_gv ?_ | with_reducible refine r_one ?_ | with_reducible refine r_two ?_ | with_reducible refine r_asI ?_ | with_reducible refine r_add ?_ | with_reducible refine r_sub ?_ | with_reducible refine r_lt ?_ | with_reducible refine r_le ?_ | with_reducible refine r_gt ?_ | with_reducible refine r_ge ?_ | with_reducible refine r_seqT ?_ | with_reducible refine r_seqL ?_ | with_reducible refine r_b1 ?_ | with_reducible refine r_b2 ?_ | with_reducible refine r_lc ?_ | with_reducible refine r_lc2 ?_ | with_reducible refine r_enm ?_ | with_reducible refine r_seq ?_ | with_reducible refine r_zip ?_ | with_reducible refine r_rng1 ?_ | with_reducible refine r_rng2 ?_ | with_reducible refine r_tup ?_ | with_reducible refine r_lst ?_ | with_reducible refine r_fn ?_ | with_reducible refine r_fc ?_ | with_reducible refine r_mn ?_ | with_reducible refine r_mc ?_ | with_reducible refine r_cS ?_ | with_reducible refine r_cB ?_ | with_reducible refine r_cN ?_ | with_reducible refine r_neg ?_ | with_reducible refine r_cmp2 ?_ | with_reducible refine r_and ?_ | with_reducible refine r_or ?_ | with_reducible refine r_andc ?_ | with_reducible refine r_andn ?_ | with_reducible refine r_orc ?_ | with_reducible refine r_orn ?_ | with_reducible refine r_not ?_ | with_reducible refine r_ife ?_ | with_reducible refine r_slc ?_ | with_reducible refine r_slcL ?_ | with_reducible refine r_slcH ?_ | with_reducible refine r_slcA ?_ | with_reducible refine r_rev ?_ | with_reducible refine r_isi ?_ | with_reducible refine r_asBv ?_ | with_reducible refine r_lcs ?_ | with_reducible refine r_slL ?_ | with_reducible refine r_slT ?_ | with_reducible refine r_revL ?_ | with_reducible refine r_listL ?_ | with_reducible refine r_listT ?_ | with_reducible refine r_tupT ?_ | with_reducible refine r_dct ?_ | with_reducible refine r_subK ?_ | with_reducible refine r_intI ?_ | with_reducible refine r_lcs2 ?_ | with_reducible refine r_fst ?_ | with_reducible refine r_bnm ?_ | (with_reducible refine r_btp ?_; refine ⟨rfl, ?_⟩) | with_reducible refine r_iteT ?_ | with_reducible refine r_iteF ?_ | (with_reducible refine r_ifT ?_; refine ⟨rfl, ?_⟩) | (with_reducible refine r_ifF ?_; refine ⟨rfl, ?_⟩) | with_reducible refine r_eqI ?_ | with_reducible refine r_neI ?_ | with_reducible refine r_mvL ?_ | with_reducible refine r_gvL ?_ | with_reducible refine r_mvD ?_ | with_reducible refine r_gvD ?_ | (with_reducible refine r_varL ?_; refine ⟨_, rfl, ?_⟩) | (with_reducible refine r_varD ?_; refine ⟨_, rfl, ?_⟩) | (with_reducible refine r_aug ?_; refine ⟨_, rfl, ?_⟩) | with_reducible refine r_ret0 ?_ | with_reducible refine r_tupL ?_ | with_reducible refine r_oneL ?_ | with_reducible refine r_fzL ?_ | with_reducible refine go1 ?_ | with_reducible refine go2 ?_ | with_reducible refine go3 ?_)
  refine r_mul (.inr (.inl (by decide))) ?_
  repeat (first | with_reducible refine r_seqnx ?_ | with_reducible refine r_seqrt ?_ | with_reducible refine r_qrt ?_ | with_reducible refine r_cons ?_ | with_reducible refine r_nil ?_ | with_reducible refine r_set ?_ | with_reducible refine r_par ?_ | with_reducible refine r_ret ?_ | with_reducible refine r_retN ?_ | with_reducible refine r_if ?_ | with_reducible refine r_for ?_ | with_reducible refine r_exp ?_ | (with_reducible refine r_var ?_; refine ⟨_, rfl, ?_⟩) | with_reducible refine r_cI ?_ | with_reducible refine r_bin ?_ | with_reducible refine r_cmp ?_ | with_reducible refine r_idx ?_ | with_reducible refine r_cal ?_ | with_reducible refine r_an ?_ | with_reducible refine r_ac ?_ | with_reducible refine r_fz ?_ | with_reducible refine r_mv ?_ | with_reducible refine r_gv ?_ | with_reducible refine r_one ?_ | with_reducible refine r_two ?_ | with_reducible refine r_asI ?_ | with_reducible refine r_add ?_ | with_reducible refine r_sub ?_ | with_reducible refine r_lt ?_ | with_reducible refine r_le ?_ | with_reducible refine r_gt ?_ | with_reducible refine r_ge ?_ | with_reducible refine r_seqT ?_ | with_reducible refine r_seqL ?_ | with_reducible refine r_b1 ?_ | with_reducible refine r_b2 ?_ | with_reducible refine r_lc ?_ | with_reducible refine r_lc2 ?_ | with_reducible refine r_enm ?_ | with_reducible refine r_seq ?_ | with_reducible refine r_zip ?_ | with_reducible refine r_rng1 ?_ | with_reducible refine r_rng2 ?_ | with_reducible refine r_tup ?_ | with_reducible refine r_lst ?_ | with_reducible refine r_fn ?_ | with_reducible refine r_fc ?_ | with_reducible refine r_mn ?_ | with_reducible refine r_mc ?_ | with_reducible refine r_cS ?_ | with_reducible refine r_cB ?_ | with_reducible refine r_cN ?_ | with_reducible refine r_neg ?_ | with_reducible refine r_cmp2 ?_ | with_reducible refine r_and ?_ | with_reducible refine r_or ?_ | with_reducible refine r_andc ?_ | with_reducible refine r_andn ?_ | with_reducible refine r_orc ?_ | with_reducible refine r_orn ?_ | with_reducible refine r_not ?_ | with_reducible refine r_ife ?_ | with_reducible refine r_slc ?_ | with_reducible refine r_slcL ?_ | with_reducible refine r_slcH ?_ | with_reducible refine r_slcA ?_ | with_reducible refine r_rev ?_ | with_reducible refine r_isi ?_ | with_reducible refine r_asBv ?_ | with_reducible refine r_lcs ?_ | with_reducible refine r_slL ?_ | with_reducible refine r_slT ?_ | with_reducible refine r_revL ?_ | with_reducible refine r_listL ?_ | with_reducible refine r_listT ?_ | with_reducible refine r_tupT ?_ | with_reducible refine r_dct ?_ | with_reducible refine r_subK ?_ | with_reducible refine r_intI ?_ | with_reducible refine r_lcs2 ?_ | with_reducible refine r_fst ?_ | with_reducible refine r_bnm ?_ | (with_reducible refine r_btp ?_; refine ⟨rfl, ?_⟩) | with_reducible refine r_iteT ?_ | with_reducible refine r_iteF ?_ | (with_reducible refine r_ifT ?_; refine ⟨rfl, ?_⟩) | (with_reducible refine r_ifF ?_; refine ⟨rfl, ?_⟩) | with_reducible refine r_eqI ?_ | with_reducible refine r_neI ?_ | with_reducible refine r_mvL ?_ | with_reducible refine r_gvL ?_ | with_reducible refine r_mvD ?_ | with_reducible refine r_gvD ?_ | (with_reducible refine r_varL ?_; refine ⟨_, rfl, ?_⟩) | (with_reducible refine r_varD ?_; refine ⟨_, rfl, ?_⟩) | (with_reducible refine r_aug ?_; refine ⟨_, rfl, ?_⟩) | with_reducible refine r_ret0 ?_ | with_reducible refine r_tupL ?_ | with_reducible refine r_oneL ?_ | with_reducible refine r_fzL ?_ | with_reducible refine go1 ?_ | with_reducible refine go2 ?_ | with_reducible refine go3 ?_)
  refine r_mod (by decide) ?_
  repeat (first | with_reducible refine r_seqnx ?_ | with_reducible refine r_seqrt ?_ | with_reducible refine r_qrt ?_ | with_reducible refine r_cons ?_ | with_reducible refine r_nil ?_ | with_reducible refine r_set ?_ | with_reducible refine r_par ?_ | with_reducible refine r_ret ?_ | with_reducible refine r_retN ?_ | with_reducible refine r_if ?_ | with_reducible refine r_for ?_ | with_reducible refine r_exp ?_ | (with_reducible refine r_var ?_; refine ⟨_, rfl, ?_⟩) | with_reducible refine r_cI ?_ | with_reducible refine r_bin ?_ | with_reducible refine r_cmp ?_ | with_reducible refine r_idx ?_ | with_reducible refine r_cal ?_ | with_reducible refine r_an ?_ | with_reducible refine r_ac ?_ | with_reducible refine r_fz ?_ | with_reducible refine r_mv ?_ | with_reducible refine r_gv ?_ | with_reducible refine r_one ?_ | with_reducible refine r_two ?_ | with_reducible refine r_asI ?_ | with_reducible refine r_add ?_ | with_reducible refine r_sub ?_ | with_reducible refine r_lt ?_ | with_reducible refine r_le ?_ | with_reducible refine r_gt ?_ | with_reducible refine r_ge ?_ | with_reducible refine r_seqT ?_ | with_reducible refine r_seqL ?_ | with_reducible refine r_b1 ?_ | with_reducible refine r_b2 ?_ | with_reducible refine r_lc ?_ | with_reducible refine r_lc2 ?_ | with_reducible refine r_enm ?_ | with_reducible refine r_seq ?_ | with_reducible refine r_zip ?_ | with_reducible refine r_rng1 ?_ | with_reducible refine r_rng2 ?_ | with_reducible refine r_tup ?_ | with_reducible refine r_lst ?_ | with_reducible refine r_fn ?_ | with_reducible refine r_fc ?_ | with_reducible refine r_mn ?_ | with_reducible refine r_mc ?_ | with_reducible refine r_cS ?_ | with_reducible refine r_cB ?_ | with_reducible refine r_cN ?_ | with_reducible refine r_neg ?_ | with_reducible refine r_cmp2 ?_ | with_reducible refine r_and ?_ | with_reducible refine r_or ?_ | with_reducible refine r_andc ?_ | with_reducible refine r_andn ?_ | with_reducible refine r_orc ?_ | with_reducible refine r_orn ?_ | with_reducible refine r_not ?_ | with_reducible refine r_ife ?_ | with_reducible refine r_slc ?_ | with_reducible refine r_slcL ?_ | with_reducible refine r_slcH ?_ | with_reducible refine r_slcA ?_ | with_reducible refine r_rev ?_ | with_reducible refine r_isi ?_ | with_reducible refine r_asBv ?_ | with_reducible refine r_lcs ?_ | with_reducible refine r_slL ?_ | with_reducible refine r_slT ?_ | with_reducible refine r_revL ?_ | with_reducible refine r_listL ?_ | with_reducible refine r_listT ?_ | with_reducible refine r_tupT ?_ | with_reducible refine r_dct ?_ | with_reducible refine r_subK ?_ | with_reducible refine r_intI ?_ | with_reducible refine r_lcs2 ?_ | with_reducible refine r_fst ?_ | with_reducible refine r_bnm ?_ | (with_reducible refine r_btp ?_; refine ⟨rfl, ?_⟩) | with_reducible refine r_iteT ?_ | with_reducible refine r_iteF ?_ | (with_reducible refine r_ifT ?_; refine ⟨rfl, ?_⟩) | (with_reducible refine r_ifF ?_; refine ⟨rfl, ?_⟩) | with_reducible refine r_eqI ?_ | with_reducible refine r_neI ?_ | with_reducible refine r_mvL ?_ | with_reducible refine r_gvL ?_ | with_reducible refine r_mvD ?_ | with_reducible refine r_gvD ?_ | (with_reducible refine r_varL ?_; refine ⟨_, rfl, ?_⟩) | (with_reducible refine r_varD ?_; refine ⟨_, rfl, ?_⟩) | (with_reducible refine r_aug ?_; refine ⟨_, rfl, ?_⟩) | with_reducible refine r_ret0 ?_ | with_reducible refine r_tupL ?_ | with_reducible refine r_oneL ?_ | with_reducible refine r_fzL ?_ | with_reducible refine go1 ?_ | with_reducible refine go2 ?_ | with_reducible refine go3 ?_)
  refine r_mul (.inl ?_) ?_
  · have a := Int.fmod_nonneg_of_pos (number * 39373 + 67) (b := 2147483647) (by decide)
    have b := Int.fmod_lt_of_pos (number * 39373 + 67) (b := 2147483647) (by decide)
    omega
  repeat (first | with_reducible refine r_seqnx ?_ | with_reducible refine r_seqrt ?_ | with_reducible refine r_qrt ?_ | with_reducible refine r_cons ?_ | with_reducible refine r_nil ?_ | with_reducible refine r_set ?_ | with_reducible refine r_par ?_ | with_reducible refine r_ret ?_ | with_reducible refine r_retN ?_ | with_reducible refine r_if ?_ | with_reducible refine r_for ?_ | with_reducible refine r_exp ?_ | (with_reducible refine r_var ?_; refine ⟨_, rfl, ?_⟩) | with_reducible refine r_cI ?_ | with_reducible refine r_bin ?_ | with_reducible refine r_cmp ?_ | with_reducible refine r_idx ?_ | with_reducible refine r_cal ?_ | with_reducible refine r_an ?_ | with_reducible refine r_ac ?_ | with_reducible refine r_fz ?_ | with_reducible refine r_mv ?_ | with_reducible refine r_gv ?_ | with_reducible refine r_one ?_ | with_reducible refine r_two ?_ | with_reducible refine r_asI ?_ | with_reducible refine r_add ?_ | with_reducible refine r_sub ?_ | with_reducible refine r_lt ?_ | with_reducible refine r_le ?_ | with_reducible refine r_gt ?_ | with_reducible refine r_ge ?_ | with_reducible refine r_seqT ?_ | with_reducible refine r_seqL ?_ | with_reducible refine r_b1 ?_ | with_reducible refine r_b2 ?_ | with_reducible refine r_lc ?_ | with_reducible refine r_lc2 ?_ | with_reducible refine r_enm ?_ | with_reducible refine r_seq ?_ | with_reducible refine r_zip ?_ | with_reducible refine r_rng1 ?_ | with_reducible refine r_rng2 ?_ | with_reducible refine r_tup ?_ | with_reducible refine r_lst ?_ | with_reducible refine r_fn ?_ | with_reducible refine r_fc ?_ | with_reducible refine r_mn ?_ | with_reducible refine r_mc ?_ | with_reducible refine r_cS ?_ | with_reducible refine r_cB ?_ | with_reducible refine r_cN ?_ | with_reducible refine r_neg ?_ | with_reducible refine r_cmp2 ?_ | with_reducible refine r_and ?_ | with_reducible refine r_or ?_ | with_reducible refine r_andc ?_ | with_reducible refine r_andn ?_ | with_reducible refine r_orc ?_ | with_reducible refine r_orn ?_ | with_reducible refine r_not ?_ | with_reducible refine r_ife ?_ | with_reducible refine r_slc ?_ | with_reducible refine r_slcL ?_ | with_reducible refine r_slcH ?_ | with_reducible refine r_slcA ?_ | with_reducible refine r_rev ?_ | with_reducible refine r_isi ?_ | with_reducible refine r_asBv ?_ | with_reducible refine r_lcs ?_ | with_reducible refine r_slL ?_ | with_reducible refine r_slT ?_ | with_reducible refine r_revL ?_ | with_reducible refine r_listL ?_ | with_reducible refine r_listT ?_ | with_reducible refine r_tupT ?_ | with_reducible refine r_dct ?_ | with_reducible refine r_subK ?_ | with_reducible refine r_intI ?_ | with_reducible refine r_lcs2 ?_ | with_reducible refine r_fst ?_ | with_reducible refine r_bnm ?_ | (with_reducible refine r_btp ?_; refine ⟨rfl, ?_⟩) | with_reducible refine r_iteT ?_ | with_reducible refine r_iteF ?_ | (with_reducible refine r_ifT ?_; refine ⟨rfl, ?_⟩) | (with_reducible refine r_ifF ?_; refine ⟨rfl, ?_⟩) | with_reducible refine r_eqI ?_ | with_reducible refine r_neI ?_ | with_reducible refine r_mvL ?_ | with_reducible refine r_gvL ?_ | with_reducible refine r_mvD ?_ | with_reducible refine r_gvD ?_ | (with_reducible refine r_varL ?_; refine ⟨_, rfl, ?_⟩) | (with_reducible refine r_varD ?_; refine ⟨_, rfl, ?_⟩) | (with_reducible refine r_aug ?_; refine ⟨_, rfl, ?_⟩) | with_reducible refine r_ret0 ?_ | with_reducible refine r_tupL ?_ | with_reducible refine r_oneL ?_ | with_reducible refine r_fzL ?_ | with_reducible refine go1 ?_ | with_reducible refine go2 ?_ | with_reducible refine go3 ?_)
  refine r_getK ⟨_, _, _, rfl, (dk_look _ _ _).2.2, ?_⟩
  repeat (first | with_reducible refine r_seqnx ?_ | with_reducible refine r_seqrt ?_ | with_reducible refine r_qrt ?_ | with_reducible refine r_cons ?_ | with_reducible refine r_nil ?_ | with_reducible refine r_set ?_ | with_reducible refine r_par ?_ | with_reducible refine r_ret ?_ | with_reducible refine r_retN ?_ | with_reducible refine r_if ?_ | with_reducible refine r_for ?_ | with_reducible refine r_exp ?_ | (with_reducible refine r_var ?_; refine ⟨_, rfl, ?_⟩) | with_reducible refine r_cI ?_ | with_reducible refine r_bin ?_ | with_reducible refine r_cmp ?_ | with_reducible refine r_idx ?_ | with_reducible refine r_cal ?_ | with_reducible refine r_an ?_ | with_reducible refine r_ac ?_ | with_reducible refine r_fz ?_ | with_reducible refine r_mv ?_ | with_reducible refine r_gv ?_ | with_reducible refine r_one ?_ | with_reducible refine r_two ?_ | with_reducible refine r_asI ?_ | with_reducible refine r_add ?_ | with_reducible refine r_sub ?_ | with_reducible refine r_lt ?_ | with_reducible refine r_le ?_ | with_reducible refine r_gt ?_ | with_reducible refine r_ge ?_ | with_reducible refine r_seqT ?_ | with_reducible refine r_seqL ?_ | with_reducible refine r_b1 ?_ | with_reducible refine r_b2 ?_ | with_reducible refine r_lc ?_ | with_reducible refine r_lc2 ?_ | with_reducible refine r_enm ?_ | with_reducible refine r_seq ?_ | with_reducible refine r_zip ?_ | with_reducible refine r_rng1 ?_ | with_reducible refine r_rng2 ?_ | with_reducible refine r_tup ?_ | with_reducible refine r_lst ?_ | with_reducible refine r_fn ?_ | with_reducible refine r_fc ?_ | with_reducible refine r_mn ?_ | with_reducible refine r_mc ?_ | with_reducible refine r_cS ?_ | with_reducible refine r_cB ?_ | with_reducible refine r_cN ?_ | with_reducible refine r_neg ?_ | with_reducible refine r_cmp2 ?_ | with_reducible refine r_and ?_ | with_reducible refine r_or ?_ | with_reducible refine r_andc ?_ | with_reducible refine r_andn ?_ | with_reducible refine r_orc ?_ | with_reducible refine r_orn ?_ | with_reducible refine r_not ?_ | with_reducible refine r_ife ?_ | with_reducible refine r_slc ?_ | with_reducible refine r_slcL ?_ | with_reducible refine r_slcH ?_ | with_reducible refine r_slcA ?_ | with_reducible refine r_rev ?_ | with_reducible refine r_isi ?_ | with_reducible refine r_asBv ?_ | with_reducible refine r_lcs ?_ | with_reducible refine r_slL ?_ | with_reducible refine r_slT ?_ | with_reducible refine r_revL ?_ | with_reducible refine r_listL ?_ | with_reducible refine r_listT ?_ | with_reducible refine r_tupT ?_ | with_reducible refine r_dct ?_ | with_reducible refine r_subK ?_ | with_reducible refine r_intI ?_ | with_reducible refine r_lcs2 ?_ | with_reducible refine r_fst ?_ | with_reducible refine r_bnm ?_ | (with_reducible refine r_btp ?_; refine ⟨rfl, ?_⟩) | with_reducible refine r_iteT ?_ | with_reducible refine r_iteF ?_ | (with_reducible refine r_ifT ?_; refine ⟨rfl, ?_⟩) | (with_reducible refine r_ifF ?_; refine ⟨rfl, ?_⟩) | with_reducible refine r_eqI ?_ | with_reducible refine r_neI ?_ | with_reducible refine r_mvL ?_ | with_reducible refine r_gvL ?_ | with_reducible refine r_mvD ?_ | with_reducible refine r_gvD ?_ | (with_reducible refine r_varL ?_; refine ⟨_, rfl, ?_⟩) | (with_reducible refine r_varD ?_; refine ⟨_, rfl, ?_⟩) | (with_reducible refine r_aug ?_; refine ⟨_, rfl, ?_⟩) | with_reducible refine r_ret0 ?_ | with_reducible refine r_tupL ?_ | with_reducible refine r_oneL ?_ | with_reducible refine r_fzL ?_ | with_reducible refine go1 ?_ | with_reducible refine go2 ?_ | with_reducible refine go3 ?_)
  refine r_mul (.inl (by decide)) ?_
  repeat (first | with_reducible refine r_seqnx ?_ | with_reducible refine r_seqrt ?_ | with_reducible refine r_qrt ?_ | with_reducible refine r_cons ?_ | with_reducible refine r_nil ?_ | with_reducible refine r_set ?_ | with_reducible refine r_par ?_ | with_reducible refine r_ret ?_ | with_reducible refine r_retN ?_ | with_reducible refine r_if ?_ | with_reducible refine r_for ?_ | with_reducible refine r_exp ?_ | (with_reducible refine r_var ?_; refine ⟨_, rfl, ?_⟩) | with_reducible refine r_cI ?_ | with_reducible refine r_bin ?_ | with_reducible refine r_cmp ?_ | with_reducible refine r_idx ?_ | with_reducible refine r_cal ?_ | with_reducible refine r_an ?_ | with_reducible refine r_ac ?_ | with_reducible refine r_fz ?_ | with_reducible refine r_mv ?_ | with_reducible refine r_gv ?_ | with_reducible refine r_one ?_ | with_reducible refine r_two ?_ | with_reducible refine r_asI ?_ | with_reducible refine r_add ?_ | with_reducible refine r_sub ?_ | with_reducible refine r_lt ?_ | with_reducible refine r_le ?_ | with_reducible refine r_gt ?_ | with_reducible refine r_ge ?_ | with_reducible refine r_seqT ?_ | with_reducible refine r_seqL ?_ | with_reducible refine r_b1 ?_ | with_reducible refine r_b2 ?_ | with_reducible refine r_lc ?_ | with_reducible refine r_lc2 ?_ | with_reducible refine r_enm ?_ | with_reducible refine r_seq ?_ | with_reducible refine r_zip ?_ | with_reducible refine r_rng1 ?_ | with_reducible refine r_rng2 ?_ | with_reducible refine r_tup ?_ | with_reducible refine r_lst ?_ | with_reducible refine r_fn ?_ | with_reducible refine r_fc ?_ | with_reducible refine r_mn ?_ | with_reducible refine r_mc ?_ | with_reducible refine r_cS ?_ | with_reducible refine r_cB ?_ | with_reducible refine r_cN ?_ | with_reducible refine r_neg ?_ | with_reducible refine r_cmp2 ?_ | with_reducible refine r_and ?_ | with_reducible refine r_or ?_ | with_reducible refine r_andc ?_ | with_reducible refine r_andn ?_ | with_reducible refine r_orc ?_ | with_reducible refine r_orn ?_ | with_reducible refine r_not ?_ | with_reducible refine r_ife ?_ | with_reducible refine r_slc ?_ | with_reducible refine r_slcL ?_ | with_reducible refine r_slcH ?_ | with_reducible refine r_slcA ?_ | with_reducible refine r_rev ?_ | with_reducible refine r_isi ?_ | with_reducible refine r_asBv ?_ | with_reducible refine r_lcs ?_ | with_reducible refine r_slL ?_ | with_reducible refine r_slT ?_ | with_reducible refine r_revL ?_ | with_reducible refine r_listL ?_ | with_reducible refine r_listT ?_ | with_reducible refine r_tupT ?_ | with_reducible refine r_dct ?_ | with_reducible refine r_subK ?_ | with_reducible refine r_intI ?_ | with_reducible refine r_lcs2 ?_ | with_reducible refine r_fst ?_ | with_reducible refine r_bnm ?_ | (with_reducible refine r_btp ?_; refine ⟨rfl, ?_⟩) | with_reducible refine r_iteT ?_ | with_reducible refine r_iteF ?_ | (with_reducible refine r_ifT ?_; refine ⟨rfl, ?_⟩) | (with_reducible refine r_ifF ?_; refine ⟨rfl, ?_⟩) | with_reducible refine r_eqI ?_ | with_reducible refine r_neI ?_ | with_reducible refine r_mvL ?_ | with_reducible refine r_gvL ?_ | with_reducible refine r_mvD ?_ | with_reducible refine r_gvD ?_ | (with_reducible refine r_varL ?_; refine ⟨_, rfl, ?_⟩) | (with_reducible refine r_varD ?_; refine ⟨_, rfl, ?_⟩) | (with_reducible refine r_aug ?_; refine ⟨_, rfl, ?_⟩) | with_reducible refine r_ret0 ?_ | with_reducible refine r_tupL ?_ | with_reducible refine r_oneL ?_ | with_reducible refine r_fzL ?_ | with_reducible refine go1 ?_ | with_reducible refine go2 ?_ | with_reducible refine go3 ?_)
  refine r_mod (by decide) ?_
  repeat (first | with_reducible refine r_seqnx ?_ | with_reducible refine r_seqrt ?_ | with_reducible refine r_qrt ?_ | with_reducible refine r_cons ?_ | with_reducible refine r_nil ?_ | with_reducible refine r_set ?_ | with_reducible refine r_par ?_ | with_reducible refine r_ret ?_ | with_reducible refine r_retN ?_ | with_reducible refine r_if ?_ | with_reducible refine r_for ?_ | with_reducible refine r_exp ?_ | (with_reducible refine r_var ?_; refine ⟨_, rfl, ?_⟩) | with_reducible refine r_cI ?_ | with_reducible refine r_bin ?_ | with_reducible refine r_cmp ?_ | with_reducible refine r_idx ?_ | with_reducible refine r_cal ?_ | with_reducible refine r_an ?_ | with_reducible refine r_ac ?_ | with_reducible refine r_fz ?_ | with_reducible refine r_mv ?_ | with_reducible refine r_gv ?_ | with_reducible refine r_one ?_ | with_reducible refine r_two ?_ | with_reducible refine r_asI ?_ | with_reducible refine r_add ?_ | with_reducible refine r_sub ?_ | with_reducible refine r_lt ?_ | with_reducible refine r_le ?_ | with_reducible refine r_gt ?_ | with_reducible refine r_ge ?_ | with_reducible refine r_seqT ?_ | with_reducible refine r_seqL ?_ | with_reducible refine r_b1 ?_ | with_reducible refine r_b2 ?_ | with_reducible refine r_lc ?_ | with_reducible refine r_lc2 ?_ | with_reducible refine r_enm ?_ | with_reducible refine r_seq ?_ | with_reducible refine r_zip ?_ | with_reducible refine r_rng1 ?_ | with_reducible refine r_rng2 ?_ | with_reducible refine r_tup ?_ | with_reducible refine r_lst ?_ | with_reducible refine r_fn ?_ | with_reducible refine r_fc ?_ | with_reducible refine r_mn ?_ | with_reducible refine r_mc ?_ | with_reducible refine r_cS ?_ | with_reducible refine r_cB ?_ | with_reducible refine r_cN ?_ | with_reducible refine r_neg ?_ | with_reducible refine r_cmp2 ?_ | with_reducible refine r_and ?_ | with_reducible refine r_or ?_ | with_reducible refine r_andc ?_ | with_reducible refine r_andn ?_ | with_reducible refine r_orc ?_ | with_reducible refine r_orn ?_ | with_reducible refine r_not ?_ | with_reducible refine r_ife ?_ | with_reducible refine r_slc ?_ | with_reducible refine r_slcL ?_ | with_reducible refine r_slcH ?_ | with_reducible refine r_slcA ?_ | with_reducible refine r_rev ?_ | with_reducible refine r_isi ?_ | with_reducible refine r_asBv ?_ | with_reducible refine r_lcs ?_ | with_reducible refine r_slL ?_ | with_reducible refine r_slT ?_ | with_reducible refine r_revL ?_ | with_reducible refine r_listL ?_ | with_reducible refine r_listT ?_ | with_reducible refine r_tupT ?_ | with_reducible refine r_dct ?_ | with_reducible refine r_subK ?_ | with_reducible refine r_intI ?_ | with_reducible refine r_lcs2 ?_ | with_reducible refine r_fst ?_ | with_reducible refine r_bnm ?_ | (with_reducible refine r_btp ?_; refine ⟨rfl, ?_⟩) | with_reducible refine r_iteT ?_ | with_reducible refine r_iteF ?_ | (with_reducible refine r_ifT ?_; refine ⟨rfl, ?_⟩) | (with_reducible refine r_ifF ?_; refine ⟨rfl, ?_⟩) | with_reducible refine r_eqI ?_ | with_reducible refine r_neI ?_ | with_reducible refine r_mvL ?_ | with_reducible refine r_gvL ?_ | with_reducible refine r_mvD ?_ | with_reducible refine r_gvD ?_ | (with_reducible refine r_varL ?_; refine ⟨_, rfl, ?_⟩) | (with_reducible refine r_varD ?_; refine ⟨_, rfl, ?_⟩) | (with_reducible refine r_aug ?_; refine ⟨_, rfl, ?_⟩) | with_reducible refine r_ret0 ?_ | with_reducible refine r_tupL ?_ | with_reducible refine r_oneL ?_ | with_reducible refine r_fzL ?_ | with_reducible refine go1 ?_ | with_reducible refine go2 ?_ | with_reducible refine go3 ?_)
  refine r_mul (.inr (.inl (by decide))) ?_
  repeat (first | with_reducible refine r_seqnx ?_ | with_reducible refine r_seqrt ?_ | with_reducible refine r_qrt ?_ | with_reducible refine r_cons ?_ | with_reducible refine r_nil ?_ | with_reducible refine r_set ?_ | with_reducible refine r_par ?_ | with_reducible refine r_ret ?_ | with_reducible refine r_retN ?_ | with_reducible refine r_if ?_ | with_reducible refine r_for ?_ | with_reducible refine r_exp ?_ | (with_reducible refine r_var ?_; refine ⟨_, rfl, ?_⟩) | with_reducible refine r_cI ?_ | with_reducible refine r_bin ?_ | with_reducible refine r_cmp ?_ | with_reducible refine r_idx ?_ | with_reducible refine r_cal ?_ | with_reducible refine r_an ?_ | with_reducible refine r_ac ?_ | with_reducible refine r_fz ?_ | with_reducible refine r_mv ?_ | with_reducible refine r_gv ?_ | with_reducible refine r_one ?_ | with_reducible refine r_two ?_ | with_reducible refine r_asI ?_ | with_reducible refine r_add ?_ | with_reducible refine r_sub ?_ | with_reducible refine r_lt ?_ | with_reducible refine r_le ?_ | with_reducible refine r_gt ?_ | with_reducible refine r_ge ?_ | with_reducible refine r_seqT ?_ | with_reducible refine r_seqL ?_ | with_reducible refine r_b1 ?_ | with_reducible refine r_b2 ?_ | with_reducible refine r_lc ?_ | with_reducible refine r_lc2 ?_ | with_reducible refine r_enm ?_ | with_reducible refine r_seq ?_ | with_reducible refine r_zip ?_ | with_reducible refine r_rng1 ?_ | with_reducible refine r_rng2 ?_ | with_reducible refine r_tup ?_ | with_reducible refine r_lst ?_ | with_reducible refine r_fn ?_ | with_reducible refine r_fc ?_ | with_reducible refine r_mn ?_ | with_reducible refine r_mc ?_ | with_reducible refine r_cS ?_ | with_reducible refine r_cB ?_ | with_reducible refine r_cN ?_ | with_reducible refine r_neg ?_ | with_reducible refine r_cmp2 ?_ | with_reducible refine r_and ?_ | with_reducible refine r_or ?_ | with_reducible refine r_andc ?_ | with_reducible refine r_andn ?_ | with_reducible refine r_orc ?_ | with_reducible refine r_orn ?_ | with_reducible refine r_not ?_ | with_reducible refine r_ife ?_ | with_reducible refine r_slc ?_ | with_reducible refine r_slcL ?_ | with_reducible refine r_slcH ?_ | with_reducible refine r_slcA ?_ | with_reducible refine r_rev ?_ | with_reducible refine r_isi ?_ | with_reducible refine r_asBv ?_ | with_reducible refine r_lcs ?_ | with_reducible refine r_slL ?_ | with_reducible refine r_slT ?_ | with_reducible refine r_revL ?_ | with_reducible refine r_listL ?_ | with_reducible refine r_listT ?_ | with_reducible refine r_tupT ?_ | with_reducible refine r_dct ?_ | with_reducible refine r_subK ?_ | with_reducible refine r_intI ?_ | with_reducible refine r_lcs2 ?_ | with_reducible refine r_fst ?_ | with_reducible refine r_bnm ?_ | (with_reducible refine r_btp ?_; refine ⟨rfl, ?_⟩) | with_reducible refine r_iteT ?_ | with_reducible refine r_iteF ?_ | (with_reducible refine r_ifT ?_; refine ⟨rfl, ?_⟩) | (with_reducible refine r_ifF ?_; refine ⟨rfl, ?_⟩) | with_reducible refine r_eqI ?_ | with_reducible refine r_neI ?_ | with_reducible refine r_mvL ?_ | with_reducible refine r_gvL ?_ | with_reducible refine r_mvD ?_ | with_reducible refine r_gvD ?_ | (with_reducible refine r_varL ?_; refine ⟨_, rfl, ?_⟩) | (with_reducible refine r_varD ?_; refine ⟨_, rfl, ?_⟩) | (with_reducible refine r_aug ?_; refine ⟨_, rfl, ?_⟩) | with_reducible refine r_ret0 ?_ | with_reducible refine r_tupL ?_ | with_reducible refine r_oneL ?_ | with_reducible refine r_fzL ?_ | with_reducible refine go1 ?_ | with_reducible refine go2 ?_ | with_reducible refine go3 ?_)
  refine r_mod (by decide) ?_
  repeat (first | with_reducible refine r_seqnx ?_ | with_reducible refine r_seqrt ?_ | with_reducible refine r_qrt ?_ | with_reducible refine r_cons ?_ | with_reducible refine r_nil ?_ | with_reducible refine r_set ?_ | with_reducible refine r_par ?_ | with_reducible refine r_ret ?_ | with_reducible refine r_retN ?_ | with_reducible refine r_if ?_ | with_reducible refine r_for ?_ | with_reducible refine r_exp ?_ | (with_reducible refine r_var ?_; refine ⟨_, rfl, ?_⟩) | with_reducible refine r_cI ?_ | with_reducible refine r_bin ?_ | with_reducible refine r_cmp ?_ | with_reducible refine r_idx ?_ | with_reducible refine r_cal ?_ | with_reducible refine r_an ?_ | with_reducible refine r_ac ?_ | with_reducible refine r_fz ?_ | with_reducible refine r_mv ?_ | with_reducible refine r_gv ?_ | with_reducible refine r_one ?_ | with_reducible refine r_two ?_ | with_reducible refine r_asI ?_ | with_reducible refine r_add ?_ | with_reducible refine r_sub ?_ | with_reducible refine r_lt ?_ | with_reducible refine r_le ?_ | with_reducible refine r_gt ?_ | with_reducible refine r_ge ?_ | with_reducible refine r_seqT ?_ | with_reducible refine r_seqL ?_ | with_reducible refine r_b1 ?_ | with_reducible refine r_b2 ?_ | with_reducible refine r_lc ?_ | with_reducible refine r_lc2 ?_ | with_reducible refine r_enm ?_ | with_reducible refine r_seq ?_ | with_reducible refine r_zip ?_ | with_reducible refine r_rng1 ?_ | with_reducible refine r_rng2 ?_ | with_reducible refine r_tup ?_ | with_reducible refine r_lst ?_ | with_reducible refine r_fn ?_ | with_reducible refine r_fc ?_ | with_reducible refine r_mn ?_ | with_reducible refine r_mc ?_ | with_reducible refine r_cS ?_ | with_reducible refine r_cB ?_ | with_reducible refine r_cN ?_ | with_reducible refine r_neg ?_ | with_reducible refine r_cmp2 ?_ | with_reducible refine r_and ?_ | with_reducible refine r_or ?_ | with_reducible refine r_andc ?_ | with_reducible refine r_andn ?_ | with_reducible refine r_orc ?_ | with_reducible refine r_orn ?_ | with_reducible refine r_not ?_ | with_reducible refine r_ife ?_ | with_reducible refine r_slc ?_ | with_reducible refine r_slcL ?_ | with_reducible refine r_slcH ?_ | with_reducible refine r_slcA ?_ | with_reducible refine r_rev ?_ | with_reducible refine r_isi ?_ | with_reducible refine r_asBv ?_ | with_reducible refine r_lcs ?_ | with_reducible refine r_slL ?_ | with_reducible refine r_slT ?_ | with_reducible refine r_revL ?_ | with_reducible refine r_listL ?_ | with_reducible refine r_listT ?_ | with_reducible refine r_tupT ?_ | with_reducible refine r_dct ?_ | with_reducible refine r_subK ?_ | with_reducible refine r_intI ?_ | with_reducible refine r_lcs2 ?_ | with_reducible refine r_fst ?_ | with_reducible refine r_bnm ?_ | (with_reducible refine r_btp ?_; refine ⟨rfl, ?_⟩) | with_reducible refine r_iteT ?_ | with_reducible refine r_iteF ?_ | (with_reducible refine r_ifT ?_; refine ⟨rfl, ?_⟩) | (with_reducible refine r_ifF ?_; refine ⟨rfl, ?_⟩) | with_reducible refine r_eqI ?_ | with_reducible refine r_neI ?_ | with_reducible refine r_mvL ?_ | with_reducible refine r_gvL ?_ | with_reducible refine r_mvD ?_ | with_reducible refine r_gvD ?_ | (with_reducible refine r_varL ?_; refine ⟨_, rfl, ?_⟩) | (with_reducible refine r_varD ?_; refine ⟨_, rfl, ?_⟩) | (with_reducible refine r_aug ?_; refine ⟨_, rfl, ?_⟩) | with_reducible refine r_ret0 ?_ | with_reducible refine r_tupL ?_ | with_reducible refine r_oneL ?_ | with_reducible refine r_fzL ?_ | with_reducible refine go1 ?_ | with_reducible refine go2 ?_ | with_reducible refine go3 ?_)
  refine r_fdiv (by decide) (Nat.lt_of_lt_of_le (by decide : (64 : Int).natAbs < 2 ^ 64) (Nat.pow_le_pow_right (by decide) (by decide))) ?_
  repeat (first | with_reducible refine r_seqnx ?_ | with_reducible refine r_seqrt ?_ | with_reducible refine r_qrt ?_ | with_reducible refine r_cons ?_ | with_reducible refine r_nil ?_ | with_reducible refine r_set ?_ | with_reducible refine r_par ?_ | with_reducible refine r_ret ?_ | with_reducible refine r_retN ?_ | with_reducible refine r_if ?_ | with_reducible refine r_for ?_ | with_reducible refine r_exp ?_ | (with_reducible refine r_var ?_; refine ⟨_, rfl, ?_⟩) | with_reducible refine r_cI ?_ | with_reducible refine r_bin ?_ | with_reducible refine r_cmp ?_ | with_reducible refine r_idx ?_ | with_reducible refine r_cal ?_ | with_reducible refine r_an ?_ | with_reducible refine r_ac ?_ | with_reducible refine r_fz ?_ | with_reducible refine r_mv ?_ | with_reducible refine r_gv ?_ | with_reducible refine r_one ?_ | with_reducible refine r_two ?_ | with_reducible refine r_asI ?_ | with_reducible refine r_add ?_ | with_reducible refine r_sub ?_ | with_reducible refine r_lt ?_ | with_reducible refine r_le ?_ | with_reducible refine r_gt ?_ | with_reducible refine r_ge ?_ | with_reducible refine r_seqT ?_ | with_reducible refine r_seqL ?_ | with_reducible refine r_b1 ?_ | with_reducible refine r_b2 ?_ | with_reducible refine r_lc ?_ | with_reducible refine r_lc2 ?_ | with_reducible refine r_enm ?_ | with_reducible refine r_seq ?_ | with_reducible refine r_zip ?_ | with_reducible refine r_rng1 ?_ | with_reducible refine r_rng2 ?_ | with_reducible refine r_tup ?_ | with_reducible refine r_lst ?_ | with_reducible refine r_fn ?_ | with_reducible refine r_fc ?_ | with_reducible refine r_mn ?_ | with_reducible refine r_mc ?_ | with_reducible refine r_cS ?_ | with_reducible refine r_cB ?_ | with_reducible refine r_cN ?_ | with_reducible refine r_neg ?_ | with_reducible refine r_cmp2 ?_ | with_reducible refine r_and ?_ | with_reducible refine r_or ?_ | with_reducible refine r_andc ?_ | with_reducible refine r_andn ?_ | with_reducible refine r_orc ?_ | with_reducible refine r_orn ?_ | with_reducible refine r_not ?_ | with_reducible refine r_ife ?_ | with_reducible refine r_slc ?_ | with_reducible refine r_slcL ?_ | with_reducible refine r_slcH ?_ | with_reducible refine r_slcA ?_ | with_reducible refine r_rev ?_ | with_reducible refine r_isi ?_ | with_reducible refine r_asBv ?_ | with_reducible refine r_lcs ?_ | with_reducible refine r_slL ?_ | with_reducible refine r_slT ?_ | with_reducible refine r_revL ?_ | with_reducible refine r_listL ?_ | with_reducible refine r_listT ?_ | with_reducible refine r_tupT ?_ | with_reducible refine r_dct ?_ | with_reducible refine r_subK ?_ | with_reducible refine r_intI ?_ | with_reducible refine r_lcs2 ?_ | with_reducible refine r_fst ?_ | with_reducible refine r_bnm ?_ | (with_reducible refine r_btp ?_; refine ⟨rfl, ?_⟩) | with_reducible refine r_iteT ?_ | with_reducible refine r_iteF ?_ | (with_reducible refine r_ifT ?_; refine ⟨rfl, ?_⟩) | (with_reducible refine r_ifF ?_; refine ⟨rfl, ?_⟩) | with_reducible refine r_eqI ?_ | with_reducible refine r_neI ?_ | with_reducible refine r_mvL ?_ | with_reducible refine r_gvL ?_ | with_reducible refine r_mvD ?_ | with_reducible refine r_gvD ?_ | (with_reducible refine r_varL ?_; refine ⟨_, rfl, ?_⟩) | (with_reducible refine r_varD ?_; refine ⟨_, rfl, ?_⟩) | (with_reducible refine r_aug ?_; refine ⟨_, rfl, ?_⟩) | with_reducible refine r_ret0 ?_ | with_reducible refine r_tupL ?_ | with_reducible refine r_oneL ?_ | with_reducible refine r_fzL ?_ | with_reducible refine go1 ?_ | with_reducible refine go2 ?_ | with_reducible refine go3 ?_)
  refine r_mod (by omega) ?_
  repeat (first | with_reducible refine r_seqnx ?_ | with_reducible refine r_seqrt ?_ | with_reducible refine r_qrt ?_ | with_reducible refine r_cons ?_ | with_reducible refine r_nil ?_ | with_reducible refine r_set ?_ | with_reducible refine r_par ?_ | with_reducible refine r_ret ?_ | with_reducible refine r_retN ?_ | with_reducible refine r_if ?_ | with_reducible refine r_for ?_ | with_reducible refine r_exp ?_ | (with_reducible refine r_var ?_; refine ⟨_, rfl, ?_⟩) | with_reducible refine r_cI ?_ | with_reducible refine r_bin ?_ | with_reducible refine r_cmp ?_ | with_reducible refine r_idx ?_ | with_reducible refine r_cal ?_ | with_reducible refine r_an ?_ | with_reducible refine r_ac ?_ | with_reducible refine r_fz ?_ | with_reducible refine r_mv ?_ | with_reducible refine r_gv ?_ | with_reducible refine r_one ?_ | with_reducible refine r_two ?_ | with_reducible refine r_asI ?_ | with_reducible refine r_add ?_ | with_reducible refine r_sub ?_ | with_reducible refine r_lt ?_ | with_reducible refine r_le ?_ | with_reducible refine r_gt ?_ | with_reducible refine r_ge ?_ | with_reducible refine r_seqT ?_ | with_reducible refine r_seqL ?_ | with_reducible refine r_b1 ?_ | with_reducible refine r_b2 ?_ | with_reducible refine r_lc ?_ | with_reducible refine r_lc2 ?_ | with_reducible refine r_enm ?_ | with_reducible refine r_seq ?_ | with_reducible refine r_zip ?_ | with_reducible refine r_rng1 ?_ | with_reducible refine r_rng2 ?_ | with_reducible refine r_tup ?_ | with_reducible refine r_lst ?_ | with_reducible refine r_fn ?_ | with_reducible refine r_fc ?_ | with_reducible refine r_mn ?_ | with_reducible refine r_mc ?_ | with_reducible refine r_cS ?_ | with_reducible refine r_cB ?_ | with_reducible refine r_cN ?_ | with_reducible refine r_neg ?_ | with_reducible refine r_cmp2 ?_ | with_reducible refine r_and ?_ | with_reducible refine r_or ?_ | with_reducible refine r_andc ?_ | with_reducible refine r_andn ?_ | with_reducible refine r_orc ?_ | with_reducible refine r_orn ?_ | with_reducible refine r_not ?_ | with_reducible refine r_ife ?_ | with_reducible refine r_slc ?_ | with_reducible refine r_slcL ?_ | with_reducible refine r_slcH ?_ | with_reducible refine r_slcA ?_ | with_reducible refine r_rev ?_ | with_reducible refine r_isi ?_ | with_reducible refine r_asBv ?_ | with_reducible refine r_lcs ?_ | with_reducible refine r_slL ?_ | with_reducible refine r_slT ?_ | with_reducible refine r_revL ?_ | with_reducible refine r_listL ?_ | with_reducible refine r_listT ?_ | with_reducible refine r_tupT ?_ | with_reducible refine r_dct ?_ | with_reducible refine r_subK ?_ | with_reducible refine r_intI ?_ | with_reducible refine r_lcs2 ?_ | with_reducible refine r_fst ?_ | with_reducible refine r_bnm ?_ | (with_reducible refine r_btp ?_; refine ⟨rfl, ?_⟩) | with_reducible refine r_iteT ?_ | with_reducible refine r_iteF ?_ | (with_reducible refine r_ifT ?_; refine ⟨rfl, ?_⟩) | (with_reducible refine r_ifF ?_; refine ⟨rfl, ?_⟩) | with_reducible refine r_eqI ?_ | with_reducible refine r_neI ?_ | with_reducible refine r_mvL ?_ | with_reducible refine r_gvL ?_ | with_reducible refine r_mvD ?_ | with_reducible refine r_gvD ?_ | (with_reducible refine r_varL ?_; refine ⟨_, rfl, ?_⟩) | (with_reducible refine r_varD ?_; refine ⟨_, rfl, ?_⟩) | (with_reducible refine r_aug ?_; refine ⟨_, rfl, ?_⟩) | with_reducible refine r_ret0 ?_ | with_reducible refine r_tupL ?_ | with_reducible refine r_oneL ?_ | with_reducible refine r_fzL ?_ | with_reducible refine go1 ?_ | with_reducible refine go2 ?_ | with_reducible refine go3 ?_)
  exact r_q1rt rfl (h _ cells m d (Int.fmod_nonneg_of_pos _ h1) (Int.fmod_lt_of_pos _ h1) hc)
theorem sp_draw (n : Nat) (cells : List Int) (m d many : Int) (hc : cells.length ≤ 63) (h1 : 0 < many) (h2 : many < 2 ^ 64) (Q : W → List W → Prop) (h : ∀ r cs m' d', 0 ≤ r → r < many → cs.length ≤ 63 → Q (.d (.int r)) [dk cs m' d']) : callN TB (n + 1) i__law_draw [dk cells m d, .d (.int many)] Q := by
  refine r_call1 tb__law_draw rfl ?_
  simp only [b__law_draw, List.map_cons, List.map_nil, List.replicate, List.cons_append, List.nil_append, Nat.reduceSub, dk]
  repeat (first | with_reducible refine r_seqnx ?_ | with_reducible refine r_seqrt ?_ | with_reducible refine r_qrt ?_ | with_reducible refine r_cons ?_ | with_reducible refine r_nil ?_ | with_reducible refine r_set ?_ | with_reducible refine r_par ?_ | with_reducible refine r_ret ?_ | with_reducible refine r_retN ?_ | with_reducible refine r_if ?_ | with_reducible refine r_for ?_ | with_reducible refine r_exp ?_ | (with_reducible refine r_var ?_; refine ⟨_, rfl, ?_⟩) | with_reducible refine r_cI ?_ | with_reducible refine r_bin ?_ | with_reducible refine r_cmp ?_ | with_reducible refine r_idx ?_ | with_reducible refine r_cal ?_ | with_reducible refine r_an ?_ | with_reducible refine r_ac ?_ | with_reducible refine r_fz ?_ | with_reducible refine r_mv ?_ | with_reducible refine r_gv ?_ | with_reducible refine r_one ?_ | with_reducible refine r_two ?_ | with_reducible refine r_asI ?_ | with_reducible refine r_add ?_ | with_reducible refine r_sub ?_ | with_reducible refine r_lt ?_ | with_reducible refine r_le ?_ | with_reducible refine r_gt ?_ | with_reducible refine r_ge ?_ | with_reducible refine r_seqT ?_ | with_reducible refine r_seqL ?_ | with_reducible refine r_b1 ?_ | with_reducible refine r_b2 ?_ | with_reducible refine r_lc ?_ | with_reducible refine r_lc2 ?_ | with_reducible refine r_enm ?_ | with_reducible refine r_seq ?_ | with_reducible refine r_zip ?_ | with_reducible refine r_rng1 ?_ | with_reducible refine r_rng2 ?_ | with_reducible refine r_tup ?_ | with_reducible refine r_lst ?_ | with_reducible refine r_fn ?_ | with_reducible refine r_fc ?_ | with_reducible refine r_mn ?_ | with_reducible refine r_mc ?_ | with_reducible refine r_cS ?_ | with_reducible refine r_cB ?_ | with_reducible refine r_cN ?_ | with_reducible refine r_neg ?_ | with_reducible refine r_cmp2 ?_ | with_reducible refine r_and ?_ | with_reducible refine r_or ?_ | with_reducible refine r_andc ?_ | with_reducible refine r_andn ?_ | with_reducible refine r_orc ?_ | with_reducible refine r_orn ?_ | with_reducible refine r_not ?_ | with_reducible refine r_ife ?_ | with_reducible refine r_slc ?_ | with_reducible refine r_slcL ?_ | with_reducible refine r_slcH ?_ | with_reducible refine r_slcA ?_ | with_reducible refine r_rev ?_ | with_reducible refine r_isi ?_ | with_reducible refine r_asBv ?_ | with_reducible refine r_lcs ?_ | with_reducible refine r_slL ?_ | with_reducible refine r_slT ?_ | with_reducible refine r_revL ?_ | with_reducible refine r_listL ?_ | with_reducible refine r_listT ?_ | with_reducible refine r_tupT ?_ | with_reducible refine r_dct ?_ | with_reducible refine r_subK ?_ | with_reducible refine r_intI ?_ | with_reducible refine r_lcs2 ?_ | with_reducible refine r_fst ?_ | with_reducible refine r_bnm ?_ | (with_reducible refine r_btp ?_; refine ⟨rfl, ?_⟩) | with_reducible refine r_iteT ?_ | with_reducible refine r_iteF ?_ | (with_reducible refine r_ifT ?_; refine ⟨rfl, ?_⟩) | (with_reducible refine r_ifF ?_; refine ⟨rfl, ?_⟩) | with_reducible refine r_eqI ?_ | with_reducible refine r_neI ?_ | with_reducible refine r_mvL ?_ | with_reducible refine r_gvL ?_ | with_reducible refine r_mvD ?_ | with_reducible refine r_gvD ?_ | (with_reducible refine r_varL ?_; refine ⟨_, rfl, ?_⟩) | (with_reducible refine r_varD ?_; refine ⟨_, rfl, ?_⟩) | (with_reducible refine r_aug ?_; refine ⟨_, rfl, ?_⟩) | with_reducible refine r_ret0 ?_ | with_reducible refine r_tupL ?_ | with_reducible refine r_oneL ?_ | with_reducible refine r_fzL ?_ | with_reducible refine go1 ?_ | with_reducible refine go2 ?_ | with_reducible refine go3 ?_)
  refine r_getK ⟨_, _, _, rfl, (dk_look _ _ _).2.2, ?_⟩
  repeat (first | with_reducible refine r_seqnx ?_ | with_reducible refine r_seqrt ?_ | with_reducible refine r_qrt ?_ | with_reducible refine r_cons ?_ | with_reducible refine r_nil ?_ | with_reducible refine r_set ?_ | with_reducible refine r_par ?_ | with_reducible refine r_ret ?_ | with_reducible refine r_retN ?_ | with_reducible refine r_if ?_ | with_reducible refine r_for ?_ | with_reducible refine r_exp ?_ | (with_reducible refine r_var ?_; refine ⟨_, rfl, ?_⟩) | with_reducible refine r_cI ?_ | with_reducible refine r_bin ?_ | with_reducible refine r_cmp ?_ | with_reducible refine r_idx ?_ | with_reducible refine r_cal ?_ | with_reducible refine r_an ?_ | with_reducible refine r_ac ?_ | with_reducible refine r_fz ?_ | with_reducible refine r_mv ?_ | with_reducible refine r_gv ?_ | with_reducible refine r_one ?_ | with_reducible refine r_two ?_ | with_reducible refine r_asI ?_ | with_reducible refine r_add ?_ | with_reducible refine r_sub ?_ | with_reducible refine r_lt ?_ | with_reducible refine r_le ?_ | with_reducible refine r_gt ?_ | with_reducible refine r_ge ?_ | with_reducible refine r_seqT ?_ | with_reducible refine r_seqL ?_ | with_reducible refine r_b1 ?_ | with_reducible refine r_b2 ?_ | with_reducible refine r_lc ?_ | with_reducible refine r_lc2 ?_ | with_reducible refine r_enm ?_ | with_reducible refine r_seq ?_ | with_reducible refine r_zip ?_ | with_reducible refine r_rng1 ?_ | with_reducible refine r_rng2 ?_ | with_reducible refine r_tup ?_ | with_reducible refine r_lst ?_ | with_reducible refine r_fn ?_ | with_reducible refine r_fc ?_ | with_reducible refine r_mn ?_ | with_reducible refine r_mc ?_ | with_reducible refine r_cS ?_ | with_reducible refine r_cB ?_ | with_reducible refine r_cN ?_ | with_reducible refine r_neg ?_ | with_reducible refine r_cmp2 ?_ | with_reducible refine r_and ?_ | with_reducible refine r_or ?_ | with_reducible refine r_andc ?_ | with_reducible refine r_andn ?_ | with_reducible refine r_orc ?_ | with_reducible refine r_orn ?_ | with_reducible refine r_not ?_ | with_reducible refine r_ife ?_ | with_reducible refine r_slc ?_ | with_reducible refine r_slcL ?_ | with_reducible refine r_slcH ?_ | with_reducible refine r_slcA ?_ | with_reducible refine r_rev ?_ | with_reducible refine r_isi ?_ | with_reducible refine r_asBv ?_ | with_reducible refine r_lcs ?_ | with_reducible refine r_slL ?_ | with_reducible refine r_slT ?_ | with_reducible refine r_revL ?_ | with_reducible refine r_listL ?_ | with_reducible refine r_listT ?_ | with_reducible refine r_tupT ?_ | with_reducible refine r_dct ?_ | with_reducible refine r_subK ?_ | with_reducible refine r_intI ?_ | with_reducible refine r_lcs2 ?_ | with_reducible refine r_fst ?_ | with_reducible refine r_bnm ?_ | (with_reducible refine r_btp ?_; refine ⟨rfl, ?_⟩) | with_reducible refine r_iteT ?_ | with_reducible refine r_iteF ?_ | (with_reducible refine r_ifT ?_; refine ⟨rfl, ?_⟩) | (with_reducible refine r_ifF ?_; refine ⟨rfl, ?_⟩) | with_reducible refine r_eqI ?_ | with_reducible refine r_neI ?_ | with_reducible refine r_mvL ?_ | with_reducible refine r_gvL ?_ | with_reducible refine r_mvD ?_ | with_reducible refine r_gvD ?_ | (with_reducible refine r_varL ?_; refine ⟨_, rfl, ?_⟩) | (with_reducible refine r_varD ?_; refine ⟨_, rfl, ?_⟩) | (with_reducible refine r_aug ?_; refine ⟨_, rfl, ?_⟩) | with_reducible refine r_ret0 ?_ | with_reducible refine r_tupL ?_ | with_reducible refine r_oneL ?_ | with_reducible refine r_fzL ?_ | with_reducible refine go1 ?_ | with_reducible refine go2 ?_ | with_reducible refine go3 ?_)
  refine ⟨_, _, rfl, by rw [(dk_look _ _ _).2.2]; rfl, by decide, ?_⟩
  rw [(dk_put cells cells m d (d + 1)).2]
  repeat (first | with_reducible refine r_seqnx ?_ | with_reducible refine r_seqrt ?_ | with_reducible refine r_qrt ?_ | with_reducible refine r_cons ?_ | with_reducible refine r_nil ?_ | with_reducible refine r_set ?_ | with_reducible refine r_par ?_ | with_reducible refine r_ret ?_ | with_reducible refine r_retN ?_ | with_reducible refine r_if ?_ | with_reducible refine r_for ?_ | with_reducible refine r_exp ?_ | (with_reducible refine r_var ?_; refine ⟨_, rfl, ?_⟩) | with_reducible refine r_cI ?_ | with_reducible refine r_bin ?_ | with_reducible refine r_cmp ?_ | with_reducible refine r_idx ?_ | with_reducible refine r_cal ?_ | with_reducible refine r_an ?_ | with_reducible refine r_ac ?_ | with_reducible refine r_fz ?_ | with_reducible refine r_mv ?_ | with_reducible refine r_gv ?_ | with_reducible refine r_one ?_ | with_reducible refine r_two ?_ | with_reducible refine r_asI ?_ | with_reducible refine r_add ?_ | with_reducible refine r_sub ?_ | with_reducible refine r_lt ?_ | with_reducible refine r_le ?_ | with_reducible refine r_gt ?_ | with_reducible refine r_ge ?_ | with_reducible refine r_seqT ?_ | with_reducible refine r_seqL ?_ | with_reducible refine r_b1 ?_ | with_reducible refine r_b2 ?_ | with_reducible refine r_lc ?_ | with_reducible refine r_lc2 ?_ | with_reducible refine r_enm ?_ | with_reducible refine r_seq ?_ | with_reducible refine r_zip ?_ | with_reducible refine r_rng1 ?_ | with_reducible refine r_rng2 ?_ | with_reducible refine r_tup ?_ | with_reducible refine r_lst ?_ | with_reducible refine r_fn ?_ | with_reducible refine r_fc ?_ | with_reducible refine r_mn ?_ | with_reducible refine r_mc ?_ | with_reducible refine r_cS ?_ | with_reducible refine r_cB ?_ | with_reducible refine r_cN ?_ | with_reducible refine r_neg ?_ | with_reducible refine r_cmp2 ?_ | with_reducible refine r_and ?_ | with_reducible refine r_or ?_ | with_reducible refine r_andc ?_ | with_reducible refine r_andn ?_ | with_reducible refine r_orc ?_ | with_reducible refine r_orn ?_ | with_reducible refine r_not ?_ | with_reducible refine r_ife ?_ | with_reducible refine r_slc ?_ | with_reducible refine r_slcL ?_ | with_reducible refine r_slcH ?_ | with_reducible refine r_slcA ?_ | with_reducible refine r_rev ?_ | with_reducible refine r_isi ?_ | with_reducible refine r_asBv ?_ | with_reducible refine r_lcs ?_ | with_reducible refine r_slL ?_ | with_reducible refine r_slT ?_ | with_reducible refine r_revL ?_ | with_reducible refine r_listL ?_ | with_reducible refine r_listT ?_ | with_reducible refine r_tupT ?_ | with_reducible refine r_dct ?_ | with_reducible refine r_subK ?_ | with_reducible refine r_intI ?_ | with_reducible refine r_lcs2 ?_ | with_reducible refine r_fst ?_ | with_reducible refine r_bnm ?_ | (with_reducible refine r_btp ?_; refine ⟨rfl, ?_⟩) | with_reducible refine r_iteT ?_ | with_reducible refine r_iteF ?_ | (with_reducible refine r_ifT ?_; refine ⟨rfl, ?_⟩) | (with_reducible refine r_ifF ?_; refine ⟨rfl, ?_⟩) | with_reducible refine r_eqI ?_ | with_reducible refine r_neI ?_ | with_reducible refine r_mvL ?_ | with_reducible refine r_gvL ?_ | with_reducible refine r_mvD ?_ | with_reducible refine r_gvD ?_ | (with_reducible refine r_varL ?_; refine ⟨_, rfl, ?_⟩) | (with_reducible refine r_varD ?_; refine ⟨_, rfl, ?_⟩) | (with_reducible refine r_aug ?_; refine ⟨_, rfl, ?_⟩) | with_reducible refine r_ret0 ?_ | with_reducible refine r_tupL ?_ | with_reducible refine r_oneL ?_ | with_reducible refine r_fzL ?_ | with_reducible refine go1 ?_ | with_reducible refine go2 ?_ | with_reducible refine go3 ?_)
  refine r_getK ⟨_, _, _, rfl, (dk_look _ _ _).2.1, ?_⟩
  repeat (first | with_reducible refine r_seqnx ?_ | with_reducible refine r_seqrt ?_ | with_reducible refine r_qrt ?_ | with_reducible refine r_cons ?_ | with_reducible refine r_nil ?_ | with_reducible refine r_set ?_ | with_reducible refine r_par ?_ | with_reducible refine r_ret ?_ | with_reducible refine r_retN ?_ | with_reducible refine r_if ?_ | with_reducible refine r_for ?_ | with_reducible refine r_exp ?_ | (with_reducible refine r_var ?_; refine ⟨_, rfl, ?_⟩) | with_reducible refine r_cI ?_ | with_reducible refine r_bin ?_ | with_reducible refine r_cmp ?_ | with_reducible refine r_idx ?_ | with_reducible refine r_cal ?_ | with_reducible refine r_an ?_ | with_reducible refine r_ac ?_ | with_reducible refine r_fz ?_ | with_reducible refine r_mv ?_ | with_reducible refine r_gv ?_ | with_reducible refine r_one ?_ | with_reducible refine r_two ?_ | with_reducible refine r_asI ?_ | with_reducible refine r_add ?_ | with_reducible refine r_sub ?_ | with_reducible refine r_lt ?_ | with_reducible refine r_le ?_ | with_reducible refine r_gt ?_ | with_reducible refine r_ge ?_ | with_reducible refine r_seqT ?_ | with_reducible refine r_seqL ?_ | with_reducible refine r_b1 ?_ | with_reducible refine r_b2 ?_ | with_reducible refine r_lc ?_ | with_reducible refine r_lc2 ?_ | with_reducible refine r_enm ?_ | with_reducible refine r_seq ?_ | with_reducible refine r_zip ?_ | with_reducible refine r_rng1 ?_ | with_reducible refine r_rng2 ?_ | with_reducible refine r_tup ?_ | with_reducible refine r_lst ?_ | with_reducible refine r_fn ?_ | with_reducible refine r_fc ?_ | with_reducible refine r_mn ?_ | with_reducible refine r_mc ?_ | with_reducible refine r_cS ?_ | with_reducible refine r_cB ?_ | with_reducible refine r_cN ?_ | with_reducible refine r_neg ?_ | with_reducible refine r_cmp2 ?_ | with_reducible refine r_and ?_ | with_reducible refine r_or ?_ | with_reducible refine r_andc ?_ | with_reducible refine r_andn ?_ | with_reducible refine r_orc ?_ | with_reducible refine r_orn ?_ | with_reducible refine r_not ?_ | with_reducible refine r_ife ?_ | with_reducible refine r_slc ?_ | with_reducible refine r_slcL ?_ | with_reducible refine r_slcH ?_ | with_reducible refine r_slcA ?_ | with_reducible refine r_rev ?_ | with_reducible refine r_isi ?_ | with_reducible refine r_asBv ?_ | with_reducible refine r_lcs ?_ | with_reducible refine r_slL ?_ | with_reducible refine r_slT ?_ | with_reducible refine r_revL ?_ | with_reducible refine r_listL ?_ | with_reducible refine r_listT ?_ | with_reducible refine r_tupT ?_ | with_reducible refine r_dct ?_ | with_reducible refine r_subK ?_ | with_reducible refine r_intI ?_ | with_reducible refine r_lcs2 ?_ | with_reducible refine r_fst ?_ | with_reducible refine r_bnm ?_ | (with_reducible refine r_btp ?_; refine ⟨rfl, ?_⟩) | with_reducible refine r_iteT ?_ | with_reducible refine r_iteF ?_ | (with_reducible refine r_ifT ?_; refine ⟨rfl, ?_⟩) | (with_reducible refine r_ifF ?_; refine ⟨rfl, ?_⟩) | with_reducible refine r_eqI ?_ | with_reducible refine r_neI ?_ | with_reducible refine r_mvL ?_ | with_reducible refine r_gvL ?_ | with_reducible refine r_mvD ?_ | with_reducible refine r_gvD ?_ | (with_reducible refine r_varL ?_; refine ⟨_, rfl, ?_⟩) | (with_reducible refine r_varD ?_; refine ⟨_, rfl, ?_⟩) | (with_reducible refine r_aug ?_; refine ⟨_, rfl, ?_⟩) | with_reducible refine r_ret0 ?_ | with_reducible refine r_tupL ?_ | with_reducible refine r_oneL ?_ | with_reducible refine r_fzL ?_ | with_reducible refine go1 ?_ | with_reducible refine go2 ?_ | with_reducible refine go3 ?_)
  refine r_getK ⟨_, _, _, rfl, (dk_look _ _ _).2.2, ?_⟩
  repeat (first | with_reducible refine r_seqnx ?_ | with_reducible refine r_seqrt ?_ | with_reducible refine r_qrt ?_ | with_reducible refine r_cons ?_ | with_reducible refine r_nil ?_ | with_reducible refine r_set ?_ | with_reducible refine r_par ?_ | with_reducible refine r_ret ?_ | with_reducible refine r_retN ?_ | with_reducible refine r_if ?_ | with_reducible refine r_for ?_ | with_reducible refine r_exp ?_ | (with_reducible refine r_var ?_; refine ⟨_, rfl, ?_⟩) | with_reducible refine r_cI ?_ | with_reducible refine r_bin ?_ | with_reducible refine r_cmp ?_ | with_reducible refine r_idx ?_ | with_reducible refine r_cal ?_ | with_reducible refine r_an ?_ | with_reducible refine r_ac ?_ | with_reducible refine r_fz ?_ | with_reducible refine r_mv ?_ | with_reducible refine r_gv ?_ | with_reducible refine r_one ?_ | with_reducible refine r_two ?_ | with_reducible refine r_asI ?_ | with_reducible refine r_add ?_ | with_reducible refine r_sub ?_ | with_reducible refine r_lt ?_ | with_reducible refine r_le ?_ | with_reducible refine r_gt ?_ | with_reducible refine r_ge ?_ | with_reducible refine r_seqT ?_ | with_reducible refine r_seqL ?_ | with_reducible refine r_b1 ?_ | with_reducible refine r_b2 ?_ | with_reducible refine r_lc ?_ | with_reducible refine r_lc2 ?_ | with_reducible refine r_enm ?_ | with_reducible refine r_seq ?_ | with_reducible refine r_zip ?_ | with_reducible refine r_rng1 ?_ | with_reducible refine r_rng2 ?_ | with_reducible refine r_tup ?_ | with_reducible refine r_lst ?_ | with_reducible refine r_fn ?_ | with_reducible refine r_fc ?_ | with_reducible refine r_mn ?_ | with_reducible refine r_mc ?_ | with_reducible refine r_cS ?_ | with_reducible refine r_cB ?_ | with_reducible refine r_cN ?_ | with_reducible refine r_neg ?_ | with_reducible refine r_cmp2 ?_ | with_reducible refine r_and ?_ | with_reducible refine r_or ?_ | with_reducible refine r_andc ?_ | with_reducible refine r_andn ?_ | with_reducible refine r_orc ?_ | with_reducible refine r_orn ?_ | with_reducible refine r_not ?_ | with_reducible refine r_ife ?_ | with_reducible refine r_slc ?_ | with_reducible refine r_slcL ?_ | with_reducible refine r_slcH ?_ | with_reducible refine r_slcA ?_ | with_reducible refine r_rev ?_ | with_reducible refine r_isi ?_ | with_reducible refine r_asBv ?_ | with_reducible refine r_lcs ?_ | with_reducible refine r_slL ?_ | with_reducible refine r_slT ?_ | with_reducible refine r_revL ?_ | with_reducible refine r_listL ?_ | with_reducible refine r_listT ?_ | with_reducible refine r_tupT ?_ | with_reducible refine r_dct ?_ | with_reducible refine r_subK ?_ | with_reducible refine r_intI ?_ | with_reducible refine r_lcs2 ?_ | with_reducible refine r_fst ?_ | with_reducible refine r_bnm ?_ | (with_reducible refine r_btp ?_; refine ⟨rfl, ?_⟩) | with_reducible refine r_iteT ?_ | with_reducible refine r_iteF ?_ | (with_reducible refine r_ifT ?_; refine ⟨rfl, ?_⟩) | (with_reducible refine r_ifF ?_; refine ⟨rfl, ?_⟩) | with_reducible refine r_eqI ?_ | with_reducible refine r_neI ?_ | with_reducible refine r_mvL ?_ | with_reducible refine r_gvL ?_ | with_reducible refine r_mvD ?_ | with_reducible refine r_gvD ?_ | (with_reducible refine r_varL ?_; refine ⟨_, rfl, ?_⟩) | (with_reducible refine r_varD ?_; refine ⟨_, rfl, ?_⟩) | (with_reducible refine r_aug ?_; refine ⟨_, rfl, ?_⟩) | with_reducible refine r_ret0 ?_ | with_reducible refine r_tupL ?_ | with_reducible refine r_oneL ?_ | with_reducible refine r_fzL ?_ | with_reducible refine go1 ?_ | with_reducible refine go2 ?_ | with_reducible refine go3 ?_)
  refine r_mul (.inl (by decide)) ?_
  repeat (first | with_reducible refine r_seqnx ?_ | with_reducible refine r_seqrt ?_ | with_reducible refine r_qrt ?_ | with_reducible refine r_cons ?_ | with_reducible refine r_nil ?_ | with_reducible refine r_set ?_ | with_reducible refine r_par ?_ | with_reducible refine r_ret ?_ | with_reducible refine r_retN ?_ | with_reducible refine r_if ?_ | with_reducible refine r_for ?_ | with_reducible refine r_exp ?_ | (with_reducible refine r_var ?_; refine ⟨_, rfl, ?_⟩) | with_reducible refine r_cI ?_ | with_reducible refine r_bin ?_ | with_reducible refine r_cmp ?_ | with_reducible refine r_idx ?_ | with_reducible refine r_cal ?_ | with_reducible refine r_an ?_ | with_reducible refine r_ac ?_ | with_reducible refine r_fz ?_ | with_reducible refine r_mv ?_ | with_reducible refine r_gv ?_ | with_reducible refine r_one ?_ | with_reducible refine r_two ?_ | with_reducible refine r_asI ?_ | with_reducible refine r_add ?_ | with_reducible refine r_sub ?_ | with_reducible refine r_lt ?_ | with_reducible refine r_le ?_ | with_reducible refine r_gt ?_ | with_reducible refine r_ge ?_ | with_reducible refine r_seqT ?_ | with_reducible refine r_seqL ?_ | with_reducible refine r_b1 ?_ | with_reducible refine r_b2 ?_ | with_reducible refine r_lc ?_ | with_reducible refine r_lc2 ?_ | with_reducible refine r_enm ?_ | with_reducible refine r_seq ?_ | with_reducible refine r_zip ?_ | with_reducible refine r_rng1 ?_ | with_reducible refine r_rng2 ?_ | with_reducible refine r_tup ?_ | with_reducible refine r_lst ?_ | with_reducible refine r_fn ?_ | with_reducible refine r_fc ?_ | with_reducible refine r_mn ?_ | with_reducible refine r_mc ?_ | with_reducible refine r_cS ?_ | with_reducible refine r_cB ?_ | with_reducible refine r_cN ?_ | with_reducible refine r_neg ?_ | with_reducible refine r_cmp2 ?_ | with_reducible refine r_and ?_ | with_reducible refine r_or ?_ | with_reducible refine r_andc ?_ | with_reducible refine r_andn ?_ | with_reducible refine r_orc ?_ | with_reducible refine r_orn ?_ | with_reducible refine r_not ?_ | with_reducible refine r_ife ?_ | with_reducible refine r_slc ?_ | with_reducible refine r_slcL ?_ | with_reducible refine r_slcH ?_ | with_reducible refine r_slcA ?_ | with_reducible refine r_rev ?_ | with_reducible refine r_isi ?_ | with_reducible refine r_asBv ?_ | with_reducible refine r_lcs ?_ | with_reducible refine r_slL ?_ | with_reducible refine r_slT ?_ | with_reducible refine r_revL ?_ | with_reducible refine r_listL ?_ | with_reducible refine r_listT ?_ | with_reducible refine r_tupT ?_ | with_reducible refine r_dct ?_ | with_reducible refine r_subK ?_ | with_reducible refine r_intI ?_ | with_reducible refine r_lcs2 ?_ | with_reducible refine r_fst ?_ | with_reducible refine r_bnm ?_ | (with_reducible refine r_btp ?_; refine ⟨rfl, ?_⟩) | with_reducible refine r_iteT ?_ | with_reducible refine r_iteF ?_ | (with_reducible refine r_ifT ?_; refine ⟨rfl, ?_⟩) | (with_reducible refine r_ifF ?_; refine ⟨rfl, ?_⟩) | with_reducible refine r_eqI ?_ | with_reducible refine r_neI ?_ | with_reducible refine r_mvL ?_ | with_reducible refine r_gvL ?_ | with_reducible refine r_mvD ?_ | with_reducible refine r_gvD ?_ | (with_reducible refine r_varL ?_; refine ⟨_, rfl, ?_⟩) | (with_reducible refine r_varD ?_; refine ⟨_, rfl, ?_⟩) | (with_reducible refine r_aug ?_; refine ⟨_, rfl, ?_⟩) | with_reducible refine r_ret0 ?_ | with_reducible refine r_tupL ?_ | with_reducible refine r_oneL ?_ | with_reducible refine r_fzL ?_ | with_reducible refine go1 ?_ | with_reducible refine go2 ?_ | with_reducible refine go3 ?_)
  have e : (cells.map fun c => W.d (PyData.int c)) = (cells.map PyData.int).map W.d := by simp
  refine r_neK ⟨_, _, cells.map .int, rfl, by rw [(dk_look _ _ _).1, e], ?_, ?_⟩
  · exact (shaped_ints cells).1
  repeat (first | with_reducible refine r_seqnx ?_ | with_reducible refine r_seqrt ?_ | with_reducible refine r_qrt ?_ | with_reducible refine r_cons ?_ | with_reducible refine r_nil ?_ | with_reducible refine r_set ?_ | with_reducible refine r_par ?_ | with_reducible refine r_ret ?_ | with_reducible refine r_retN ?_ | with_reducible refine r_if ?_ | with_reducible refine r_for ?_ | with_reducible refine r_exp ?_ | (with_reducible refine r_var ?_; refine ⟨_, rfl, ?_⟩) | with_reducible refine r_cI ?_ | with_reducible refine r_bin ?_ | with_reducible refine r_cmp ?_ | with_reducible refine r_idx ?_ | with_reducible refine r_cal ?_ | with_reducible refine r_an ?_ | with_reducible refine r_ac ?_ | with_reducible refine r_fz ?_ | with_reducible refine r_mv ?_ | with_reducible refine r_gv ?_ | with_reducible refine r_one ?_ | with_reducible refine r_two ?_ | with_reducible refine r_asI ?_ | with_reducible refine r_add ?_ | with_reducible refine r_sub ?_ | with_reducible refine r_lt ?_ | with_reducible refine r_le ?_ | with_reducible refine r_gt ?_ | with_reducible refine r_ge ?_ | with_reducible refine r_seqT ?_ | with_reducible refine r_seqL ?_ | with_reducible refine r_b1 ?_ | with_reducible refine r_b2 ?_ | with_reducible refine r_lc ?_ | with_reducible refine r_lc2 ?_ | with_reducible refine r_enm ?_ | with_reducible refine r_seq ?_ | with_reducible refine r_zip ?_ | with_reducible refine r_rng1 ?_ | with_reducible refine r_rng2 ?_ | with_reducible refine r_tup ?_ | with_reducible refine r_lst ?_ | with_reducible refine r_fn ?_ | with_reducible refine r_fc ?_ | with_reducible refine r_mn ?_ | with_reducible refine r_mc ?_ | with_reducible refine r_cS ?_ | with_reducible refine r_cB ?_ | with_reducible refine r_cN ?_ | with_reducible refine r_neg ?_ | with_reducible refine r_cmp2 ?_ | with_reducible refine r_and ?_ | with_reducible refine r_or ?_ | with_reducible refine r_andc ?_ | with_reducible refine r_andn ?_ | with_reducible refine r_orc ?_ | with_reducible refine r_orn ?_ | with_reducible refine r_not ?_ | with_reducible refine r_ife ?_ | with_reducible refine r_slc ?_ | with_reducible refine r_slcL ?_ | with_reducible refine r_slcH ?_ | with_reducible refine r_slcA ?_ | with_reducible refine r_rev ?_ | with_reducible refine r_isi ?_ | with_reducible refine r_asBv ?_ | with_reducible refine r_lcs ?_ | with_reducible refine r_slL ?_ | with_reducible refine r_slT ?_ | with_reducible refine r_revL ?_ | with_reducible refine r_listL ?_ | with_reducible refine r_listT ?_ | with_reducible refine r_tupT ?_ | with_reducible refine r_dct ?_ | with_reducible refine r_subK ?_ | with_reducible refine r_intI ?_ | with_reducible refine r_lcs2 ?_ | with_reducible refine r_fst ?_ | with_reducible refine r_bnm ?_ | (with_reducible refine r_btp ?_; refine ⟨rfl, ?_⟩) | with_reducible refine r_iteT ?_ | with_reducible refine r_iteF ?_ | (with_reducible refine r_ifT ?_; refine ⟨rfl, ?_⟩) | (with_reducible refine r_ifF ?_; refine ⟨rfl, ?_⟩) | with_reducible refine r_eqI ?_ | with_reducible refine r_neI ?_ | with_reducible refine r_mvL ?_ | with_reducible refine r_gvL ?_ | with_reducible refine r_mvD ?_ | with_reducible refine r_gvD ?_ | (with_reducible refine r_varL ?_; refine ⟨_, rfl, ?_⟩) | (with_reducible refine r_varD ?_; refine ⟨_, rfl, ?_⟩) | (with_reducible refine r_aug ?_; refine ⟨_, rfl, ?_⟩) | with_reducible refine r_ret0 ?_ | with_reducible refine r_tupL ?_ | with_reducible refine r_oneL ?_ | with_reducible refine r_fzL ?_ | with_reducible refine go1 ?_ | with_reducible refine go2 ?_ | with_reducible refine go3 ?_)
  rcases List.eq_nil_or_concat cells with h0 | ⟨ys, c, h0⟩
  · subst h0
    repeat (first | with_reducible refine r_seqnx ?_ | with_reducible refine r_seqrt ?_ | with_reducible refine r_qrt ?_ | with_reducible refine r_cons ?_ | with_reducible refine r_nil ?_ | with_reducible refine r_set ?_ | with_reducible refine r_par ?_ | with_reducible refine r_ret ?_ | with_reducible refine r_retN ?_ | with_reducible refine r_if ?_ | with_reducible refine r_for ?_ | with_reducible refine r_exp ?_ | (with_reducible refine r_var ?_; refine ⟨_, rfl, ?_⟩) | with_reducible refine r_cI ?_ | with_reducible refine r_bin ?_ | with_reducible refine r_cmp ?_ | with_reducible refine r_idx ?_ | with_reducible refine r_cal ?_ | with_reducible refine r_an ?_ | with_reducible refine r_ac ?_ | with_reducible refine r_fz ?_ | with_reducible refine r_mv ?_ | with_reducible refine r_gv ?_ | with_reducible refine r_one ?_ | with_reducible refine r_two ?_ | with_reducible refine r_asI ?_ | with_reducible refine r_add ?_ | with_reducible refine r_sub ?_ | with_reducible refine r_lt ?_ | with_reducible refine r_le ?_ | with_reducible refine r_gt ?_ | with_reducible refine r_ge ?_ | with_reducible refine r_seqT ?_ | with_reducible refine r_seqL ?_ | with_reducible refine r_b1 ?_ | with_reducible refine r_b2 ?_ | with_reducible refine r_lc ?_ | with_reducible refine r_lc2 ?_ | with_reducible refine r_enm ?_ | with_reducible refine r_seq ?_ | with_reducible refine r_zip ?_ | with_reducible refine r_rng1 ?_ | with_reducible refine r_rng2 ?_ | with_reducible refine r_tup ?_ | with_reducible refine r_lst ?_ | with_reducible refine r_fn ?_ | with_reducible refine r_fc ?_ | with_reducible refine r_mn ?_ | with_reducible refine r_mc ?_ | with_reducible refine r_cS ?_ | with_reducible refine r_cB ?_ | with_reducible refine r_cN ?_ | with_reducible refine r_neg ?_ | with_reducible refine r_cmp2 ?_ | with_reducible refine r_and ?_ | with_reducible refine r_or ?_ | with_reducible refine r_andc ?_ | with_reducible refine r_andn ?_ | with_reducible refine r_orc ?_ | with_reducible refine r_orn ?_ | with_reducible refine r_not ?_ | with_reducible refine r_ife ?_ | with_reducible refine r_slc ?_ | with_reducible refine r_slcL ?_ | with_reducible refine r_slcH ?_ | with_reducible refine r_slcA ?_ | with_reducible refine r_rev ?_ | with_reducible refine r_isi ?_ | with_reducible refine r_asBv ?_ | with_reducible refine r_lcs ?_ | with_reducible refine r_slL ?_ | with_reducible refine r_slT ?_ | with_reducible refine r_revL ?_ | with_reducible refine r_listL ?_ | with_reducible refine r_listT ?_ | with_reducible refine r_tupT ?_ | with_reducible refine r_dct ?_ | with_reducible refine r_subK ?_ | with_reducible refine r_intI ?_ | with_reducible refine r_lcs2 ?_ | with_reducible refine r_fst ?_ | with_reducible refine r_bnm ?_ | (with_reducible refine r_btp ?_; refine ⟨rfl, ?_⟩) | with_reducible refine r_iteT ?_ | with_reducible refine r_iteF ?_ | (with_reducible refine r_ifT ?_; refine ⟨rfl, ?_⟩) | (with_reducible refine r_ifF ?_; refine ⟨rfl, ?_⟩) | with_reducible refine r_eqI ?_ | with_reducible refine r_neI ?_ | with_reducible refine r_mvL ?_ | with_reducible refine r_gvL ?_ | with_reducible refine r_mvD ?_ | with_reducible refine r_gvD ?_ | (with_reducible refine r_varL ?_; refine ⟨_, rfl, ?_⟩) | (with_reducible refine r_varD ?_; refine ⟨_, rfl, ?_⟩) | (with_reducible refine r_aug ?_; refine ⟨_, rfl, ?_⟩) | with_reducible refine r_ret0 ?_ | with_reducible refine r_tupL ?_ | with_reducible refine r_oneL ?_ | with_reducible refine r_fzL ?_ | with_reducible refine go1 ?_ | with_reducible refine go2 ?_ | with_reducible refine go3 ?_)
    exact draw_tail _ [] m (d + 1) many _ none (by simp) h1 h2 Q h
  · try rw [List.concat_eq_append] at h0
    subst h0
    refine r_ifT ⟨by cases ys <;> simp [PyData.eqv, PyData.eqvAll], ?_⟩
    repeat (first | with_reducible refine r_seqnx ?_ | with_reducible refine r_seqrt ?_ | with_reducible refine r_qrt ?_ | with_reducible refine r_cons ?_ | with_reducible refine r_nil ?_ | with_reducible refine r_set ?_ | with_reducible refine r_par ?_ | with_reducible refine r_ret ?_ | with_reducible refine r_retN ?_ | with_reducible refine r_if ?_ | with_reducible refine r_for ?_ | with_reducible refine r_exp ?_ | (with_reducible refine r_var ?_; refine ⟨_, rfl, ?_⟩) | with_reducible refine r_cI ?_ | with_reducible refine r_bin ?_ | with_reducible refine r_cmp ?_ | with_reducible refine r_idx ?_ | with_reducible refine r_cal ?_ | with_reducible refine r_an ?_ | with_reducible refine r_ac ?_ | with_reducible refine r_fz ?_ | with_reducible refine r_mv ?_ | with_reducible refine r_gv ?_ | with_reducible refine r_one ?_ | with_reducible refine r_two ?_ | with_reducible refine r_asI ?_ | with_reducible refine r_add ?_ | with_reducible refine r_sub ?_ | with_reducible refine r_lt ?_ | with_reducible refine r_le ?_ | with_reducible refine r_gt ?_ | with_reducible refine r_ge ?_ | with_reducible refine r_seqT ?_ | with_reducible refine r_seqL ?_ | with_reducible refine r_b1 ?_ | with_reducible refine r_b2 ?_ | with_reducible refine r_lc ?_ | with_reducible refine r_lc2 ?_ | with_reducible refine r_enm ?_ | with_reducible refine r_seq ?_ | with_reducible refine r_zip ?_ | with_reducible refine r_rng1 ?_ | with_reducible refine r_rng2 ?_ | with_reducible refine r_tup ?_ | with_reducible refine r_lst ?_ | with_reducible refine r_fn ?_ | with_reducible refine r_fc ?_ | with_reducible refine r_mn ?_ | with_reducible refine r_mc ?_ | with_reducible refine r_cS ?_ | with_reducible refine r_cB ?_ | with_reducible refine r_cN ?_ | with_reducible refine r_neg ?_ | with_reducible refine r_cmp2 ?_ | with_reducible refine r_and ?_ | with_reducible refine r_or ?_ | with_reducible refine r_andc ?_ | with_reducible refine r_andn ?_ | with_reducible refine r_orc ?_ | with_reducible refine r_orn ?_ | with_reducible refine r_not ?_ | with_reducible refine r_ife ?_ | with_reducible refine r_slc ?_ | with_reducible refine r_slcL ?_ | with_reducible refine r_slcH ?_ | with_reducible refine r_slcA ?_ | with_reducible refine r_rev ?_ | with_reducible refine r_isi ?_ | with_reducible refine r_asBv ?_ | with_reducible refine r_lcs ?_ | with_reducible refine r_slL ?_ | with_reducible refine r_slT ?_ | with_reducible refine r_revL ?_ | with_reducible refine r_listL ?_ | with_reducible refine r_listT ?_ | with_reducible refine r_tupT ?_ | with_reducible refine r_dct ?_ | with_reducible refine r_subK ?_ | with_reducible refine r_intI ?_ | with_reducible refine r_lcs2 ?_ | with_reducible refine r_fst ?_ | with_reducible refine r_bnm ?_ | (with_reducible refine r_btp ?_; refine ⟨rfl, ?_⟩) | with_reducible refine r_iteT ?_ | with_reducible refine r_iteF ?_ | (with_reducible refine r_ifT ?_; refine ⟨rfl, ?_⟩) | (with_reducible refine r_ifF ?_; refine ⟨rfl, ?_⟩) | with_reducible refine r_eqI ?_ | with_reducible refine r_neI ?_ | with_reducible refine r_mvL ?_ | with_reducible refine r_gvL ?_ | with_reducible refine r_mvD ?_ | with_reducible refine r_gvD ?_ | (with_reducible refine r_varL ?_; refine ⟨_, rfl, ?_⟩) | (with_reducible refine r_varD ?_; refine ⟨_, rfl, ?_⟩) | (with_reducible refine r_aug ?_; refine ⟨_, rfl, ?_⟩) | with_reducible refine r_ret0 ?_ | with_reducible refine r_tupL ?_ | with_reducible refine r_oneL ?_ | with_reducible refine r_fzL ?_ | with_reducible refine go1 ?_ | with_reducible refine go2 ?_ | with_reducible refine go3 ?_)
    have e2 : ((ys ++ [c]).map fun c => W.d (PyData.int c)) = (ys.map fun c => W.d (PyData.int c)) ++ [.d (.int c)] := by simp
    refine r_popK ⟨_, _, ys.map fun c => .d (.int c), .int c, rfl, by rw [(dk_look _ _ _).1, e2], ?_⟩
    rw [(dk_put (ys ++ [c]) ys m (d + 1) 0).1]
    repeat (first | with_reducible refine r_seqnx ?_ | with_reducible refine r_seqrt ?_ | with_reducible refine r_qrt ?_ | with_reducible refine r_cons ?_ | with_reducible refine r_nil ?_ | with_reducible refine r_set ?_ | with_reducible refine r_par ?_ | with_reducible refine r_ret ?_ | with_reducible refine r_retN ?_ | with_reducible refine r_if ?_ | with_reducible refine r_for ?_ | with_reducible refine r_exp ?_ | (with_reducible refine r_var ?_; refine ⟨_, rfl, ?_⟩) | with_reducible refine r_cI ?_ | with_reducible refine r_bin ?_ | with_reducible refine r_cmp ?_ | with_reducible refine r_idx ?_ | with_reducible refine r_cal ?_ | with_reducible refine r_an ?_ | with_reducible refine r_ac ?_ | with_reducible refine r_fz ?_ | with_reducible refine r_mv ?_ | with_reducible refine r_gv ?_ | with_reducible refine r_one ?_ | with_reducible refine r_two ?_ | with_reducible refine r_asI ?_ | with_reducible refine r_add ?_ | with_reducible refine r_sub ?_ | with_reducible refine r_lt ?_ | with_reducible refine r_le ?_ | with_reducible refine r_gt ?_ | with_reducible refine r_ge ?_ | with_reducible refine r_seqT ?_ | with_reducible refine r_seqL ?_ | with_reducible refine r_b1 ?_ | with_reducible refine r_b2 ?_ | with_reducible refine r_lc ?_ | with_reducible refine r_lc2 ?_ | with_reducible refine r_enm ?_ | with_reducible refine r_seq ?_ | with_reducible refine r_zip ?_ | with_reducible refine r_rng1 ?_ | with_reducible refine r_rng2 ?_ | with_reducible refine r_tup ?_ | with_reducible refine r_lst ?_ | with_reducible refine r_fn ?_ | with_reducible refine r_fc ?_ | with_reducible refine r_mn ?_ | with_reducible refine r_mc ?_ | with_reducible refine r_cS ?_ | with_reducible refine r_cB ?_ | with_reducible refine r_cN ?_ | with_reducible refine r_neg ?_ | with_reducible refine r_cmp2 ?_ | with_reducible refine r_and ?_ | with_reducible refine r_or ?_ | with_reducible refine r_andc ?_ | with_reducible refine r_andn ?_ | with_reducible refine r_orc ?_ | with_reducible refine r_orn ?_ | with_reducible refine r_not ?_ | with_reducible refine r_ife ?_ | with_reducible refine r_slc ?_ | with_reducible refine r_slcL ?_ | with_reducible refine r_slcH ?_ | with_reducible refine r_slcA ?_ | with_reducible refine r_rev ?_ | with_reducible refine r_isi ?_ | with_reducible refine r_asBv ?_ | with_reducible refine r_lcs ?_ | with_reducible refine r_slL ?_ | with_reducible refine r_slT ?_ | with_reducible refine r_revL ?_ | with_reducible refine r_listL ?_ | with_reducible refine r_listT ?_ | with_reducible refine r_tupT ?_ | with_reducible refine r_dct ?_ | with_reducible refine r_subK ?_ | with_reducible refine r_intI ?_ | with_reducible refine r_lcs2 ?_ | with_reducible refine r_fst ?_ | with_reducible refine r_bnm ?_ | (with_reducible refine r_btp ?_; refine ⟨rfl, ?_⟩) | with_reducible refine r_iteT ?_ | with_reducible refine r_iteF ?_ | (with_reducible refine r_ifT ?_; refine ⟨rfl, ?_⟩) | (with_reducible refine r_ifF ?_; refine ⟨rfl, ?_⟩) | with_reducible refine r_eqI ?_ | with_reducible refine r_neI ?_ | with_reducible refine r_mvL ?_ | with_reducible refine r_gvL ?_ | with_reducible refine r_mvD ?_ | with_reducible refine r_gvD ?_ | (with_reducible refine r_varL ?_; refine ⟨_, rfl, ?_⟩) | (with_reducible refine r_varD ?_; refine ⟨_, rfl, ?_⟩) | (with_reducible refine r_aug ?_; refine ⟨_, rfl, ?_⟩) | with_reducible refine r_ret0 ?_ | with_reducible refine r_tupL ?_ | with_reducible refine r_oneL ?_ | with_reducible refine r_fzL ?_ | with_reducible refine go1 ?_ | with_reducible refine go2 ?_ | with_reducible refine go3 ?_)
    refine r_pow (by decide) (by decide) (by decide) ?_
    repeat (first | with_reducible refine r_seqnx ?_ | with_reducible refine r_seqrt ?_ | with_reducible refine r_qrt ?_ | with_reducible refine r_cons ?_ | with_reducible refine r_nil ?_ | with_reducible refine r_set ?_ | with_reducible refine r_par ?_ | with_reducible refine r_ret ?_ | with_reducible refine r_retN ?_ | with_reducible refine r_if ?_ | with_reducible refine r_for ?_ | with_reducible refine r_exp ?_ | (with_reducible refine r_var ?_; refine ⟨_, rfl, ?_⟩) | with_reducible refine r_cI ?_ | with_reducible refine r_bin ?_ | with_reducible refine r_cmp ?_ | with_reducible refine r_idx ?_ | with_reducible refine r_cal ?_ | with_reducible refine r_an ?_ | with_reducible refine r_ac ?_ | with_reducible refine r_fz ?_ | with_reducible refine r_mv ?_ | with_reducible refine r_gv ?_ | with_reducible refine r_one ?_ | with_reducible refine r_two ?_ | with_reducible refine r_asI ?_ | with_reducible refine r_add ?_ | with_reducible refine r_sub ?_ | with_reducible refine r_lt ?_ | with_reducible refine r_le ?_ | with_reducible refine r_gt ?_ | with_reducible refine r_ge ?_ | with_reducible refine r_seqT ?_ | with_reducible refine r_seqL ?_ | with_reducible refine r_b1 ?_ | with_reducible refine r_b2 ?_ | with_reducible refine r_lc ?_ | with_reducible refine r_lc2 ?_ | with_reducible refine r_enm ?_ | with_reducible refine r_seq ?_ | with_reducible refine r_zip ?_ | with_reducible refine r_rng1 ?_ | with_reducible refine r_rng2 ?_ | with_reducible refine r_tup ?_ | with_reducible refine r_lst ?_ | with_reducible refine r_fn ?_ | with_reducible refine r_fc ?_ | with_reducible refine r_mn ?_ | with_reducible refine r_mc ?_ | with_reducible refine r_cS ?_ | with_reducible refine r_cB ?_ | with_reducible refine r_cN ?_ | with_reducible refine r_neg ?_ | with_reducible refine r_cmp2 ?_ | with_reducible refine r_and ?_ | with_reducible refine r_or ?_ | with_reducible refine r_andc ?_ | with_reducible refine r_andn ?_ | with_reducible refine r_orc ?_ | with_reducible refine r_orn ?_ | with_reducible refine r_not ?_ | with_reducible refine r_ife ?_ | with_reducible refine r_slc ?_ | with_reducible refine r_slcL ?_ | with_reducible refine r_slcH ?_ | with_reducible refine r_slcA ?_ | with_reducible refine r_rev ?_ | with_reducible refine r_isi ?_ | with_reducible refine r_asBv ?_ | with_reducible refine r_lcs ?_ | with_reducible refine r_slL ?_ | with_reducible refine r_slT ?_ | with_reducible refine r_revL ?_ | with_reducible refine r_listL ?_ | with_reducible refine r_listT ?_ | with_reducible refine r_tupT ?_ | with_reducible refine r_dct ?_ | with_reducible refine r_subK ?_ | with_reducible refine r_intI ?_ | with_reducible refine r_lcs2 ?_ | with_reducible refine r_fst ?_ | with_reducible refine r_bnm ?_ | (with_reducible refine r_btp ?_; refine ⟨rfl, ?_⟩) | with_reducible refine r_iteT ?_ | with_reducible refine r_iteF ?_ | (with_reducible refine r_ifT ?_; refine ⟨rfl, ?_⟩) | (with_reducible refine r_ifF ?_; refine ⟨rfl, ?_⟩) | with_reducible refine r_eqI ?_ | with_reducible refine r_neI ?_ | with_reducible refine r_mvL ?_ | with_reducible refine r_gvL ?_ | with_reducible refine r_mvD ?_ | with_reducible refine r_gvD ?_ | (with_reducible refine r_varL ?_; refine ⟨_, rfl, ?_⟩) | (with_reducible refine r_varD ?_; refine ⟨_, rfl, ?_⟩) | (with_reducible refine r_aug ?_; refine ⟨_, rfl, ?_⟩) | with_reducible refine r_ret0 ?_ | with_reducible refine r_tupL ?_ | with_reducible refine r_oneL ?_ | with_reducible refine r_fzL ?_ | with_reducible refine go1 ?_ | with_reducible refine go2 ?_ | with_reducible refine go3 ?_)
    have hy : ys.length ≤ 62 := by rw [List.length_append, List.length_singleton] at hc; omega
    by_cases hb : ((10 : Int) ^ (18 : Int).toNat ≤ c)
    · refine r_ifT ⟨decide_eq_true hb, ?_⟩
      repeat (first | with_reducible refine r_seqnx ?_ | with_reducible refine r_seqrt ?_ | with_reducible refine r_qrt ?_ | with_reducible refine r_cons ?_ | with_reducible refine r_nil ?_ | with_reducible refine r_set ?_ | with_reducible refine r_par ?_ | with_reducible refine r_ret ?_ | with_reducible refine r_retN ?_ | with_reducible refine r_if ?_ | with_reducible refine r_for ?_ | with_reducible refine r_exp ?_ | (with_reducible refine r_var ?_; refine ⟨_, rfl, ?_⟩) | with_reducible refine r_cI ?_ | with_reducible refine r_bin ?_ | with_reducible refine r_cmp ?_ | with_reducible refine r_idx ?_ | with_reducible refine r_cal ?_ | with_reducible refine r_an ?_ | with_reducible refine r_ac ?_ | with_reducible refine r_fz ?_ | with_reducible refine r_mv ?_ | with_reducible refine r_gv ?_ | with_reducible refine r_one ?_ | with_reducible refine r_two ?_ | with_reducible refine r_asI ?_ | with_reducible refine r_add ?_ | with_reducible refine r_sub ?_ | with_reducible refine r_lt ?_ | with_reducible refine r_le ?_ | with_reducible refine r_gt ?_ | with_reducible refine r_ge ?_ | with_reducible refine r_seqT ?_ | with_reducible refine r_seqL ?_ | with_reducible refine r_b1 ?_ | with_reducible refine r_b2 ?_ | with_reducible refine r_lc ?_ | with_reducible refine r_lc2 ?_ | with_reducible refine r_enm ?_ | with_reducible refine r_seq ?_ | with_reducible refine r_zip ?_ | with_reducible refine r_rng1 ?_ | with_reducible refine r_rng2 ?_ | with_reducible refine r_tup ?_ | with_reducible refine r_lst ?_ | with_reducible refine r_fn ?_ | with_reducible refine r_fc ?_ | with_reducible refine r_mn ?_ | with_reducible refine r_mc ?_ | with_reducible refine r_cS ?_ | with_reducible refine r_cB ?_ | with_reducible refine r_cN ?_ | with_reducible refine r_neg ?_ | with_reducible refine r_cmp2 ?_ | with_reducible refine r_and ?_ | with_reducible refine r_or ?_ | with_reducible refine r_andc ?_ | with_reducible refine r_andn ?_ | with_reducible refine r_orc ?_ | with_reducible refine r_orn ?_ | with_reducible refine r_not ?_ | with_reducible refine r_ife ?_ | with_reducible refine r_slc ?_ | with_reducible refine r_slcL ?_ | with_reducible refine r_slcH ?_ | with_reducible refine r_slcA ?_ | with_reducible refine r_rev ?_ | with_reducible refine r_isi ?_ | with_reducible refine r_asBv ?_ | with_reducible refine r_lcs ?_ | with_reducible refine r_slL ?_ | with_reducible refine r_slT ?_ | with_reducible refine r_revL ?_ | with_reducible refine r_listL ?_ | with_reducible refine r_listT ?_ | with_reducible refine r_tupT ?_ | with_reducible refine r_dct ?_ | with_reducible refine r_subK ?_ | with_reducible refine r_intI ?_ | with_reducible refine r_lcs2 ?_ | with_reducible refine r_fst ?_ | with_reducible refine r_bnm ?_ | (with_reducible refine r_btp ?_; refine ⟨rfl, ?_⟩) | with_reducible refine r_iteT ?_ | with_reducible refine r_iteF ?_ | (with_reducible refine r_ifT ?_; refine ⟨rfl, ?_⟩) | (with_reducible refine r_ifF ?_; refine ⟨rfl, ?_⟩) | with_reducible refine r_eqI ?_ | with_reducible refine r_neI ?_ | with_reducible refine r_mvL ?_ | with_reducible refine r_gvL ?_ | with_reducible refine r_mvD ?_ | with_reducible refine r_gvD ?_ | (with_reducible refine r_varL ?_; refine ⟨_, rfl, ?_⟩) | (with_reducible refine r_varD ?_; refine ⟨_, rfl, ?_⟩) | (with_reducible refine r_aug ?_; refine ⟨_, rfl, ?_⟩) | with_reducible refine r_ret0 ?_ | with_reducible refine r_tupL ?_ | with_reducible refine r_oneL ?_ | with_reducible refine r_fzL ?_ | with_reducible refine go1 ?_ | with_reducible refine go2 ?_ | with_reducible refine go3 ?_)
      refine r_appK ⟨_, _, .int (c.fdiv (max 2 many)), ys.map fun c => .d (.int c), rfl, ?_, (dk_look ys m (d + 1)).1, by rw [List.length_map]; show _ < 1000000; omega, ?_⟩
      · have g1 : max 2 many ≠ 0 := by omega
        have g2 : (max 2 many).natAbs.log2 < 4096 := by
          refine (Nat.log2_lt (by omega)).mpr (Nat.lt_of_lt_of_le (by omega : (max 2 many).natAbs < 2 ^ 64) (Nat.pow_le_pow_right (by decide) (by decide)))
        have g3 : max 2 many ≠ 0 ∧ (max 2 many).natAbs.log2 < 4096 := ⟨g1, g2⟩
        show (if max 2 many ≠ 0 ∧ (max 2 many).natAbs.log2 < 4096 then some (PyData.int (c.fdiv (max 2 many))) else none) = _
        rw [if_pos g3]
      have e3 : (ys.map fun c => W.d (PyData.int c)) ++ [W.d (.int (c.fdiv (max 2 many)))] = (ys ++ [c.fdiv (max 2 many)]).map fun c => W.d (PyData.int c) := by simp
      rw [e3, (dk_put ys (ys ++ [c.fdiv (max 2 many)]) m (d + 1) 0).1]
      repeat (first | with_reducible refine r_seqnx ?_ | with_reducible refine r_seqrt ?_ | with_reducible refine r_qrt ?_ | with_reducible refine r_cons ?_ | with_reducible refine r_nil ?_ | with_reducible refine r_set ?_ | with_reducible refine r_par ?_ | with_reducible refine r_ret ?_ | with_reducible refine r_retN ?_ | with_reducible refine r_if ?_ | with_reducible refine r_for ?_ | with_reducible refine r_exp ?_ | (with_reducible refine r_var ?_; refine ⟨_, rfl, ?_⟩) | with_reducible refine r_cI ?_ | with_reducible refine r_bin ?_ | with_reducible refine r_cmp ?_ | with_reducible refine r_idx ?_ | with_reducible refine r_cal ?_ | with_reducible refine r_an ?_ | with_reducible refine r_ac ?_ | with_reducible refine r_fz ?_ | with_reducible refine r_mv ?_ | with_reducible refine r_gv ?_ | with_reducible refine r_one ?_ | with_reducible refine r_two ?_ | with_reducible refine r_asI ?_ | with_reducible refine r_add ?_ | with_reducible refine r_sub ?_ | with_reducible refine r_lt ?_ | with_reducible refine r_le ?_ | with_reducible refine r_gt ?_ | with_reducible refine r_ge ?_ | with_reducible refine r_seqT ?_ | with_reducible refine r_seqL ?_ | with_reducible refine r_b1 ?_ | with_reducible refine r_b2 ?_ | with_reducible refine r_lc ?_ | with_reducible refine r_lc2 ?_ | with_reducible refine r_enm ?_ | with_reducible refine r_seq ?_ | with_reducible refine r_zip ?_ | with_reducible refine r_rng1 ?_ | with_reducible refine r_rng2 ?_ | with_reducible refine r_tup ?_ | with_reducible refine r_lst ?_ | with_reducible refine r_fn ?_ | with_reducible refine r_fc ?_ | with_reducible refine r_mn ?_ | with_reducible refine r_mc ?_ | with_reducible refine r_cS ?_ | with_reducible refine r_cB ?_ | with_reducible refine r_cN ?_ | with_reducible refine r_neg ?_ | with_reducible refine r_cmp2 ?_ | with_reducible refine r_and ?_ | with_reducible refine r_or ?_ | with_reducible refine r_andc ?_ | with_reducible refine r_andn ?_ | with_reducible refine r_orc ?_ | with_reducible refine r_orn ?_ | with_reducible refine r_not ?_ | with_reducible refine r_ife ?_ | with_reducible refine r_slc ?_ | with_reducible refine r_slcL ?_ | with_reducible refine r_slcH ?_ | with_reducible refine r_slcA ?_ | with_reducible refine r_rev ?_ | with_reducible refine r_isi ?_ | with_reducible refine r_asBv ?_ | with_reducible refine r_lcs ?_ | with_reducible refine r_slL ?_ | with_reducible refine r_slT ?_ | with_reducible refine r_revL ?_ | with_reducible refine r_listL ?_ | with_reducible refine r_listT ?_ | with_reducible refine r_tupT ?_ | with_reducible refine r_dct ?_ | with_reducible refine r_subK ?_ | with_reducible refine r_intI ?_ | with_reducible refine r_lcs2 ?_ | with_reducible refine r_fst ?_ | with_reducible refine r_bnm ?_ | (with_reducible refine r_btp ?_; refine ⟨rfl, ?_⟩) | with_reducible refine r_iteT ?_ | with_reducible refine r_iteF ?_ | (with_reducible refine r_ifT ?_; refine ⟨rfl, ?_⟩) | (with_reducible refine r_ifF ?_; refine ⟨rfl, ?_⟩) | with_reducible refine r_eqI ?_ | with_reducible refine r_neI ?_ | with_reducible refine r_mvL ?_ | with_reducible refine r_gvL ?_ | with_reducible refine r_mvD ?_ | with_reducible refine r_gvD ?_ | (with_reducible refine r_varL ?_; refine ⟨_, rfl, ?_⟩) | (with_reducible refine r_varD ?_; refine ⟨_, rfl, ?_⟩) | (with_reducible refine r_aug ?_; refine ⟨_, rfl, ?_⟩) | with_reducible refine r_ret0 ?_ | with_reducible refine r_tupL ?_ | with_reducible refine r_oneL ?_ | with_reducible refine r_fzL ?_ | with_reducible refine go1 ?_ | with_reducible refine go2 ?_ | with_reducible refine go3 ?_)
      refine r_mod (by omega) ?_
      repeat (first | with_reducible refine r_seqnx ?_ | with_reducible refine r_seqrt ?_ | with_reducible refine r_qrt ?_ | with_reducible refine r_cons ?_ | with_reducible refine r_nil ?_ | with_reducible refine r_set ?_ | with_reducible refine r_par ?_ | with_reducible refine r_ret ?_ | with_reducible refine r_retN ?_ | with_reducible refine r_if ?_ | with_reducible refine r_for ?_ | with_reducible refine r_exp ?_ | (with_reducible refine r_var ?_; refine ⟨_, rfl, ?_⟩) | with_reducible refine r_cI ?_ | with_reducible refine r_bin ?_ | with_reducible refine r_cmp ?_ | with_reducible refine r_idx ?_ | with_reducible refine r_cal ?_ | with_reducible refine r_an ?_ | with_reducible refine r_ac ?_ | with_reducible refine r_fz ?_ | with_reducible refine r_mv ?_ | with_reducible refine r_gv ?_ | with_reducible refine r_one ?_ | with_reducible refine r_two ?_ | with_reducible refine r_asI ?_ | with_reducible refine r_add ?_ | with_reducible refine r_sub ?_ | with_reducible refine r_lt ?_ | with_reducible refine r_le ?_ | with_reducible refine r_gt ?_ | with_reducible refine r_ge ?_ | with_reducible refine r_seqT ?_ | with_reducible refine r_seqL ?_ | with_reducible refine r_b1 ?_ | with_reducible refine r_b2 ?_ | with_reducible refine r_lc ?_ | with_reducible refine r_lc2 ?_ | with_reducible refine r_enm ?_ | with_reducible refine r_seq ?_ | with_reducible refine r_zip ?_ | with_reducible refine r_rng1 ?_ | with_reducible refine r_rng2 ?_ | with_reducible refine r_tup ?_ | with_reducible refine r_lst ?_ | with_reducible refine r_fn ?_ | with_reducible refine r_fc ?_ | with_reducible refine r_mn ?_ | with_reducible refine r_mc ?_ | with_reducible refine r_cS ?_ | with_reducible refine r_cB ?_ | with_reducible refine r_cN ?_ | with_reducible refine r_neg ?_ | with_reducible refine r_cmp2 ?_ | with_reducible refine r_and ?_ | with_reducible refine r_or ?_ | with_reducible refine r_andc ?_ | with_reducible refine r_andn ?_ | with_reducible refine r_orc ?_ | with_reducible refine r_orn ?_ | with_reducible refine r_not ?_ | with_reducible refine r_ife ?_ | with_reducible refine r_slc ?_ | with_reducible refine r_slcL ?_ | with_reducible refine r_slcH ?_ | with_reducible refine r_slcA ?_ | with_reducible refine r_rev ?_ | with_reducible refine r_isi ?_ | with_reducible refine r_asBv ?_ | with_reducible refine r_lcs ?_ | with_reducible refine r_slL ?_ | with_reducible refine r_slT ?_ | with_reducible refine r_revL ?_ | with_reducible refine r_listL ?_ | with_reducible refine r_listT ?_ | with_reducible refine r_tupT ?_ | with_reducible refine r_dct ?_ | with_reducible refine r_subK ?_ | with_reducible refine r_intI ?_ | with_reducible refine r_lcs2 ?_ | with_reducible refine r_fst ?_ | with_reducible refine r_bnm ?_ | (with_reducible refine r_btp ?_; refine ⟨rfl, ?_⟩) | with_reducible refine r_iteT ?_ | with_reducible refine r_iteF ?_ | (with_reducible refine r_ifT ?_; refine ⟨rfl, ?_⟩) | (with_reducible refine r_ifF ?_; refine ⟨rfl, ?_⟩) | with_reducible refine r_eqI ?_ | with_reducible refine r_neI ?_ | with_reducible refine r_mvL ?_ | with_reducible refine r_gvL ?_ | with_reducible refine r_mvD ?_ | with_reducible refine r_gvD ?_ | (with_reducible refine r_varL ?_; refine ⟨_, rfl, ?_⟩) | (with_reducible refine r_varD ?_; refine ⟨_, rfl, ?_⟩) | (with_reducible refine r_aug ?_; refine ⟨_, rfl, ?_⟩) | with_reducible refine r_ret0 ?_ | with_reducible refine r_tupL ?_ | with_reducible refine r_oneL ?_ | with_reducible refine r_fzL ?_ | with_reducible refine go1 ?_ | with_reducible refine go2 ?_ | with_reducible refine go3 ?_)
      exact r_q1rt rfl (h _ (ys ++ [c.fdiv (max 2 many)]) m (d + 1) (Int.fmod_nonneg_of_pos _ h1) (Int.fmod_lt_of_pos _ h1) (by rw [List.length_append, List.length_singleton]; omega))
    · refine r_ifF ⟨decide_eq_false hb, ?_⟩
      repeat (first | with_reducible refine r_seqnx ?_ | with_reducible refine r_seqrt ?_ | with_reducible refine r_qrt ?_ | with_reducible refine r_cons ?_ | with_reducible refine r_nil ?_ | with_reducible refine r_set ?_ | with_reducible refine r_par ?_ | with_reducible refine r_ret ?_ | with_reducible refine r_retN ?_ | with_reducible refine r_if ?_ | with_reducible refine r_for ?_ | with_reducible refine r_exp ?_ | (with_reducible refine r_var ?_; refine ⟨_, rfl, ?_⟩) | with_reducible refine r_cI ?_ | with_reducible refine r_bin ?_ | with_reducible refine r_cmp ?_ | with_reducible refine r_idx ?_ | with_reducible refine r_cal ?_ | with_reducible refine r_an ?_ | with_reducible refine r_ac ?_ | with_reducible refine r_fz ?_ | with_reducible refine r_mv ?_ | with_reducible refine r_gv ?_ | with_reducible refine r_one ?_ | with_reducible refine r_two ?_ | with_reducible refine r_asI ?_ | with_reducible refine r_add ?_ | with_reducible refine r_sub ?_ | with_reducible refine r_lt ?_ | with_reducible refine r_le ?_ | with_reducible refine r_gt ?_ | with_reducible refine r_ge ?_ | with_reducible refine r_seqT ?_ | with_reducible refine r_seqL ?_ | with_reducible refine r_b1 ?_ | with_reducible refine r_b2 ?_ | with_reducible refine r_lc ?_ | with_reducible refine r_lc2 ?_ | with_reducible refine r_enm ?_ | with_reducible refine r_seq ?_ | with_reducible refine r_zip ?_ | with_reducible refine r_rng1 ?_ | with_reducible refine r_rng2 ?_ | with_reducible refine r_tup ?_ | with_reducible refine r_lst ?_ | with_reducible refine r_fn ?_ | with_reducible refine r_fc ?_ | with_reducible refine r_mn ?_ | with_reducible refine r_mc ?_ | with_reducible refine r_cS ?_ | with_reducible refine r_cB ?_ | with_reducible refine r_cN ?_ | with_reducible refine r_neg ?_ | with_reducible refine r_cmp2 ?_ | with_reducible refine r_and ?_ | with_reducible refine r_or ?_ | with_reducible refine r_andc ?_ | with_reducible refine r_andn ?_ | with_reducible refine r_orc ?_ | with_reducible refine r_orn ?_ | with_reducible refine r_not ?_ | with_reducible refine r_ife ?_ | with_reducible refine r_slc ?_ | with_reducible refine r_slcL ?_ | with_reducible refine r_slcH ?_ | with_reducible refine r_slcA ?_ | with_reducible refine r_rev ?_ | with_reducible refine r_isi ?_ | with_reducible refine r_asBv ?_ | with_reducible refine r_lcs ?_ | with_reducible refine r_slL ?_ | with_reducible refine r_slT ?_ | with_reducible refine r_revL ?_ | with_reducible refine r_listL ?_ | with_reducible refine r_listT ?_ | with_reducible refine r_tupT ?_ | with_reducible refine r_dct ?_ | with_reducible refine r_subK ?_ | with_reducible refine r_intI ?_ | with_reducible refine r_lcs2 ?_ | with_reducible refine r_fst ?_ | with_reducible refine r_bnm ?_ | (with_reducible refine r_btp ?_; refine ⟨rfl, ?_⟩) | with_reducible refine r_iteT ?_ | with_reducible refine r_iteF ?_ | (with_reducible refine r_ifT ?_; refine ⟨rfl, ?_⟩) | (with_reducible refine r_ifF ?_; refine ⟨rfl, ?_⟩) | with_reducible refine r_eqI ?_ | with_reducible refine r_neI ?_ | with_reducible refine r_mvL ?_ | with_reducible refine r_gvL ?_ | with_reducible refine r_mvD ?_ | with_reducible refine r_gvD ?_ | (with_reducible refine r_varL ?_; refine ⟨_, rfl, ?_⟩) | (with_reducible refine r_varD ?_; refine ⟨_, rfl, ?_⟩) | (with_reducible refine r_aug ?_; refine ⟨_, rfl, ?_⟩) | with_reducible refine r_ret0 ?_ | with_reducible refine r_tupL ?_ | with_reducible refine r_oneL ?_ | with_reducible refine r_fzL ?_ | with_reducible refine go1 ?_ | with_reducible refine go2 ?_ | with_reducible refine go3 ?_)
      refine r_mod (by decide) ?_
      repeat (first | with_reducible refine r_seqnx ?_ | with_reducible refine r_seqrt ?_ | with_reducible refine r_qrt ?_ | with_reducible refine r_cons ?_ | with_reducible refine r_nil ?_ | with_reducible refine r_set ?_ | with_reducible refine r_par ?_ | with_reducible refine r_ret ?_ | with_reducible refine r_retN ?_ | with_reducible refine r_if ?_ | with_reducible refine r_for ?_ | with_reducible refine r_exp ?_ | (with_reducible refine r_var ?_; refine ⟨_, rfl, ?_⟩) | with_reducible refine r_cI ?_ | with_reducible refine r_bin ?_ | with_reducible refine r_cmp ?_ | with_reducible refine r_idx ?_ | with_reducible refine r_cal ?_ | with_reducible refine r_an ?_ | with_reducible refine r_ac ?_ | with_reducible refine r_fz ?_ | with_reducible refine r_mv ?_ | with_reducible refine r_gv ?_ | with_reducible refine r_one ?_ | with_reducible refine r_two ?_ | with_reducible refine r_asI ?_ | with_reducible refine r_add ?_ | with_reducible refine r_sub ?_ | with_reducible refine r_lt ?_ | with_reducible refine r_le ?_ | with_reducible refine r_gt ?_ | with_reducible refine r_ge ?_ | with_reducible refine r_seqT ?_ | with_reducible refine r_seqL ?_ | with_reducible refine r_b1 ?_ | with_reducible refine r_b2 ?_ | with_reducible refine r_lc ?_ | with_reducible refine r_lc2 ?_ | with_reducible refine r_enm ?_ | with_reducible refine r_seq ?_ | with_reducible refine r_zip ?_ | with_reducible refine r_rng1 ?_ | with_reducible refine r_rng2 ?_ | with_reducible refine r_tup ?_ | with_reducible refine r_lst ?_ | with_reducible refine r_fn ?_ | with_reducible refine r_fc ?_ | with_reducible refine r_mn ?_ | with_reducible refine r_mc ?_ | with_reducible refine r_cS ?_ | with_reducible refine r_cB ?_ | with_reducible refine r_cN ?_ | with_reducible refine r_neg ?_ | with_reducible refine r_cmp2 ?_ | with_reducible refine r_and ?_ | with_reducible refine r_or ?_ | with_reducible refine r_andc ?_ | with_reducible refine r_andn ?_ | with_reducible refine r_orc ?_ | with_reducible refine r_orn ?_ | with_reducible refine r_not ?_ | with_reducible refine r_ife ?_ | with_reducible refine r_slc ?_ | with_reducible refine r_slcL ?_ | with_reducible refine r_slcH ?_ | with_reducible refine r_slcA ?_ | with_reducible refine r_rev ?_ | with_reducible refine r_isi ?_ | with_reducible refine r_asBv ?_ | with_reducible refine r_lcs ?_ | with_reducible refine r_slL ?_ | with_reducible refine r_slT ?_ | with_reducible refine r_revL ?_ | with_reducible refine r_listL ?_ | with_reducible refine r_listT ?_ | with_reducible refine r_tupT ?_ | with_reducible refine r_dct ?_ | with_reducible refine r_subK ?_ | with_reducible refine r_intI ?_ | with_reducible refine r_lcs2 ?_ | with_reducible refine r_fst ?_ | with_reducible refine r_bnm ?_ | (with_reducible refine r_btp ?_; refine ⟨rfl, ?_⟩) | with_reducible refine r_iteT ?_ | with_reducible refine r_iteF ?_ | (with_reducible refine r_ifT ?_; refine ⟨rfl, ?_⟩) | (with_reducible refine r_ifF ?_; refine ⟨rfl, ?_⟩) | with_reducible refine r_eqI ?_ | with_reducible refine r_neI ?_ | with_reducible refine r_mvL ?_ | with_reducible refine r_gvL ?_ | with_reducible refine r_mvD ?_ | with_reducible refine r_gvD ?_ | (with_reducible refine r_varL ?_; refine ⟨_, rfl, ?_⟩) | (with_reducible refine r_varD ?_; refine ⟨_, rfl, ?_⟩) | (with_reducible refine r_aug ?_; refine ⟨_, rfl, ?_⟩) | with_reducible refine r_ret0 ?_ | with_reducible refine r_tupL ?_ | with_reducible refine r_oneL ?_ | with_reducible refine r_fzL ?_ | with_reducible refine go1 ?_ | with_reducible refine go2 ?_ | with_reducible refine go3 ?_)
      exact draw_tail _ ys m (d + 1) many _ _ (by omega) h1 h2 Q h
theorem sp_pick (n : Nat) (cells : List Int) (m d : Int) (xs : List PD) (hc : cells.length ≤ 63) (h1 : xs ≠ []) (h2 : xs.length ≤ 1000000) (Q : W → List W → Prop) (h : ∀ x cs m' d', x ∈ xs → cs.length ≤ 63 → Q (.d x) [dk cs m' d']) : callN TB (n + 2) i__law_pick [dk cells m d, .d (.list xs)] Q := by
  refine r_call1 tb__law_pick rfl ?_
  simp only [b__law_pick, List.map_cons, List.map_nil, List.replicate, List.cons_append, List.nil_append, Nat.reduceSub]
  have hl : 0 < xs.length := List.length_pos_iff.mpr h1
  repeat (first | with_reducible refine r_seqnx ?_ | with_reducible refine r_seqrt ?_ | with_reducible refine r_qrt ?_ | with_reducible refine r_cons ?_ | with_reducible refine r_nil ?_ | with_reducible refine r_set ?_ | with_reducible refine r_par ?_ | with_reducible refine r_ret ?_ | with_reducible refine r_retN ?_ | with_reducible refine r_if ?_ | with_reducible refine r_for ?_ | with_reducible refine r_exp ?_ | (with_reducible refine r_var ?_; refine ⟨_, rfl, ?_⟩) | with_reducible refine r_cI ?_ | with_reducible refine r_bin ?_ | with_reducible refine r_cmp ?_ | with_reducible refine r_idx ?_ | with_reducible refine r_cal ?_ | with_reducible refine r_an ?_ | with_reducible refine r_ac ?_ | with_reducible refine r_fz ?_ | with_reducible refine r_mv ?_ | with_reducible refine r_gv ?_ | with_reducible refine r_one ?_ | with_reducible refine r_two ?_ | with_reducible refine r_asI ?_ | with_reducible refine r_add ?_ | with_reducible refine r_sub ?_ | with_reducible refine r_lt ?_ | with_reducible refine r_le ?_ | with_reducible refine r_gt ?_ | with_reducible refine r_ge ?_ | with_reducible refine r_seqT ?_ | with_reducible refine r_seqL ?_ | with_reducible refine r_b1 ?_ | with_reducible refine r_b2 ?_ | with_reducible refine r_lc ?_ | with_reducible refine r_lc2 ?_ | with_reducible refine r_enm ?_ | with_reducible refine r_seq ?_ | with_reducible refine r_zip ?_ | with_reducible refine r_rng1 ?_ | with_reducible refine r_rng2 ?_ | with_reducible refine r_tup ?_ | with_reducible refine r_lst ?_ | with_reducible refine r_fn ?_ | with_reducible refine r_fc ?_ | with_reducible refine r_mn ?_ | with_reducible refine r_mc ?_ | with_reducible refine r_cS ?_ | with_reducible refine r_cB ?_ | with_reducible refine r_cN ?_ | with_reducible refine r_neg ?_ | with_reducible refine r_cmp2 ?_ | with_reducible refine r_and ?_ | with_reducible refine r_or ?_ | with_reducible refine r_andc ?_ | with_reducible refine r_andn ?_ | with_reducible refine r_orc ?_ | with_reducible refine r_orn ?_ | with_reducible refine r_not ?_ | with_reducible refine r_ife ?_ | with_reducible refine r_slc ?_ | with_reducible refine r_slcL ?_ | with_reducible refine r_slcH ?_ | with_reducible refine r_slcA ?_ | with_reducible refine r_rev ?_ | with_reducible refine r_isi ?_ | with_reducible refine r_asBv ?_ | with_reducible refine r_lcs ?_ | with_reducible refine r_slL ?_ | with_reducible refine r_slT ?_ | with_reducible refine r_revL ?_ | with_reducible refine r_listL ?_ | with_reducible refine r_listT ?_ | with_reducible refine r_tupT ?_ | with_reducible refine r_dct ?_ | with_reducible refine r_subK ?_ | with_reducible refine r_intI ?_ | with_reducible refine r_lcs2 ?_ | with_reducible refine r_fst ?_ | with_reducible refine r_bnm ?_ | (with_reducible refine r_btp ?_; refine ⟨rfl, ?_⟩) | with_reducible refine r_iteT ?_ | with_reducible refine r_iteF ?_ | (with_reducible refine r_ifT ?_; refine ⟨rfl, ?_⟩) | (with_reducible refine r_ifF ?_; refine ⟨rfl, ?_⟩) | with_reducible refine r_eqI ?_ | with_reducible refine r_neI ?_ | with_reducible refine r_mvL ?_ | with_reducible refine r_gvL ?_ | with_reducible refine r_mvD ?_ | with_reducible refine r_gvD ?_ | (with_reducible refine r_varL ?_; refine ⟨_, rfl, ?_⟩) | (with_reducible refine r_varD ?_; refine ⟨_, rfl, ?_⟩) | (with_reducible refine r_aug ?_; refine ⟨_, rfl, ?_⟩) | with_reducible refine r_ret0 ?_ | with_reducible refine r_tupL ?_ | with_reducible refine r_oneL ?_ | with_reducible refine r_fzL ?_ | with_reducible refine go1 ?_ | with_reducible refine go2 ?_ | with_reducible refine go3 ?_)
  refine r_ar rfl ?_
  repeat (first | with_reducible refine r_seqnx ?_ | with_reducible refine r_seqrt ?_ | with_reducible refine r_qrt ?_ | with_reducible refine r_cons ?_ | with_reducible refine r_nil ?_ | with_reducible refine r_set ?_ | with_reducible refine r_par ?_ | with_reducible refine r_ret ?_ | with_reducible refine r_retN ?_ | with_reducible refine r_if ?_ | with_reducible refine r_for ?_ | with_reducible refine r_exp ?_ | (with_reducible refine r_var ?_; refine ⟨_, rfl, ?_⟩) | with_reducible refine r_cI ?_ | with_reducible refine r_bin ?_ | with_reducible refine r_cmp ?_ | with_reducible refine r_idx ?_ | with_reducible refine r_cal ?_ | with_reducible refine r_an ?_ | with_reducible refine r_ac ?_ | with_reducible refine r_fz ?_ | with_reducible refine r_mv ?_ | with_reducible refine r_gv ?_ | with_reducible refine r_one ?_ | with_reducible refine r_two ?_ | with_reducible refine r_asI ?_ | with_reducible refine r_add ?_ | with_reducible refine r_sub ?_ | with_reducible refine r_lt ?_ | with_reducible refine r_le ?_ | with_reducible refine r_gt ?_ | with_reducible refine r_ge ?_ | with_reducible refine r_seqT ?_ | with_reducible refine r_seqL ?_ | with_reducible refine r_b1 ?_ | with_reducible refine r_b2 ?_ | with_reducible refine r_lc ?_ | with_reducible refine r_lc2 ?_ | with_reducible refine r_enm ?_ | with_reducible refine r_seq ?_ | with_reducible refine r_zip ?_ | with_reducible refine r_rng1 ?_ | with_reducible refine r_rng2 ?_ | with_reducible refine r_tup ?_ | with_reducible refine r_lst ?_ | with_reducible refine r_fn ?_ | with_reducible refine r_fc ?_ | with_reducible refine r_mn ?_ | with_reducible refine r_mc ?_ | with_reducible refine r_cS ?_ | with_reducible refine r_cB ?_ | with_reducible refine r_cN ?_ | with_reducible refine r_neg ?_ | with_reducible refine r_cmp2 ?_ | with_reducible refine r_and ?_ | with_reducible refine r_or ?_ | with_reducible refine r_andc ?_ | with_reducible refine r_andn ?_ | with_reducible refine r_orc ?_ | with_reducible refine r_orn ?_ | with_reducible refine r_not ?_ | with_reducible refine r_ife ?_ | with_reducible refine r_slc ?_ | with_reducible refine r_slcL ?_ | with_reducible refine r_slcH ?_ | with_reducible refine r_slcA ?_ | with_reducible refine r_rev ?_ | with_reducible refine r_isi ?_ | with_reducible refine r_asBv ?_ | with_reducible refine r_lcs ?_ | with_reducible refine r_slL ?_ | with_reducible refine r_slT ?_ | with_reducible refine r_revL ?_ | with_reducible refine r_listL ?_ | with_reducible refine r_listT ?_ | with_reducible refine r_tupT ?_ | with_reducible refine r_dct ?_ | with_reducible refine r_subK ?_ | with_reducible refine r_intI ?_ | with_reducible refine r_lcs2 ?_ | with_reducible refine r_fst ?_ | with_reducible refine r_bnm ?_ | (with_reducible refine r_btp ?_; refine ⟨rfl, ?_⟩) | with_reducible refine r_iteT ?_ | with_reducible refine r_iteF ?_ | (with_reducible refine r_ifT ?_; refine ⟨rfl, ?_⟩) | (with_reducible refine r_ifF ?_; refine ⟨rfl, ?_⟩) | with_reducible refine r_eqI ?_ | with_reducible refine r_neI ?_ | with_reducible refine r_mvL ?_ | with_reducible refine r_gvL ?_ | with_reducible refine r_mvD ?_ | with_reducible refine r_gvD ?_ | (with_reducible refine r_varL ?_; refine ⟨_, rfl, ?_⟩) | (with_reducible refine r_varD ?_; refine ⟨_, rfl, ?_⟩) | (with_reducible refine r_aug ?_; refine ⟨_, rfl, ?_⟩) | with_reducible refine r_ret0 ?_ | with_reducible refine r_tupL ?_ | with_reducible refine r_oneL ?_ | with_reducible refine r_fzL ?_ | with_reducible refine go1 ?_ | with_reducible refine go2 ?_ | with_reducible refine go3 ?_)
  refine r_lenL h2 ?_
  repeat (first | with_reducible refine r_seqnx ?_ | with_reducible refine r_seqrt ?_ | with_reducible refine r_qrt ?_ | with_reducible refine r_cons ?_ | with_reducible refine r_nil ?_ | with_reducible refine r_set ?_ | with_reducible refine r_par ?_ | with_reducible refine r_ret ?_ | with_reducible refine r_retN ?_ | with_reducible refine r_if ?_ | with_reducible refine r_for ?_ | with_reducible refine r_exp ?_ | (with_reducible refine r_var ?_; refine ⟨_, rfl, ?_⟩) | with_reducible refine r_cI ?_ | with_reducible refine r_bin ?_ | with_reducible refine r_cmp ?_ | with_reducible refine r_idx ?_ | with_reducible refine r_cal ?_ | with_reducible refine r_an ?_ | with_reducible refine r_ac ?_ | with_reducible refine r_fz ?_ | with_reducible refine r_mv ?_ | with_reducible refine r_gv ?_ | with_reducible refine r_one ?_ | with_reducible refine r_two ?_ | with_reducible refine r_asI ?_ | with_reducible refine r_add ?_ | with_reducible refine r_sub ?_ | with_reducible refine r_lt ?_ | with_reducible refine r_le ?_ | with_reducible refine r_gt ?_ | with_reducible refine r_ge ?_ | with_reducible refine r_seqT ?_ | with_reducible refine r_seqL ?_ | with_reducible refine r_b1 ?_ | with_reducible refine r_b2 ?_ | with_reducible refine r_lc ?_ | with_reducible refine r_lc2 ?_ | with_reducible refine r_enm ?_ | with_reducible refine r_seq ?_ | with_reducible refine r_zip ?_ | with_reducible refine r_rng1 ?_ | with_reducible refine r_rng2 ?_ | with_reducible refine r_tup ?_ | with_reducible refine r_lst ?_ | with_reducible refine r_fn ?_ | with_reducible refine r_fc ?_ | with_reducible refine r_mn ?_ | with_reducible refine r_mc ?_ | with_reducible refine r_cS ?_ | with_reducible refine r_cB ?_ | with_reducible refine r_cN ?_ | with_reducible refine r_neg ?_ | with_reducible refine r_cmp2 ?_ | with_reducible refine r_and ?_ | with_reducible refine r_or ?_ | with_reducible refine r_andc ?_ | with_reducible refine r_andn ?_ | with_reducible refine r_orc ?_ | with_reducible refine r_orn ?_ | with_reducible refine r_not ?_ | with_reducible refine r_ife ?_ | with_reducible refine r_slc ?_ | with_reducible refine r_slcL ?_ | with_reducible refine r_slcH ?_ | with_reducible refine r_slcA ?_ | with_reducible refine r_rev ?_ | with_reducible refine r_isi ?_ | with_reducible refine r_asBv ?_ | with_reducible refine r_lcs ?_ | with_reducible refine r_slL ?_ | with_reducible refine r_slT ?_ | with_reducible refine r_revL ?_ | with_reducible refine r_listL ?_ | with_reducible refine r_listT ?_ | with_reducible refine r_tupT ?_ | with_reducible refine r_dct ?_ | with_reducible refine r_subK ?_ | with_reducible refine r_intI ?_ | with_reducible refine r_lcs2 ?_ | with_reducible refine r_fst ?_ | with_reducible refine r_bnm ?_ | (with_reducible refine r_btp ?_; refine ⟨rfl, ?_⟩) | with_reducible refine r_iteT ?_ | with_reducible refine r_iteF ?_ | (with_reducible refine r_ifT ?_; refine ⟨rfl, ?_⟩) | (with_reducible refine r_ifF ?_; refine ⟨rfl, ?_⟩) | with_reducible refine r_eqI ?_ | with_reducible refine r_neI ?_ | with_reducible refine r_mvL ?_ | with_reducible refine r_gvL ?_ | with_reducible refine r_mvD ?_ | with_reducible refine r_gvD ?_ | (with_reducible refine r_varL ?_; refine ⟨_, rfl, ?_⟩) | (with_reducible refine r_varD ?_; refine ⟨_, rfl, ?_⟩) | (with_reducible refine r_aug ?_; refine ⟨_, rfl, ?_⟩) | with_reducible refine r_ret0 ?_ | with_reducible refine r_tupL ?_ | with_reducible refine r_oneL ?_ | with_reducible refine r_fzL ?_ | with_reducible refine go1 ?_ | with_reducible refine go2 ?_ | with_reducible refine go3 ?_)
  refine goR2 rfl (sp_draw n cells m d _ hc (by omega) (by omega) _ fun r cs m' d' r0 r1 hcs => ⟨_, rfl, ?_⟩)
  obtain ⟨j, rfl⟩ : ∃ j : Nat, r = (j : Int) := ⟨r.toNat, by omega⟩
  have hj : j < xs.length := by omega
  repeat (first | with_reducible refine r_seqnx ?_ | with_reducible refine r_seqrt ?_ | with_reducible refine r_qrt ?_ | with_reducible refine r_cons ?_ | with_reducible refine r_nil ?_ | with_reducible refine r_set ?_ | with_reducible refine r_par ?_ | with_reducible refine r_ret ?_ | with_reducible refine r_retN ?_ | with_reducible refine r_if ?_ | with_reducible refine r_for ?_ | with_reducible refine r_exp ?_ | (with_reducible refine r_var ?_; refine ⟨_, rfl, ?_⟩) | with_reducible refine r_cI ?_ | with_reducible refine r_bin ?_ | with_reducible refine r_cmp ?_ | with_reducible refine r_idx ?_ | with_reducible refine r_cal ?_ | with_reducible refine r_an ?_ | with_reducible refine r_ac ?_ | with_reducible refine r_fz ?_ | with_reducible refine r_mv ?_ | with_reducible refine r_gv ?_ | with_reducible refine r_one ?_ | with_reducible refine r_two ?_ | with_reducible refine r_asI ?_ | with_reducible refine r_add ?_ | with_reducible refine r_sub ?_ | with_reducible refine r_lt ?_ | with_reducible refine r_le ?_ | with_reducible refine r_gt ?_ | with_reducible refine r_ge ?_ | with_reducible refine r_seqT ?_ | with_reducible refine r_seqL ?_ | with_reducible refine r_b1 ?_ | with_reducible refine r_b2 ?_ | with_reducible refine r_lc ?_ | with_reducible refine r_lc2 ?_ | with_reducible refine r_enm ?_ | with_reducible refine r_seq ?_ | with_reducible refine r_zip ?_ | with_reducible refine r_rng1 ?_ | with_reducible refine r_rng2 ?_ | with_reducible refine r_tup ?_ | with_reducible refine r_lst ?_ | with_reducible refine r_fn ?_ | with_reducible refine r_fc ?_ | with_reducible refine r_mn ?_ | with_reducible refine r_mc ?_ | with_reducible refine r_cS ?_ | with_reducible refine r_cB ?_ | with_reducible refine r_cN ?_ | with_reducible refine r_neg ?_ | with_reducible refine r_cmp2 ?_ | with_reducible refine r_and ?_ | with_reducible refine r_or ?_ | with_reducible refine r_andc ?_ | with_reducible refine r_andn ?_ | with_reducible refine r_orc ?_ | with_reducible refine r_orn ?_ | with_reducible refine r_not ?_ | with_reducible refine r_ife ?_ | with_reducible refine r_slc ?_ | with_reducible refine r_slcL ?_ | with_reducible refine r_slcH ?_ | with_reducible refine r_slcA ?_ | with_reducible refine r_rev ?_ | with_reducible refine r_isi ?_ | with_reducible refine r_asBv ?_ | with_reducible refine r_lcs ?_ | with_reducible refine r_slL ?_ | with_reducible refine r_slT ?_ | with_reducible refine r_revL ?_ | with_reducible refine r_listL ?_ | with_reducible refine r_listT ?_ | with_reducible refine r_tupT ?_ | with_reducible refine r_dct ?_ | with_reducible refine r_subK ?_ | with_reducible refine r_intI ?_ | with_reducible refine r_lcs2 ?_ | with_reducible refine r_fst ?_ | with_reducible refine r_bnm ?_ | (with_reducible refine r_btp ?_; refine ⟨rfl, ?_⟩) | with_reducible refine r_iteT ?_ | with_reducible refine r_iteF ?_ | (with_reducible refine r_ifT ?_; refine ⟨rfl, ?_⟩) | (with_reducible refine r_ifF ?_; refine ⟨rfl, ?_⟩) | with_reducible refine r_eqI ?_ | with_reducible refine r_neI ?_ | with_reducible refine r_mvL ?_ | with_reducible refine r_gvL ?_ | with_reducible refine r_mvD ?_ | with_reducible refine r_gvD ?_ | (with_reducible refine r_varL ?_; refine ⟨_, rfl, ?_⟩) | (with_reducible refine r_varD ?_; refine ⟨_, rfl, ?_⟩) | (with_reducible refine r_aug ?_; refine ⟨_, rfl, ?_⟩) | with_reducible refine r_ret0 ?_ | with_reducible refine r_tupL ?_ | with_reducible refine r_oneL ?_ | with_reducible refine r_fzL ?_ | with_reducible refine go1 ?_ | with_reducible refine go2 ?_ | with_reducible refine go3 ?_)
  refine r_idxL (List.getElem?_eq_getElem hj) ?_
  repeat (first | with_reducible refine r_seqnx ?_ | with_reducible refine r_seqrt ?_ | with_reducible refine r_qrt ?_ | with_reducible refine r_cons ?_ | with_reducible refine r_nil ?_ | with_reducible refine r_set ?_ | with_reducible refine r_par ?_ | with_reducible refine r_ret ?_ | with_reducible refine r_retN ?_ | with_reducible refine r_if ?_ | with_reducible refine r_for ?_ | with_reducible refine r_exp ?_ | (with_reducible refine r_var ?_; refine ⟨_, rfl, ?_⟩) | with_reducible refine r_cI ?_ | with_reducible refine r_bin ?_ | with_reducible refine r_cmp ?_ | with_reducible refine r_idx ?_ | with_reducible refine r_cal ?_ | with_reducible refine r_an ?_ | with_reducible refine r_ac ?_ | with_reducible refine r_fz ?_ | with_reducible refine r_mv ?_ | with_reducible refine r_gv ?_ | with_reducible refine r_one ?_ | with_reducible refine r_two ?_ | with_reducible refine r_asI ?_ | with_reducible refine r_add ?_ | with_reducible refine r_sub ?_ | with_reducible refine r_lt ?_ | with_reducible refine r_le ?_ | with_reducible refine r_gt ?_ | with_reducible refine r_ge ?_ | with_reducible refine r_seqT ?_ | with_reducible refine r_seqL ?_ | with_reducible refine r_b1 ?_ | with_reducible refine r_b2 ?_ | with_reducible refine r_lc ?_ | with_reducible refine r_lc2 ?_ | with_reducible refine r_enm ?_ | with_reducible refine r_seq ?_ | with_reducible refine r_zip ?_ | with_reducible refine r_rng1 ?_ | with_reducible refine r_rng2 ?_ | with_reducible refine r_tup ?_ | with_reducible refine r_lst ?_ | with_reducible refine r_fn ?_ | with_reducible refine r_fc ?_ | with_reducible refine r_mn ?_ | with_reducible refine r_mc ?_ | with_reducible refine r_cS ?_ | with_reducible refine r_cB ?_ | with_reducible refine r_cN ?_ | with_reducible refine r_neg ?_ | with_reducible refine r_cmp2 ?_ | with_reducible refine r_and ?_ | with_reducible refine r_or ?_ | with_reducible refine r_andc ?_ | with_reducible refine r_andn ?_ | with_reducible refine r_orc ?_ | with_reducible refine r_orn ?_ | with_reducible refine r_not ?_ | with_reducible refine r_ife ?_ | with_reducible refine r_slc ?_ | with_reducible refine r_slcL ?_ | with_reducible refine r_slcH ?_ | with_reducible refine r_slcA ?_ | with_reducible refine r_rev ?_ | with_reducible refine r_isi ?_ | with_reducible refine r_asBv ?_ | with_reducible refine r_lcs ?_ | with_reducible refine r_slL ?_ | with_reducible refine r_slT ?_ | with_reducible refine r_revL ?_ | with_reducible refine r_listL ?_ | with_reducible refine r_listT ?_ | with_reducible refine r_tupT ?_ | with_reducible refine r_dct ?_ | with_reducible refine r_subK ?_ | with_reducible refine r_intI ?_ | with_reducible refine r_lcs2 ?_ | with_reducible refine r_fst ?_ | with_reducible refine r_bnm ?_ | (with_reducible refine r_btp ?_; refine ⟨rfl, ?_⟩) | with_reducible refine r_iteT ?_ | with_reducible refine r_iteF ?_ | (with_reducible refine r_ifT ?_; refine ⟨rfl, ?_⟩) | (with_reducible refine r_ifF ?_; refine ⟨rfl, ?_⟩) | with_reducible refine r_eqI ?_ | with_reducible refine r_neI ?_ | with_reducible refine r_mvL ?_ | with_reducible refine r_gvL ?_ | with_reducible refine r_mvD ?_ | with_reducible refine r_gvD ?_ | (with_reducible refine r_varL ?_; refine ⟨_, rfl, ?_⟩) | (with_reducible refine r_varD ?_; refine ⟨_, rfl, ?_⟩) | (with_reducible refine r_aug ?_; refine ⟨_, rfl, ?_⟩) | with_reducible refine r_ret0 ?_ | with_reducible refine r_tupL ?_ | with_reducible refine r_oneL ?_ | with_reducible refine r_fzL ?_ | with_reducible refine go1 ?_ | with_reducible refine go2 ?_ | with_reducible refine go3 ?_)
  exact r_q1rt rfl (h _ cs m' d' (List.getElem_mem hj) hcs)
end Mn

set_option linter.all false
set_option maxRecDepth 100000
set_option maxHeartbeats 2000000
namespace Mn
open PySem
theorem cut_map {α β : Type} (f : α → β) (xs : List α) (lo hi : Option Int) : cut (xs.map f) lo hi = (cut xs lo hi).map f := by
  unfold cut
  rw [List.length_map, List.map_take, List.map_drop]
theorem cut_len {α : Type} (xs : List α) (lo hi : Option Int) : (cut xs lo hi).length ≤ xs.length := by
  unfold cut
  rw [List.length_take, List.length_drop]
  omega
theorem deck_loop (C : Ctx) (S : PD) (kk : K) (hk : ∀ m s2, kk.nx [some (.d S), some (.d (.int m)), s2]) : ∀ (cs : List Int) (m : Int) (s2 : Option W),
    forW (forStep C (.nm 2) (.cons (.set 1 (.bin .mod (.b1 .int (.bin .add (.bin .add (.bin .mul (.var 1) (.cI 48271)) (.bin .mod (.b1 .int (.var 2)) (.cI 2147483629))) (.cI 97))) (.cI 2147483587))) .nil)) (cs.map .int) [some (.d S), some (.d (.int m)), s2] kk
  | [], m, s2 => hk m s2
  | c :: cs, m, s2 => by
    show forStep _ _ _ _ _ _
    repeat (first | with_reducible refine r_seqnx ?_ | with_reducible refine r_seqrt ?_ | with_reducible refine r_qrt ?_ | with_reducible refine r_cons ?_ | with_reducible refine r_nil ?_ | with_reducible refine r_set ?_ | with_reducible refine r_par ?_ | with_reducible refine r_ret ?_ | with_reducible refine r_retN ?_ | with_reducible refine r_if ?_ | with_reducible refine r_for ?_ | with_reducible refine r_exp ?_ | (with_reducible refine r_var ?_; refine ⟨_, rfl, ?_⟩) | with_reducible refine r_cI ?_ | with_reducible refine r_bin ?_ | with_reducible refine r_cmp ?_ | with_reducible refine r_idx ?_ | with_reducible refine r_cal ?_ | with_reducible refine r_an ?_ | with_reducible refine r_ac ?_ | with_reducible refine r_fz ?_ | with_reducible refine r_mv ?_ | with_reducible refine r_gv ?_ | with_reducible refine r_one ?_ | with_reducible refine r_two ?_ | with_reducible refine r_asI ?_ | with_reducible refine r_add ?_ | with_reducible refine r_sub ?_ | with_reducible refine r_lt ?_ | with_reducible refine r_le ?_ | with_reducible refine r_gt ?_ | with_reducible refine r_ge ?_ | with_reducible refine r_seqT ?_ | with_reducible refine r_seqL ?_ | with_reducible refine r_b1 ?_ | with_reducible refine r_b2 ?_ | with_reducible refine r_lc ?_ | with_reducible refine r_lc2 ?_ | with_reducible refine r_enm ?_ | with_reducible refine r_seq ?_ | with_reducible refine r_zip ?_ | with_reducible refine r_rng1 ?_ | with_reducible refine r_rng2 ?_ | with_reducible refine r_tup ?_ | with_reducible refine r_lst ?_ | with_reducible refine r_fn ?_ | with_reducible refine r_fc ?_ | with_reducible refine r_mn ?_ | with_reducible refine r_mc ?_ | with_reducible refine r_cS ?_ | with_reducible refine r_cB ?_ | with_reducible refine r_cN ?_ | with_reducible refine r_neg ?_ | with_reducible refine r_cmp2 ?_ | with_reducible refine r_and ?_ | with_reducible refine r_or ?_ | with_reducible refine r_andc ?_ | with_reducible refine r_andn ?_ | with_reducible refine r_orc ?_ | with_reducible refine r_orn ?_ | with_reducible refine r_not ?_ | with_reducible refine r_ife ?_ | with_reducible refine r_slc ?_ | with_reducible refine r_slcL ?_ | with_reducible refine r_slcH ?_ | with_reducible refine r_slcA ?_ | with_reducible refine r_rev ?_ | with_reducible refine r_isi ?_ | with_reducible refine r_asBv ?_ | with_reducible refine r_lcs ?_ | with_reducible refine r_slL ?_ | with_reducible refine r_slT ?_ | with_reducible refine r_revL ?_ | with_reducible refine r_listL ?_ | with_reducible refine r_listT ?_ | with_reducible refine r_tupT ?_ | with_reducible refine r_dct ?_ | with_reducible refine r_subK ?_ | with_reducible refine r_intI ?_ | with_reducible refine r_lcs2 ?_ | with_reducible refine r_fst ?_ | with_reducible refine r_bnm ?_ | (with_reducible refine r_btp ?_; refine ⟨rfl, ?_⟩) | with_reducible refine r_iteT ?_ | with_reducible refine r_iteF ?_ | (with_reducible refine r_ifT ?_; refine ⟨rfl, ?_⟩) | (with_reducible refine r_ifF ?_; refine ⟨rfl, ?_⟩) | with_reducible refine r_eqI ?_ | with_reducible refine r_neI ?_ | with_reducible refine r_mvL ?_ | with_reducible refine r_gvL ?_ | with_reducible refine r_mvD ?_ | with_reducible refine r_gvD ?_ | (with_reducible refine r_varL ?_; refine ⟨_, rfl, ?_⟩) | (with_reducible refine r_varD ?_; refine ⟨_, rfl, ?_⟩) | (with_reducible refine r_aug ?_; refine ⟨_, rfl, ?_⟩) | with_reducible refine r_ret0 ?_ | with_reducible refine r_tupL ?_ | with_reducible refine r_oneL ?_ | with_reducible refine r_fzL ?_ | with_reducible refine go1 ?_ | with_reducible refine go2 ?_ | with_reducible refine go3 ?_)
    refine r_mul (.inr (.inl (by decide))) ?_
    repeat (first | with_reducible refine r_seqnx ?_ | with_reducible refine r_seqrt ?_ | with_reducible refine r_qrt ?_ | with_reducible refine r_cons ?_ | with_reducible refine r_nil ?_ | with_reducible refine r_set ?_ | with_reducible refine r_par ?_ | with_reducible refine r_ret ?_ | with_reducible refine r_retN ?_ | with_reducible refine r_if ?_ | with_reducible refine r_for ?_ | with_reducible refine r_exp ?_ | (with_reducible refine r_var ?_; refine ⟨_, rfl, ?_⟩) | with_reducible refine r_cI ?_ | with_reducible refine r_bin ?_ | with_reducible refine r_cmp ?_ | with_reducible refine r_idx ?_ | with_reducible refine r_cal ?_ | with_reducible refine r_an ?_ | with_reducible refine r_ac ?_ | with_reducible refine r_fz ?_ | with_reducible refine r_mv ?_ | with_reducible refine r_gv ?_ | with_reducible refine r_one ?_ | with_reducible refine r_two ?_ | with_reducible refine r_asI ?_ | with_reducible refine r_add ?_ | with_reducible refine r_sub ?_ | with_reducible refine r_lt ?_ | with_reducible refine r_le ?_ | with_reducible refine r_gt ?_ | with_reducible refine r_ge ?_ | with_reducible refine r_seqT ?_ | with_reducible refine r_seqL ?_ | with_reducible refine r_b1 ?_ | with_reducible refine r_b2 ?_ | with_reducible refine r_lc ?_ | with_reducible refine r_lc2 ?_ | with_reducible refine r_enm ?_ | with_reducible refine r_seq ?_ | with_reducible refine r_zip ?_ | with_reducible refine r_rng1 ?_ | with_reducible refine r_rng2 ?_ | with_reducible refine r_tup ?_ | with_reducible refine r_lst ?_ | with_reducible refine r_fn ?_ | with_reducible refine r_fc ?_ | with_reducible refine r_mn ?_ | with_reducible refine r_mc ?_ | with_reducible refine r_cS ?_ | with_reducible refine r_cB ?_ | with_reducible refine r_cN ?_ | with_reducible refine r_neg ?_ | with_reducible refine r_cmp2 ?_ | with_reducible refine r_and ?_ | with_reducible refine r_or ?_ | with_reducible refine r_andc ?_ | with_reducible refine r_andn ?_ | with_reducible refine r_orc ?_ | with_reducible refine r_orn ?_ | with_reducible refine r_not ?_ | with_reducible refine r_ife ?_ | with_reducible refine r_slc ?_ | with_reducible refine r_slcL ?_ | with_reducible refine r_slcH ?_ | with_reducible refine r_slcA ?_ | with_reducible refine r_rev ?_ | with_reducible refine r_isi ?_ | with_reducible refine r_asBv ?_ | with_reducible refine r_lcs ?_ | with_reducible refine r_slL ?_ | with_reducible refine r_slT ?_ | with_reducible refine r_revL ?_ | with_reducible refine r_listL ?_ | with_reducible refine r_listT ?_ | with_reducible refine r_tupT ?_ | with_reducible refine r_dct ?_ | with_reducible refine r_subK ?_ | with_reducible refine r_intI ?_ | with_reducible refine r_lcs2 ?_ | with_reducible refine r_fst ?_ | with_reducible refine r_bnm ?_ | (with_reducible refine r_btp ?_; refine ⟨rfl, ?_⟩) | with_reducible refine r_iteT ?_ | with_reducible refine r_iteF ?_ | (with_reducible refine r_ifT ?_; refine ⟨rfl, ?_⟩) | (with_reducible refine r_ifF ?_; refine ⟨rfl, ?_⟩) | with_reducible refine r_eqI ?_ | with_reducible refine r_neI ?_ | with_reducible refine r_mvL ?_ | with_reducible refine r_gvL ?_ | with_reducible refine r_mvD ?_ | with_reducible refine r_gvD ?_ | (with_reducible refine r_varL ?_; refine ⟨_, rfl, ?_⟩) | (with_reducible refine r_varD ?_; refine ⟨_, rfl, ?_⟩) | (with_reducible refine r_aug ?_; refine ⟨_, rfl, ?_⟩) | with_reducible refine r_ret0 ?_ | with_reducible refine r_tupL ?_ | with_reducible refine r_oneL ?_ | with_reducible refine r_fzL ?_ | with_reducible refine go1 ?_ | with_reducible refine go2 ?_ | with_reducible refine go3 ?_)
    refine r_mod (by decide) ?_
    repeat (first | with_reducible refine r_seqnx ?_ | with_reducible refine r_seqrt ?_ | with_reducible refine r_qrt ?_ | with_reducible refine r_cons ?_ | with_reducible refine r_nil ?_ | with_reducible refine r_set ?_ | with_reducible refine r_par ?_ | with_reducible refine r_ret ?_ | with_reducible refine r_retN ?_ | with_reducible refine r_if ?_ | with_reducible refine r_for ?_ | with_reducible refine r_exp ?_ | (with_reducible refine r_var ?_; refine ⟨_, rfl, ?_⟩) | with_reducible refine r_cI ?_ | with_reducible refine r_bin ?_ | with_reducible refine r_cmp ?_ | with_reducible refine r_idx ?_ | with_reducible refine r_cal ?_ | with_reducible refine r_an ?_ | with_reducible refine r_ac ?_ | with_reducible refine r_fz ?_ | with_reducible refine r_mv ?_ | with_reducible refine r_gv ?_ | with_reducible refine r_one ?_ | with_reducible refine r_two ?_ | with_reducible refine r_asI ?_ | with_reducible refine r_add ?_ | with_reducible refine r_sub ?_ | with_reducible refine r_lt ?_ | with_reducible refine r_le ?_ | with_reducible refine r_gt ?_ | with_reducible refine r_ge ?_ | with_reducible refine r_seqT ?_ | with_reducible refine r_seqL ?_ | with_reducible refine r_b1 ?_ | with_reducible refine r_b2 ?_ | with_reducible refine r_lc ?_ | with_reducible refine r_lc2 ?_ | with_reducible refine r_enm ?_ | with_reducible refine r_seq ?_ | with_reducible refine r_zip ?_ | with_reducible refine r_rng1 ?_ | with_reducible refine r_rng2 ?_ | with_reducible refine r_tup ?_ | with_reducible refine r_lst ?_ | with_reducible refine r_fn ?_ | with_reducible refine r_fc ?_ | with_reducible refine r_mn ?_ | with_reducible refine r_mc ?_ | with_reducible refine r_cS ?_ | with_reducible refine r_cB ?_ | with_reducible refine r_cN ?_ | with_reducible refine r_neg ?_ | with_reducible refine r_cmp2 ?_ | with_reducible refine r_and ?_ | with_reducible refine r_or ?_ | with_reducible refine r_andc ?_ | with_reducible refine r_andn ?_ | with_reducible refine r_orc ?_ | with_reducible refine r_orn ?_ | with_reducible refine r_not ?_ | with_reducible refine r_ife ?_ | with_reducible refine r_slc ?_ | with_reducible refine r_slcL ?_ | with_reducible refine r_slcH ?_ | with_reducible refine r_slcA ?_ | with_reducible refine r_rev ?_ | with_reducible refine r_isi ?_ | with_reducible refine r_asBv ?_ | with_reducible refine r_lcs ?_ | with_reducible refine r_slL ?_ | with_reducible refine r_slT ?_ | with_reducible refine r_revL ?_ | with_reducible refine r_listL ?_ | with_reducible refine r_listT ?_ | with_reducible refine r_tupT ?_ | with_reducible refine r_dct ?_ | with_reducible refine r_subK ?_ | with_reducible refine r_intI ?_ | with_reducible refine r_lcs2 ?_ | with_reducible refine r_fst ?_ | with_reducible refine r_bnm ?_ | (with_reducible refine r_btp ?_; refine ⟨rfl, ?_⟩) | with_reducible refine r_iteT ?_ | with_reducible refine r_iteF ?_ | (with_reducible refine r_ifT ?_; refine ⟨rfl, ?_⟩) | (with_reducible refine r_ifF ?_; refine ⟨rfl, ?_⟩) | with_reducible refine r_eqI ?_ | with_reducible refine r_neI ?_ | with_reducible refine r_mvL ?_ | with_reducible refine r_gvL ?_ | with_reducible refine r_mvD ?_ | with_reducible refine r_gvD ?_ | (with_reducible refine r_varL ?_; refine ⟨_, rfl, ?_⟩) | (with_reducible refine r_varD ?_; refine ⟨_, rfl, ?_⟩) | (with_reducible refine r_aug ?_; refine ⟨_, rfl, ?_⟩) | with_reducible refine r_ret0 ?_ | with_reducible refine r_tupL ?_ | with_reducible refine r_oneL ?_ | with_reducible refine r_fzL ?_ | with_reducible refine go1 ?_ | with_reducible refine go2 ?_ | with_reducible refine go3 ?_)
    refine r_mod (by decide) ?_
    repeat (first | with_reducible refine r_seqnx ?_ | with_reducible refine r_seqrt ?_ | with_reducible refine r_qrt ?_ | with_reducible refine r_cons ?_ | with_reducible refine r_nil ?_ | with_reducible refine r_set ?_ | with_reducible refine r_par ?_ | with_reducible refine r_ret ?_ | with_reducible refine r_retN ?_ | with_reducible refine r_if ?_ | with_reducible refine r_for ?_ | with_reducible refine r_exp ?_ | (with_reducible refine r_var ?_; refine ⟨_, rfl, ?_⟩) | with_reducible refine r_cI ?_ | with_reducible refine r_bin ?_ | with_reducible refine r_cmp ?_ | with_reducible refine r_idx ?_ | with_reducible refine r_cal ?_ | with_reducible refine r_an ?_ | with_reducible refine r_ac ?_ | with_reducible refine r_fz ?_ | with_reducible refine r_mv ?_ | with_reducible refine r_gv ?_ | with_reducible refine r_one ?_ | with_reducible refine r_two ?_ | with_reducible refine r_asI ?_ | with_reducible refine r_add ?_ | with_reducible refine r_sub ?_ | with_reducible refine r_lt ?_ | with_reducible refine r_le ?_ | with_reducible refine r_gt ?_ | with_reducible refine r_ge ?_ | with_reducible refine r_seqT ?_ | with_reducible refine r_seqL ?_ | with_reducible refine r_b1 ?_ | with_reducible refine r_b2 ?_ | with_reducible refine r_lc ?_ | with_reducible refine r_lc2 ?_ | with_reducible refine r_enm ?_ | with_reducible refine r_seq ?_ | with_reducible refine r_zip ?_ | with_reducible refine r_rng1 ?_ | with_reducible refine r_rng2 ?_ | with_reducible refine r_tup ?_ | with_reducible refine r_lst ?_ | with_reducible refine r_fn ?_ | with_reducible refine r_fc ?_ | with_reducible refine r_mn ?_ | with_reducible refine r_mc ?_ | with_reducible refine r_cS ?_ | with_reducible refine r_cB ?_ | with_reducible refine r_cN ?_ | with_reducible refine r_neg ?_ | with_reducible refine r_cmp2 ?_ | with_reducible refine r_and ?_ | with_reducible refine r_or ?_ | with_reducible refine r_andc ?_ | with_reducible refine r_andn ?_ | with_reducible refine r_orc ?_ | with_reducible refine r_orn ?_ | with_reducible refine r_not ?_ | with_reducible refine r_ife ?_ | with_reducible refine r_slc ?_ | with_reducible refine r_slcL ?_ | with_reducible refine r_slcH ?_ | with_reducible refine r_slcA ?_ | with_reducible refine r_rev ?_ | with_reducible refine r_isi ?_ | with_reducible refine r_asBv ?_ | with_reducible refine r_lcs ?_ | with_reducible refine r_slL ?_ | with_reducible refine r_slT ?_ | with_reducible refine r_revL ?_ | with_reducible refine r_listL ?_ | with_reducible refine r_listT ?_ | with_reducible refine r_tupT ?_ | with_reducible refine r_dct ?_ | with_reducible refine r_subK ?_ | with_reducible refine r_intI ?_ | with_reducible refine r_lcs2 ?_ | with_reducible refine r_fst ?_ | with_reducible refine r_bnm ?_ | (with_reducible refine r_btp ?_; refine ⟨rfl, ?_⟩) | with_reducible refine r_iteT ?_ | with_reducible refine r_iteF ?_ | (with_reducible refine r_ifT ?_; refine ⟨rfl, ?_⟩) | (with_reducible refine r_ifF ?_; refine ⟨rfl, ?_⟩) | with_reducible refine r_eqI ?_ | with_reducible refine r_neI ?_ | with_reducible refine r_mvL ?_ | with_reducible refine r_gvL ?_ | with_reducible refine r_mvD ?_ | with_reducible refine r_gvD ?_ | (with_reducible refine r_varL ?_; refine ⟨_, rfl, ?_⟩) | (with_reducible refine r_varD ?_; refine ⟨_, rfl, ?_⟩) | (with_reducible refine r_aug ?_; refine ⟨_, rfl, ?_⟩) | with_reducible refine r_ret0 ?_ | with_reducible refine r_tupL ?_ | with_reducible refine r_oneL ?_ | with_reducible refine r_fzL ?_ | with_reducible refine go1 ?_ | with_reducible refine go2 ?_ | with_reducible refine go3 ?_)
    exact deck_loop C S kk hk cs _ _
theorem sp_deck (n : Nat) (ns : List Int) (hl : ns.length ≤ 63) (Q : W → List W → Prop) (h : ∀ cs m, cs.length ≤ 63 → Q (dk cs m 0) []) : callN TB (n + 1) i__law_deck [.d (.list (ns.map .int))] Q := by
  refine r_call tb__law_deck rfl ?_
  simp only [b__law_deck, List.map_cons, List.map_nil, List.replicate, List.cons_append, List.nil_append, Nat.reduceSub]
  repeat (first | with_reducible refine r_seqnx ?_ | with_reducible refine r_seqrt ?_ | with_reducible refine r_qrt ?_ | with_reducible refine r_cons ?_ | with_reducible refine r_nil ?_ | with_reducible refine r_set ?_ | with_reducible refine r_par ?_ | with_reducible refine r_ret ?_ | with_reducible refine r_retN ?_ | with_reducible refine r_if ?_ | with_reducible refine r_for ?_ | with_reducible refine r_exp ?_ | (with_reducible refine r_var ?_; refine ⟨_, rfl, ?_⟩) | with_reducible refine r_cI ?_ | with_reducible refine r_bin ?_ | with_reducible refine r_cmp ?_ | with_reducible refine r_idx ?_ | with_reducible refine r_cal ?_ | with_reducible refine r_an ?_ | with_reducible refine r_ac ?_ | with_reducible refine r_fz ?_ | with_reducible refine r_mv ?_ | with_reducible refine r_gv ?_ | with_reducible refine r_one ?_ | with_reducible refine r_two ?_ | with_reducible refine r_asI ?_ | with_reducible refine r_add ?_ | with_reducible refine r_sub ?_ | with_reducible refine r_lt ?_ | with_reducible refine r_le ?_ | with_reducible refine r_gt ?_ | with_reducible refine r_ge ?_ | with_reducible refine r_seqT ?_ | with_reducible refine r_seqL ?_ | with_reducible refine r_b1 ?_ | with_reducible refine r_b2 ?_ | with_reducible refine r_lc ?_ | with_reducible refine r_lc2 ?_ | with_reducible refine r_enm ?_ | with_reducible refine r_seq ?_ | with_reducible refine r_zip ?_ | with_reducible refine r_rng1 ?_ | with_reducible refine r_rng2 ?_ | with_reducible refine r_tup ?_ | with_reducible refine r_lst ?_ | with_reducible refine r_fn ?_ | with_reducible refine r_fc ?_ | with_reducible refine r_mn ?_ | with_reducible refine r_mc ?_ | with_reducible refine r_cS ?_ | with_reducible refine r_cB ?_ | with_reducible refine r_cN ?_ | with_reducible refine r_neg ?_ | with_reducible refine r_cmp2 ?_ | with_reducible refine r_and ?_ | with_reducible refine r_or ?_ | with_reducible refine r_andc ?_ | with_reducible refine r_andn ?_ | with_reducible refine r_orc ?_ | with_reducible refine r_orn ?_ | with_reducible refine r_not ?_ | with_reducible refine r_ife ?_ | with_reducible refine r_slc ?_ | with_reducible refine r_slcL ?_ | with_reducible refine r_slcH ?_ | with_reducible refine r_slcA ?_ | with_reducible refine r_rev ?_ | with_reducible refine r_isi ?_ | with_reducible refine r_asBv ?_ | with_reducible refine r_lcs ?_ | with_reducible refine r_slL ?_ | with_reducible refine r_slT ?_ | with_reducible refine r_revL ?_ | with_reducible refine r_listL ?_ | with_reducible refine r_listT ?_ | with_reducible refine r_tupT ?_ | with_reducible refine r_dct ?_ | with_reducible refine r_subK ?_ | with_reducible refine r_intI ?_ | with_reducible refine r_lcs2 ?_ | with_reducible refine r_fst ?_ | with_reducible refine r_bnm ?_ | (with_reducible refine r_btp ?_; refine ⟨rfl, ?_⟩) | with_reducible refine r_iteT ?_ | with_reducible refine r_iteF ?_ | (with_reducible refine r_ifT ?_; refine ⟨rfl, ?_⟩) | (with_reducible refine r_ifF ?_; refine ⟨rfl, ?_⟩) | with_reducible refine r_eqI ?_ | with_reducible refine r_neI ?_ | with_reducible refine r_mvL ?_ | with_reducible refine r_gvL ?_ | with_reducible refine r_mvD ?_ | with_reducible refine r_gvD ?_ | (with_reducible refine r_varL ?_; refine ⟨_, rfl, ?_⟩) | (with_reducible refine r_varD ?_; refine ⟨_, rfl, ?_⟩) | (with_reducible refine r_aug ?_; refine ⟨_, rfl, ?_⟩) | with_reducible refine r_ret0 ?_ | with_reducible refine r_tupL ?_ | with_reducible refine r_oneL ?_ | with_reducible refine r_fzL ?_ | with_reducible refine go1 ?_ | with_reducible refine go2 ?_ | with_reducible refine go3 ?_)
  rw [cut_map]
  refine deck_loop _ _ _ (fun m s2 => ?_) _ _ _
  repeat (first | with_reducible refine r_seqnx ?_ | with_reducible refine r_seqrt ?_ | with_reducible refine r_qrt ?_ | with_reducible refine r_cons ?_ | with_reducible refine r_nil ?_ | with_reducible refine r_set ?_ | with_reducible refine r_par ?_ | with_reducible refine r_ret ?_ | with_reducible refine r_retN ?_ | with_reducible refine r_if ?_ | with_reducible refine r_for ?_ | with_reducible refine r_exp ?_ | (with_reducible refine r_var ?_; refine ⟨_, rfl, ?_⟩) | with_reducible refine r_cI ?_ | with_reducible refine r_bin ?_ | with_reducible refine r_cmp ?_ | with_reducible refine r_idx ?_ | with_reducible refine r_cal ?_ | with_reducible refine r_an ?_ | with_reducible refine r_ac ?_ | with_reducible refine r_fz ?_ | with_reducible refine r_mv ?_ | with_reducible refine r_gv ?_ | with_reducible refine r_one ?_ | with_reducible refine r_two ?_ | with_reducible refine r_asI ?_ | with_reducible refine r_add ?_ | with_reducible refine r_sub ?_ | with_reducible refine r_lt ?_ | with_reducible refine r_le ?_ | with_reducible refine r_gt ?_ | with_reducible refine r_ge ?_ | with_reducible refine r_seqT ?_ | with_reducible refine r_seqL ?_ | with_reducible refine r_b1 ?_ | with_reducible refine r_b2 ?_ | with_reducible refine r_lc ?_ | with_reducible refine r_lc2 ?_ | with_reducible refine r_enm ?_ | with_reducible refine r_seq ?_ | with_reducible refine r_zip ?_ | with_reducible refine r_rng1 ?_ | with_reducible refine r_rng2 ?_ | with_reducible refine r_tup ?_ | with_reducible refine r_lst ?_ | with_reducible refine r_fn ?_ | with_reducible refine r_fc ?_ | with_reducible refine r_mn ?_ | with_reducible refine r_mc ?_ | with_reducible refine r_cS ?_ | with_reducible refine r_cB ?_ | with_reducible refine r_cN ?_ | with_reducible refine r_neg ?_ | with_reducible refine r_cmp2 ?_ | with_reducible refine r_and ?_ | with_reducible refine r_or ?_ | with_reducible refine r_andc ?_ | with_reducible refine r_andn ?_ | with_reducible refine r_orc ?_ | with_reducible refine r_orn ?_ | with_reducible refine r_not ?_ | with_reducible refine r_ife ?_ | with_reducible refine r_slc ?_ | with_reducible refine r_slcL ?_ | with_reducible refine r_slcH ?_ | with_reducible refine r_slcA ?_ | with_reducible refine r_rev ?_ | with_reducible refine r_isi ?_ | with_reducible refine r_asBv ?_ | with_reducible refine r_lcs ?_ | with_reducible refine r_slL ?_ | with_reducible refine r_slT ?_ | with_reducible refine r_revL ?_ | with_reducible refine r_listL ?_ | with_reducible refine r_listT ?_ | with_reducible refine r_tupT ?_ | with_reducible refine r_dct ?_ | with_reducible refine r_subK ?_ | with_reducible refine r_intI ?_ | with_reducible refine r_lcs2 ?_ | with_reducible refine r_fst ?_ | with_reducible refine r_bnm ?_ | (with_reducible refine r_btp ?_; refine ⟨rfl, ?_⟩) | with_reducible refine r_iteT ?_ | with_reducible refine r_iteF ?_ | (with_reducible refine r_ifT ?_; refine ⟨rfl, ?_⟩) | (with_reducible refine r_ifF ?_; refine ⟨rfl, ?_⟩) | with_reducible refine r_eqI ?_ | with_reducible refine r_neI ?_ | with_reducible refine r_mvL ?_ | with_reducible refine r_gvL ?_ | with_reducible refine r_mvD ?_ | with_reducible refine r_gvD ?_ | (with_reducible refine r_varL ?_; refine ⟨_, rfl, ?_⟩) | (with_reducible refine r_varD ?_; refine ⟨_, rfl, ?_⟩) | (with_reducible refine r_aug ?_; refine ⟨_, rfl, ?_⟩) | with_reducible refine r_ret0 ?_ | with_reducible refine r_tupL ?_ | with_reducible refine r_oneL ?_ | with_reducible refine r_fzL ?_ | with_reducible refine go1 ?_ | with_reducible refine go2 ?_ | with_reducible refine go3 ?_)
  refine ⟨rfl, by decide, by decide, ?_⟩
  repeat (first | with_reducible refine r_seqnx ?_ | with_reducible refine r_seqrt ?_ | with_reducible refine r_qrt ?_ | with_reducible refine r_cons ?_ | with_reducible refine r_nil ?_ | with_reducible refine r_set ?_ | with_reducible refine r_par ?_ | with_reducible refine r_ret ?_ | with_reducible refine r_retN ?_ | with_reducible refine r_if ?_ | with_reducible refine r_for ?_ | with_reducible refine r_exp ?_ | (with_reducible refine r_var ?_; refine ⟨_, rfl, ?_⟩) | with_reducible refine r_cI ?_ | with_reducible refine r_bin ?_ | with_reducible refine r_cmp ?_ | with_reducible refine r_idx ?_ | with_reducible refine r_cal ?_ | with_reducible refine r_an ?_ | with_reducible refine r_ac ?_ | with_reducible refine r_fz ?_ | with_reducible refine r_mv ?_ | with_reducible refine r_gv ?_ | with_reducible refine r_one ?_ | with_reducible refine r_two ?_ | with_reducible refine r_asI ?_ | with_reducible refine r_add ?_ | with_reducible refine r_sub ?_ | with_reducible refine r_lt ?_ | with_reducible refine r_le ?_ | with_reducible refine r_gt ?_ | with_reducible refine r_ge ?_ | with_reducible refine r_seqT ?_ | with_reducible refine r_seqL ?_ | with_reducible refine r_b1 ?_ | with_reducible refine r_b2 ?_ | with_reducible refine r_lc ?_ | with_reducible refine r_lc2 ?_ | with_reducible refine r_enm ?_ | with_reducible refine r_seq ?_ | with_reducible refine r_zip ?_ | with_reducible refine r_rng1 ?_ | with_reducible refine r_rng2 ?_ | with_reducible refine r_tup ?_ | with_reducible refine r_lst ?_ | with_reducible refine r_fn ?_ | with_reducible refine r_fc ?_ | with_reducible refine r_mn ?_ | with_reducible refine r_mc ?_ | with_reducible refine r_cS ?_ | with_reducible refine r_cB ?_ | with_reducible refine r_cN ?_ | with_reducible refine r_neg ?_ | with_reducible refine r_cmp2 ?_ | with_reducible refine r_and ?_ | with_reducible refine r_or ?_ | with_reducible refine r_andc ?_ | with_reducible refine r_andn ?_ | with_reducible refine r_orc ?_ | with_reducible refine r_orn ?_ | with_reducible refine r_not ?_ | with_reducible refine r_ife ?_ | with_reducible refine r_slc ?_ | with_reducible refine r_slcL ?_ | with_reducible refine r_slcH ?_ | with_reducible refine r_slcA ?_ | with_reducible refine r_rev ?_ | with_reducible refine r_isi ?_ | with_reducible refine r_asBv ?_ | with_reducible refine r_lcs ?_ | with_reducible refine r_slL ?_ | with_reducible refine r_slT ?_ | with_reducible refine r_revL ?_ | with_reducible refine r_listL ?_ | with_reducible refine r_listT ?_ | with_reducible refine r_tupT ?_ | with_reducible refine r_dct ?_ | with_reducible refine r_subK ?_ | with_reducible refine r_intI ?_ | with_reducible refine r_lcs2 ?_ | with_reducible refine r_fst ?_ | with_reducible refine r_bnm ?_ | (with_reducible refine r_btp ?_; refine ⟨rfl, ?_⟩) | with_reducible refine r_iteT ?_ | with_reducible refine r_iteF ?_ | (with_reducible refine r_ifT ?_; refine ⟨rfl, ?_⟩) | (with_reducible refine r_ifF ?_; refine ⟨rfl, ?_⟩) | with_reducible refine r_eqI ?_ | with_reducible refine r_neI ?_ | with_reducible refine r_mvL ?_ | with_reducible refine r_gvL ?_ | with_reducible refine r_mvD ?_ | with_reducible refine r_gvD ?_ | (with_reducible refine r_varL ?_; refine ⟨_, rfl, ?_⟩) | (with_reducible refine r_varD ?_; refine ⟨_, rfl, ?_⟩) | (with_reducible refine r_aug ?_; refine ⟨_, rfl, ?_⟩) | with_reducible refine r_ret0 ?_ | with_reducible refine r_tupL ?_ | with_reducible refine r_oneL ?_ | with_reducible refine r_fzL ?_ | with_reducible refine go1 ?_ | with_reducible refine go2 ?_ | with_reducible refine go3 ?_)
  have e : (List.map W.d (cut (ns.map PyData.int) none (some 63)).reverse) = ((cut ns none (some 63)).reverse).map fun c => W.d (PyData.int c) := by
    rw [cut_map, ← List.map_reverse, List.map_map]
    rfl
  rw [e]
  exact h (cut ns none (some 63)).reverse m (by rw [List.length_reverse]; exact Nat.le_trans (cut_len ns _ _) hl)
end Mn

set_option linter.all false
set_option maxRecDepth 100000
set_option maxHeartbeats 2000000
namespace Mn
open PySem
abbrev pT (xs : List Int) : PD := .tuple (xs.map .int)
abbrev pM (rows : List (List Int)) : PD := .tuple (rows.map pT)
theorem acc_mapT {α : Type} {own : List Nat} {step : PD → Env → List W → (List W → Env → Prop) → Prop} {e : Env} {Q : List W → Env → Prop} (t : α → PD) (g : α → W) : ∀ {l : List α} {acc : List W}, acc.length + l.length ≤ lim →
    (∀ x ∈ l, ∀ (acc : List W) (k : List W → Env → Prop), acc.length < lim → (∀ e', wipes e' own = e → k (acc ++ [g x]) e') → step (t x) e acc k) → Q (acc ++ l.map g) e → accW own step (l.map t) e acc Q
  | [], acc, _, _, hq => by
    rw [List.map_nil, List.append_nil] at hq
    exact hq
  | x :: l, acc, hl, hs, hq => by
    rw [List.length_cons] at hl
    refine hs x List.mem_cons_self acc _ (by omega) fun e' he => ?_
    rw [he]
    exact acc_mapT t g (by rw [List.length_append, List.length_singleton]; omega) (fun y hy => hs y (List.mem_cons_of_mem _ hy)) (by rw [List.append_assoc]; exact hq)
theorem acc_flatT {α : Type} {own : List Nat} {step : PD → Env → List W → (List W → Env → Prop) → Prop} {e : Env} {Q : List W → Env → Prop} (t : α → PD) (G : α → List W) (m : Nat) (hG : ∀ x, (G x).length ≤ m) : ∀ {l : List α} {acc : List W}, acc.length + l.length * m ≤ lim →
    (∀ x ∈ l, ∀ (acc : List W) (k : List W → Env → Prop), acc.length + m ≤ lim → (∀ e', wipes e' own = e → k (acc ++ G x) e') → step (t x) e acc k) → Q (acc ++ l.flatMap G) e → accW own step (l.map t) e acc Q
  | [], acc, _, _, hq => by
    rw [List.flatMap_nil, List.append_nil] at hq
    exact hq
  | x :: l, acc, hl, hs, hq => by
    rw [List.length_cons, Nat.succ_mul] at hl
    have g := hG x
    refine hs x List.mem_cons_self acc _ (by omega) fun e' he => ?_
    rw [he]
    rw [List.flatMap_cons, ← List.append_assoc] at hq
    exact acc_flatT t G m hG (by rw [List.length_append]; omega) (fun y hy => hs y (List.mem_cons_of_mem _ hy)) hq
end Mn

set_option linter.all false
set_option Elab.async false
set_option maxRecDepth 100000
set_option maxHeartbeats 2000000
namespace Mn.R
open PySem
abbrev pT (xs : List Int) : PD := .tuple (xs.map .int)
abbrev pM (rows : List (List Int)) : PD := .tuple (rows.map pT)
@[simp] theorem lim_e : lim = 1000000 := (rfl)
def Sm (x : Int) : Prop := x.natAbs < 2 ^ 64
@[simp] theorem MulOk_l {x y : Int} (h : Sm x) : MulOk x y := .inl h
@[simp] theorem MulOk_r {x y : Int} (h : Sm y) : MulOk x y := .inr (.inl h)
@[simp] theorem Sm_neg {x : Int} : Sm (-x) = Sm x := by unfold Sm; rw [Int.natAbs_neg]
@[simp] theorem Sm_2 : Sm 2 := by unfold Sm; decide
@[simp] theorem Sm_3 : Sm 3 := by unfold Sm; decide
@[simp] theorem Sm_4 : Sm 4 := by unfold Sm; decide
@[simp] theorem Sm_5 : Sm 5 := by unfold Sm; decide
@[simp] theorem Sm_6 : Sm 6 := by unfold Sm; decide
@[simp] theorem Sm_7 : Sm 7 := by unfold Sm; decide
@[simp] theorem Sm_8 : Sm 8 := by unfold Sm; decide
@[simp] theorem Sm_9 : Sm 9 := by unfold Sm; decide
@[simp] theorem Sm_10 : Sm 10 := by unfold Sm; decide
@[simp] theorem Sm_11 : Sm 11 := by unfold Sm; decide
@[simp] theorem Sm_12 : Sm 12 := by unfold Sm; decide
@[simp] theorem Sm_20 : Sm 20 := by unfold Sm; decide
@[simp] theorem Sm_30 : Sm 30 := by unfold Sm; decide
@[simp] theorem Sm_64 : Sm 64 := by unfold Sm; decide
@[simp] theorem Sm_0 : Sm 0 := by unfold Sm; decide
@[simp] theorem Sm_1 : Sm 1 := by unfold Sm; decide
@[simp] theorem rng_0 : List.range 0 = [] := (rfl)
@[simp] theorem rng_1 : List.range 1 = [0] := (rfl)
@[simp] theorem rng_2 : List.range 2 = [0, 1] := (rfl)
@[simp] theorem rng_3 : List.range 3 = [0, 1, 2] := (rfl)
@[simp] theorem rng_4 : List.range 4 = [0, 1, 2, 3] := (rfl)
@[simp] theorem band_0 : Builtin.bitAnd 0 1 = 0 := by decide
@[simp] theorem band_1 : Builtin.bitAnd 1 1 = 1 := by decide
@[simp] theorem band_2 : Builtin.bitAnd 2 1 = 0 := by decide
@[simp] theorem lnd_k {c : List Int} {m d : Int} {F : W → Prop} : lnd (some (dk c m d)) F = F (dk c m d) := (rfl)
@[simp] theorem FdOk_of {y : Int} (h0 : y ≠ 0) (h : Sm y) : FdOk y := ⟨h0, Nat.lt_of_lt_of_le h (Nat.pow_le_pow_right (by decide) (by decide))⟩
@[simp] theorem fdiv_10 {x : Int} : Int.fdiv x 10 = x / 10 := Int.fdiv_eq_ediv_of_nonneg x (by decide)
@[simp] theorem fdiv_2 {x : Int} : Int.fdiv x 2 = x / 2 := Int.fdiv_eq_ediv_of_nonneg x (by decide)
theorem sIx_z {n dflt : Nat} {i : Int} (h : 0 ≤ i) : HT.sIx n dflt (some i) = min i.toNat n := by
  obtain ⟨j, rfl⟩ : ∃ j : Nat, i = (j : Int) := ⟨i.toNat, by omega⟩
  rw [HT.sIx_nat]
  rfl
@[simp] theorem cut_n {α : Type} {xs : List α} : cut xs none none = xs := by simp [cut, clip, HT.sIx_none]
@[simp] theorem cut_hi {α : Type} {xs : List α} {i : Int} (h : 0 ≤ i) : cut xs none (some i) = xs.take i.toNat := by
  unfold cut clip
  rw [HT.sIx_none, sIx_z h, List.drop_zero, Nat.sub_zero]
  by_cases h1 : i.toNat ≤ xs.length
  · rw [Nat.min_eq_left h1]
  · rw [Nat.min_eq_right (by omega), List.take_of_length_le (Nat.le_refl _), List.take_of_length_le (by omega)]
@[simp] theorem cut_lo {α : Type} {xs : List α} {i : Int} (h : 0 ≤ i) : cut xs (some i) none = xs.drop i.toNat := by
  unfold cut clip
  rw [HT.sIx_none, sIx_z h, List.take_of_length_le (by rw [List.length_drop]; omega)]
  by_cases h1 : i.toNat ≤ xs.length
  · rw [Nat.min_eq_left h1]
  · rw [Nat.min_eq_right (by omega), List.drop_eq_nil_of_le (Nat.le_refl _), List.drop_eq_nil_of_le (by omega)]
end Mn.R

set_option linter.all false
set_option Elab.async false
set_option maxRecDepth 100000
set_option maxHeartbeats 2000000
namespace Mn.R
open PySem
abbrev t1 (a : Int) : PD := .tuple [.int a]
abbrev t2 (a b : Int) : PD := .tuple [.int a, .int b]
abbrev t3 (a b c : Int) : PD := .tuple [.int a, .int b, .int c]
theorem sel_e {b : Bool} {x y z : Prop} (h1 : b = true → (x ↔ z)) (h2 : b = false → (y ↔ z)) : sel b x y ↔ z := by
  cases b
  · rw [sel_f]; exact h2 rfl
  · rw [sel_t]; exact h1 rfl
theorem cong {Q : W → List W → Prop} {a b : Int} {os : List W} (h : a = b) : Q (.d (.int a)) os ↔ Q (.d (.int b)) os := by rw [h]
section
variable {n : Nat} {a b c d e f g h i : Int} {Q : W → List W → Prop}
theorem ld0 : callN TB (n + 1) i__law_det [.d (.tuple [])] Q = Q (.d (.int 1)) [] := by
  rw [in__law_det, b__law_det]; simp
theorem ld1 : callN TB (n + 1) i__law_det [.d (.tuple [t1 a])] Q = Q (.d (.int a)) [] := by
  rw [in__law_det, b__law_det]; simp
theorem ld2 (sa : Sm a) (sb : Sm b) : callN TB (n + 1) i__law_det [.d (.tuple [t2 a b, t2 c d])] Q = Q (.d (.int (a * d - b * c))) [] := by
  rw [in__law_det, b__law_det]; simp [sa, sb]
theorem ld3 (sa : Sm a) (sb : Sm b) (sc : Sm c) (sd : Sm d) (se : Sm e) (sf : Sm f) : callN TB (n + 1) i__law_det [.d (.tuple [t3 a b c, t3 d e f, t3 g h i])] Q = Q (.d (.int (a * (e * i - f * h) - b * (d * i - f * g) + c * (d * h - e * g)))) [] := by
  rw [in__law_det, b__law_det]; simp [sa, sb, sc, sd, se, sf]
end
end Mn.R

set_option linter.all false
set_option Elab.async false
set_option maxRecDepth 100000
set_option maxHeartbeats 2000000
namespace Mn.R
open PySem
section
variable {n : Nat} {a b c d e f g h i : Int} {Q : W → List W → Prop}
theorem pm1 : callN TB (n + 1) i_minor [.d (.list [t1 a]), .d (.int 0), .d (.int 0)] Q = Q (.ol []) [] := by
  simp [in_minor, b_minor]
theorem pm2_0 : callN TB (n + 1) i_minor [.d (.list [t2 a b, t2 c d]), .d (.int 0), .d (.int 0)] Q = Q (.ol [.d (t1 d)]) [] := by
  simp [in_minor, b_minor]
theorem pm2_1 : callN TB (n + 1) i_minor [.d (.list [t2 a b, t2 c d]), .d (.int 0), .d (.int 1)] Q = Q (.ol [.d (t1 c)]) [] := by
  simp [in_minor, b_minor]
theorem pm3_0 : callN TB (n + 1) i_minor [.d (.list [t3 a b c, t3 d e f, t3 g h i]), .d (.int 0), .d (.int 0)] Q = Q (.ol [.d (t2 e f), .d (t2 h i)]) [] := by
  simp [in_minor, b_minor]
theorem pm3_1 : callN TB (n + 1) i_minor [.d (.list [t3 a b c, t3 d e f, t3 g h i]), .d (.int 0), .d (.int 1)] Q = Q (.ol [.d (t2 d f), .d (t2 g i)]) [] := by
  simp [in_minor, b_minor]
theorem pm3_2 : callN TB (n + 1) i_minor [.d (.list [t3 a b c, t3 d e f, t3 g h i]), .d (.int 0), .d (.int 2)] Q = Q (.ol [.d (t2 d e), .d (t2 g h)]) [] := by
  simp [in_minor, b_minor]
theorem pd0 : callN TB (n + 1) i_determinant [.d (.list [])] Q = Q (.d (.int 1)) [] := by
  rw [in_determinant, b_determinant]; simp
theorem pd1 : callN TB (n + 2) i_determinant [.d (.list [t1 a])] Q = Q (.d (.int a)) [] := by
  rw [in_determinant, b_determinant]; simp [pm1, pd0]
theorem pd2 (sa : Sm a) (sb : Sm b) : callN TB (n + 3) i_determinant [.d (.list [t2 a b, t2 c d])] Q = Q (.d (.int (a * d - b * c))) [] := by
  rw [in_determinant, b_determinant]; simp [pm2_0, pm2_1, pd1, sa, sb]
  try (refine cong ?_; grind)
theorem pd3 (sa : Sm a) (sb : Sm b) (sc : Sm c) (sd : Sm d) (se : Sm e) (sf : Sm f) : callN TB (n + 4) i_determinant [.d (.list [t3 a b c, t3 d e f, t3 g h i])] Q = Q (.d (.int (a * (e * i - f * h) - b * (d * i - f * g) + c * (d * h - e * g)))) [] := by
  rw [in_determinant, b_determinant]; simp [pm3_0, pm3_1, pm3_2, pd2, sa, sb, sc, sd, se, sf]
  try (refine cong ?_; grind)
theorem lw1 (h1 : 0 < a) : callN TB (n + 6) i_low_step [.d (.tuple [t1 a])] Q = Q (.d .none) [] := by
  simp [in_low_step, b_low_step, pd1, Int.not_le.mpr h1]
theorem lw2 (h1 : 0 < a) (h2 : 0 < a * c - b * b) (sa : Sm a) (sb : Sm b) : callN TB (n + 6) i_low_step [.d (.tuple [t2 a b, t2 b c])] Q = Q (.d .none) [] := by
  simp [in_low_step, b_low_step, pd1, pd2, sa, sb, Int.not_le.mpr h1, Int.not_le.mpr h2]
theorem lw3 (h1 : 0 < a) (h2 : 0 < a * d - b * b) (h3 : 0 < a * (d * f - e * e) - b * (b * f - e * c) + c * (b * e - d * c)) (sa : Sm a) (sb : Sm b) (sc : Sm c) (sd : Sm d) (se : Sm e) : callN TB (n + 6) i_low_step [.d (.tuple [t3 a b c, t3 b d e, t3 c e f])] Q = Q (.d .none) [] := by
  simp [in_low_step, b_low_step, pd1, pd2, pd3, sa, sb, sc, sd, se, Int.not_le.mpr h1, Int.not_le.mpr h2, Int.not_le.mpr h3]
theorem nf1 (h1 : 0 < a) : callN TB (n + 8) i_need_form [.d (.tuple [t1 a])] Q = Q (.d .none) [] := by
  simp [in_need_form, b_need_form, in_is_form_value, b_is_form_value, in_is_table_value, b_is_table_value, in_is_square, b_is_square, in_is_step_value, b_is_step_value, in_is_integer, b_is_integer, lw1, h1]
theorem nf2 (h1 : 0 < a) (h2 : 0 < a * c - b * b) (sa : Sm a) (sb : Sm b) : callN TB (n + 8) i_need_form [.d (.tuple [t2 a b, t2 b c])] Q = Q (.d .none) [] := by
  simp [in_need_form, b_need_form, in_is_form_value, b_is_form_value, in_is_table_value, b_is_table_value, in_is_square, b_is_square, in_is_step_value, b_is_step_value, in_is_integer, b_is_integer, lw2 h1 h2 sa sb]
theorem nf3 (h1 : 0 < a) (h2 : 0 < a * d - b * b) (h3 : 0 < a * (d * f - e * e) - b * (b * f - e * c) + c * (b * e - d * c)) (sa : Sm a) (sb : Sm b) (sc : Sm c) (sd : Sm d) (se : Sm e) : callN TB (n + 8) i_need_form [.d (.tuple [t3 a b c, t3 b d e, t3 c e f])] Q = Q (.d .none) [] := by
  simp [in_need_form, b_need_form, in_is_form_value, b_is_form_value, in_is_table_value, b_is_table_value, in_is_square, b_is_square, in_is_step_value, b_is_step_value, in_is_integer, b_is_integer, lw3 h1 h2 h3 sa sb sc sd se]
end
end Mn.R

set_option linter.all false
set_option Elab.async false
set_option maxRecDepth 100000
set_option maxHeartbeats 2000000
set_option exponentiation.threshold 5000
/-! repr of plain data: its signs and its length -/
namespace Mn.R
open PySem
mutual
def Pl : PD → Bool
  | .int i => decide (i.natAbs.log2 < 1920)
  | .bool _ => true
  | .none => true
  | .list xs => PlA xs
  | .tuple xs => PlA xs
  | _ => false
def PlA : List PD → Bool
  | [] => true
  | x :: xs => Pl x && PlA xs
end
mutual
def cost : PD → Nat
  | .list xs => costA xs + 3
  | .tuple xs => costA xs + 3
  | _ => 1921
def costA : List PD → Nat
  | [] => 0
  | x :: xs => cost x + 2 + costA xs
end
theorem ok_app {a b : Str} (ha : PySem.PyData.strOk a = true) (hb : PySem.PyData.strOk b = true) : PySem.PyData.strOk (a ++ b) = true := by
  show (a.cps ++ b.cps).all _ = true
  rw [Array.all_append]
  simp only [Bool.and_eq_true]
  exact ⟨ha, hb⟩
theorem ok_from : ∀ (ts : List Str) (k : Nat) (acc : Str), PySem.PyData.strOk acc = true → (∀ t ∈ ts, PySem.PyData.strOk t = true) → PySem.PyData.strOk (textFrom k acc ts) = true
  | [], _, acc, h, _ => h
  | t :: ts, k, acc, h, ht => by
    refine ok_from ts (k + 1) _ (ok_app (ok_app h ?_) (ht t List.mem_cons_self)) fun u hu => ht u (List.mem_cons_of_mem _ hu)
    split <;> decide +kernel
theorem ok_join : ∀ ts : List Str, (∀ t ∈ ts, PySem.PyData.strOk t = true) → PySem.PyData.strOk (Str.join ", " ts) = true
  | [], _ => by decide +kernel
  | [x], h => h x List.mem_cons_self
  | x :: y :: r, h => ok_app (ok_app (h x List.mem_cons_self) (by decide +kernel)) (ok_join (y :: r) fun t ht => h t (List.mem_cons_of_mem _ ht))
theorem ok_int (i : Int) : PySem.PyData.strOk (Str.ofString (toString i)) = true := by
  unfold PySem.PyData.strOk
  rw [← Array.all_toList, List.all_eq_true]
  intro c hc
  have h := fun hk => PyProof.Rows.int_text_free' c hk i hc
  simp only [decide_eq_true_eq]
  by_cases h1 : c = 45
  · omega
  · by_cases h2 : c < 48
    · exact (h ⟨h1, .inl h2⟩).elim
    · by_cases h3 : 57 < c
      · exact (h ⟨h1, .inr h3⟩).elim
      · omega
mutual
theorem ok_shown : ∀ x : PD, Pl x = true → PySem.PyData.strOk (PyData.shown x) = true
  | .none, _ => by simp only [PyData.shown]; decide +kernel
  | .bool b, _ => by cases b <;> (simp only [PyData.shown]; decide +kernel)
  | .int i, _ => by simp only [PyData.shown]; exact ok_int i
  | .str _, h => by simp [Pl] at h
  | .dict _, h => by simp [Pl] at h
  | .list xs, h => by
    simp only [PyData.shown, listText]
    exact ok_app (ok_from _ 0 _ (by decide +kernel) (ok_shownA xs (by simpa [Pl] using h))) (by decide +kernel)
  | .tuple xs, h => by
    simp only [PyData.shown, tupleText]
    refine ok_app (ok_app (by decide +kernel) (ok_join _ (ok_shownA xs (by simpa [Pl] using h)))) ?_
    split <;> decide +kernel
theorem ok_shownA : ∀ xs : List PD, PlA xs = true → ∀ t ∈ PyData.shownAll xs, PySem.PyData.strOk t = true
  | [], _, t, ht => by simp [PyData.shownAll] at ht
  | x :: xs, h, t, ht => by
    simp only [PlA, Bool.and_eq_true] at h
    simp only [PyData.shownAll, List.mem_cons] at ht
    rcases ht with rfl | ht
    · exact ok_shown x h.1
    · exact ok_shownA xs h.2 t ht
end
mutual
theorem pl_able : ∀ x : PD, Pl x = true → PyData.showable x = true
  | .none, _ => by simp [PyData.showable]
  | .bool b, _ => by simp [PyData.showable]
  | .int i, h => by simpa [PyData.showable, Pl] using h
  | .str _, h => by simp [Pl] at h
  | .dict _, h => by simp [Pl] at h
  | .list xs, h => by simp only [PyData.showable]; exact pl_ableA xs (by simpa [Pl] using h)
  | .tuple xs, h => by simp only [PyData.showable]; exact pl_ableA xs (by simpa [Pl] using h)
theorem pl_ableA : ∀ xs : List PD, PlA xs = true → PyData.showableAll xs = true
  | [], _ => by simp [PyData.showableAll]
  | x :: xs, h => by
    simp only [PlA, Bool.and_eq_true] at h
    simp only [PyData.showableAll, pl_able x h.1, pl_ableA xs h.2, Bool.and_self]
end
mutual
theorem len_shown : ∀ x : PD, Pl x = true → (PyData.shown x).length ≤ cost x
  | .none, _ => by simp only [PyData.shown, cost]; decide +kernel
  | .bool b, _ => by cases b <;> (simp only [PyData.shown, cost]; decide +kernel)
  | .int i, h => by simp only [PyData.shown, cost]; exact PyProof.Rows.int_text_len_1921 (by simpa [Pl] using h)
  | .str _, h => by simp [Pl] at h
  | .dict _, h => by simp [Pl] at h
  | .list xs, h => by
    simp only [PyData.shown, cost]
    have a := listText_len_le (PyData.shownAll xs)
    have b := len_shownA xs (by simpa [Pl] using h)
    omega
  | .tuple xs, h => by
    simp only [PyData.shown, cost]
    have a := tupleText_len_le (PyData.shownAll xs)
    have b := len_shownA xs (by simpa [Pl] using h)
    omega
theorem len_shownA : ∀ xs : List PD, PlA xs = true → ((PyData.shownAll xs).map (·.length)).sum + 2 * (PyData.shownAll xs).length ≤ costA xs
  | [], _ => by simp [PyData.shownAll, costA]
  | x :: xs, h => by
    simp only [PlA, Bool.and_eq_true] at h
    have a := len_shown x h.1
    have b := len_shownA xs h.2
    simp only [PyData.shownAll, costA, List.map_cons, List.sum_cons, List.length_cons]
    omega
end
/-- plain data whose text is not too long -/
def Rep (x : PD) : Prop := Pl x = true ∧ PyData.depth x ≤ 60 ∧ cost x ≤ 1000000
@[simp] theorem o_repr {x : PD} {Qw : W → Prop} (h : Rep x) : b1 .repr x Qw = Qw (.d (.str (PyData.shown x))) := by
  have e : b1 .repr x Qw = (x.showable = true ∧ x.depth ≤ 60 ∧ x.shown.length ≤ lim ∧ Qw (.d (.str x.shown))) := by cases x <;> rfl
  rw [e]
  apply propext
  exact ⟨fun q => q.2.2.2, fun q => ⟨pl_able x h.1, h.2.1, Nat.le_trans (len_shown x h.1) h.2.2, q⟩⟩
theorem eqv_str (s t : Str) : PyData.eqv (.str s) (.str t) = decide (s = t) := by
  simp only [PyData.eqv]
  by_cases h : s = t
  · subst h; simp
  · simp [h]
@[simp] theorem sh_str {s : Str} : SeqAt.shaped (.str s) = PySem.PyData.strOk s := by simp [SeqAt.shaped, PyData.canLay0, PyData.depth]
@[simp] theorem o_eqS {s t : Str} {Qb : Bool → Prop} : co .eq (.str s) (.str t) Qb = (PySem.PyData.strOk s = true ∧ PySem.PyData.strOk t = true ∧ Qb (decide (s = t))) := by
  simp only [co, sh_str, eqv_str]
@[simp] theorem o_neS {s t : Str} {Qb : Bool → Prop} : co .ne (.str s) (.str t) Qb = (PySem.PyData.strOk s = true ∧ PySem.PyData.strOk t = true ∧ Qb (!decide (s = t))) := by
  simp only [co, sh_str, eqv_str]
@[simp] theorem ok_sh {x : PD} (h : Rep x) : PySem.PyData.strOk (PyData.shown x) = true := ok_shown x h.1
def Lg (i : Int) : Prop := i.natAbs < 2 ^ 1900
theorem Lg_pl {i : Int} (h : Lg i) : Pl (.int i) = true := by
  simp only [Pl, decide_eq_true_eq]
  by_cases h0 : i.natAbs = 0
  · rw [h0]; decide
  · exact (Nat.log2_lt h0).mpr (Nat.lt_of_lt_of_le h (Nat.pow_le_pow_right (by decide) (by decide)))
theorem Sm.lg {i : Int} (h : Sm i) : Lg i := Nat.lt_of_lt_of_le h (Nat.pow_le_pow_right (by decide) (by decide))
theorem Lg.add {a b : Int} {k m : Nat} (ha : a.natAbs < 2 ^ k) (hb : b.natAbs < 2 ^ m) : (a + b).natAbs < 2 ^ (max k m + 1) := by
  have h1 : 2 ^ k ≤ 2 ^ max k m := Nat.pow_le_pow_right (by decide) (Nat.le_max_left ..)
  have h2 : 2 ^ m ≤ 2 ^ max k m := Nat.pow_le_pow_right (by decide) (Nat.le_max_right ..)
  have h3 := Int.natAbs_add_le a b
  rw [Nat.pow_succ]
  omega
theorem Lg.sub {a b : Int} {k m : Nat} (ha : a.natAbs < 2 ^ k) (hb : b.natAbs < 2 ^ m) : (a - b).natAbs < 2 ^ (max k m + 1) := by
  rw [Int.sub_eq_add_neg]
  exact Lg.add ha (by rwa [Int.natAbs_neg])
theorem Lg.mul {a b : Int} {k m : Nat} (ha : a.natAbs < 2 ^ k) (hb : b.natAbs < 2 ^ m) : (a * b).natAbs < 2 ^ (k + m) := by
  rw [Int.natAbs_mul, Nat.pow_add]
  exact Nat.mul_lt_mul_of_lt_of_lt ha hb
theorem Lg.le {a : Int} {k m : Nat} (ha : a.natAbs < 2 ^ k) (h : k ≤ m) : a.natAbs < 2 ^ m := Nat.lt_of_lt_of_le ha (Nat.pow_le_pow_right (by decide) h)
@[simp] theorem Pl_i {i : Int} (h : Lg i) : Pl (.int i) = true := Lg_pl h
@[simp] theorem Pl_t {xs : List PD} : Pl (.tuple xs) = PlA xs := by simp [Pl]
@[simp] theorem Pl_l {xs : List PD} : Pl (.list xs) = PlA xs := by simp [Pl]
@[simp] theorem PlA_n : PlA [] = true := by simp [PlA]
@[simp] theorem PlA_c {x : PD} {xs : List PD} : PlA (x :: xs) = (Pl x && PlA xs) := by simp [PlA]
@[simp] theorem cost_t {xs : List PD} : cost (.tuple xs) = costA xs + 3 := by simp [cost]
@[simp] theorem cost_l {xs : List PD} : cost (.list xs) = costA xs + 3 := by simp [cost]
@[simp] theorem cost_i {i : Int} : cost (.int i) = 1921 := by simp [cost]
@[simp] theorem costA_n : costA [] = 0 := by simp [costA]
@[simp] theorem costA_c {x : PD} {xs : List PD} : costA (x :: xs) = cost x + 2 + costA xs := by simp [costA]





theorem Rep_of {x : PD} (h1 : Pl x = true) (h2 : PyData.depth x ≤ 60) (h3 : cost x ≤ 1000000) : Rep x := ⟨h1, h2, h3⟩
end Mn.R

set_option linter.all false
set_option Elab.async false
set_option maxRecDepth 100000
set_option maxHeartbeats 2000000
namespace Mn.R
open PySem
abbrev T1 (a : Int) : PD := .tuple [t1 a]
abbrev T2 (a b c : Int) : PD := .tuple [t2 a b, t2 b c]
abbrev T3 (a b c d e f : Int) : PD := .tuple [t3 a b c, t3 b d e, t3 c e f]
abbrev M2 (a b c d : Int) : PD := .tuple [t2 a b, t2 c d]
abbrev M3 (a b c d e f g h i : Int) : PD := .tuple [t3 a b c, t3 d e f, t3 g h i]
def ln1 (a x u : Int) : Int := x * (a * u)
def ln2 (a b c x y u v : Int) : Int := x * (a * u + b * v) + y * (b * u + c * v)
def ln3 (a b c d e f x y z u v w : Int) : Int := x * (a * u + b * v + c * w) + y * (b * u + d * v + e * w) + z * (c * u + e * v + f * w)
section
variable {n : Nat} {a b c d e f g h i x y z u v w : Int} {Q : W → List W → Prop}
theorem cong2 {Q : W → List W → Prop} {a b : Int} {os : List W} (h : a = b) : Q (.d (.int a)) os = Q (.d (.int b)) os := by rw [h]
-- leans
theorem pl1 (sa : Sm a) (sx : Sm x) : callN TB (n + 1) i_lean_of [.d (T1 a), .d (t1 x), .d (t1 u)] Q = Q (.d (.int (ln1 a x u))) [] := by
  simp [in_lean_of, b_lean_of, sa, sx, ln1]
theorem pl2 (sa : Sm a) (sb : Sm b) (sc : Sm c) (sx : Sm x) (sy : Sm y) : callN TB (n + 1) i_lean_of [.d (T2 a b c), .d (t2 x y), .d (t2 u v)] Q = Q (.d (.int (ln2 a b c x y u v))) [] := by
  simp [in_lean_of, b_lean_of, sa, sb, sc, sx, sy, ln2]
theorem pl3 (sa : Sm a) (sb : Sm b) (sc : Sm c) (sd : Sm d) (se : Sm e) (sf : Sm f) (sx : Sm x) (sy : Sm y) (sz : Sm z) : callN TB (n + 1) i_lean_of [.d (T3 a b c d e f), .d (t3 x y z), .d (t3 u v w)] Q = Q (.d (.int (ln3 a b c d e f x y z u v w))) [] := by
  simp [in_lean_of, b_lean_of, sa, sb, sc, sd, se, sf, sx, sy, sz, ln3]
  refine iff_of_eq (cong2 (by grind))
theorem lby1 (sa : Sm a) : callN TB (n + 2) i__law_by [.d (T1 a), .d (t1 x)] Q = Q (.d (t1 (a * x))) [] := by
  simp [in__law_by, b__law_by, in__law_dot, b__law_dot, sa]
theorem lby2 (sa : Sm a) (sb : Sm b) (sc : Sm c) : callN TB (n + 2) i__law_by [.d (T2 a b c), .d (t2 x y)] Q = Q (.d (t2 (a * x + b * y) (b * x + c * y))) [] := by
  simp [in__law_by, b__law_by, in__law_dot, b__law_dot, sa, sb, sc]
theorem lby3 (sa : Sm a) (sb : Sm b) (sc : Sm c) (sd : Sm d) (se : Sm e) (sf : Sm f) : callN TB (n + 2) i__law_by [.d (T3 a b c d e f), .d (t3 x y z)] Q = Q (.d (t3 (a * x + b * y + c * z) (b * x + d * y + e * z) (c * x + e * y + f * z))) [] := by
  simp [in__law_by, b__law_by, in__law_dot, b__law_dot, sa, sb, sc, sd, se, sf, Int.add_assoc]
theorem ll1 (sa : Sm a) (su : Sm u) : callN TB (n + 3) i__law_lean [.d (T1 a), .d (t1 x), .d (t1 u)] Q = Q (.d (.int (ln1 a x u))) [] := by
  simp [in__law_lean, b__law_lean, lby1 sa, in__law_dot, b__law_dot, su, ln1]
  refine iff_of_eq (cong2 (by grind))
theorem ll2 (sa : Sm a) (sb : Sm b) (sc : Sm c) (su : Sm u) (sv : Sm v) : callN TB (n + 3) i__law_lean [.d (T2 a b c), .d (t2 x y), .d (t2 u v)] Q = Q (.d (.int (ln2 a b c x y u v))) [] := by
  simp [in__law_lean, b__law_lean, lby2 sa sb sc, in__law_dot, b__law_dot, su, sv, ln2]
  refine iff_of_eq (cong2 (by grind))
theorem ll3 (sa : Sm a) (sb : Sm b) (sc : Sm c) (sd : Sm d) (se : Sm e) (sf : Sm f) (su : Sm u) (sv : Sm v) (sw : Sm w) : callN TB (n + 3) i__law_lean [.d (T3 a b c d e f), .d (t3 x y z), .d (t3 u v w)] Q = Q (.d (.int (ln3 a b c d e f x y z u v w))) [] := by
  simp [in__law_lean, b__law_lean, lby3 sa sb sc sd se sf, in__law_dot, b__law_dot, su, sv, sw, ln3]
  refine iff_of_eq (cong2 (by grind))
end
end Mn.R

set_option linter.all false
set_option Elab.async false
set_option maxRecDepth 100000
set_option maxHeartbeats 2000000
/-! forms stay forms under changes -/
namespace Mn.R
theorem sq_nn (x : Int) : 0 ≤ x * x := by
  rcases Int.le_total 0 x with h | h
  · exact Int.mul_nonneg h h
  · have := Int.mul_nonneg (Int.neg_nonneg.mpr h) (Int.neg_nonneg.mpr h)
    rwa [Int.neg_mul_neg] at this
theorem sq_pos {x : Int} (h : x ≠ 0) : 0 < x * x := by
  rcases Int.lt_or_gt_of_ne h with h | h
  · have := Int.mul_pos (Int.neg_pos.mpr h) (Int.neg_pos.mpr h)
    rwa [Int.neg_mul_neg] at this
  · exact Int.mul_pos h h
theorem pos_of {a q : Int} (ha : 0 < a) (h : 0 < a * q) : 0 < q := by
  by_cases h1 : 0 < q
  · exact h1
  · have := Int.mul_nonneg (Int.le_of_lt ha) (Int.neg_nonneg.mpr (Int.not_lt.mp h1))
    rw [Int.mul_neg] at this
    omega
theorem pos2 {a b c x y : Int} (h1 : 0 < a) (h2 : 0 < a * c - b * b) (h : x ≠ 0 ∨ y ≠ 0) : 0 < ln2 a b c x y x y := by
  have key : a * ln2 a b c x y x y = (a * x + b * y) * (a * x + b * y) + (a * c - b * b) * (y * y) := by unfold ln2; grind
  by_cases hy : y = 0
  · subst hy
    have hx : x ≠ 0 := by rcases h with h | h; exact h; exact (h rfl).elim
    have := Int.mul_pos h1 (sq_pos hx)
    have e : ln2 a b c x 0 x 0 = a * (x * x) := by unfold ln2; grind
    rw [e]; exact this
  · refine pos_of h1 ?_
    rw [key]
    have := Int.mul_pos h2 (sq_pos hy)
    have := sq_nn (a * x + b * y)
    omega
theorem pos3 {a b c d e f x y z : Int} (h1 : 0 < a) (h2 : 0 < a * d - b * b) (h3 : 0 < a * (d * f - e * e) - b * (b * f - e * c) + c * (b * e - d * c)) (h : x ≠ 0 ∨ y ≠ 0 ∨ z ≠ 0) : 0 < ln3 a b c d e f x y z x y z := by
  have key : a * ln3 a b c d e f x y z x y z = (a * x + b * y + c * z) * (a * x + b * y + c * z) + ln2 (a * d - b * b) (a * e - b * c) (a * f - c * c) y z y z := by unfold ln3 ln2; grind
  by_cases hy : y = 0 ∧ z = 0
  · obtain ⟨rfl, rfl⟩ := hy
    have hx : x ≠ 0 := by grind
    have := Int.mul_pos h1 (sq_pos hx)
    have e : ln3 a b c d e f x 0 0 x 0 0 = a * (x * x) := by unfold ln3; grind
    rw [e]; exact this
  · have hyz : y ≠ 0 ∨ z ≠ 0 := by grind
    have h4 : 0 < (a * d - b * b) * (a * f - c * c) - (a * e - b * c) * (a * e - b * c) := by
      have : (a * d - b * b) * (a * f - c * c) - (a * e - b * c) * (a * e - b * c) = a * (a * (d * f - e * e) - b * (b * f - e * c) + c * (b * e - d * c)) := by grind
      rw [this]
      exact Int.mul_pos h1 h3
    refine pos_of h1 ?_
    rw [key]
    have := pos2 h2 h4 hyz
    have := sq_nn (a * x + b * y + c * z)
    omega
theorem ch1 {a s : Int} (h : 0 < a) (hs : s ≠ 0) : 0 < ln1 a s s := by
  have := Int.mul_pos h (sq_pos hs)
  unfold ln1
  grind
theorem ch2 {a b c p q r s : Int} (h1 : 0 < a) (h2 : 0 < a * c - b * b) (hd : p * s - q * r ≠ 0) :
    0 < ln2 a b c p q p q ∧ 0 < ln2 a b c p q p q * ln2 a b c r s r s - ln2 a b c p q r s * ln2 a b c p q r s := by
  constructor
  · refine pos2 h1 h2 ?_
    by_cases hp : p = 0
    · right; intro hq; subst hp hq; simp at hd
    · exact .inl hp
  · have : ln2 a b c p q p q * ln2 a b c r s r s - ln2 a b c p q r s * ln2 a b c p q r s = (a * c - b * b) * ((p * s - q * r) * (p * s - q * r)) := by unfold ln2; grind
    rw [this]
    exact Int.mul_pos h2 (sq_pos hd)
theorem ch3 {a b c d e f p q r s t u v w x : Int} (h1 : 0 < a) (h2 : 0 < a * d - b * b) (h3 : 0 < a * (d * f - e * e) - b * (b * f - e * c) + c * (b * e - d * c))
    (hd : p * (t * x - u * w) - q * (s * x - u * v) + r * (s * w - t * v) ≠ 0)
    {A B C D E F : Int} (eA : A = ln3 a b c d e f p q r p q r) (eB : B = ln3 a b c d e f p q r s t u) (eC : C = ln3 a b c d e f p q r v w x) (eD : D = ln3 a b c d e f s t u s t u) (eE : E = ln3 a b c d e f s t u v w x) (eF : F = ln3 a b c d e f v w x v w x) :
    0 < A ∧ 0 < A * D - B * B ∧ 0 < A * (D * F - E * E) - B * (B * F - E * C) + C * (B * E - D * C) := by
  refine ⟨?_, ?_, ?_⟩
  · rw [eA]
    refine pos3 h1 h2 h3 ?_
    by_cases hp : p = 0
    · by_cases hq : q = 0
      · refine .inr (.inr fun hr => ?_)
        subst hp hq hr
        simp at hd
      · exact .inr (.inl hq)
    · exact .inl hp
  · have key : A * D - B * B = ln3 (a * d - b * b) (b * c - a * e) (b * e - c * d) (a * f - c * c) (c * e - b * f) (d * f - e * e) (p * t - q * s) (r * s - p * u) (q * u - r * t) (p * t - q * s) (r * s - p * u) (q * u - r * t) := by
      rw [eA, eB, eD]; unfold ln3; grind
    rw [key]
    refine pos3 h2 ?_ ?_ ?_
    · have : (a * d - b * b) * (a * f - c * c) - (b * c - a * e) * (b * c - a * e) = a * (a * (d * f - e * e) - b * (b * f - e * c) + c * (b * e - d * c)) := by grind
      rw [this]
      exact Int.mul_pos h1 h3
    · have : (a * d - b * b) * ((a * f - c * c) * (d * f - e * e) - (c * e - b * f) * (c * e - b * f)) - (b * c - a * e) * ((b * c - a * e) * (d * f - e * e) - (c * e - b * f) * (b * e - c * d)) + (b * e - c * d) * ((b * c - a * e) * (c * e - b * f) - (a * f - c * c) * (b * e - c * d)) = (a * (d * f - e * e) - b * (b * f - e * c) + c * (b * e - d * c)) * (a * (d * f - e * e) - b * (b * f - e * c) + c * (b * e - d * c)) := by grind
      rw [this]
      exact Int.mul_pos h3 h3
    · by_cases g1 : p * t - q * s = 0
      · by_cases g2 : r * s - p * u = 0
        · refine .inr (.inr fun g3 => ?_)
          have : p * (t * x - u * w) - q * (s * x - u * v) + r * (s * w - t * v) = (p * t - q * s) * x + (r * s - p * u) * w + (q * u - r * t) * v := by grind
          rw [this, g1, g2, g3] at hd
          simp at hd
        · exact .inr (.inl g2)
      · exact .inl g1
  · have key : A * (D * F - E * E) - B * (B * F - E * C) + C * (B * E - D * C) = (a * (d * f - e * e) - b * (b * f - e * c) + c * (b * e - d * c)) * ((p * (t * x - u * w) - q * (s * x - u * v) + r * (s * w - t * v)) * (p * (t * x - u * w) - q * (s * x - u * v) + r * (s * w - t * v))) := by
      rw [eA, eB, eC, eD, eE, eF]; unfold ln3; grind
    rw [key]
    exact Int.mul_pos h3 (sq_pos hd)
theorem psd2 {a b c : Int} (h1 : 0 ≤ a) (h : 0 < a * c - b * b) : 0 < a := by
  by_cases e : a = 0
  · subst e
    have := sq_nn b
    grind
  · omega
theorem psd3 {a b c d e f : Int} (h1 : 0 ≤ a) (hd : 0 ≤ d) (h2 : 0 ≤ a * d - b * b) (h : 0 < a * (d * f - e * e) - b * (b * f - e * c) + c * (b * e - d * c)) : 0 < a ∧ 0 < a * d - b * b := by
  have key : a * (a * (d * f - e * e) - b * (b * f - e * c) + c * (b * e - d * c)) = (a * d - b * b) * (a * f - c * c) - (a * e - b * c) * (a * e - b * c) := by grind
  by_cases e0 : a * d - b * b = 0
  · exfalso
    by_cases ea : a = 0
    · subst ea
      have hb : b * b = 0 := by grind
      have hb : b = 0 := by
        by_cases q : b = 0
        · exact q
        · have := sq_pos q
          omega
      subst hb
      have := Int.mul_nonneg hd (sq_nn c)
      grind
    · rw [e0] at key
      have := Int.mul_pos (show 0 < a by omega) h
      have := sq_nn (a * e - b * c)
      grind
  · have h2' : 0 < a * d - b * b := by omega
    exact ⟨psd2 h1 h2', h2'⟩
end Mn.R

set_option linter.all false
set_option Elab.async false
set_option maxRecDepth 100000
set_option maxHeartbeats 4000000
namespace Mn.R
open PySem
theorem sp_drw {n : Nat} {cs : List Int} {m d many : Int} {Q : W → List W → Prop} (hc : cs.length ≤ 63) (h1 : 0 < many) (h2 : many < 2 ^ 64) (h : ∀ r cs m d, cs.length ≤ 63 → 0 ≤ r → r < many → Q (.d (.int r)) [dk cs m d]) : callN TB (n + 1) i__law_draw [dk cs m d, .d (.int many)] Q :=
  sp_draw n cs m d many hc h1 h2 Q fun r cs m d a b c => h r cs m d c a b
theorem sp_pck {n : Nat} {cs : List Int} {m d : Int} {xs : List PD} {Q : W → List W → Prop} (hc : cs.length ≤ 63) (h1 : xs ≠ []) (h2 : xs.length ≤ 1000000) (h : ∀ x cs m d, cs.length ≤ 63 → x ∈ xs → Q (.d x) [dk cs m d]) : callN TB (n + 2) i__law_pick [dk cs m d, .d (.list xs)] Q :=
  sp_pick n cs m d xs hc h1 h2 Q fun x cs m d a b => h x cs m d b a
theorem Sm_of {x : Int} (h : -1000000000000 ≤ x) (h2 : x ≤ 1000000000000) : Sm x := by unfold Sm; omega
theorem map_rng (k : Nat) : (List.range k).map (fun i => PyData.int ((i : Nat) : Int)) = ((List.range k).map fun i => ((i : Nat) : Int)).map .int := by simp
end Mn.R

set_option linter.all false
set_option Elab.async false
set_option maxRecDepth 100000
set_option maxHeartbeats 2000000
set_option exponentiation.threshold 5000
/-! any values: their text, its length -/
namespace Mn.R
open PySem
theorem rc_all : ∀ c, c < 128 → ∀ q, q < 128 → (q = 34 ∨ q = 39) → (Builtin.Str.reprChar q c).all (fun d => decide (d < 1114112)) = true := by decide +kernel
theorem up_all : ∀ c, c < 128 → Unicode.upperOf c = [(Unicode.upperOf c).headD 0] ∧ (Unicode.upperOf c).headD 0 < 128 := by decide +kernel
def As (s : Str) : Bool := s.cps.all (fun c => decide (c < 128))
theorem As_mem {s : Str} (h : As s = true) : ∀ c ∈ s.cps.toList, c < 128 := by
  intro c hc
  unfold As at h
  rw [← Array.all_toList, List.all_eq_true] at h
  simpa using h c hc
theorem As_of {s : Str} (h : ∀ c ∈ s.cps.toList, c < 128) : As s = true := by
  unfold As
  rw [← Array.all_toList, List.all_eq_true]
  intro c hc
  simpa using h c hc
theorem As.ok {s : Str} (h : As s = true) : PySem.PyData.strOk s = true := by
  unfold PySem.PyData.strOk
  rw [← Array.all_toList, List.all_eq_true]
  intro c hc
  have := As_mem h c hc
  simp
  omega
theorem fold_ok (q : Nat) (hq : q = 34 ∨ q = 39) : ∀ (l : List Nat) (acc : Array Nat), (∀ c ∈ l, c < 128) → (∀ d ∈ acc.toList, d < 1114112) → ∀ d ∈ (l.foldl (fun out c => out ++ (Builtin.Str.reprChar q c).toArray) acc).toList, d < 1114112
  | [], acc, _, h => h
  | c :: l, acc, hl, h => by
    rw [List.foldl_cons]
    refine fold_ok q hq l _ (fun d hd => hl d (List.mem_cons_of_mem _ hd)) fun d hd => ?_
    rw [Array.toList_append] at hd
    rcases List.mem_append.mp hd with hd | hd
    · exact h d hd
    · have := rc_all c (hl c List.mem_cons_self) q (by omega) hq
      rw [List.all_eq_true] at this
      simpa using this d hd
theorem ok_repr {s : Str} (h : As s = true) : PySem.PyData.strOk (reprText s) = true := by
  unfold PySem.PyData.strOk
  rw [← Array.all_toList, List.all_eq_true]
  intro c hc
  have hq : reprQuote s = 34 ∨ reprQuote s = 39 := by
    unfold reprQuote
    split
    · exact .inl rfl
    · exact .inr rfl
  unfold reprText at hc
  simp only [Array.toList_push, List.mem_append, List.mem_singleton] at hc
  rcases hc with hc | rfl
  · rw [← Array.foldl_toList] at hc
    have := fold_ok (reprQuote s) hq s.cps.toList #[reprQuote s] (As_mem h) (by intro d hd; simp at hd; omega) c hc
    simpa using this
  · simp
    omega
theorem As.upper {s : Str} (h : As s = true) : As (Txt.upper s) = true ∧ (Txt.upper s).length = s.length := by
  have e : Txt.upper s = ⟨s.cps.map fun c => (Unicode.upperOf c).headD 0⟩ := by
    unfold Txt.upper
    congr 1
    refine PyProof.Rows.placed_single s _ _ fun i c hc => ?_
    exact (up_all c (As_mem h c (List.mem_of_getElem? hc))).1
  rw [e]
  constructor
  · refine As_of fun c hc => ?_
    simp only [Array.toList_map, List.mem_map] at hc
    obtain ⟨d, hd, rfl⟩ := hc
    exact (up_all d (As_mem h d hd)).2
  · show (s.cps.map _).size = s.cps.size
    simp
theorem As.app {s t : Str} (h : As s = true) (h' : As t = true) : As (s ++ t) = true := by
  refine As_of fun c hc => ?_
  have : c ∈ (s.cps ++ t.cps).toList := hc
  rw [Array.toList_append] at this
  rcases List.mem_append.mp this with h1 | h1
  · exact As_mem h c h1
  · exact As_mem h' c h1
theorem As.cutS {s : Str} (h : As s = true) (lo hi : Option Int) : As (L2.cutS s lo hi) = true ∧ (L2.cutS s lo hi).length ≤ s.length := by
  constructor
  · refine As_of fun c hc => ?_
    unfold L2.cutS at hc
    simp only at hc
    exact As_mem h c (List.mem_of_mem_drop (List.mem_of_mem_take (by simpa using hc)))
  · unfold L2.cutS
    show (List.toArray _).size ≤ s.cps.size
    simp
    omega
/-- the greatest integer -/
def BN : Nat := 10 ^ 60
mutual
def Pv (B : Nat) : PD → Bool
  | .int i => decide (i.natAbs ≤ B)
  | .str s => As s
  | .bool _ => true
  | .none => true
  | .list xs => PvA B xs
  | .tuple xs => PvA B xs
  | .dict kvs => PvK B kvs
def PvA (B : Nat) : List PD → Bool
  | [] => true
  | x :: xs => Pv B x && PvA B xs
def PvK (B : Nat) : List (PD × PD) → Bool
  | [] => true
  | (k, v) :: r => (Pv B k && Pv B v) && PvK B r
end
mutual
def cst : PD → Nat
  | .int _ => 70
  | .str s => 10 * s.length + 10
  | .bool _ => 10
  | .none => 10
  | .list xs => cstA xs + 3
  | .tuple xs => cstA xs + 3
  | .dict kvs => cstK kvs + 3
def cstA : List PD → Nat
  | [] => 0
  | x :: xs => cst x + 2 + cstA xs
def cstK : List (PD × PD) → Nat
  | [] => 0
  | (k, v) :: r => cst k + cst v + 4 + cstK r
end
mutual
theorem Pv.mono {B B' : Nat} (h : B ≤ B') : ∀ x : PD, Pv B x = true → Pv B' x = true
  | .int i, q => by
    simp only [Pv, decide_eq_true_eq] at q ⊢
    omega
  | .str s, q => by simpa [Pv] using q
  | .bool b, _ => by simp [Pv]
  | .none, _ => by simp [Pv]
  | .list xs, q => by
    simp only [Pv] at q ⊢
    exact PvA.mono h xs q
  | .tuple xs, q => by
    simp only [Pv] at q ⊢
    exact PvA.mono h xs q
  | .dict kvs, q => by
    simp only [Pv] at q ⊢
    exact PvK.mono h kvs q
theorem PvA.mono {B B' : Nat} (h : B ≤ B') : ∀ xs : List PD, PvA B xs = true → PvA B' xs = true
  | [], _ => by simp [PvA]
  | x :: xs, q => by
    simp only [PvA, Bool.and_eq_true] at q ⊢
    exact ⟨Pv.mono h x q.1, PvA.mono h xs q.2⟩
theorem PvK.mono {B B' : Nat} (h : B ≤ B') : ∀ xs : List (PD × PD), PvK B xs = true → PvK B' xs = true
  | [], _ => by simp [PvK]
  | (k, v) :: xs, q => by
    simp only [PvK, Bool.and_eq_true] at q ⊢
    exact ⟨⟨Pv.mono h k q.1.1, Pv.mono h v q.1.2⟩, PvK.mono h xs q.2⟩
end
theorem int_l2 {i : Int} {B : Nat} (hB : B ≤ BN) (h : i.natAbs ≤ B) : i.natAbs.log2 < 1920 := by
  by_cases h0 : i.natAbs = 0
  · rw [h0]; decide
  · refine (Nat.log2_lt h0).mpr ?_
    have : BN < 2 ^ 1920 := by unfold BN; decide +kernel
    omega
theorem int_ln {i : Int} {B : Nat} (hB : B ≤ BN) (h : i.natAbs ≤ B) : (PyData.shown (.int i)).length ≤ 70 := by
  simp only [PyData.shown]
  rw [PySem.ofString_length]
  have : i.natAbs < 10 ^ 61 := by
    have : BN < 10 ^ 61 := by unfold BN; decide +kernel
    omega
  have := int_text_length_le10 (k := 61) (by decide) this
  omega
mutual
theorem vl_ok {B : Nat} : ∀ x : PD, Pv B x = true → PySem.PyData.strOk (PyData.shown x) = true
  | .none, _ => by simp only [PyData.shown]; decide +kernel
  | .bool b, _ => by cases b <;> (simp only [PyData.shown]; decide +kernel)
  | .int i, _ => by simp only [PyData.shown]; exact ok_int i
  | .str s, h => by simp only [PyData.shown]; exact ok_repr (by simpa [Pv] using h)
  | .dict kvs, h => by
    simp only [PyData.shown, dictText]
    exact ok_app (ok_app (by decide +kernel) (ok_join _ (vl_okK kvs (by simpa [Pv] using h)))) (by decide +kernel)
  | .list xs, h => by
    simp only [PyData.shown, listText]
    exact ok_app (ok_from _ 0 _ (by decide +kernel) (vl_okA xs (by simpa [Pv] using h))) (by decide +kernel)
  | .tuple xs, h => by
    simp only [PyData.shown, tupleText]
    refine ok_app (ok_app (by decide +kernel) (ok_join _ (vl_okA xs (by simpa [Pv] using h)))) ?_
    split <;> decide +kernel
theorem vl_okA {B : Nat} : ∀ xs : List PD, PvA B xs = true → ∀ t ∈ PyData.shownAll xs, PySem.PyData.strOk t = true
  | [], _, t, ht => by simp [PyData.shownAll] at ht
  | x :: xs, h, t, ht => by
    simp only [PvA, Bool.and_eq_true] at h
    simp only [PyData.shownAll, List.mem_cons] at ht
    rcases ht with rfl | ht
    · exact vl_ok x h.1
    · exact vl_okA xs h.2 t ht
theorem vl_okK {B : Nat} : ∀ xs : List (PD × PD), PvK B xs = true → ∀ t ∈ PyData.shownKv xs, PySem.PyData.strOk t = true
  | [], _, t, ht => by simp [PyData.shownKv] at ht
  | (k, v) :: xs, h, t, ht => by
    simp only [PvK, Bool.and_eq_true] at h
    simp only [PyData.shownKv, List.mem_cons] at ht
    rcases ht with rfl | ht
    · exact ok_app (ok_app (vl_ok k h.1.1) (by decide +kernel)) (vl_ok v h.1.2)
    · exact vl_okK xs h.2 t ht
end
mutual
theorem vl_able {B : Nat} (hB : B ≤ BN) : ∀ x : PD, Pv B x = true → PyData.showable x = true
  | .none, _ => by simp [PyData.showable]
  | .bool b, _ => by simp [PyData.showable]
  | .int i, h => by
    simp only [PyData.showable, decide_eq_true_eq]
    exact int_l2 hB (by simpa [Pv] using h)
  | .str _, h => by simp [PyData.showable]
  | .dict kvs, h => by simp only [PyData.showable]; exact vl_ableK hB kvs (by simpa [Pv] using h)
  | .list xs, h => by simp only [PyData.showable]; exact vl_ableA hB xs (by simpa [Pv] using h)
  | .tuple xs, h => by simp only [PyData.showable]; exact vl_ableA hB xs (by simpa [Pv] using h)
theorem vl_ableA {B : Nat} (hB : B ≤ BN) : ∀ xs : List PD, PvA B xs = true → PyData.showableAll xs = true
  | [], _ => by simp [PyData.showableAll]
  | x :: xs, h => by
    simp only [PvA, Bool.and_eq_true] at h
    simp only [PyData.showableAll, vl_able hB x h.1, vl_ableA hB xs h.2, Bool.and_self]
theorem vl_ableK {B : Nat} (hB : B ≤ BN) : ∀ xs : List (PD × PD), PvK B xs = true → PyData.showableKv xs = true
  | [], _ => by simp [PyData.showableKv]
  | (k, v) :: xs, h => by
    simp only [PvK, Bool.and_eq_true] at h
    simp only [PyData.showableKv, vl_able hB k h.1.1, vl_able hB v h.1.2, vl_ableK hB xs h.2, Bool.and_self]
end
theorem app_len (a b : Str) : (a ++ b).length = a.length + b.length := by
  show (a.cps ++ b.cps).size = a.cps.size + b.cps.size
  rw [Array.size_append]
mutual
theorem vl_len {B : Nat} (hB : B ≤ BN) : ∀ x : PD, Pv B x = true → (PyData.shown x).length ≤ cst x
  | .none, _ => by simp only [PyData.shown, cst]; decide +kernel
  | .bool b, _ => by cases b <;> (simp only [PyData.shown, cst]; decide +kernel)
  | .int i, h => by simp only [cst]; exact int_ln hB (by simpa [Pv] using h)
  | .str s, h => by
    simp only [PyData.shown, cst]
    have h' : As s = true := by simpa [Pv] using h
    have := StrLaws.reprText_len s fun c hc => Nat.lt_of_lt_of_le (As_mem h' c hc) (by decide)
    omega
  | .dict kvs, h => by
    simp only [PyData.shown, cst]
    have a := dictText_len_le (PyData.shownKv kvs)
    have b := vl_lenK hB kvs (by simpa [Pv] using h)
    omega
  | .list xs, h => by
    simp only [PyData.shown, cst]
    have a := listText_len_le (PyData.shownAll xs)
    have b := vl_lenA hB xs (by simpa [Pv] using h)
    omega
  | .tuple xs, h => by
    simp only [PyData.shown, cst]
    have a := tupleText_len_le (PyData.shownAll xs)
    have b := vl_lenA hB xs (by simpa [Pv] using h)
    omega
theorem vl_lenA {B : Nat} (hB : B ≤ BN) : ∀ xs : List PD, PvA B xs = true → ((PyData.shownAll xs).map (·.length)).sum + 2 * (PyData.shownAll xs).length ≤ cstA xs
  | [], _ => by simp [PyData.shownAll, cstA]
  | x :: xs, h => by
    simp only [PvA, Bool.and_eq_true] at h
    have a := vl_len hB x h.1
    have b := vl_lenA hB xs h.2
    simp only [PyData.shownAll, cstA, List.map_cons, List.sum_cons, List.length_cons]
    omega
theorem vl_lenK {B : Nat} (hB : B ≤ BN) : ∀ xs : List (PD × PD), PvK B xs = true → ((PyData.shownKv xs).map (·.length)).sum + 2 * (PyData.shownKv xs).length ≤ cstK xs
  | [], _ => by simp [PyData.shownKv, cstK]
  | (k, v) :: xs, h => by
    simp only [PvK, Bool.and_eq_true] at h
    have a := vl_len hB k h.1.1
    have a2 := vl_len hB v h.1.2
    have b := vl_lenK hB xs h.2
    have e : (PyData.shown k ++ ": " ++ PyData.shown v).length = (PyData.shown k).length + 2 + (PyData.shown v).length := by
      rw [app_len, app_len]
      rfl
    simp only [PyData.shownKv, cstK, List.map_cons, List.sum_cons, List.length_cons, e]
    omega
end
/-- a value that can be shown: its integers, its depth, the length of its text -/
structure Vl (B d c : Nat) (x : PD) : Prop where
  pv : Pv B x = true
  dp : PyData.depth x ≤ d
  cs : cst x ≤ c
theorem Vl.mono {B d c B' d' c' : Nat} {x : PD} (h : Vl B d c x) (hB : B ≤ B') (hd : d ≤ d') (hc : c ≤ c') : Vl B' d' c' x := ⟨Pv.mono hB x h.pv, Nat.le_trans h.dp hd, Nat.le_trans h.cs hc⟩
theorem o_reprV {B d c : Nat} {x : PD} {Qw : W → Prop} (h : Vl B d c x) (hB : B ≤ BN) (hd : d ≤ 60) (hc : c ≤ 1000000) : b1 .repr x Qw = Qw (.d (.str (PyData.shown x))) := by
  have e : b1 .repr x Qw = (x.showable = true ∧ x.depth ≤ 60 ∧ x.shown.length ≤ lim ∧ Qw (.d (.str x.shown))) := by cases x <;> rfl
  rw [e]
  apply propext
  exact ⟨fun q => q.2.2.2, fun q => ⟨vl_able hB x h.pv, Nat.le_trans h.dp hd, Nat.le_trans (vl_len hB x h.pv) (Nat.le_trans h.cs hc), q⟩⟩
end Mn.R

set_option linter.all false
set_option Elab.async false
set_option maxRecDepth 100000
set_option maxHeartbeats 4000000
set_option exponentiation.threshold 5000
/-! lists of any values; the law's own any values -/
namespace Mn.R
open PySem
structure VlA (B d c : Nat) (xs : List PD) : Prop where
  pv : PvA B xs = true
  dp : PyData.depthAll xs ≤ d
  cs : cstA xs ≤ c
theorem VlA.mono {B d c B' d' c' : Nat} {xs : List PD} (h : VlA B d c xs) (hB : B ≤ B') (hd : d ≤ d') (hc : c ≤ c') : VlA B' d' c' xs := ⟨PvA.mono hB xs h.pv, Nat.le_trans h.dp hd, Nat.le_trans h.cs hc⟩
theorem VlA.nil {B d c : Nat} : VlA B d c [] := ⟨by simp [PvA], by simp [PyData.depthAll], by simp [cstA]⟩
theorem VlA.cons {B d c c' : Nat} {x : PD} {xs : List PD} (h : Vl B d c x) (h' : VlA B d c' xs) : VlA B d (c + 2 + c') (x :: xs) := by
  refine ⟨by simp [PvA, h.pv, h'.pv], ?_, ?_⟩
  · have := h.dp
    have := h'.dp
    simp only [PyData.depthAll]
    omega
  · have := h.cs
    have := h'.cs
    simp only [cstA]
    omega
theorem VlA.one {B d c : Nat} {x : PD} (h : Vl B d c x) : VlA B d (c + 2) [x] := (VlA.cons h (VlA.nil (c := 0))).mono (Nat.le_refl _) (Nat.le_refl _) (by omega)
theorem VlA.uncons {B d c : Nat} {x : PD} {xs : List PD} (h : VlA B d c (x :: xs)) : Vl B d c x ∧ VlA B d c xs := by
  obtain ⟨h1, h2, h3⟩ := h
  simp only [PvA, Bool.and_eq_true] at h1
  simp only [PyData.depthAll] at h2
  simp only [cstA] at h3
  exact ⟨⟨h1.1, by omega, by omega⟩, h1.2, by omega, by omega⟩
theorem VlA.mem {B d c : Nat} : ∀ {xs : List PD}, VlA B d c xs → ∀ x ∈ xs, Vl B d c x
  | [], _, x, hx => by simp at hx
  | y :: xs, h, x, hx => by
    obtain ⟨h1, h2⟩ := h.uncons
    rcases List.mem_cons.mp hx with rfl | hx
    · exact h1
    · exact VlA.mem h2 x hx
theorem VlA.app {B d c c' : Nat} : ∀ {xs ys : List PD}, VlA B d c xs → VlA B d c' ys → VlA B d (c + c') (xs ++ ys)
  | [], ys, _, h' => h'.mono (Nat.le_refl _) (Nat.le_refl _) (by omega)
  | x :: xs, ys, h, h' => by
    have e : cstA (x :: xs) = cst x + 2 + cstA xs := by simp only [cstA]
    have hc := h.cs
    rw [e] at hc
    have q := VlA.app (c := cstA xs) ⟨h.uncons.2.pv, h.uncons.2.dp, Nat.le_refl _⟩ h'
    have := VlA.cons (c := cst x) ⟨h.uncons.1.pv, h.uncons.1.dp, Nat.le_refl _⟩ q
    exact this.mono (Nat.le_refl _) (Nat.le_refl _) (by omega)
theorem VlA.take {B d c : Nat} : ∀ {xs : List PD} (k : Nat), VlA B d c xs → VlA B d c (xs.take k)
  | _, 0, _ => VlA.nil
  | [], _ + 1, _ => VlA.nil
  | x :: xs, k + 1, h => by
    have e : cstA (x :: xs) = cst x + 2 + cstA xs := by simp only [cstA]
    have hc := h.cs
    rw [e] at hc
    have q := VlA.take (c := cstA xs) k ⟨h.uncons.2.pv, h.uncons.2.dp, Nat.le_refl _⟩
    exact (VlA.cons (c := cst x) ⟨h.uncons.1.pv, h.uncons.1.dp, Nat.le_refl _⟩ q).mono (Nat.le_refl _) (Nat.le_refl _) (by omega)
theorem VlA.drop {B d c : Nat} : ∀ {xs : List PD} (k : Nat), VlA B d c xs → VlA B d c (xs.drop k)
  | _, 0, h => h
  | [], _ + 1, _ => VlA.nil
  | x :: xs, k + 1, h => by
    have e : cstA (x :: xs) = cst x + 2 + cstA xs := by simp only [cstA]
    have hc := h.cs
    exact VlA.drop k ⟨h.uncons.2.pv, h.uncons.2.dp, by omega⟩
theorem VlA.cut {B d c : Nat} {xs : List PD} (h : VlA B d c xs) (lo hi : Option Int) : VlA B d c (cut xs lo hi) := (h.drop _).take _
theorem VlA.rev {B d c : Nat} : ∀ {xs : List PD}, VlA B d c xs → VlA B d c xs.reverse
  | [], h => h
  | x :: xs, h => by
    have e : cstA (x :: xs) = cst x + 2 + cstA xs := by simp only [cstA]
    have hc := h.cs
    rw [e] at hc
    rw [List.reverse_cons]
    have q := VlA.rev (c := cstA xs) ⟨h.uncons.2.pv, h.uncons.2.dp, Nat.le_refl _⟩
    exact (q.app (VlA.one (c := cst x) ⟨h.uncons.1.pv, h.uncons.1.dp, Nat.le_refl _⟩)).mono (Nat.le_refl _) (Nat.le_refl _) (by omega)
theorem VlA.len {B d c : Nat} : ∀ {xs : List PD}, VlA B d c xs → 2 * xs.length ≤ c
  | [], _ => by simp
  | x :: xs, h => by
    have e : cstA (x :: xs) = cst x + 2 + cstA xs := by simp only [cstA]
    have hc := h.cs
    rw [e] at hc
    have := VlA.len (c := cstA xs) ⟨h.uncons.2.pv, h.uncons.2.dp, Nat.le_refl _⟩
    simp only [List.length_cons]
    omega
theorem VlA.tup {B d c : Nat} {xs : List PD} (h : VlA B d c xs) : Vl B (d + 1) (c + 3) (.tuple xs) := by
  refine ⟨by simp [Pv, h.pv], ?_, ?_⟩
  · have := h.dp
    simp only [PyData.depth]
    omega
  · have := h.cs
    simp only [cst]
    omega
theorem VlA.lst {B d c : Nat} {xs : List PD} (h : VlA B d c xs) : Vl B (d + 1) (c + 3) (.list xs) := by
  refine ⟨by simp [Pv, h.pv], ?_, ?_⟩
  · have := h.dp
    simp only [PyData.depth]
    omega
  · have := h.cs
    simp only [cst]
    omega
theorem Vl.items {B d c : Nat} {xs : List PD} (h : Vl B d c (.tuple xs)) : 1 ≤ d ∧ VlA B (d - 1) c xs := by
  obtain ⟨h1, h2, h3⟩ := h
  simp only [Pv] at h1
  simp only [PyData.depth] at h2
  simp only [cst] at h3
  exact ⟨by omega, h1, by omega, by omega⟩
theorem Vl.int {B d c : Nat} {i : Int} (h : i.natAbs ≤ B) (hc : 70 ≤ c) : Vl B d c (.int i) := ⟨by simp [Pv, h], by simp [PyData.depth], by simpa [cst] using hc⟩
theorem Vl.bool {B d c : Nat} {b : Bool} (hc : 10 ≤ c) : Vl B d c (.bool b) := ⟨by simp [Pv], by simp [PyData.depth], by simpa [cst] using hc⟩
theorem Vl.none {B d c : Nat} (hc : 10 ≤ c) : Vl B d c .none := ⟨by simp [Pv], by simp [PyData.depth], by simpa [cst] using hc⟩
theorem Vl.str {B d c : Nat} {s : Str} (h : As s = true) (hc : 10 * s.length + 10 ≤ c) : Vl B d c (.str s) := ⟨by simp [Pv, h], by simp [PyData.depth], by simpa [cst] using hc⟩
def B0 : Nat := 10 ^ 13
def kPD : Sum Int Str → PD
  | .inl i => .int i
  | .inr s => .str s
@[simp] theorem kPD_l {i : Int} : kPD (.inl i) = .int i := (rfl)
@[simp] theorem kPD_r {s : Str} : kPD (.inr s) = .str s := (rfl)
def kDct (ks : List (Sum Int Str)) (Q : W → Env → Prop) : List W → Env → Prop := fun ws e => ks.length = ws.length ∧ ks.length ≤ 15 ∧ ks.Nodup ∧ Q (.od (ks.map kPD) ws) e
@[simp] theorem kDct_r {ks : List (Sum Int Str)} {Q : W → Env → Prop} {ws : List W} {e : Env} : kDct ks Q ws e = (ks.length = ws.length ∧ ks.length ≤ 15 ∧ ks.Nodup ∧ Q (.od (ks.map kPD) ws) e) := (rfl)
@[simp] theorem w_dct {C : Ctx} {ks : List (Sum Int Str)} {vs : IL} {env : Env} {Q : W → Env → Prop} : evE C (.dct ks vs) env Q = evM C vs env (kDct ks Q) := by
  simp only [evE]
  unfold kDct
  congr 1
end Mn.R

set_option linter.all false
set_option Elab.async false
set_option maxRecDepth 100000
set_option maxHeartbeats 4000000
set_option exponentiation.threshold 5000
/-! values with something otherwise -/
namespace Mn.R
open PySem
theorem as_int (i : Int) : As (Str.ofString (toString i)) = true := by
  refine As_of fun c hc => ?_
  have h := fun hk => PyProof.Rows.int_text_free' c hk i (by simpa using hc)
  by_cases h1 : c = 45
  · omega
  · by_cases h2 : c < 48
    · exact (h ⟨h1, .inl h2⟩).elim
    · by_cases h3 : 57 < c
      · exact (h ⟨h1, .inr h3⟩).elim
      · omega
theorem as_rep (i : Int) : As (Str.ofString i.repr) = true := as_int i
theorem str_int {i : Int} {B : Nat} (hB : B ≤ BN) (h : i.natAbs ≤ B) : (Str.ofString (toString i)).length ≤ 70 := by
  have := int_ln hB h
  simpa only [PyData.shown] using this
@[simp] theorem o_eqBI {b : Bool} {j : Int} {Qb : Bool → Prop} : co .eq (.bool b) (.int j) Qb = Qb ((if b then 1 else 0) == j) := by
  simp [co, SeqAt.shaped, PyData.canLay0, PyData.depth, PyData.eqv]
@[simp] theorem o_addS {s t : Str} {Qw : W → Prop} : bo .add (.str s) (.str t) Qw = (s.length + t.length ≤ 1000000 ∧ Qw (.d (.str (s ++ t)))) := (rfl)
@[simp] theorem ty_bi {b : Bool} : tyOf (.bool b) .int = true := (rfl)
@[simp] theorem ty_bt {b : Bool} : tyOf (.bool b) .tuple = false := (rfl)
@[simp] theorem ty_bs {b : Bool} : tyOf (.bool b) .str = false := (rfl)
@[simp] theorem ty_is {i : Int} : tyOf (.int i) .str = false := (rfl)
@[simp] theorem ty_si {s : Str} : tyOf (.str s) .int = false := (rfl)
@[simp] theorem ty_st {s : Str} : tyOf (.str s) .tuple = false := (rfl)
@[simp] theorem ty_ss {s : Str} : tyOf (.str s) .str = true := (rfl)
@[simp] theorem ty_ti {s : List PD} : tyOf (.tuple s) .int = false := (rfl)
@[simp] theorem ty_ts {s : List PD} : tyOf (.tuple s) .str = false := (rfl)
@[simp] theorem ty_li {s : List PD} : tyOf (.list s) .int = false := (rfl)
@[simp] theorem ty_ls {s : List PD} : tyOf (.list s) .str = false := (rfl)
@[simp] theorem ty_lt {s : List PD} : tyOf (.list s) .tuple = false := (rfl)
@[simp] theorem ty_di {s : List (PD × PD)} : tyOf (.dict s) .int = false := (rfl)
@[simp] theorem ty_ds {s : List (PD × PD)} : tyOf (.dict s) .str = false := (rfl)
@[simp] theorem ty_dt {s : List (PD × PD)} : tyOf (.dict s) .tuple = false := (rfl)
@[simp] theorem ty_ni : tyOf .none .int = false := (rfl)
@[simp] theorem ty_ns : tyOf .none .str = false := (rfl)
@[simp] theorem ty_nt : tyOf .none .tuple = false := (rfl)
theorem cl {x : PD} (h : (Pv 2 x && decide (PyData.depth x ≤ 3) && decide (cst x ≤ 300)) = true) : Vl 2 3 300 x := by
  simp only [Bool.and_eq_true, decide_eq_true_eq] at h
  exact ⟨h.1.1, h.1.2, h.2⟩
theorem B0_2 : 2 ≤ B0 := by unfold B0; decide
/-- something otherwise in the place of a tuple -/
theorem odd_t {n d c : Nat} {xs : List PD} (hx : VlA B0 d c xs) (hd : 2 ≤ d) (hl : xs.length ≤ 1000) {cs : List Int} {m d0 : Int} {Q : W → List W → Prop} (hc : cs.length ≤ 63)
    (h : ∀ (y : PD) (cs : List Int) (m d0 : Int), cs.length ≤ 63 → Vl B0 (d + 2) (2 * c + 500) y → Q (.d y) [dk cs m d0]) : callN TB (n + 3) i__law_odd [dk cs m d0, .d (.tuple xs)] Q := by
  have h2 := B0_2
  have hcut : ∀ lo hi, (cut xs lo hi).length ≤ 1000 := fun lo hi => Nat.le_trans (cut_len xs lo hi) hl
  have hv : ∀ lo hi, VlA B0 d c (cut xs lo hi) := fun lo hi => hx.cut lo hi
  have C : ∀ {x : PD}, (Pv 2 x && decide (PyData.depth x ≤ 3) && decide (cst x ≤ 300)) = true → Vl B0 (d + 2) (2 * c + 500) x := fun q => (cl q).mono h2 (by omega) (by omega)
  have T : ∀ {ys : List PD} {c' : Nat}, VlA B0 d c' ys → c' ≤ 2 * c + 400 → Vl B0 (d + 2) (2 * c + 500) (.tuple ys) := fun q hq => q.tup.mono (Nat.le_refl _) (by omega) (by omega)
  have v0 : VlA B0 d 72 [.int 0] := (VlA.one (Vl.int (by omega) (Nat.le_refl _))).mono (Nat.le_refl _) (Nat.le_refl _) (by omega)
  have e1 := (hx.lst).mono (Nat.le_refl _) (show d + 1 ≤ d + 2 by omega) (show c + 3 ≤ 2 * c + 500 by omega)
  have e2 := T (hx.app v0) (by omega)
  have e3 : ∀ lo hi, Vl B0 (d + 2) (2 * c + 500) (.tuple (cut xs lo hi)) := fun lo hi => T (hv lo hi) (by omega)
  have e4 := T hx.rev (by omega)
  have e5 : ∀ lo hi, Vl B0 (d + 2) (2 * c + 500) (.tuple (xs ++ cut xs lo hi)) := fun lo hi => T (hx.app (hv lo hi)) (by omega)
  have e6 : Vl B0 (d + 2) (2 * c + 500) (.tuple [.tuple xs]) := (VlA.one hx.tup).tup.mono (Nat.le_refl _) (by omega) (by omega)
  have e7 : ∀ lo hi, Vl B0 (d + 2) (2 * c + 500) (.tuple (cut xs lo hi ++ xs)) := fun lo hi => T ((hv lo hi).app hx) (by omega)
  have l1 := hcut none (some 1)
  rw [in__law_odd, b__law_odd]
  simp
  refine ⟨by omega, by omega, by omega, ?_⟩
  refine sp_pck hc (by simp) (by simp) fun y cs m d0 hc hy => ?_
  simp
  refine h _ _ _ _ hc ?_
  have e8 : Vl B0 (d + 2) (2 * c + 500) (.tuple xs.tail) := by rw [← List.drop_one]; exact T (hx.drop 1) (by omega)
  have e9 := e3 none (some (-1))
  have e10 : Vl B0 (d + 2) (2 * c + 500) (.tuple (xs ++ xs.take 1)) := T (hx.app (hx.take 1)) (by omega)
  have e11 : Vl B0 (d + 2) (2 * c + 500) (.tuple (xs.take 1 ++ xs)) := T ((hx.take 1).app hx) (by omega)
  clear e3 e5 e7
  simp only [List.mem_cons, List.not_mem_nil, or_false] at hy
  repeat' (obtain rfl | hy := hy)
  all_goals first | assumption | exact C (by decide +kernel)
/-- something otherwise in the place of an integer -/
theorem odd_i {n : Nat} {i : Int} (hi : i.natAbs ≤ 100) {cs : List Int} {m d0 : Int} {Q : W → List W → Prop} (hc : cs.length ≤ 63)
    (h : ∀ (y : PD) (cs : List Int) (m d0 : Int), cs.length ≤ 63 → Vl B0 3 800 y → Q (.d y) [dk cs m d0]) : callN TB (n + 3) i__law_odd [dk cs m d0, .d (.int i)] Q := by
  have h2 := B0_2
  have hB : 1000 ≤ B0 := by unfold B0; decide
  have C : ∀ {x : PD}, (Pv 2 x && decide (PyData.depth x ≤ 3) && decide (cst x ≤ 300)) = true → Vl B0 3 800 x := fun q => (cl q).mono h2 (by omega) (by omega)
  have I : ∀ {j : Int}, j.natAbs ≤ 1000 → Vl B0 3 800 (.int j) := fun q => Vl.int (by omega) (by omega)
  have v1 : VlA B0 0 72 [.int i] := VlA.one (Vl.int (by omega) (Nat.le_refl _))
  have e1 : Vl B0 3 800 (.list [.int i]) := v1.lst.mono (Nat.le_refl _) (by omega) (by omega)
  have e2 : Vl B0 3 800 (.tuple [.int i]) := v1.tup.mono (Nat.le_refl _) (by omega) (by omega)
  have sl : (Str.ofString i.repr).length ≤ 70 := str_int (B := 100) (by unfold BN; decide) hi
  have e3 : Vl B0 3 800 (.str (Str.ofString i.repr)) := Vl.str (as_rep i) (by omega)
  have l2 := int_l2 (B := 100) (by unfold BN; decide) hi
  have c5 : (i.natAbs : Int) < 100000 := by omega
  rw [in__law_odd, b__law_odd]
  simp [c5, l2]
  refine sp_pck hc (by simp) (by simp) fun y cs m d0 hc hy => ?_
  simp
  refine h _ _ _ _ hc ?_
  simp only [List.mem_cons, List.not_mem_nil, or_false] at hy
  repeat' (obtain rfl | hy := hy)
  all_goals first | assumption | exact I (by omega) | exact Vl.bool (by omega) | exact C (by decide +kernel)
/-- an integer bent -/
theorem bent_i {n : Nat} {i : Int} (hi : i.natAbs ≤ 100) {cs : List Int} {m d0 : Int} {Q : W → List W → Prop} (hc : cs.length ≤ 63)
    (h : ∀ (y : PD) (cs : List Int) (m d0 : Int), cs.length ≤ 63 → Vl B0 3 800 y → Q (.d y) [dk cs m d0]) : callN TB (n + 4) i__law_bent [dk cs m d0, .d (.int i)] Q := by
  rw [in__law_bent, b__law_bent]
  simp
  refine odd_i hi hc fun y cs m d0 hc hy => ?_
  simp
  exact h _ _ _ _ hc hy
/-- a tuple bent whose members can be bent -/
theorem bent_t {n d c d' c' : Nat} {xs : List PD} (hx : VlA B0 d c xs) (hd : 2 ≤ d) (hne : xs ≠ []) (hl : xs.length ≤ 1000) (hd' : d + 2 ≤ d') (hc' : 2 * c + 500 ≤ c') {cs : List Int} {m d0 : Int} {Q : W → List W → Prop} (hc : cs.length ≤ 63)
    (hrec : ∀ e ∈ xs, ∀ (cs : List Int) (m d0 : Int) (Q : W → List W → Prop), cs.length ≤ 63 → (∀ (z : PD) (cs : List Int) (m d0 : Int), cs.length ≤ 63 → Vl B0 d' c' z → Q (.d z) [dk cs m d0]) → callN TB (n + 4) i__law_bent [dk cs m d0, .d e] Q)
    (h : ∀ (y : PD) (cs : List Int) (m d0 : Int), cs.length ≤ 63 → Vl B0 (d' + 1) (2 * c + c' + 10) y → Q (.d y) [dk cs m d0]) : callN TB (n + 5) i__law_bent [dk cs m d0, .d (.tuple xs)] Q := by
  have hcut : ∀ lo hi, (cut xs lo hi).length ≤ 1000 := fun lo hi => Nat.le_trans (cut_len xs lo hi) hl
  have hv : ∀ lo hi, VlA B0 d' c (cut xs lo hi) := fun lo hi => (hx.cut lo hi).mono (Nat.le_refl _) (by omega) (Nat.le_refl _)
  have hp : 0 < xs.length := List.length_pos_iff.mpr hne
  have hie : xs.isEmpty = false := by cases xs with
    | nil => exact absurd rfl hne
    | cons _ _ => rfl
  rw [in__law_bent, b__law_bent]
  simp [hie]
  refine sp_drw hc (by omega) (by omega) fun r cs m d0 hc h0 h1 => ?_
  by_cases c0 : r = 0
  · simp [c0]
    refine odd_t (n := n + 1) hx hd hl hc fun y cs m d0 hc hy => ?_
    simp
    exact h _ _ _ _ hc (hy.mono (Nat.le_refl _) (by omega) (by omega))
  · simp [c0]
    refine ⟨by omega, ?_⟩
    refine sp_drw hc (by omega) (by omega) fun a cs m d0 hc ha0 ha1 => ?_
    obtain ⟨j, rfl⟩ : ∃ j : Nat, a = j := ⟨a.toNat, by omega⟩
    have hj : j < xs.length := by omega
    have htk : VlA B0 d' c (xs.take j) := (hx.take j).mono (Nat.le_refl _) (by omega) (Nat.le_refl _)
    have htl : (xs.take j).length ≤ 1000 := by rw [List.length_take]; omega
    have hget : xs[j]? = some (xs[j]) := List.getElem?_eq_getElem hj
    have hmem := List.getElem_mem hj
    generalize xs[j] = e at hget hmem
    simp [hget]
    refine hrec e hmem _ _ _ _ hc fun z cs m d0 hc hz => ?_
    have l2 := hcut (some ((j : Int) + 1)) none
    have l1 := hcut none (some (j : Int))
    simp
    refine ⟨by omega, by omega, ?_⟩
    have q := (htk.app ((VlA.one hz).app (hv (some ((j : Int) + 1)) none))).tup
    exact h _ _ _ _ hc (q.mono (Nat.le_refl _) (by omega) (by omega))
end Mn.R

set_option linter.all false
set_option Elab.async false
set_option maxRecDepth 100000
set_option maxHeartbeats 4000000
set_option exponentiation.threshold 5000
/-! any values looked at: integers, steps, squares, tables -/
namespace Mn.R
open PySem
def isI : PD → Bool
  | .int _ => true
  | _ => false
def isStp (n : Int) : PD → Bool
  | .tuple xs => decide ((xs.length : Int) = n) && xs.all isI
  | _ => false
def isSqr (n : Int) : PD → Bool
  | .tuple xs => decide ((xs.length : Int) = n) && xs.all (isStp n)
  | _ => false
def isSq : PD → Bool
  | .tuple xs => decide (1 ≤ (xs.length : Int)) && decide ((xs.length : Int) ≤ 3) && xs.all (isStp xs.length)
  | _ => false
theorem acc_mapL {own : List Nat} {step : PD → Env → List W → (List W → Env → Prop) → Prop} {e : Env} {Q : List W → Env → Prop} (g : PD → W) {l : List PD} (hl : l.length ≤ 1000000)
    (hs : ∀ x ∈ l, ∀ (acc : List W) (k : List W → Env → Prop), acc.length < lim → (∀ e', wipes e' own = e → k (acc ++ [g x]) e') → step x e acc k) (h : Q (l.map g) e) : accW own step l e [] Q := by
  have q := acc_mapT (own := own) (step := step) (e := e) (Q := Q) (fun x : PD => x) g (l := l) (acc := []) (by simpa using hl) hs (by simpa using h)
  simpa using q
theorem acc_filL {own : List Nat} {step : PD → Env → List W → (List W → Env → Prop) → Prop} {e : Env} {Q : List W → Env → Prop} (p : PD → Bool) (g : PD → W) : ∀ {l : List PD} {acc : List W}, acc.length + l.length ≤ 1000000 →
    (∀ x ∈ l, ∀ (acc : List W) (k : List W → Env → Prop), acc.length < 1000000 → (∀ e', wipes e' own = e → k (if p x = true then acc ++ [g x] else acc) e') → step x e acc k) → Q (acc ++ (l.filter p).map g) e → accW own step l e acc Q
  | [], acc, _, _, hq => by
    simp only [List.filter_nil, List.map_nil, List.append_nil] at hq
    exact hq
  | x :: l, acc, hl, hs, hq => by
    rw [List.length_cons] at hl
    refine hs x List.mem_cons_self acc _ (by omega) fun e' he => ?_
    rw [he]
    refine acc_filL p g (l := l) ?_ (fun y hy => hs y (List.mem_cons_of_mem _ hy)) ?_
    · split
      · rw [List.length_append, List.length_singleton]; omega
      · omega
    · by_cases q : p x = true
      · rw [List.filter_cons_of_pos q, List.map_cons] at hq
        rw [if_pos q, List.append_assoc]
        exact hq
      · rw [List.filter_cons_of_neg q] at hq
        rw [if_neg q]
        exact hq
theorem allD_mf {α : Type} {g : α → PD} {l : List α} : allD (l.map fun x => W.d (g x)) = some (l.map g) := by
  rw [← allD_map (l.map g), List.map_map]
  rfl
theorem boolL_mf {α : Type} {g : α → Bool} {l : List α} : boolL (l.map fun x => PyData.bool (g x)) = some (l.map g) := by
  rw [← boolL_map (l.map g), List.map_map]
  rfl
theorem fil_all {α : Type} {p : α → Bool} {l : List α} : (l.filter fun y => !p y).isEmpty = l.all p := by
  rw [Bool.eq_iff_iff, List.isEmpty_iff, List.filter_eq_nil_iff, List.all_eq_true]
  simp
@[simp] theorem kAnd2_nil {C : Ctx} {e : Env} {Q : W → Env → Prop} {b : Bool} : kAnd2 C .nil e Q b = Q (.d (.bool b)) e := by
  cases b <;> simp
@[simp] theorem kOr2_nil {C : Ctx} {e : Env} {Q : W → Env → Prop} {b : Bool} : kOr2 C .nil e Q b = Q (.d (.bool b)) e := by
  cases b <;> simp
section
variable {n : Nat} {Q : W → List W → Prop}
theorem p_int {x : PD} : callN TB (n + 1) i_is_integer [.d x] Q = Q (.d (.bool (isI x))) [] := by
  rw [in_is_integer, b_is_integer]
  cases x <;> simp [isI, tyOf]
theorem p_step {B d c : Nat} {x : PD} (hx : Vl B d c x) (hc : c ≤ 1000000) {k : Int} (h : Q (.d (.bool (isStp k x))) []) : callN TB (n + 2) i_is_step_value [.d (.int k), .d x] Q := by
  rw [in_is_step_value, b_is_step_value]
  cases x with
  | tuple xs =>
    obtain ⟨_, hxs⟩ := hx.items
    have hl := hxs.len
    by_cases e : (xs.length : Int) = k
    · simp [e]
      refine ⟨by omega, ?_⟩
      refine acc_mapL (fun y => .d (.bool (isI y))) (by omega) (fun y hy acc kk ha hk => ?_) ?_
      · simp [p_int]
        exact ⟨ha, hk _ rfl⟩
      · simp [allD_mf, boolL_mf]
        simpa [isStp, e, List.all_map, Function.comp_def] using h
    · simp [e]
      refine ⟨by omega, ?_⟩
      simpa [isStp, e] using h
  | _ => simpa [isStp] using h
theorem p_square {B d c : Nat} {x : PD} (hx : Vl B d c x) (hc : c ≤ 1000000) (h : Q (.d (.bool (isSq x))) []) : callN TB (n + 3) i_is_square [.d x] Q := by
  rw [in_is_square, b_is_square]
  cases x with
  | tuple xs =>
    obtain ⟨_, hxs⟩ := hx.items
    have hl := hxs.len
    by_cases e : 1 ≤ (xs.length : Int)
    · by_cases e2 : (xs.length : Int) ≤ 3
      · simp [e, e2]
        refine ⟨by omega, ?_⟩
        refine acc_mapL (fun y => .d (.bool (isStp xs.length y))) (by omega) (fun y hy acc kk ha hk => ?_) ?_
        · simp
          refine ⟨by omega, ?_⟩
          refine p_step (hxs.mem y hy) hc ?_
          simp
          exact ⟨ha, hk _ rfl⟩
        · simp [allD_mf, boolL_mf]
          simpa [isSq, e, e2, List.all_map, Function.comp_def] using h
      · simp [e, e2]
        refine ⟨by omega, ?_⟩
        simpa [isSq, e, e2] using h
    · simp [e]
      refine ⟨by omega, ?_⟩
      simpa [isSq, e] using h
  | _ => simpa [isSq] using h
theorem q_int {x : PD} : callN TB (n + 1) i__law_is_integer [.d x] Q = Q (.d (.bool (isI x))) [] := by
  rw [in__law_is_integer, b__law_is_integer]
  cases x <;> simp [isI, tyOf]
theorem q_row {B d c : Nat} {x : PD} (hx : Vl B d c x) (hc : c ≤ 1000000) {k : Int} (h : Q (.d (.bool (isStp k x))) []) : callN TB (n + 2) i__law_is_row [.d (.int k), .d x] Q := by
  rw [in__law_is_row, b__law_is_row]
  cases x with
  | tuple xs =>
    obtain ⟨_, hxs⟩ := hx.items
    have hl := hxs.len
    by_cases e : (xs.length : Int) = k
    · simp [e]
      refine ⟨by omega, ?_⟩
      refine acc_filL (fun y => !isI y) (fun y => .d y) (by simp only [List.length_nil]; omega) (fun y hy acc kk ha hk => ?_) ?_
      · have hk' := hk
        cases hb : isI y
        · simp only [hb, Bool.not_false, if_true] at hk'
          simp [q_int, hb]
          exact ⟨ha, hk' _ rfl⟩
        · simp only [hb, Bool.not_true, Bool.false_eq_true, if_false] at hk'
          simp [q_int, hb]
          exact hk' _ rfl
      · have e3 : (xs.filter fun y => !isI y).isEmpty = xs.all isI := fil_all
        simp
        rw [e3]
        simpa [isStp, e] using h
    · simp [e]
      refine ⟨by omega, ?_⟩
      simpa [isStp, e] using h
  | _ => simpa [isStp] using h
end
/-- the shapes of squares -/
theorem ints1 {xs : List PD} (h : xs.all isI = true) (hl : xs.length = 1) : ∃ a, xs = [.int a] := by
  match xs, hl with
  | [x], _ =>
    simp at h
    cases x <;> simp [isI] at h
    exact ⟨_, rfl⟩
theorem ints2 {xs : List PD} (h : xs.all isI = true) (hl : xs.length = 2) : ∃ a b, xs = [.int a, .int b] := by
  match xs, hl with
  | [x, y], _ =>
    simp at h
    cases x <;> cases y <;> simp [isI] at h
    exact ⟨_, _, rfl⟩
theorem ints3 {xs : List PD} (h : xs.all isI = true) (hl : xs.length = 3) : ∃ a b c, xs = [.int a, .int b, .int c] := by
  match xs, hl with
  | [x, y, z], _ =>
    simp at h
    cases x <;> cases y <;> cases z <;> simp [isI] at h
    exact ⟨_, _, _, rfl⟩
theorem stp1 {x : PD} (h : isStp 1 x = true) : ∃ a, x = t1 a := by
  cases x with
  | tuple xs =>
    simp only [isStp, Bool.and_eq_true, decide_eq_true_eq] at h
    obtain ⟨a, rfl⟩ := ints1 h.2 (by omega)
    exact ⟨a, rfl⟩
  | _ => simp [isStp] at h
theorem stp2 {x : PD} (h : isStp 2 x = true) : ∃ a b, x = t2 a b := by
  cases x with
  | tuple xs =>
    simp only [isStp, Bool.and_eq_true, decide_eq_true_eq] at h
    obtain ⟨a, b, rfl⟩ := ints2 h.2 (by omega)
    exact ⟨a, b, rfl⟩
  | _ => simp [isStp] at h
theorem stp3 {x : PD} (h : isStp 3 x = true) : ∃ a b c, x = t3 a b c := by
  cases x with
  | tuple xs =>
    simp only [isStp, Bool.and_eq_true, decide_eq_true_eq] at h
    obtain ⟨a, b, c, rfl⟩ := ints3 h.2 (by omega)
    exact ⟨a, b, c, rfl⟩
  | _ => simp [isStp] at h
theorem sqr1 {x : PD} (h : isSqr 1 x = true) : ∃ a, x = .tuple [t1 a] := by
  cases x with
  | tuple xs =>
    simp only [isSqr, Bool.and_eq_true, decide_eq_true_eq] at h
    obtain ⟨h1, h2⟩ := h
    match xs, h1 with
    | [u], _ =>
      simp at h2
      obtain ⟨a, rfl⟩ := stp1 h2
      exact ⟨a, rfl⟩
  | _ => simp [isSqr] at h
theorem sqr2 {x : PD} (h : isSqr 2 x = true) : ∃ a b c d, x = M2 a b c d := by
  cases x with
  | tuple xs =>
    simp only [isSqr, Bool.and_eq_true, decide_eq_true_eq] at h
    obtain ⟨h1, h2⟩ := h
    match xs, h1 with
    | [u, v], _ =>
      simp at h2
      obtain ⟨a, b, rfl⟩ := stp2 h2.1
      obtain ⟨c, d, rfl⟩ := stp2 h2.2
      exact ⟨a, b, c, d, rfl⟩
  | _ => simp [isSqr] at h
theorem sqr3 {x : PD} (h : isSqr 3 x = true) : ∃ a b c d e f g h i, x = M3 a b c d e f g h i := by
  cases x with
  | tuple xs =>
    simp only [isSqr, Bool.and_eq_true, decide_eq_true_eq] at h
    obtain ⟨h1, h2⟩ := h
    match xs, h1 with
    | [u, v, w], _ =>
      simp at h2
      obtain ⟨a, b, c, rfl⟩ := stp3 h2.1
      obtain ⟨d, e, f, rfl⟩ := stp3 h2.2.1
      obtain ⟨g, h, i, rfl⟩ := stp3 h2.2.2
      exact ⟨a, b, c, d, e, f, g, h, i, rfl⟩
  | _ => simp [isSqr] at h
theorem isSq_eq (xs : List PD) : isSq (.tuple xs) = (decide (1 ≤ (xs.length : Int)) && decide ((xs.length : Int) ≤ 3) && isSqr xs.length (.tuple xs)) := by
  simp [isSq, isSqr]
theorem sq_shape {x : PD} (h : isSq x = true) : (∃ a, x = .tuple [t1 a]) ∨ (∃ a b c d, x = M2 a b c d) ∨ ∃ a b c d e f g h i, x = M3 a b c d e f g h i := by
  cases x with
  | tuple xs =>
    rw [isSq_eq] at h
    simp only [Bool.and_eq_true, decide_eq_true_eq] at h
    obtain ⟨⟨h1, h2⟩, h3⟩ := h
    have : (xs.length : Int) = 1 ∨ (xs.length : Int) = 2 ∨ (xs.length : Int) = 3 := by omega
    rcases this with e | e | e <;> rw [e] at h3
    · exact .inl (sqr1 h3)
    · exact .inr (.inl (sqr2 h3))
    · exact .inr (.inr (sqr3 h3))
  | _ => simp [isSq] at h
end Mn.R

set_option linter.all false
set_option Elab.async false
set_option maxRecDepth 100000
set_option maxHeartbeats 16000000
set_option exponentiation.threshold 5000
namespace Mn.R
open PySem
abbrev tI (v : List Int) : PD := .tuple (v.map .int)
abbrev tII (m : List (List Int)) : PD := .tuple (m.map tI)
def ldv : List (List Int) → List Int → List Int
  | [[s]], [k] => [k * s]
  | [[p, q], [r, s]], [k, l] => [k * p + l * r, k * q + l * s]
  | [[p, q, r], [s, t, u], [v, w, x]], [k, l, m] => [k * p + l * s + m * v, k * q + l * t + m * w, k * r + l * u + m * x]
  | _, _ => []
def dtm : List (List Int) → Int
  | [[s]] => s
  | [[p, q], [r, s]] => p * s - q * r
  | [[p, q, r], [s, t, u], [v, w, x]] => p * (t * x - u * w) - q * (s * x - u * v) + r * (s * w - t * v)
  | _ => 0
def un : Nat → List (List Int)
  | 1 => [[1]]
  | 2 => [[1, 0], [0, 1]]
  | 3 => [[1, 0, 0], [0, 1, 0], [0, 0, 1]]
  | _ => []
inductive Sq : Nat → List (List Int) → Prop
  | q1 {s : Int} : Sq 1 [[s]]
  | q2 {p q r s : Int} : Sq 2 [[p, q], [r, s]]
  | q3 {p q r s t u v w x : Int} : Sq 3 [[p, q, r], [s, t, u], [v, w, x]]
structure Mz (K : Int) (N : Nat) (m : List (List Int)) : Prop where
  sq : Sq N m
  bd : ∀ r ∈ m, ∀ z ∈ r, -K ≤ z ∧ z ≤ K
section
variable {n : Nat} {a b c d e f g h i p q r s t u v w x k l m : Int} {Q : W → List W → Prop}
theorem pm1_00 : callN TB (n + 1) i_minor [.d (.tuple [t1 a]), .d (.int 0), .d (.int 0)] Q = Q (.ol []) [] := by simp [in_minor, b_minor]
theorem pm2_00 : callN TB (n + 1) i_minor [.d (.tuple [t2 a b, t2 c d]), .d (.int 0), .d (.int 0)] Q = Q (.ol [.d (t1 d)]) [] := by simp [in_minor, b_minor]
theorem pm2_01 : callN TB (n + 1) i_minor [.d (.tuple [t2 a b, t2 c d]), .d (.int 0), .d (.int 1)] Q = Q (.ol [.d (t1 c)]) [] := by simp [in_minor, b_minor]
theorem pm2_10 : callN TB (n + 1) i_minor [.d (.tuple [t2 a b, t2 c d]), .d (.int 1), .d (.int 0)] Q = Q (.ol [.d (t1 b)]) [] := by simp [in_minor, b_minor]
theorem pm2_11 : callN TB (n + 1) i_minor [.d (.tuple [t2 a b, t2 c d]), .d (.int 1), .d (.int 1)] Q = Q (.ol [.d (t1 a)]) [] := by simp [in_minor, b_minor]
theorem pm3_00 : callN TB (n + 1) i_minor [.d (.tuple [t3 a b c, t3 d e f, t3 g h i]), .d (.int 0), .d (.int 0)] Q = Q (.ol [.d (t2 e f), .d (t2 h i)]) [] := by simp [in_minor, b_minor]
theorem pm3_01 : callN TB (n + 1) i_minor [.d (.tuple [t3 a b c, t3 d e f, t3 g h i]), .d (.int 0), .d (.int 1)] Q = Q (.ol [.d (t2 d f), .d (t2 g i)]) [] := by simp [in_minor, b_minor]
theorem pm3_02 : callN TB (n + 1) i_minor [.d (.tuple [t3 a b c, t3 d e f, t3 g h i]), .d (.int 0), .d (.int 2)] Q = Q (.ol [.d (t2 d e), .d (t2 g h)]) [] := by simp [in_minor, b_minor]
theorem pm3_10 : callN TB (n + 1) i_minor [.d (.tuple [t3 a b c, t3 d e f, t3 g h i]), .d (.int 1), .d (.int 0)] Q = Q (.ol [.d (t2 b c), .d (t2 h i)]) [] := by simp [in_minor, b_minor]
theorem pm3_11 : callN TB (n + 1) i_minor [.d (.tuple [t3 a b c, t3 d e f, t3 g h i]), .d (.int 1), .d (.int 1)] Q = Q (.ol [.d (t2 a c), .d (t2 g i)]) [] := by simp [in_minor, b_minor]
theorem pm3_12 : callN TB (n + 1) i_minor [.d (.tuple [t3 a b c, t3 d e f, t3 g h i]), .d (.int 1), .d (.int 2)] Q = Q (.ol [.d (t2 a b), .d (t2 g h)]) [] := by simp [in_minor, b_minor]
theorem pm3_20 : callN TB (n + 1) i_minor [.d (.tuple [t3 a b c, t3 d e f, t3 g h i]), .d (.int 2), .d (.int 0)] Q = Q (.ol [.d (t2 b c), .d (t2 e f)]) [] := by simp [in_minor, b_minor]
theorem pm3_21 : callN TB (n + 1) i_minor [.d (.tuple [t3 a b c, t3 d e f, t3 g h i]), .d (.int 2), .d (.int 1)] Q = Q (.ol [.d (t2 a c), .d (t2 d f)]) [] := by simp [in_minor, b_minor]
theorem pm3_22 : callN TB (n + 1) i_minor [.d (.tuple [t3 a b c, t3 d e f, t3 g h i]), .d (.int 2), .d (.int 2)] Q = Q (.ol [.d (t2 a b), .d (t2 d e)]) [] := by simp [in_minor, b_minor]
theorem dT1 : callN TB (n + 2) i_determinant [.d (.tuple [t1 a])] Q = Q (.d (.int a)) [] := by
  rw [in_determinant, b_determinant]; simp [pm1_00, pd0]
theorem dT2 (sa : Sm a) (sb : Sm b) : callN TB (n + 3) i_determinant [.d (.tuple [t2 a b, t2 c d])] Q = Q (.d (.int (a * d - b * c))) [] := by
  rw [in_determinant, b_determinant]; simp [pm2_00, pm2_01, pd1, sa, sb]
  try (refine cong ?_; grind)
theorem dT3 (sa : Sm a) (sb : Sm b) (sc : Sm c) (sd : Sm d) (se : Sm e) (sf : Sm f) : callN TB (n + 4) i_determinant [.d (.tuple [t3 a b c, t3 d e f, t3 g h i])] Q = Q (.d (.int (a * (e * i - f * h) - b * (d * i - f * g) + c * (d * h - e * g)))) [] := by
  rw [in_determinant, b_determinant]; simp [pm3_00, pm3_01, pm3_02, pd2, sa, sb, sc, sd, se, sf]
  try (refine cong ?_; grind)
theorem cv1 (ss : Sm s) (hD : s ≠ 0) : callN TB (n + 6) i_is_coarse_value [.d (.int 1), .d (T1 s)] Q = Q (.d (.bool true)) [] := by
  rw [in_is_coarse_value, b_is_coarse_value]
  simp [in_is_square, b_is_square, in_is_step_value, b_is_step_value, p_int, isI, dT1, hD]
theorem ll_1 (sk : Sm k) : callN TB (n + 2) i__law_led [.d (T1 s), .d (t1 k)] Q = Q (.d (t1 (k * s))) [] := by
  simp [in__law_led, b__law_led, in__law_plus, b__law_plus, sk]
theorem cv2 (sp : Sm p) (sq : Sm q) (sr : Sm r) (ss : Sm s) (hD : (p * s - q * r) ≠ 0) : callN TB (n + 6) i_is_coarse_value [.d (.int 2), .d (M2 p q r s)] Q = Q (.d (.bool true)) [] := by
  rw [in_is_coarse_value, b_is_coarse_value]
  simp [in_is_square, b_is_square, in_is_step_value, b_is_step_value, p_int, isI, dT2 sp sq, hD]
theorem ll_2 (sk : Sm k) (sl : Sm l) : callN TB (n + 2) i__law_led [.d (M2 p q r s), .d (t2 k l)] Q = Q (.d (t2 (k * p + l * r) (k * q + l * s))) [] := by
  simp [in__law_led, b__law_led, in__law_plus, b__law_plus, sk, sl]
theorem cv3 (sp : Sm p) (sq : Sm q) (sr : Sm r) (ss : Sm s) (st : Sm t) (su : Sm u) (sv : Sm v) (sw : Sm w) (sx : Sm x) (hD : (p * (t * x - u * w) - q * (s * x - u * v) + r * (s * w - t * v)) ≠ 0) : callN TB (n + 6) i_is_coarse_value [.d (.int 3), .d (M3 p q r s t u v w x)] Q = Q (.d (.bool true)) [] := by
  rw [in_is_coarse_value, b_is_coarse_value]
  simp [in_is_square, b_is_square, in_is_step_value, b_is_step_value, p_int, isI, dT3 sp sq sr ss st su, hD]
theorem ll_3 (sk : Sm k) (sl : Sm l) (sm : Sm m) : callN TB (n + 2) i__law_led [.d (M3 p q r s t u v w x), .d (t3 k l m)] Q = Q (.d (t3 (k * p + l * s + m * v) (k * q + l * t + m * w) (k * r + l * u + m * x))) [] := by
  simp [in__law_led, b__law_led, in__law_plus, b__law_plus, sk, sl, sm]
  try simp only [Int.add_assoc]
end
theorem len1 {v : List Int} (h : v.length = 1) : ∃ x, v = [x] := by
  match v, h with
  | [x], _ => exact ⟨x, rfl⟩
theorem len2 {v : List Int} (h : v.length = 2) : ∃ x y, v = [x, y] := by
  match v, h with
  | [x, y], _ => exact ⟨x, y, rfl⟩
theorem len3 {v : List Int} (h : v.length = 3) : ∃ x y z, v = [x, y, z] := by
  match v, h with
  | [x, y, z], _ => exact ⟨x, y, z, rfl⟩
theorem dt_mul {N : Nat} {a b : List (List Int)} (ha : Sq N a) (hb : Sq N b) : Sq N (b.map (ldv a)) ∧ dtm (b.map (ldv a)) = dtm b * dtm a := by
  cases ha with
  | q1 =>
    cases hb
    exact ⟨.q1, by simp [dtm, ldv]⟩
  | q2 =>
    cases hb
    refine ⟨.q2, ?_⟩
    simp only [List.map_cons, List.map_nil, ldv, dtm]
    grind
  | q3 =>
    cases hb
    refine ⟨.q3, ?_⟩
    simp only [List.map_cons, List.map_nil, ldv, dtm]
    grind
section
variable {n : Nat} {Q : W → List W → Prop} {N : Nat} {m : List (List Int)} {K : Int}
theorem Mz.cz (C : Mz K N m) (hK : K ≤ 2000) (hd : dtm m ≠ 0) : callN TB (n + 6) i_is_coarse_value [.d (.int (N : Int)), .d (tII m)] Q = Q (.d (.bool true)) [] := by
  obtain ⟨hs, hb⟩ := C
  cases hs with
  | @q1 s =>
    simp only [List.mem_cons, List.not_mem_nil, or_false, forall_eq_or_imp, forall_eq] at hb
    have ss : Sm s := by unfold Sm; omega
    exact cv1 ss hd
  | @q2 p q r s =>
    simp only [List.mem_cons, List.not_mem_nil, or_false, forall_eq_or_imp, forall_eq] at hb
    have sp : Sm p := by unfold Sm; omega
    have sq : Sm q := by unfold Sm; omega
    have sr : Sm r := by unfold Sm; omega
    have ss : Sm s := by unfold Sm; omega
    exact cv2 sp sq sr ss hd
  | @q3 p q r s t u v w x =>
    simp only [List.mem_cons, List.not_mem_nil, or_false, forall_eq_or_imp, forall_eq] at hb
    have sp : Sm p := by unfold Sm; omega
    have sq : Sm q := by unfold Sm; omega
    have sr : Sm r := by unfold Sm; omega
    have ss : Sm s := by unfold Sm; omega
    have st : Sm t := by unfold Sm; omega
    have su : Sm u := by unfold Sm; omega
    have sv : Sm v := by unfold Sm; omega
    have sw : Sm w := by unfold Sm; omega
    have sx : Sm x := by unfold Sm; omega
    exact cv3 sp sq sr ss st su sv sw sx hd
theorem Mz.det (C : Mz K N m) (hK : K ≤ 2000) : callN TB (n + 4) i_determinant [.d (tII m)] Q = Q (.d (.int (dtm m))) [] := by
  obtain ⟨hs, hb⟩ := C
  cases hs with
  | @q1 s =>
    simp only [List.mem_cons, List.not_mem_nil, or_false, forall_eq_or_imp, forall_eq] at hb
    have ss : Sm s := by unfold Sm; omega
    exact dT1
  | @q2 p q r s =>
    simp only [List.mem_cons, List.not_mem_nil, or_false, forall_eq_or_imp, forall_eq] at hb
    have sp : Sm p := by unfold Sm; omega
    have sq : Sm q := by unfold Sm; omega
    have sr : Sm r := by unfold Sm; omega
    have ss : Sm s := by unfold Sm; omega
    exact dT2 sp sq
  | @q3 p q r s t u v w x =>
    simp only [List.mem_cons, List.not_mem_nil, or_false, forall_eq_or_imp, forall_eq] at hb
    have sp : Sm p := by unfold Sm; omega
    have sq : Sm q := by unfold Sm; omega
    have sr : Sm r := by unfold Sm; omega
    have ss : Sm s := by unfold Sm; omega
    have st : Sm t := by unfold Sm; omega
    have su : Sm u := by unfold Sm; omega
    have sv : Sm v := by unfold Sm; omega
    have sw : Sm w := by unfold Sm; omega
    have sx : Sm x := by unfold Sm; omega
    exact dT3 sp sq sr ss st su
theorem Mz.ldet (C : Mz K N m) (hK : K ≤ 2000) : callN TB (n + 1) i__law_det [.d (tII m)] Q = Q (.d (.int (dtm m))) [] := by
  obtain ⟨hs, hb⟩ := C
  cases hs with
  | @q1 s =>
    simp only [List.mem_cons, List.not_mem_nil, or_false, forall_eq_or_imp, forall_eq] at hb
    have ss : Sm s := by unfold Sm; omega
    exact ld1
  | @q2 p q r s =>
    simp only [List.mem_cons, List.not_mem_nil, or_false, forall_eq_or_imp, forall_eq] at hb
    have sp : Sm p := by unfold Sm; omega
    have sq : Sm q := by unfold Sm; omega
    have sr : Sm r := by unfold Sm; omega
    have ss : Sm s := by unfold Sm; omega
    exact ld2 sp sq
  | @q3 p q r s t u v w x =>
    simp only [List.mem_cons, List.not_mem_nil, or_false, forall_eq_or_imp, forall_eq] at hb
    have sp : Sm p := by unfold Sm; omega
    have sq : Sm q := by unfold Sm; omega
    have sr : Sm r := by unfold Sm; omega
    have ss : Sm s := by unfold Sm; omega
    have st : Sm t := by unfold Sm; omega
    have su : Sm u := by unfold Sm; omega
    have sv : Sm v := by unfold Sm; omega
    have sw : Sm w := by unfold Sm; omega
    have sx : Sm x := by unfold Sm; omega
    exact ld3 sp sq sr ss st su
theorem Mz.lled (C : Mz K N m) (hK : K ≤ 2000) {v : List Int} (hv : v.length = N) (hw : ∀ z ∈ v, Sm z) : callN TB (n + 2) i__law_led [.d (tII m), .d (tI v)] Q = Q (.d (tI (ldv m v))) [] := by
  obtain ⟨hs, hb⟩ := C
  cases hs with
  | @q1 s =>
    simp only [List.mem_cons, List.not_mem_nil, or_false, forall_eq_or_imp, forall_eq] at hb
    have ss : Sm s := by unfold Sm; omega
    obtain ⟨k', rfl⟩ := len1 hv
    have sk' : Sm k' := hw _ (by simp)
    exact ll_1 sk'
  | @q2 p q r s =>
    simp only [List.mem_cons, List.not_mem_nil, or_false, forall_eq_or_imp, forall_eq] at hb
    have sp : Sm p := by unfold Sm; omega
    have sq : Sm q := by unfold Sm; omega
    have sr : Sm r := by unfold Sm; omega
    have ss : Sm s := by unfold Sm; omega
    obtain ⟨k', l', rfl⟩ := len2 hv
    have sk' : Sm k' := hw _ (by simp)
    have sl' : Sm l' := hw _ (by simp)
    exact ll_2 sk' sl'
  | @q3 p q r s t u v w x =>
    simp only [List.mem_cons, List.not_mem_nil, or_false, forall_eq_or_imp, forall_eq] at hb
    have sp : Sm p := by unfold Sm; omega
    have sq : Sm q := by unfold Sm; omega
    have sr : Sm r := by unfold Sm; omega
    have ss : Sm s := by unfold Sm; omega
    have st : Sm t := by unfold Sm; omega
    have su : Sm u := by unfold Sm; omega
    have sv : Sm v := by unfold Sm; omega
    have sw : Sm w := by unfold Sm; omega
    have sx : Sm x := by unfold Sm; omega
    obtain ⟨k', l', m', rfl⟩ := len3 hv
    have sk' : Sm k' := hw _ (by simp)
    have sl' : Sm l' := hw _ (by simp)
    have sm' : Sm m' := hw _ (by simp)
    exact ll_3 sk' sl' sm'
theorem Sq.n3 (h : Sq N m) : 1 ≤ N ∧ N ≤ 3 := by
  cases h <;> omega
theorem Mz.need (C : Mz K N m) (hK : K ≤ 2000) (hd : dtm m ≠ 0) : callN TB (n + 7) i_need_coarse [.d (.int (N : Int)), .d (tII m)] Q = Q (.d .none) [] := by
  rw [in_need_coarse, b_need_coarse]
  simp [C.cz hK hd]
theorem Mz.isc (C : Mz K N m) (hK : K ≤ 2000) (hd : dtm m ≠ 0) : callN TB (n + 7) i_is_coarse [.d (.int (N : Int)), .d (tII m)] Q = Q (.d (.bool true)) [] := by
  rw [in_is_coarse, b_is_coarse]
  simp [C.cz hK hd]
theorem Mz.index (C : Mz K N m) (hK : K ≤ 2000) (hd : dtm m ≠ 0) : callN TB (n + 8) i_index [.d (.int (N : Int)), .d (tII m)] Q = Q (.d (.int ((dtm m).natAbs : Int))) [] := by
  rw [in_index, b_index]
  simp [C.need hK hd, C.det hK]
theorem ldv_len (h : Sq N m) {v : List Int} (hv : v.length = N) : (ldv m v).length = N := by
  cases h with
  | q1 => obtain ⟨x, rfl⟩ := len1 hv; rfl
  | q2 => obtain ⟨x, y, rfl⟩ := len2 hv; rfl
  | q3 => obtain ⟨x, y, z, rfl⟩ := len3 hv; rfl
theorem Sq.rl (h : Sq N m) : ∀ r ∈ m, r.length = N := by
  cases h <;> simp
theorem Sq.len (h : Sq N m) : m.length = N := by cases h <;> rfl
theorem Mz.sm (C : Mz K N m) (hK : K ≤ 2000) : ∀ r ∈ m, ∀ z ∈ r, Sm z := fun r hr z hz => by
  have := C.bd r hr z hz
  unfold Sm
  omega
theorem Mz.lo (C : Mz K N m) (hK : K ≤ 2000) : ∀ r ∈ m, ∀ z ∈ r, z.natAbs < 2 ^ 20 := fun r hr z hz => by
  have := C.bd r hr z hz
  omega
theorem low_m {k : Int} (hs : Sq N m) : ∃ b : Bool, (∀ (n : Nat) (Q : W → List W → Prop), callN TB (n + 1) i__law_is_small [.d (tII m), .d (.int k)] Q = Q (.d (.bool b)) []) ∧ (b = true → ∀ r ∈ m, ∀ z ∈ r, -k ≤ z ∧ z ≤ k) := by
  cases hs with
  | @q1 s =>
    refine ⟨decide ((s.natAbs : Int) ≤ k), fun n Q => ?_, fun h => ?_⟩
    · show callN TB (n + 1) i__law_is_small [.d (T1 s), .d (.int k)] Q = _
      simp [in__law_is_small, b__law_is_small]
    · have h := of_decide_eq_true h
      simp only [List.mem_cons, List.not_mem_nil, or_false, forall_eq_or_imp, forall_eq]
      omega
  | @q2 p q r s =>
    refine ⟨decide (max (max (p.natAbs : Int) q.natAbs) (max (r.natAbs : Int) s.natAbs) ≤ k), fun n Q => ?_, fun h => ?_⟩
    · show callN TB (n + 1) i__law_is_small [.d (M2 p q r s), .d (.int k)] Q = _
      simp [in__law_is_small, b__law_is_small]
    · have h := of_decide_eq_true h
      simp only [List.mem_cons, List.not_mem_nil, or_false, forall_eq_or_imp, forall_eq]
      rw [Int.max_le, Int.max_le, Int.max_le] at h
      omega
  | @q3 p q r s t u v w x =>
    refine ⟨decide (max (max (p.natAbs : Int) (max q.natAbs r.natAbs)) (max (max (s.natAbs : Int) (max t.natAbs u.natAbs)) (max (v.natAbs : Int) (max w.natAbs x.natAbs))) ≤ k), fun n Q => ?_, fun h => ?_⟩
    · show callN TB (n + 1) i__law_is_small [.d (M3 p q r s t u v w x), .d (.int k)] Q = _
      simp [in__law_is_small, b__law_is_small]
    · have h := of_decide_eq_true h
      simp only [Int.max_le] at h
      have g : ∀ z : Int, (z.natAbs : Int) ≤ k → -k ≤ z ∧ z ≤ k := fun z hz => by omega
      obtain ⟨⟨h1, h2, h3⟩, ⟨h4, h5, h6⟩, h7, h8, h9⟩ := h
      simp only [List.mem_cons, List.not_mem_nil, or_false, forall_eq_or_imp, forall_eq]
      exact ⟨⟨g _ h1, g _ h2, g _ h3⟩, ⟨g _ h4, g _ h5, g _ h6⟩, g _ h7, g _ h8, g _ h9⟩
end
end Mn.R

set_option linter.all false
set_option Elab.async false
set_option maxRecDepth 100000
set_option maxHeartbeats 16000000
set_option exponentiation.threshold 5000
namespace Mn.R
open PySem
def la1 (a : Int) : List Int → List Int → Int
  | [x], [u] => ln1 a x u
  | _, _ => 0
def la2 (a b c : Int) : List Int → List Int → Int
  | [x, y], [u, v] => ln2 a b c x y u v
  | _, _ => 0
def la3 (a b c d e f : Int) : List Int → List Int → Int
  | [x, y, z], [u, v, w] => ln3 a b c d e f x y z u v w
  | _, _ => 0
def Lo (x : Int) : Prop := x.natAbs < 2 ^ 20
theorem Lo.sm {x : Int} (h : Lo x) : Sm x := Nat.lt_of_lt_of_le h (by decide)
inductive SF : Nat → PD → (List Int → List Int → Int) → Prop
  | f1 {a : Int} : Sm a → SF 1 (T1 a) (la1 a)
  | f2 {a b c : Int} : Sm a → Sm b → Sm c → SF 2 (T2 a b c) (la2 a b c)
  | f3 {a b c d e f : Int} : Sm a → Sm b → Sm c → Sm d → Sm e → Sm f → SF 3 (T3 a b c d e f) (la3 a b c d e f)
inductive FF : Nat → PD → (List Int → List Int → Int) → Prop
  | f1 {a : Int} : 0 < a → Lo a → FF 1 (T1 a) (la1 a)
  | f2 {a b c : Int} : 0 < a → 0 < a * c - b * b → Lo a → Lo b → Lo c → FF 2 (T2 a b c) (la2 a b c)
  | f3 {a b c d e f : Int} : 0 < a → 0 < a * d - b * b → 0 < a * (d * f - e * e) - b * (b * f - e * c) + c * (b * e - d * c) → Lo a → Lo b → Lo c → Lo d → Lo e → Lo f → FF 3 (T3 a b c d e f) (la3 a b c d e f)
theorem FF.sf {N : Nat} {M : PD} {ln : List Int → List Int → Int} (h : FF N M ln) : SF N M ln := by
  cases h with
  | f1 _ a => exact .f1 a.sm
  | f2 _ _ a b c => exact .f2 a.sm b.sm c.sm
  | f3 _ _ _ a b c d e f => exact .f3 a.sm b.sm c.sm d.sm e.sm f.sm
abbrev tab (m : List (List Int)) (ln : List Int → List Int → Int) : PD := tII (m.map fun r => m.map fun r' => ln r r')
section
variable {n : Nat} {Q : W → List W → Prop} {N : Nat} {m : List (List Int)} {K : Int} {M : PD} {ln : List Int → List Int → Int}
theorem SF.n3 (h : SF N M ln) : 1 ≤ N ∧ N ≤ 3 := by
  cases h <;> omega
theorem SF.unit (h : SF N M ln) : M = tab (un N) ln := by
  cases h with
  | f1 h => simp [tab, un, la1, ln1]
  | f2 h => simp [tab, un, la2, ln2]
  | f3 h => simp [tab, un, la3, ln3]
theorem SF.len (h : SF N M ln) {Qw : W → Prop} : b1 .len M Qw = Qw (.d (.int (N : Int))) := by
  cases h <;> simp
theorem FF.need (h : FF N M ln) : callN TB (n + 8) i_need_form [.d M] Q = Q (.d .none) [] := by
  cases h with
  | f1 h => exact nf1 h
  | f2 h h2 a b => exact nf2 h h2 a.sm b.sm
  | f3 h h2 h3 a b c d e => exact nf3 h h2 h3 a.sm b.sm c.sm d.sm e.sm
theorem SF.chg (h : SF N M ln) (C : Mz K N m) (hK : K ≤ 2000) : callN TB (n + 4) i_changed_by [.d M, .d (tII m)] Q = Q (.d (tab m ln)) [] := by
  obtain ⟨hs, hb⟩ := C
  cases h with
  | @f1 a sa =>
    cases hs with
    | @q1 s =>
      simp only [List.mem_cons, List.not_mem_nil, or_false, forall_eq_or_imp, forall_eq] at hb
      have Ss : Sm s := by unfold Sm; omega
      show callN TB (n + 4) i_changed_by [.d (T1 a), .d (T1 s)] Q = Q (.d (T1 (ln1 a s s))) []
      simp [in_changed_by, b_changed_by, pl1 sa Ss]
  | @f2 a b c sa sb sc =>
    cases hs with
    | @q2 p q r s =>
      simp only [List.mem_cons, List.not_mem_nil, or_false, forall_eq_or_imp, forall_eq] at hb
      have Sp : Sm p := by unfold Sm; omega
      have Sq : Sm q := by unfold Sm; omega
      have Sr : Sm r := by unfold Sm; omega
      have Ss : Sm s := by unfold Sm; omega
      show callN TB (n + 4) i_changed_by [.d (T2 a b c), .d (M2 p q r s)] Q = Q (.d (M2 (ln2 a b c p q p q) (ln2 a b c p q r s) (ln2 a b c r s p q) (ln2 a b c r s r s))) []
      simp [in_changed_by, b_changed_by, pl2 sa sb sc Sp Sq, pl2 sa sb sc Sr Ss]
  | @f3 a b c d e f sa sb sc sd se sf =>
    cases hs with
    | @q3 p q r s t u v w x =>
      simp only [List.mem_cons, List.not_mem_nil, or_false, forall_eq_or_imp, forall_eq] at hb
      have Sp : Sm p := by unfold Sm; omega
      have Sq : Sm q := by unfold Sm; omega
      have Sr : Sm r := by unfold Sm; omega
      have Ss : Sm s := by unfold Sm; omega
      have St : Sm t := by unfold Sm; omega
      have Su : Sm u := by unfold Sm; omega
      have Sv : Sm v := by unfold Sm; omega
      have Sw : Sm w := by unfold Sm; omega
      have Sx : Sm x := by unfold Sm; omega
      show callN TB (n + 4) i_changed_by [.d (T3 a b c d e f), .d (M3 p q r s t u v w x)] Q = Q (.d (M3 (ln3 a b c d e f p q r p q r) (ln3 a b c d e f p q r s t u) (ln3 a b c d e f p q r v w x) (ln3 a b c d e f s t u p q r) (ln3 a b c d e f s t u s t u) (ln3 a b c d e f s t u v w x) (ln3 a b c d e f v w x p q r) (ln3 a b c d e f v w x s t u) (ln3 a b c d e f v w x v w x))) []
      simp [in_changed_by, b_changed_by, pl3 sa sb sc sd se sf Sp Sq Sr, pl3 sa sb sc sd se sf Ss St Su, pl3 sa sb sc sd se sf Sv Sw Sx]
theorem SF.lchg (h : SF N M ln) (C : Mz K N m) (hK : K ≤ 2000) : callN TB (n + 4) i__law_changed [.d M, .d (tII m)] Q = Q (.d (tab m ln)) [] := by
  obtain ⟨hs, hb⟩ := C
  cases h with
  | @f1 a sa =>
    cases hs with
    | @q1 s =>
      simp only [List.mem_cons, List.not_mem_nil, or_false, forall_eq_or_imp, forall_eq] at hb
      have Ss : Sm s := by unfold Sm; omega
      show callN TB (n + 4) i__law_changed [.d (T1 a), .d (T1 s)] Q = Q (.d (T1 (ln1 a s s))) []
      simp [in__law_changed, b__law_changed, ll1 sa Ss]
  | @f2 a b c sa sb sc =>
    cases hs with
    | @q2 p q r s =>
      simp only [List.mem_cons, List.not_mem_nil, or_false, forall_eq_or_imp, forall_eq] at hb
      have Sp : Sm p := by unfold Sm; omega
      have Sq : Sm q := by unfold Sm; omega
      have Sr : Sm r := by unfold Sm; omega
      have Ss : Sm s := by unfold Sm; omega
      show callN TB (n + 4) i__law_changed [.d (T2 a b c), .d (M2 p q r s)] Q = Q (.d (M2 (ln2 a b c p q p q) (ln2 a b c p q r s) (ln2 a b c r s p q) (ln2 a b c r s r s))) []
      simp [in__law_changed, b__law_changed, ll2 sa sb sc Sp Sq, ll2 sa sb sc Sr Ss]
  | @f3 a b c d e f sa sb sc sd se sf =>
    cases hs with
    | @q3 p q r s t u v w x =>
      simp only [List.mem_cons, List.not_mem_nil, or_false, forall_eq_or_imp, forall_eq] at hb
      have Sp : Sm p := by unfold Sm; omega
      have Sq : Sm q := by unfold Sm; omega
      have Sr : Sm r := by unfold Sm; omega
      have Ss : Sm s := by unfold Sm; omega
      have St : Sm t := by unfold Sm; omega
      have Su : Sm u := by unfold Sm; omega
      have Sv : Sm v := by unfold Sm; omega
      have Sw : Sm w := by unfold Sm; omega
      have Sx : Sm x := by unfold Sm; omega
      show callN TB (n + 4) i__law_changed [.d (T3 a b c d e f), .d (M3 p q r s t u v w x)] Q = Q (.d (M3 (ln3 a b c d e f p q r p q r) (ln3 a b c d e f p q r s t u) (ln3 a b c d e f p q r v w x) (ln3 a b c d e f s t u p q r) (ln3 a b c d e f s t u s t u) (ln3 a b c d e f s t u v w x) (ln3 a b c d e f v w x p q r) (ln3 a b c d e f v w x s t u) (ln3 a b c d e f v w x v w x))) []
      simp [in__law_changed, b__law_changed, ll3 sa sb sc sd se sf Sp Sq Sr, ll3 sa sb sc sd se sf Ss St Su, ll3 sa sb sc sd se sf Sv Sw Sx]
theorem SF.lchgL (h : SF N M ln) (C : Mz K N m) (hK : K ≤ 2000) : callN TB (n + 4) i__law_changed [.d M, .d (.list (m.map tI))] Q = Q (.d (tab m ln)) [] := by
  obtain ⟨hs, hb⟩ := C
  cases h with
  | @f1 a sa =>
    cases hs with
    | @q1 s =>
      simp only [List.mem_cons, List.not_mem_nil, or_false, forall_eq_or_imp, forall_eq] at hb
      have Ss : Sm s := by unfold Sm; omega
      show callN TB (n + 4) i__law_changed [.d (T1 a), .d (.list [t1 s])] Q = Q (.d (T1 (ln1 a s s))) []
      simp [in__law_changed, b__law_changed, ll1 sa Ss]
  | @f2 a b c sa sb sc =>
    cases hs with
    | @q2 p q r s =>
      simp only [List.mem_cons, List.not_mem_nil, or_false, forall_eq_or_imp, forall_eq] at hb
      have Sp : Sm p := by unfold Sm; omega
      have Sq : Sm q := by unfold Sm; omega
      have Sr : Sm r := by unfold Sm; omega
      have Ss : Sm s := by unfold Sm; omega
      show callN TB (n + 4) i__law_changed [.d (T2 a b c), .d (.list [t2 p q, t2 r s])] Q = Q (.d (M2 (ln2 a b c p q p q) (ln2 a b c p q r s) (ln2 a b c r s p q) (ln2 a b c r s r s))) []
      simp [in__law_changed, b__law_changed, ll2 sa sb sc Sp Sq, ll2 sa sb sc Sr Ss]
  | @f3 a b c d e f sa sb sc sd se sf =>
    cases hs with
    | @q3 p q r s t u v w x =>
      simp only [List.mem_cons, List.not_mem_nil, or_false, forall_eq_or_imp, forall_eq] at hb
      have Sp : Sm p := by unfold Sm; omega
      have Sq : Sm q := by unfold Sm; omega
      have Sr : Sm r := by unfold Sm; omega
      have Ss : Sm s := by unfold Sm; omega
      have St : Sm t := by unfold Sm; omega
      have Su : Sm u := by unfold Sm; omega
      have Sv : Sm v := by unfold Sm; omega
      have Sw : Sm w := by unfold Sm; omega
      have Sx : Sm x := by unfold Sm; omega
      show callN TB (n + 4) i__law_changed [.d (T3 a b c d e f), .d (.list [t3 p q r, t3 s t u, t3 v w x])] Q = Q (.d (M3 (ln3 a b c d e f p q r p q r) (ln3 a b c d e f p q r s t u) (ln3 a b c d e f p q r v w x) (ln3 a b c d e f s t u p q r) (ln3 a b c d e f s t u s t u) (ln3 a b c d e f s t u v w x) (ln3 a b c d e f v w x p q r) (ln3 a b c d e f v w x s t u) (ln3 a b c d e f v w x v w x))) []
      simp [in__law_changed, b__law_changed, ll3 sa sb sc sd se sf Sp Sq Sr, ll3 sa sb sc sd se sf Ss St Su, ll3 sa sb sc sd se sf Sv Sw Sx]
theorem ln2_sy {a b c x y u v : Int} : ln2 a b c x y u v = ln2 a b c u v x y := by unfold ln2; grind
theorem ln3_sy {a b c d e f x y z u v w : Int} : ln3 a b c d e f x y z u v w = ln3 a b c d e f u v w x y z := by unfold ln3; grind
theorem FF.nxt (h : FF N M ln) (hs : Sq N m) (hd : dtm m ≠ 0) (hb : ∀ r ∈ m, ∀ r' ∈ m, Lo (ln r r')) : ∃ ln', FF N (tab m ln) ln' ∧ ∀ u v : List Int, u.length = N → v.length = N → ln' u v = ln (ldv m u) (ldv m v) := by
  cases h with
  | @f1 a h _ =>
    cases hs with
    | @q1 s =>
      simp only [List.mem_cons, List.not_mem_nil, or_false, forall_eq_or_imp, forall_eq, la1] at hb
      refine ⟨la1 (ln1 a s s), .f1 (ch1 h hd) hb, fun u v hu hv => ?_⟩
      obtain ⟨x, rfl⟩ := len1 hu
      obtain ⟨k, rfl⟩ := len1 hv
      simp only [la1, ldv, ln1]
      grind
  | @f2 a b c h h2 _ _ _ =>
    cases hs with
    | @q2 p q r s =>
      simp only [List.mem_cons, List.not_mem_nil, or_false, forall_eq_or_imp, forall_eq, la2] at hb
      have R := ch2 h h2 hd
      have e : tab [[p, q], [r, s]] (la2 a b c) = T2 (ln2 a b c p q p q) (ln2 a b c p q r s) (ln2 a b c r s r s) := by
        simp only [tab, List.map_cons, List.map_nil, la2]
        rw [ln2_sy (x := r) (y := s) (u := p) (v := q)]
        rfl
      rw [e]
      refine ⟨_, .f2 R.1 R.2 hb.1.1 hb.1.2 hb.2.2, fun u v hu hv => ?_⟩
      obtain ⟨x, y, rfl⟩ := len2 hu
      obtain ⟨k, l, rfl⟩ := len2 hv
      simp only [la2, ldv, ln2]
      grind
  | @f3 a b c d e f h h2 h3 _ _ _ _ _ _ =>
    cases hs with
    | @q3 p q r s t u v w x =>
      simp only [List.mem_cons, List.not_mem_nil, or_false, forall_eq_or_imp, forall_eq, la3] at hb
      have R := ch3 h h2 h3 hd rfl rfl rfl rfl rfl rfl
      have e' : tab [[p, q, r], [s, t, u], [v, w, x]] (la3 a b c d e f) = T3 (ln3 a b c d e f p q r p q r) (ln3 a b c d e f p q r s t u) (ln3 a b c d e f p q r v w x) (ln3 a b c d e f s t u s t u) (ln3 a b c d e f s t u v w x) (ln3 a b c d e f v w x v w x) := by
        simp only [tab, List.map_cons, List.map_nil, la3]
        rw [ln3_sy (x := s) (y := t) (z := u) (u := p) (v := q) (w := r), ln3_sy (x := v) (y := w) (z := x) (u := p) (v := q) (w := r), ln3_sy (x := v) (y := w) (z := x) (u := s) (v := t) (w := u)]
        rfl
      rw [e']
      refine ⟨_, .f3 R.1 R.2.1 R.2.2 hb.1.1 hb.1.2.1 hb.1.2.2 hb.2.1.2.1 hb.2.1.2.2 hb.2.2.2.2, fun u1 v1 hu hv => ?_⟩
      obtain ⟨k, l, m, rfl⟩ := len3 hu
      obtain ⟨k', l', m', rfl⟩ := len3 hv
      simp only [la3, ldv, ln3]
      grind
theorem SF.nxt (h : SF N M ln) (hs : Sq N m) (hb : ∀ r ∈ m, ∀ r' ∈ m, Sm (ln r r')) : ∃ ln', SF N (tab m ln) ln' ∧ ∀ u v : List Int, u.length = N → v.length = N → ln' u v = ln (ldv m u) (ldv m v) := by
  cases h with
  | @f1 a h =>
    cases hs with
    | @q1 s =>
      simp only [List.mem_cons, List.not_mem_nil, or_false, forall_eq_or_imp, forall_eq, la1] at hb
      refine ⟨la1 (ln1 a s s), .f1 hb, fun u v hu hv => ?_⟩
      obtain ⟨x, rfl⟩ := len1 hu
      obtain ⟨k, rfl⟩ := len1 hv
      simp only [la1, ldv, ln1]
      grind
  | @f2 a b c _ _ _ =>
    cases hs with
    | @q2 p q r s =>
      simp only [List.mem_cons, List.not_mem_nil, or_false, forall_eq_or_imp, forall_eq, la2] at hb
      have e : tab [[p, q], [r, s]] (la2 a b c) = T2 (ln2 a b c p q p q) (ln2 a b c p q r s) (ln2 a b c r s r s) := by
        simp only [tab, List.map_cons, List.map_nil, la2]
        rw [ln2_sy (x := r) (y := s) (u := p) (v := q)]
        rfl
      rw [e]
      refine ⟨_, .f2 hb.1.1 hb.1.2 hb.2.2, fun u v hu hv => ?_⟩
      obtain ⟨x, y, rfl⟩ := len2 hu
      obtain ⟨k, l, rfl⟩ := len2 hv
      simp only [la2, ldv, ln2]
      grind
  | @f3 a b c d e f _ _ _ _ _ _ =>
    cases hs with
    | @q3 p q r s t u v w x =>
      simp only [List.mem_cons, List.not_mem_nil, or_false, forall_eq_or_imp, forall_eq, la3] at hb
      have e' : tab [[p, q, r], [s, t, u], [v, w, x]] (la3 a b c d e f) = T3 (ln3 a b c d e f p q r p q r) (ln3 a b c d e f p q r s t u) (ln3 a b c d e f p q r v w x) (ln3 a b c d e f s t u s t u) (ln3 a b c d e f s t u v w x) (ln3 a b c d e f v w x v w x) := by
        simp only [tab, List.map_cons, List.map_nil, la3]
        rw [ln3_sy (x := s) (y := t) (z := u) (u := p) (v := q) (w := r), ln3_sy (x := v) (y := w) (z := x) (u := p) (v := q) (w := r), ln3_sy (x := v) (y := w) (z := x) (u := s) (v := t) (w := u)]
        rfl
      rw [e']
      refine ⟨_, .f3 hb.1.1 hb.1.2.1 hb.1.2.2 hb.2.1.2.1 hb.2.1.2.2 hb.2.2.2.2, fun u1 v1 hu hv => ?_⟩
      obtain ⟨k, l, m, rfl⟩ := len3 hu
      obtain ⟨k', l', m', rfl⟩ := len3 hv
      simp only [la3, ldv, ln3]
      grind
end
end Mn.R

set_option linter.all false
set_option Elab.async false
set_option maxRecDepth 100000
set_option maxHeartbeats 16000000
set_option exponentiation.threshold 5000
namespace Mn.R
open PySem
def Th (x : PD) : Prop := Vl B0 8 20000 x
theorem int_S {d c : Nat} {i : Int} (h : Vl B0 d c (.int i)) : Sm i := by
  have : i.natAbs ≤ B0 := by simpa [Pv] using h.pv
  exact Nat.lt_of_le_of_lt this (by unfold B0; decide)
theorem q_coarse {n : Nat} {Q : W → List W → Prop} {B d c : Nat} {x : PD} (hx : Vl B d c x) (hc : c ≤ 1000000) {k : Int} (hf : isSqr k x = false → Q (.d (.bool false)) [])
    (ht : isSqr k x = true → ∃ D : Int, (∀ (n : Nat) (Q : W → List W → Prop), callN TB (n + 1) i__law_det [.d x] Q = Q (.d (.int D)) []) ∧ Q (.d (.bool (!decide (D = 0)))) []) : callN TB (n + 4) i__law_is_coarse [.d (.int k), .d x] Q := by
  rw [in__law_is_coarse, b__law_is_coarse]
  cases x with
  | tuple xs =>
    obtain ⟨_, hxs⟩ := hx.items
    have hl := hxs.len
    by_cases e : (xs.length : Int) = k
    · simp [e]
      refine ⟨by omega, ?_⟩
      refine acc_filL (fun y => !isStp k y) (fun y => .d y) (by simp only [List.length_nil]; omega) (fun y hy acc kk ha hk => ?_) ?_
      · have hk' := hk
        simp
        refine q_row (hxs.mem y hy) hc ?_
        cases hb : isStp k y
        · simp only [hb, Bool.not_false, if_true] at hk'
          simp
          exact ⟨ha, hk' _ rfl⟩
        · simp only [hb, Bool.not_true, Bool.false_eq_true, if_false] at hk'
          simp
          exact hk' _ rfl
      · have e3 : (xs.filter fun y => !isStp k y).isEmpty = xs.all (isStp k) := fil_all
        simp
        rw [e3]
        cases ha : xs.all (isStp k) with
        | false =>
          simp
          exact hf (by simp [isSqr, e, ha])
        | true =>
          obtain ⟨D, hD, q⟩ := ht (by simp [isSqr, e, ha])
          simp [hD]
          simpa using q
    · simp [e]
      refine ⟨by omega, ?_⟩
      exact hf (by simp [isSqr, e])
  | _ => simpa using hf (by simp [isSqr])
/-- whether a value is a coarse table, told alike by both -/
theorem crv {z : PD} {N : Nat} (hN : N = 1 ∨ N = 2 ∨ N = 3) (hz : Th z) : ∃ b : Bool, (∀ (n : Nat) (Q : W → List W → Prop), Q (.d (.bool b)) [] → callN TB (n + 8) i__law_is_coarse [.d (.int (N : Int)), .d z] Q) ∧
    (∀ (n : Nat) (Q : W → List W → Prop), Q (.d (.bool b)) [] → callN TB (n + 8) i_is_coarse [.d (.int (N : Int)), .d z] Q) := by
  have hz' : Vl B0 8 20000 z := hz
  have W1 : ∀ rows : List PD, z = .tuple rows → ∀ r ∈ rows, ∀ es, r = .tuple es → ∀ i : Int, .int i ∈ es → Sm i := fun rows e r hr es e2 i hi => by
    subst e
    have q := hz'.items.2.mem r hr
    subst e2
    exact int_S (q.items.2.mem _ hi)
  cases hs : isSqr N z with
  | false =>
    refine ⟨false, fun n Q q => q_coarse (n := n + 4) hz' (by omega) (fun _ => q) (fun h => by rw [hs] at h; cases h), fun n Q q => ?_⟩
    rw [in_is_coarse, b_is_coarse]
    simp [in_is_coarse_value, b_is_coarse_value]
    refine p_square (n := n + 3) hz' (by omega) ?_
    cases hq : isSq z with
    | false =>
      simp
      exact q
    | true =>
      rcases sq_shape hq with ⟨a, rfl⟩ | ⟨a, b, c, d, rfl⟩ | ⟨a, b, c, d, e, f, g, h, i, rfl⟩ <;> rcases hN with rfl | rfl | rfl <;> first | (exfalso; revert hs; simp [isSqr, isStp, isI]; done) | (simp; exact q)
  | true =>
    rcases hN with rfl | rfl | rfl
    · obtain ⟨a, rfl⟩ := sqr1 hs
      refine ⟨!decide (a = 0), fun n Q q => q_coarse (n := n + 4) hz' (by omega) (fun h => by have hs' : isSqr 1 (.tuple [t1 a]) = true := hs; rw [show ((1 : Nat) : Int) = 1 from rfl, hs'] at h; cases h) fun _ => ⟨a, fun n Q => ld1, q⟩, fun n Q q => ?_⟩
      rw [in_is_coarse, b_is_coarse]
      simp [in_is_coarse_value, b_is_coarse_value]
      refine p_square (n := n + 3) hz' (by omega) ?_
      have hs' : isSq (.tuple [t1 a]) = true := by simp [isSq, isStp, isI]
      rw [hs']
      simp [dT1]
      simpa using q
    · obtain ⟨a, b, c, d, rfl⟩ := sqr2 hs
      have wa := W1 _ rfl (t2 a b) (by simp) _ rfl a (by simp)
      have wb := W1 _ rfl (t2 a b) (by simp) _ rfl b (by simp)
      refine ⟨!decide (a * d - b * c = 0), fun n Q q => q_coarse (n := n + 4) hz' (by omega) (fun h => by have hs' : isSqr 2 (M2 a b c d) = true := hs; rw [show ((2 : Nat) : Int) = 2 from rfl, hs'] at h; cases h) fun _ => ⟨a * d - b * c, fun n Q => ld2 wa wb, q⟩, fun n Q q => ?_⟩
      rw [in_is_coarse, b_is_coarse]
      simp [in_is_coarse_value, b_is_coarse_value]
      refine p_square (n := n + 3) hz' (by omega) ?_
      have hs' : isSq (M2 a b c d) = true := by simp [isSq, isStp, isI]
      rw [hs']
      simp [dT2 wa wb]
      simpa using q
    · obtain ⟨a, b, c, d, e, f, g, h, i, rfl⟩ := sqr3 hs
      have wa := W1 _ rfl (t3 a b c) (by simp) _ rfl a (by simp)
      have wb := W1 _ rfl (t3 a b c) (by simp) _ rfl b (by simp)
      have wc := W1 _ rfl (t3 a b c) (by simp) _ rfl c (by simp)
      have wd := W1 _ rfl (t3 d e f) (by simp) _ rfl d (by simp)
      have we := W1 _ rfl (t3 d e f) (by simp) _ rfl e (by simp)
      have wf := W1 _ rfl (t3 d e f) (by simp) _ rfl f (by simp)
      refine ⟨!decide (a * (e * i - f * h) - b * (d * i - f * g) + c * (d * h - e * g) = 0), fun n Q q => q_coarse (n := n + 4) hz' (by omega) (fun h' => by have hs' : isSqr 3 (M3 a b c d e f g h i) = true := hs; rw [show ((3 : Nat) : Int) = 3 from rfl, hs'] at h'; cases h') fun _ => ⟨_, fun n Q => ld3 wa wb wc wd we wf, q⟩, fun n Q q => ?_⟩
      rw [in_is_coarse, b_is_coarse]
      simp [in_is_coarse_value, b_is_coarse_value]
      refine p_square (n := n + 3) hz' (by omega) ?_
      have hs' : isSq (M3 a b c d e f g h i) = true := by simp [isSq, isStp, isI]
      rw [hs']
      simp [dT3 wa wb wc wd we wf]
      simpa using q
end Mn.R

set_option linter.all false
set_option Elab.async false
set_option maxRecDepth 100000
set_option maxHeartbeats 16000000
set_option exponentiation.threshold 5000
namespace Mn.R
open PySem
/-- a row operation -/
def gr (m : List (List Int)) (i : Nat) : List Int := m.getD i []
def rop (m : List (List Int)) (i j : Nat) (t : Int) : List (List Int) := m.set i (((gr m i).zip (gr m j)).map fun z => z.1 + t * z.2)
theorem rop_sq {N : Nat} {m : List (List Int)} (hs : Sq N m) {i j : Nat} {t : Int} (hi : i < N) (hj : j < N) : Sq N (rop m i j t) ∧ (i ≠ j → dtm (rop m i j t) = dtm m) ∧ (i = j → dtm (rop m i j t) = (1 + t) * dtm m) := by
  cases hs with
  | q1 =>
    obtain rfl : i = 0 := by omega
    obtain rfl : j = 0 := by omega
    refine ⟨.q1, fun h => absurd rfl h, fun _ => ?_⟩
    simp [rop, gr, dtm]; grind
  | q2 =>
    have hi' : i = 0 ∨ i = 1 := by omega
    have hj' : j = 0 ∨ j = 1 := by omega
    rcases hi' with rfl | rfl <;> rcases hj' with rfl | rfl
    all_goals
      refine ⟨.q2, ?_, ?_⟩ <;> simp [rop, gr, dtm] <;> grind
  | q3 =>
    have hi' : i = 0 ∨ i = 1 ∨ i = 2 := by omega
    have hj' : j = 0 ∨ j = 1 ∨ j = 2 := by omega
    rcases hi' with rfl | rfl | rfl <;> rcases hj' with rfl | rfl | rfl
    all_goals
      refine ⟨.q3, ?_, ?_⟩ <;> simp [rop, gr, dtm] <;> grind
theorem rop_bd {N : Nat} {m : List (List Int)} (hs : Sq N m) {i j : Nat} {t : Int} (hi : i < N) (hj : j < N) {K : Int} (ht : t = 1 ∨ t = -1 ∨ t = 2 ∨ t = -2 ∨ t = 3) (h : ∀ r ∈ m, ∀ z ∈ r, -K ≤ z ∧ z ≤ K) : ∀ r ∈ rop m i j t, ∀ z ∈ r, -(4 * K) ≤ z ∧ z ≤ 4 * K := by
  intro r hr z hz
  have base : ∀ x : Int, -K ≤ x ∧ x ≤ K → -(4 * K) ≤ x ∧ x ≤ 4 * K := fun x hx => by omega
  have g : ∀ k : Nat, ∀ x ∈ gr m k, -K ≤ x ∧ x ≤ K := fun k x hx => by
    cases e : m[k]? with
    | none => simp [gr, List.getD, e] at hx
    | some r => exact h r (List.mem_of_getElem? e) x (by simpa [gr, List.getD, e] using hx)
  rcases List.mem_or_eq_of_mem_set hr with hr | rfl
  · exact base _ (h r hr z hz)
  · obtain ⟨⟨x, y⟩, hm, rfl⟩ := List.mem_map.mp hz
    have hx := g i x (List.of_mem_zip hm).1
    have hy := g j y (List.of_mem_zip hm).2
    rcases ht with rfl | rfl | rfl | rfl | rfl <;> dsimp only <;> omega
section
variable {n : Nat} {Q : W → List W → Prop} {N : Nat} {m : List (List Int)}
theorem plus_s {u v : List Int} {t : Int} (hu : u.length = N) (hv : v.length = N) (h3 : N ≤ 3) (ht : Sm t) : callN TB (n + 1) i__law_plus [.d (tI u), .d (tI v), .d (.int t)] Q = Q (.d (tI ((u.zip v).map fun z => z.1 + t * z.2))) [] := by
  have hN : N = 0 ∨ N = 1 ∨ N = 2 ∨ N = 3 := by omega
  rcases hN with rfl | rfl | rfl | rfl
  · obtain rfl := List.length_eq_zero_iff.mp hu
    obtain rfl := List.length_eq_zero_iff.mp hv
    simp [in__law_plus, b__law_plus]
    try exact Iff.rfl
  · obtain ⟨x, rfl⟩ := len1 hu
    obtain ⟨y, rfl⟩ := len1 hv
    simp [in__law_plus, b__law_plus, ht]
    exact Iff.rfl
  · obtain ⟨x, x', rfl⟩ := len2 hu
    obtain ⟨y, y', rfl⟩ := len2 hv
    simp [in__law_plus, b__law_plus, ht]
    exact Iff.rfl
  · obtain ⟨x, x', x'', rfl⟩ := len3 hu
    obtain ⟨y, y', y'', rfl⟩ := len3 hv
    simp [in__law_plus, b__law_plus, ht]
    exact Iff.rfl
theorem allD_m' {m : List (List Int)} : allD (m.map fun r => W.d (tI r)) = some (m.map tI) := allD_mf
theorem subR_m {m : List (List Int)} {i : Nat} (hi : i < m.length) {v : List Int} : subR (m.map fun r => W.d (tI r)) (i : Int) (.d (tI v)) = some ((m.set i v).map fun r => W.d (tI r)) := by
  unfold subR
  rw [List.length_map, place_nat hi, Option.map_some, List.map_set]
theorem pds_tm : ∀ {m : List (List Int)}, W.pds (m.map fun r => W.d (tI r)) = m.map tI
  | [] => by simp [W.pds]
  | r :: m => by
    rw [List.map_cons, List.map_cons, W.pds, pds_tm]
    rfl
theorem un_sq (hN : N = 1 ∨ N = 2 ∨ N = 3) : Mz 1 N (un N) ∧ dtm (un N) = 1 := by
  rcases hN with rfl | rfl | rfl
  · exact ⟨⟨.q1, by simp [un]⟩, rfl⟩
  · exact ⟨⟨.q2, by simp [un]⟩, rfl⟩
  · exact ⟨⟨.q3, by simp [un]⟩, rfl⟩
end
def tlB : IB → IB
  | .cons _ r => r
  | b => b
def FL : IB := tlB (L__law_form_4)
theorem FL_split : L__law_form_4 = (.cons (.set 9 (.lc false [6] (.nm 6) (.rng1 (.var 1)) (.cB true) E__law_form_3))
  FL) := rfl
def FM : IB := tlB (tlB FL)
theorem FM_split : FL = (.cons (.par [6, 7, 12] (.cons (.cal i__law_draw (.ref 0 (.cons (.var 1) .nil)) .nil []) (.cons (.cal i__law_draw (.ref 0 (.cons (.var 1) .nil)) .nil []) (.cons (.cal i__law_pick (.ref 0 (.cons (.lst (.cons (.cI 1) (.cons (.neg (.cI 1)) (.cons (.cI 2) (.cons (.neg (.cI 2)) (.cons (.cI 3) .nil)))))) .nil)) .nil []) .nil))))
  (.cons (.sub 9 (.var 6) (.cal i__law_plus (.cons (.idx (.var 9) (.var 6)) (.cons (.idx (.var 9) (.var 7)) (.cons (.ife (.cmp .ne (.var 6) (.var 7)) (.var 12) (.neg (.cI 2))) .nil))) .nil []))
  FM)) := rfl
theorem gr_get {m : List (List Int)} {a : Nat} (h : a < m.length) : (m.map tI)[a]? = some (tI (gr m a)) := by
  rw [List.getElem?_map, gr, List.getD, List.getElem?_eq_getElem h]
  rfl
theorem gr_len {N : Nat} {m : List (List Int)} (hs : Sq N m) {a : Nat} (h : a < N) : (gr m a).length = N := by
  have hl := hs.len
  refine hs.rl _ ?_
  rw [gr, List.getD, List.getElem?_eq_getElem (by omega)]
  exact List.getElem_mem _
theorem Lo_of {x : Int} (h : -20 ≤ x ∧ x ≤ 20) : Lo x := by unfold Lo; omega
section
variable {n : Nat} {cs : List Int} {d d0 : Int} {Q : W → List W → Prop} {N : Nat} {M : PD} {ln : List Int → List Int → Int}
theorem fm (F : FF N M ln) {m : List (List Int)} (C : Mz 4 N m) (hd : dtm m ≠ 0) {kk : Mn.K} {s0 s3 s4 s5 s8 s11 s12 s13 : Option W} {g6 g7 : Option PD}
    (h : ∀ M ln (s9 s13 : Option W), FF N M ln → kk.nx [s0, some (.d (.int (N : Int))), some (.d (.int 20)), s3, s4, s5, Option.map W.d g6, Option.map W.d g7, s8, s9, some (.d M), s11, s12, s13, none, none, none, none]) :
    evB ⟨callN TB (n + 7)⟩ FM [s0, some (.d (.int (N : Int))), some (.d (.int 20)), s3, s4, s5, Option.map W.d g6, Option.map W.d g7, s8, some (.ol (m.map fun r => .d (tI r))), some (.d M), s11, s12, s13, none, none, none, none] kk := by
  have nx := F.nxt C.sq hd
  have hs : Sq N (m.map fun r => m.map fun r' => ln r r') := by cases C.sq <;> constructor
  have key : (∀ r ∈ (m.map fun r => m.map fun r' => ln r r'), ∀ z ∈ r, -20 ≤ z ∧ z ≤ 20) → ∃ ln', FF N (tII (m.map fun r => m.map fun r' => ln r r')) ln' := fun hb => by
    obtain ⟨ln', F', _⟩ := nx fun r hr r' hr' => Lo_of (hb _ (List.mem_map.mpr ⟨r, hr, rfl⟩) _ (List.mem_map.mpr ⟨r', hr', rfl⟩))
    exact ⟨ln', F'⟩
  have L : ∀ (n : Nat) (Q : W → List W → Prop), callN TB (n + 4) i__law_changed [.d M, .d (.list (m.map tI))] Q = Q (.d (tII (m.map fun r => m.map fun r' => ln r r'))) [] := fun n Q => F.sf.lchgL (n := n) (Q := Q) C (by omega)
  clear nx
  generalize (m.map fun r => m.map fun r' => ln r r') = q at hs key L
  simp only [FM, FL, tlB]
  simp [pds_tm, L]
  have g : ∀ z : Int, (z.natAbs : Int) ≤ 20 → -20 ≤ z ∧ z ≤ 20 := fun z hz => by omega
  cases hs with
  | @q1 s =>
    simp
    by_cases hb : (s.natAbs : Int) ≤ 20
    · obtain ⟨ln', F'⟩ := key (by simp only [List.mem_cons, List.not_mem_nil, or_false, forall_eq_or_imp, forall_eq]; omega)
      simp [hb]
      exact h _ _ _ _ F'
    · simp [hb]
      exact h _ _ _ _ F
  | @q2 p q r s =>
    simp
    by_cases hb : max (p.natAbs : Int) (max (q.natAbs : Int) (max (r.natAbs : Int) s.natAbs)) ≤ 20
    · have hb' := hb
      simp only [Int.max_le] at hb'
      obtain ⟨ln', F'⟩ := key (by
        simp only [List.mem_cons, List.not_mem_nil, or_false, forall_eq_or_imp, forall_eq]
        exact ⟨⟨g _ hb'.1, g _ hb'.2.1⟩, g _ hb'.2.2.1, g _ hb'.2.2.2⟩)
      simp [hb]
      exact h _ _ _ _ F'
    · simp [hb]
      exact h _ _ _ _ F
  | @q3 p q r s t u v w x =>
    simp
    by_cases hb : max (p.natAbs : Int) (max (q.natAbs : Int) (max (r.natAbs : Int) (max (s.natAbs : Int) (max (t.natAbs : Int) (max (u.natAbs : Int) (max (v.natAbs : Int) (max (w.natAbs : Int) (x.natAbs : Int)))))))) ≤ 20
    · have hb' := hb
      simp only [Int.max_le] at hb'
      obtain ⟨h1, h2, h3, h4, h5, h6, h7, h8, h9⟩ := hb'
      obtain ⟨ln', F'⟩ := key (by
        simp only [List.mem_cons, List.not_mem_nil, or_false, forall_eq_or_imp, forall_eq]
        exact ⟨⟨g _ h1, g _ h2, g _ h3⟩, ⟨g _ h4, g _ h5, g _ h6⟩, g _ h7, g _ h8, g _ h9⟩)
      simp [hb]
      exact h _ _ _ _ F'
    · simp [hb]
      exact h _ _ _ _ F
theorem fb0 (F : FF N M ln) {m : List (List Int)} (C : Mz 1 N m) (hd : dtm m = 1) (hc : cs.length ≤ 63) {kk : Mn.K} {s3 s4 s5 s8 s11 s12 s13 : Option W} {g6 g7 : Option PD}
    (h : ∀ M ln cs m d (g6 g7 : Option PD) (s9 s12 s13 : Option W), cs.length ≤ 63 → FF N M ln → kk.nx [some (dk cs m d), some (.d (.int (N : Int))), some (.d (.int 20)), s3, s4, s5, Option.map W.d g6, Option.map W.d g7, s8, s9, some (.d M), s11, s12, s13, none, none, none, none]) :
    evB ⟨callN TB (n + 7)⟩ FL [some (dk cs d d0), some (.d (.int (N : Int))), some (.d (.int 20)), s3, s4, s5, Option.map W.d g6, Option.map W.d g7, s8, some (.ol (m.map fun r => .d (tI r))), some (.d M), s11, s12, s13, none, none, none, none] kk := by
  have hN := F.sf.n3
  have hl := C.sq.len
  rw [FM_split]
  simp
  refine sp_drw hc (by omega) (by omega) fun i cs m1 d hc hi0 hi1 => ?_
  simp
  refine sp_drw hc (by omega) (by omega) fun j cs m1 d hc hj0 hj1 => ?_
  simp
  refine sp_pck hc (by simp) (by simp) fun x cs m1 d hc hx => ?_
  obtain ⟨a, rfl⟩ : ∃ a : Nat, i = (a : Int) := ⟨i.toNat, by omega⟩
  obtain ⟨b, rfl⟩ : ∃ b : Nat, j = (b : Int) := ⟨j.toNat, by omega⟩
  have ha : a < N := by omega
  have hb : b < N := by omega
  obtain ⟨t, rfl, ht⟩ : ∃ t : Int, x = .int t ∧ (t = 1 ∨ t = -1 ∨ t = 2 ∨ t = -2 ∨ t = 3) := by
    simp at hx
    rcases hx with rfl | rfl | rfl | rfl | rfl <;> exact ⟨_, rfl, by omega⟩
  clear hx
  have ga := gr_get (m := m) (a := a) (by omega)
  have gb := gr_get (m := m) (a := b) (by omega)
  have st : Sm t := Sm_of (by omega) (by omega)
  have P := fun (n : Nat) (Q : W → List W → Prop) (t : Int) (st : Sm t) => plus_s (n := n) (Q := Q) (gr_len C.sq ha) (gr_len C.sq hb) hN.2 st
  have S := fun (b : Nat) (t : Int) => (subR_m (m := m) (i := a) (by omega) (v := ((gr m a).zip (gr m b)).map fun z => z.1 + t * z.2) : _ = some ((rop m a b t).map fun r => W.d (tI r)))
  by_cases e : a = b
  · subst e
    have R := rop_sq C.sq (t := -2) ha ha
    have P2 := fun (n : Nat) (Q : W → List W → Prop) => P n Q (-2) (by unfold Sm; decide)
    simp [allD_m', ga, P2, S a (-2)]
    refine fm (m := rop m a a (-2)) (g6 := some _) (g7 := some _) F ⟨R.1, rop_bd C.sq ha ha (by omega) C.bd⟩ (by rw [R.2.2 rfl, hd]; decide) fun M ln s9 s13 F => ?_
    exact h _ _ _ _ _ (some _) (some _) _ _ _ hc F
  · have R := rop_sq C.sq (t := t) ha hb
    have e' : ¬((a : Int) = b) := by omega
    have P2 := fun (n : Nat) (Q : W → List W → Prop) => P n Q t st
    simp [allD_m', ga, gb, e', P2, S b t]
    refine fm (m := rop m a b t) (g6 := some _) (g7 := some _) F ⟨R.1, rop_bd C.sq ha hb ht C.bd⟩ (by rw [R.2.1 e, hd]; decide) fun M ln s9 s13 F => ?_
    exact h _ _ _ _ _ (some _) (some _) _ _ _ hc F
end
end Mn.R

set_option linter.all false
set_option Elab.async false
set_option maxRecDepth 100000
set_option maxHeartbeats 16000000
set_option exponentiation.threshold 5000
namespace Mn.R
open PySem
def FT : IB := tlB (tlB (tlB (tlB (b__law_form))))
theorem FT_split : b__law_form = (.cons (.par [3, 4] (.cons (.cal i__law_pick (.ref 0 (.cons (.lst (.cons (.fzE (.lst (.cons (.cI 0) (.cons (.cI 1) (.cons (.cI 1) (.cons (.cI 2) .nil)))))) (.cons (.fzE (.lst (.cons (.cI 0) (.cons (.cI 0) (.cons (.cI 1) (.cons (.cI 3) .nil)))))) (.cons (.fzE (.lst (.cons (.cI 1) (.cons (.cI 2) (.cons (.cI 3) (.cons (.cI 5) .nil)))))) (.cons (.fzE (.lst (.cons (.cI 0) (.cons (.cI 1) (.cons (.cI 4) (.cons (.cI 7) .nil)))))) .nil))))) .nil)) .nil []) (.cons (.cal i__law_draw (.ref 0 (.cons (.cI 4) .nil)) .nil []) .nil)))
  (.cons (.set 5 (.lc true [6] (.nm 6) (.rng1 (.var 1)) (.cB true) E__law_form_15))
  (.cons (.fora (.nm 6) (.rng1 (.var 1)) L__law_form_14)
  (.cons (.ife (.cmp .eq (.var 4) (.cI 0)) (.cons (.set 9 (.lc false [6] (.nm 6) (.rng1 (.var 1)) (.cB true) E__law_form_12))
  (.cons (.set 5 (.lc true [14] (.nm 14) (.seq (.var 9)) (.cB true) E__law_form_10))
  .nil)) .nil)
  FT)))) := rfl
def FU : IB := tlB (tlB (FT))
theorem FU_split : FT = (.cons (.set 10 (.b1 .tuple (.lc false [16] (.nm 16) (.seq (.frz 5)) (.cB true) E__law_form_8)))
  (.cons (.ife (.orv (.cons (.cmp .le (.cal i__law_det (.cons (.var 10) .nil) .nil []) (.cI 0)) (.cons (.cmp .gt (.b1 .max (.lc false [16] (.nm 16) (.seq (.var 10)) (.cB true) E__law_form_5)) (.var 2)) .nil))) (.cons (.set 10 (.b1 .tuple (.lc false [6] (.nm 6) (.rng1 (.var 1)) (.cB true) E__law_form_7)))
  .nil) .nil)
  FU)) := rfl

theorem menu_ok {x : PD} (hx : x = .list [.int 0, .int 1, .int 1, .int 2] ∨ x = .list [.int 0, .int 0, .int 1, .int 3] ∨ x = .list [.int 1, .int 2, .int 3, .int 5] ∨ x = .list [.int 0, .int 1, .int 4, .int 7]) : ∃ ml : List PD, x = .list ml ∧ ml ≠ [] ∧ ml.length ≤ 1000000 ∧ ∀ y ∈ ml, ∃ k : Int, y = .int k ∧ 0 ≤ k ∧ k ≤ 7 := by
  rcases hx with rfl | rfl | rfl | rfl
  all_goals
    refine ⟨_, rfl, by simp, by simp, fun y hy => ?_⟩
    simp only [List.mem_cons, List.not_mem_nil, or_false] at hy
    rcases hy with rfl | rfl | rfl | rfl <;> exact ⟨_, rfl, by omega, by omega⟩
section
variable {n : Nat} {cs : List Int} {m d0 : Int} {Q : W → List W → Prop} {N : Nat} {M : PD} {ln : List Int → List Int → Int}
theorem both {G P : Prop} (h : G → P) (g : G) : P := h g
theorem fbody (hN : N = 1 ∨ N = 2 ∨ N = 3) (F : FF N M ln) (hc : cs.length ≤ 63) {kk : Mn.K} {s3 s4 s5 s8 s9 s11 s12 s13 : Option W} {g6 g7 : Option PD}
    (h : ∀ M ln cs m d (g6 g7 : Option PD) (s9 s12 s13 : Option W), cs.length ≤ 63 → FF N M ln → kk.nx [some (dk cs m d), some (.d (.int (N : Int))), some (.d (.int 20)), s3, s4, s5, Option.map W.d g6, Option.map W.d g7, s8, s9, some (.d M), s11, s12, s13, none, none, none, none]) :
    evB ⟨callN TB (n + 7)⟩ L__law_form_4 [some (dk cs m d0), some (.d (.int (N : Int))), some (.d (.int 20)), s3, s4, s5, Option.map W.d g6, Option.map W.d g7, s8, s9, some (.d M), s11, s12, s13, none, none, none, none] kk := by
  have U := un_sq hN
  rw [FL_split]
  rcases hN with rfl | rfl | rfl
  · simp
    exact fb0 F U.1 U.2 hc h
  · simp
    exact fb0 F U.1 U.2 hc h
  · simp
    exact fb0 F U.1 U.2 hc h
theorem floop (hN : N = 1 ∨ N = 2 ∨ N = 3) {kk : Mn.K} {s3 s4 s5 s8 : Option W}
    (h : ∀ M ln cs m d (g6 g7 : Option PD) (s9 s11 s12 s13 : Option W), cs.length ≤ 63 → FF N M ln → kk.nx [some (dk cs m d), some (.d (.int (N : Int))), some (.d (.int 20)), s3, s4, s5, Option.map W.d g6, Option.map W.d g7, s8, s9, some (.d M), s11, s12, s13, none, none, none, none]) :
    ∀ (xs : List Int) {cs : List Int} {m d0 : Int} {M : PD} {ln : List Int → List Int → Int} {s9 s11 s12 s13 : Option W} {g6 g7 : Option PD}, FF N M ln → cs.length ≤ 63 →
    forW (forStep ⟨callN TB (n + 7)⟩ (.nm 11) L__law_form_4) (xs.map .int) [some (dk cs m d0), some (.d (.int (N : Int))), some (.d (.int 20)), s3, s4, s5, Option.map W.d g6, Option.map W.d g7, s8, s9, some (.d M), s11, s12, s13, none, none, none, none] kk
  | [], _, _, _, _, _, _, _, _, _, _, _, F, hc => h _ _ _ _ _ _ _ _ _ _ _ hc F
  | x :: xs, cs, m, d0, M, ln, s9, s11, s12, s13, g6, g7, F, hc => by
    rw [List.map_cons, for_c, forStep_r, bt_nm, kFs_r]
    simp only [set_0, set_s]
    refine fbody hN F hc fun M ln cs m d g6 g7 s9 s12 s13 hc F => ?_
    rw [kFor_nx]
    exact floop hN h xs F hc
theorem fu (hN : N = 1 ∨ N = 2 ∨ N = 3) (F : FF N M ln) (hc : cs.length ≤ 63) {s3 s4 s5 s8 s9 : Option W} {g6 g7 : Option PD}
    (h : ∀ M ln cs m d, cs.length ≤ 63 → FF N M ln → Q (.d M) [dk cs m d]) :
    evB ⟨callN TB (n + 7)⟩ FU [some (dk cs m d0), some (.d (.int (N : Int))), some (.d (.int 20)), s3, s4, s5, Option.map W.d g6, Option.map W.d g7, s8, s9, some (.d M), none, none, none, none, none, none, none] (kQ1 Q) := by
  simp only [FU, FT, b__law_form, tlB]
  simp [-for_c]
  refine sp_pck hc (by simp) (by simp) fun x cs m d hc hx => ?_
  obtain ⟨k, rfl, hk⟩ : ∃ k : Int, x = .int k ∧ 0 ≤ k ∧ k ≤ 12 := by
    simp at hx
    rcases hx with rfl | rfl | rfl | rfl <;> exact ⟨_, rfl, by omega⟩
  simp [-for_c]
  refine ⟨by omega, by omega, ?_⟩
  rw [map_rng]
  refine floop hN (fun M ln cs m d g6 g7 s9 s11 s12 s13 hc F => ?_) _ F hc
  simp
  exact h _ _ _ _ _ hc F
theorem ft1 {a : Int} (la : Lo a) (hc : cs.length ≤ 63) {s3 s4 s8 s9 : Option W} {g6 g7 : Option PD}
    (h : ∀ M ln cs m d, cs.length ≤ 63 → FF 1 M ln → Q (.d M) [dk cs m d]) :
    evB ⟨callN TB (n + 7)⟩ FT [some (dk cs m d0), some (.d (.int 1)), some (.d (.int 20)), s3, s4, some (.ol [.ol [.d (.int a)]]), Option.map W.d g6, Option.map W.d g7, s8, s9, none, none, none, none, none, none, none, none] (kQ1 Q) := by
  have sa := la.sm
  rw [FU_split]
  simp [ld1]
  by_cases hD : a ≤ 0
  · simp [hD]
    refine sp_drw hc (by omega) (by omega) fun r0 cs m d hc _ _ => ?_
    simp
    exact fu (N := 1) (by omega) (.f1 (by omega) (Lo_of (by omega))) hc h
  · simp [hD]
    by_cases hm : 20 < a
    · simp [hm]
      refine sp_drw hc (by omega) (by omega) fun r0 cs m d hc _ _ => ?_
      simp
      exact fu (N := 1) (by omega) (.f1 (by omega) (Lo_of (by omega))) hc h
    · simp [hm]
      exact fu (N := 1) (by omega) (.f1 (by omega) la) hc h
theorem ft2 {a b c : Int} (h1 : 0 ≤ a) (la : Lo a) (lb : Lo b) (lc : Lo c) (hc : cs.length ≤ 63) {s3 s4 s8 s9 : Option W} {g6 g7 : Option PD}
    (h : ∀ M ln cs m d, cs.length ≤ 63 → FF 2 M ln → Q (.d M) [dk cs m d]) :
    evB ⟨callN TB (n + 7)⟩ FT [some (dk cs m d0), some (.d (.int 2)), some (.d (.int 20)), s3, s4, some (.ol [.ol [.d (.int a), .d (.int b)], .ol [.d (.int b), .d (.int c)]]), Option.map W.d g6, Option.map W.d g7, s8, s9, none, none, none, none, none, none, none, none] (kQ1 Q) := by
  have sa := la.sm
  have sb := lb.sm
  have sc := lc.sm
  rw [FU_split]
  simp [ld2 sa sb]
  by_cases hD : a * c - b * b ≤ 0
  · simp [hD]
    refine sp_drw hc (by omega) (by omega) fun r0 cs m d hc _ _ => ?_
    simp
    refine sp_drw hc (by omega) (by omega) fun r1 cs m d hc _ _ => ?_
    simp
    exact fu (N := 2) (by omega) (.f2 (by omega) (by have := Int.mul_pos (show 0 < r0 + 1 by omega) (show 0 < r1 + 1 by omega); simpa using this) (Lo_of (by omega)) (Lo_of (by omega)) (Lo_of (by omega))) hc h
  · simp [hD]
    by_cases hm : 20 < max a (max b c)
    · simp [hm]
      refine sp_drw hc (by omega) (by omega) fun r0 cs m d hc _ _ => ?_
      simp
      refine sp_drw hc (by omega) (by omega) fun r1 cs m d hc _ _ => ?_
      simp
      exact fu (N := 2) (by omega) (.f2 (by omega) (by have := Int.mul_pos (show 0 < r0 + 1 by omega) (show 0 < r1 + 1 by omega); simpa using this) (Lo_of (by omega)) (Lo_of (by omega)) (Lo_of (by omega))) hc h
    · simp [hm]
      exact fu (N := 2) (by omega) (.f2 (psd2 h1 (Int.not_le.mp hD)) (Int.not_le.mp hD) la lb lc) hc h
theorem ft3 {a b c d e f : Int} (h1 : 0 ≤ a) (h2 : 0 ≤ d) (h3 : 0 ≤ a * d - b * b) (la : Lo a) (lb : Lo b) (lc : Lo c) (ld : Lo d) (le : Lo e) (lf : Lo f) (hc : cs.length ≤ 63) {s3 s4 s8 s9 : Option W} {g6 g7 : Option PD}
    (h : ∀ M ln cs m d, cs.length ≤ 63 → FF 3 M ln → Q (.d M) [dk cs m d]) :
    evB ⟨callN TB (n + 7)⟩ FT [some (dk cs m d0), some (.d (.int 3)), some (.d (.int 20)), s3, s4, some (.ol [.ol [.d (.int a), .d (.int b), .d (.int c)], .ol [.d (.int b), .d (.int d), .d (.int e)], .ol [.d (.int c), .d (.int e), .d (.int f)]]), Option.map W.d g6, Option.map W.d g7, s8, s9, none, none, none, none, none, none, none, none] (kQ1 Q) := by
  have sa := la.sm
  have sb := lb.sm
  have sc := lc.sm
  have sd := ld.sm
  have se := le.sm
  have sf := lf.sm
  rw [FU_split]
  simp [ld3 sa sb sc sb sd se]
  by_cases hD : a * (d * f - e * e) - b * (b * f - e * c) + c * (b * e - d * c) ≤ 0
  · simp [hD]
    refine sp_drw hc (by omega) (by omega) fun r0 cs m d hc _ _ => ?_
    simp
    refine sp_drw hc (by omega) (by omega) fun r1 cs m d hc _ _ => ?_
    simp
    refine sp_drw hc (by omega) (by omega) fun r2 cs m d hc _ _ => ?_
    simp
    exact fu (N := 3) (by omega) (.f3 (by omega) (by have := Int.mul_pos (show 0 < r0 + 1 by omega) (show 0 < r1 + 1 by omega); simpa using this) (by have := Int.mul_pos (show 0 < r0 + 1 by omega) (Int.mul_pos (show 0 < r1 + 1 by omega) (show 0 < r2 + 1 by omega)); simpa using this) (Lo_of (by omega)) (Lo_of (by omega)) (Lo_of (by omega)) (Lo_of (by omega)) (Lo_of (by omega)) (Lo_of (by omega))) hc h
  · simp [hD]
    by_cases hm : 20 < max a (max b (max c (max b (max d (max e (max c (max e f)))))))
    · simp [hm]
      refine sp_drw hc (by omega) (by omega) fun r0 cs m d hc _ _ => ?_
      simp
      refine sp_drw hc (by omega) (by omega) fun r1 cs m d hc _ _ => ?_
      simp
      refine sp_drw hc (by omega) (by omega) fun r2 cs m d hc _ _ => ?_
      simp
      exact fu (N := 3) (by omega) (.f3 (by omega) (by have := Int.mul_pos (show 0 < r0 + 1 by omega) (show 0 < r1 + 1 by omega); simpa using this) (by have := Int.mul_pos (show 0 < r0 + 1 by omega) (Int.mul_pos (show 0 < r1 + 1 by omega) (show 0 < r2 + 1 by omega)); simpa using this) (Lo_of (by omega)) (Lo_of (by omega)) (Lo_of (by omega)) (Lo_of (by omega)) (Lo_of (by omega)) (Lo_of (by omega))) hc h
    · simp [hm]
      exact fu (N := 3) (by omega) (.f3 (psd3 h1 h2 h3 (Int.not_le.mp hD)).1 (psd3 h1 h2 h3 (Int.not_le.mp hD)).2 (Int.not_le.mp hD) la lb lc ld le lf) hc h
end
end Mn.R

set_option linter.all false
set_option Elab.async false
set_option maxRecDepth 100000
set_option maxHeartbeats 16000000
set_option exponentiation.threshold 5000
namespace Mn.R
open PySem
theorem g9 {x y : Int} (hx : -3 ≤ x ∧ x ≤ 3) (hy : -3 ≤ y ∧ y ≤ 3) : -9 ≤ x * y ∧ x * y ≤ 9 := by
  have : (x * y).natAbs ≤ 9 := by
    rw [Int.natAbs_mul]
    exact Nat.mul_le_mul (show x.natAbs ≤ 3 by omega) (show y.natAbs ≤ 3 by omega)
  omega
theorem lag3 (x0 x1 x2 x3 x4 x5 : Int) : 0 ≤ (x0 * x0 + x1 * x1 + x2 * x2) * (x3 * x3 + x4 * x4 + x5 * x5) - (x0 * x3 + x1 * x4 + x2 * x5) * (x0 * x3 + x1 * x4 + x2 * x5) := by
  have e : (x0 * x0 + x1 * x1 + x2 * x2) * (x3 * x3 + x4 * x4 + x5 * x5) - (x0 * x3 + x1 * x4 + x2 * x5) * (x0 * x3 + x1 * x4 + x2 * x5) = (x0 * x4 - x1 * x3) * (x0 * x4 - x1 * x3) + (x0 * x5 - x2 * x3) * (x0 * x5 - x2 * x3) + (x1 * x5 - x2 * x4) * (x1 * x5 - x2 * x4) := by grind
  rw [e]
  have := sq_nn (x0 * x4 - x1 * x3)
  have := sq_nn (x0 * x5 - x2 * x3)
  have := sq_nn (x1 * x5 - x2 * x4)
  omega
theorem obt3 {m0 m1 l0 l1 l2 : Int} (h0 : 0 ≤ m0) (h1 : 0 ≤ m1) (k0 : 0 ≤ l0) (k1 : 0 ≤ l1) (k2 : 0 ≤ l2) : 0 ≤ (m0 + l0 + l1) * (m1 + l0 + l2) - (-l0) * (-l0) := by
  have e : (m0 + l0 + l1) * (m1 + l0 + l2) - (-l0) * (-l0) = m0 * m1 + m0 * l0 + m0 * l2 + l0 * m1 + l0 * l2 + l1 * m1 + l1 * l0 + l1 * l2 := by grind
  rw [e]
  have := Int.mul_nonneg h0 h1
  have := Int.mul_nonneg h0 k0
  have := Int.mul_nonneg h0 k2
  have := Int.mul_nonneg k0 h1
  have := Int.mul_nonneg k0 k2
  have := Int.mul_nonneg k1 h1
  have := Int.mul_nonneg k1 k0
  have := Int.mul_nonneg k1 k2
  omega
section
variable {n : Nat} {cs : List Int} {m d0 : Int} {Q : W → List W → Prop}
theorem Lo_100 {x : Int} (h : -1000 ≤ x ∧ x ≤ 1000) : Lo x := by unfold Lo; omega
theorem fh1 (hc : cs.length ≤ 63) (h : ∀ M ln cs m d, cs.length ≤ 63 → FF 1 M ln → Q (.d M) [dk cs m d]) : callN TB (n + 8) i__law_form [dk cs m d0, .d (.int 1), .d (.int 20)] Q := by
  rw [in__law_form, FT_split]
  simp
  refine sp_pck hc (by simp) (by simp) fun mn cs m d0 hc hx => ?_
  simp only [List.mem_cons, List.not_mem_nil, or_false] at hx
  obtain ⟨ml, rfl, h0, h1, h2⟩ := menu_ok hx
  clear hx
  simp
  refine sp_drw hc (by omega) (by omega) fun way cs m d0 hc _ _ => ?_
  simp
  refine sp_pck hc h0 h1 fun x cs m d0 hc hx => ?_
  obtain ⟨m0, rfl, bm0, _⟩ := h2 _ hx
  clear hx
  simp
  clear h2 h1 h0
  by_cases hw : way = 0
  · simp [hw]
    refine sp_drw hc (by omega) (by omega) fun r0 cs m d hc _ _ => ?_
    simp
    obtain ⟨x0, e0, b0⟩ : ∃ x, r0 - 3 = x ∧ (-3 ≤ x ∧ x ≤ 3) := ⟨_, rfl, by omega, by omega⟩
    have s0 : Sm x0 := Sm_of (by omega) (by omega)
    simp only [e0]
    clear e0
    have D00 : ∀ (n : Nat) (Q : W → List W → Prop), callN TB (n + 1) i__law_dot [.d (.list [.int x0]), .d (.list [.int x0])] Q = Q (.d (.int (x0 * x0))) [] := fun n Q => by simp [in__law_dot, b__law_dot, s0]
    simp [D00]
    have := g9 b0 b0
    exact ft1 (g6 := some _) (g7 := none) (Lo_100 (by omega))  hc h
  · simp [hw]
    exact ft1 (g6 := some _) (g7 := none) (Lo_100 (by omega))  hc h
theorem fh2 (hc : cs.length ≤ 63) (h : ∀ M ln cs m d, cs.length ≤ 63 → FF 2 M ln → Q (.d M) [dk cs m d]) : callN TB (n + 8) i__law_form [dk cs m d0, .d (.int 2), .d (.int 20)] Q := by
  rw [in__law_form, FT_split]
  simp
  refine sp_pck hc (by simp) (by simp) fun mn cs m d0 hc hx => ?_
  simp only [List.mem_cons, List.not_mem_nil, or_false] at hx
  obtain ⟨ml, rfl, h0, h1, h2⟩ := menu_ok hx
  clear hx
  simp
  refine sp_drw hc (by omega) (by omega) fun way cs m d0 hc _ _ => ?_
  simp
  refine sp_pck hc h0 h1 fun x cs m d0 hc hx => ?_
  obtain ⟨m0, rfl, bm0, _⟩ := h2 _ hx
  clear hx
  simp
  refine sp_pck hc h0 h1 fun x cs m d0 hc hx => ?_
  obtain ⟨m1, rfl, bm1, _⟩ := h2 _ hx
  clear hx
  simp
  refine sp_pck hc h0 h1 fun x cs m d0 hc hx => ?_
  obtain ⟨l0, rfl, bl0, _⟩ := h2 _ hx
  clear hx
  simp
  clear h2 h1 h0
  by_cases hw : way = 0
  · simp [hw]
    refine sp_drw hc (by omega) (by omega) fun r0 cs m d hc _ _ => ?_
    simp
    refine sp_drw hc (by omega) (by omega) fun r1 cs m d hc _ _ => ?_
    simp
    refine sp_drw hc (by omega) (by omega) fun r2 cs m d hc _ _ => ?_
    simp
    refine sp_drw hc (by omega) (by omega) fun r3 cs m d hc _ _ => ?_
    simp
    obtain ⟨x0, e0, b0⟩ : ∃ x, r0 - 3 = x ∧ (-3 ≤ x ∧ x ≤ 3) := ⟨_, rfl, by omega, by omega⟩
    have s0 : Sm x0 := Sm_of (by omega) (by omega)
    obtain ⟨x1, e1, b1⟩ : ∃ x, r1 - 3 = x ∧ (-3 ≤ x ∧ x ≤ 3) := ⟨_, rfl, by omega, by omega⟩
    have s1 : Sm x1 := Sm_of (by omega) (by omega)
    obtain ⟨x2, e2, b2⟩ : ∃ x, r2 - 3 = x ∧ (-3 ≤ x ∧ x ≤ 3) := ⟨_, rfl, by omega, by omega⟩
    have s2 : Sm x2 := Sm_of (by omega) (by omega)
    obtain ⟨x3, e3, b3⟩ : ∃ x, r3 - 3 = x ∧ (-3 ≤ x ∧ x ≤ 3) := ⟨_, rfl, by omega, by omega⟩
    have s3 : Sm x3 := Sm_of (by omega) (by omega)
    simp only [e0, e1, e2, e3]
    clear e0 e1 e2 e3
    have D00 : ∀ (n : Nat) (Q : W → List W → Prop), callN TB (n + 1) i__law_dot [.d (.list [.int x0, .int x1]), .d (.list [.int x0, .int x1])] Q = Q (.d (.int (x0 * x0 + x1 * x1))) [] := fun n Q => by simp [in__law_dot, b__law_dot, s0, s1]
    have D01 : ∀ (n : Nat) (Q : W → List W → Prop), callN TB (n + 1) i__law_dot [.d (.list [.int x0, .int x1]), .d (.list [.int x2, .int x3])] Q = Q (.d (.int (x0 * x2 + x1 * x3))) [] := fun n Q => by simp [in__law_dot, b__law_dot, s0, s1]
    have D10 : ∀ (n : Nat) (Q : W → List W → Prop), callN TB (n + 1) i__law_dot [.d (.list [.int x2, .int x3]), .d (.list [.int x0, .int x1])] Q = Q (.d (.int (x0 * x2 + x1 * x3))) [] := fun n Q => by simp [in__law_dot, b__law_dot, s2, s3, Int.mul_comm x2 x0, Int.mul_comm x3 x1]
    have D11 : ∀ (n : Nat) (Q : W → List W → Prop), callN TB (n + 1) i__law_dot [.d (.list [.int x2, .int x3]), .d (.list [.int x2, .int x3])] Q = Q (.d (.int (x2 * x2 + x3 * x3))) [] := fun n Q => by simp [in__law_dot, b__law_dot, s2, s3]
    simp [D00, D01, D10, D11]
    have := g9 b0 b0
    have := g9 b1 b1
    have := g9 b0 b2
    have := g9 b1 b3
    have := g9 b2 b2
    have := g9 b3 b3
    exact ft2 (g6 := some _) (g7 := some _) (by have := sq_nn x0; have := sq_nn x1; omega) (Lo_100 (by omega)) (Lo_100 (by omega)) (Lo_100 (by omega))  hc h
  · simp [hw]
    exact ft2 (g6 := some _) (g7 := some _) (by omega) (Lo_100 (by omega)) (Lo_100 (by omega)) (Lo_100 (by omega))  hc h
theorem fh3 (hc : cs.length ≤ 63) (h : ∀ M ln cs m d, cs.length ≤ 63 → FF 3 M ln → Q (.d M) [dk cs m d]) : callN TB (n + 8) i__law_form [dk cs m d0, .d (.int 3), .d (.int 20)] Q := by
  rw [in__law_form, FT_split]
  simp
  refine sp_pck hc (by simp) (by simp) fun mn cs m d0 hc hx => ?_
  simp only [List.mem_cons, List.not_mem_nil, or_false] at hx
  obtain ⟨ml, rfl, h0, h1, h2⟩ := menu_ok hx
  clear hx
  simp
  refine sp_drw hc (by omega) (by omega) fun way cs m d0 hc _ _ => ?_
  simp
  refine sp_pck hc h0 h1 fun x cs m d0 hc hx => ?_
  obtain ⟨m0, rfl, bm0, _⟩ := h2 _ hx
  clear hx
  simp
  refine sp_pck hc h0 h1 fun x cs m d0 hc hx => ?_
  obtain ⟨m1, rfl, bm1, _⟩ := h2 _ hx
  clear hx
  simp
  refine sp_pck hc h0 h1 fun x cs m d0 hc hx => ?_
  obtain ⟨l0, rfl, bl0, _⟩ := h2 _ hx
  clear hx
  simp
  refine sp_pck hc h0 h1 fun x cs m d0 hc hx => ?_
  obtain ⟨m2, rfl, bm2, _⟩ := h2 _ hx
  clear hx
  simp
  refine sp_pck hc h0 h1 fun x cs m d0 hc hx => ?_
  obtain ⟨l1, rfl, bl1, _⟩ := h2 _ hx
  clear hx
  simp
  refine sp_pck hc h0 h1 fun x cs m d0 hc hx => ?_
  obtain ⟨l2, rfl, bl2, _⟩ := h2 _ hx
  clear hx
  simp
  clear h2 h1 h0
  by_cases hw : way = 0
  · simp [hw]
    refine sp_drw hc (by omega) (by omega) fun r0 cs m d hc _ _ => ?_
    simp
    refine sp_drw hc (by omega) (by omega) fun r1 cs m d hc _ _ => ?_
    simp
    refine sp_drw hc (by omega) (by omega) fun r2 cs m d hc _ _ => ?_
    simp
    refine sp_drw hc (by omega) (by omega) fun r3 cs m d hc _ _ => ?_
    simp
    refine sp_drw hc (by omega) (by omega) fun r4 cs m d hc _ _ => ?_
    simp
    refine sp_drw hc (by omega) (by omega) fun r5 cs m d hc _ _ => ?_
    simp
    refine sp_drw hc (by omega) (by omega) fun r6 cs m d hc _ _ => ?_
    simp
    refine sp_drw hc (by omega) (by omega) fun r7 cs m d hc _ _ => ?_
    simp
    refine sp_drw hc (by omega) (by omega) fun r8 cs m d hc _ _ => ?_
    simp
    obtain ⟨x0, e0, b0⟩ : ∃ x, r0 - 3 = x ∧ (-3 ≤ x ∧ x ≤ 3) := ⟨_, rfl, by omega, by omega⟩
    have s0 : Sm x0 := Sm_of (by omega) (by omega)
    obtain ⟨x1, e1, b1⟩ : ∃ x, r1 - 3 = x ∧ (-3 ≤ x ∧ x ≤ 3) := ⟨_, rfl, by omega, by omega⟩
    have s1 : Sm x1 := Sm_of (by omega) (by omega)
    obtain ⟨x2, e2, b2⟩ : ∃ x, r2 - 3 = x ∧ (-3 ≤ x ∧ x ≤ 3) := ⟨_, rfl, by omega, by omega⟩
    have s2 : Sm x2 := Sm_of (by omega) (by omega)
    obtain ⟨x3, e3, b3⟩ : ∃ x, r3 - 3 = x ∧ (-3 ≤ x ∧ x ≤ 3) := ⟨_, rfl, by omega, by omega⟩
    have s3 : Sm x3 := Sm_of (by omega) (by omega)
    obtain ⟨x4, e4, b4⟩ : ∃ x, r4 - 3 = x ∧ (-3 ≤ x ∧ x ≤ 3) := ⟨_, rfl, by omega, by omega⟩
    have s4 : Sm x4 := Sm_of (by omega) (by omega)
    obtain ⟨x5, e5, b5⟩ : ∃ x, r5 - 3 = x ∧ (-3 ≤ x ∧ x ≤ 3) := ⟨_, rfl, by omega, by omega⟩
    have s5 : Sm x5 := Sm_of (by omega) (by omega)
    obtain ⟨x6, e6, b6⟩ : ∃ x, r6 - 3 = x ∧ (-3 ≤ x ∧ x ≤ 3) := ⟨_, rfl, by omega, by omega⟩
    have s6 : Sm x6 := Sm_of (by omega) (by omega)
    obtain ⟨x7, e7, b7⟩ : ∃ x, r7 - 3 = x ∧ (-3 ≤ x ∧ x ≤ 3) := ⟨_, rfl, by omega, by omega⟩
    have s7 : Sm x7 := Sm_of (by omega) (by omega)
    obtain ⟨x8, e8, b8⟩ : ∃ x, r8 - 3 = x ∧ (-3 ≤ x ∧ x ≤ 3) := ⟨_, rfl, by omega, by omega⟩
    have s8 : Sm x8 := Sm_of (by omega) (by omega)
    simp only [e0, e1, e2, e3, e4, e5, e6, e7, e8]
    clear e0 e1 e2 e3 e4 e5 e6 e7 e8
    have D00 : ∀ (n : Nat) (Q : W → List W → Prop), callN TB (n + 1) i__law_dot [.d (.list [.int x0, .int x1, .int x2]), .d (.list [.int x0, .int x1, .int x2])] Q = Q (.d (.int (x0 * x0 + x1 * x1 + x2 * x2))) [] := fun n Q => by simp [in__law_dot, b__law_dot, s0, s1, s2, Int.add_assoc]
    have D01 : ∀ (n : Nat) (Q : W → List W → Prop), callN TB (n + 1) i__law_dot [.d (.list [.int x0, .int x1, .int x2]), .d (.list [.int x3, .int x4, .int x5])] Q = Q (.d (.int (x0 * x3 + x1 * x4 + x2 * x5))) [] := fun n Q => by simp [in__law_dot, b__law_dot, s0, s1, s2, Int.add_assoc]
    have D02 : ∀ (n : Nat) (Q : W → List W → Prop), callN TB (n + 1) i__law_dot [.d (.list [.int x0, .int x1, .int x2]), .d (.list [.int x6, .int x7, .int x8])] Q = Q (.d (.int (x0 * x6 + x1 * x7 + x2 * x8))) [] := fun n Q => by simp [in__law_dot, b__law_dot, s0, s1, s2, Int.add_assoc]
    have D10 : ∀ (n : Nat) (Q : W → List W → Prop), callN TB (n + 1) i__law_dot [.d (.list [.int x3, .int x4, .int x5]), .d (.list [.int x0, .int x1, .int x2])] Q = Q (.d (.int (x0 * x3 + x1 * x4 + x2 * x5))) [] := fun n Q => by simp [in__law_dot, b__law_dot, s3, s4, s5, Int.mul_comm x3 x0, Int.mul_comm x4 x1, Int.mul_comm x5 x2, Int.add_assoc]
    have D11 : ∀ (n : Nat) (Q : W → List W → Prop), callN TB (n + 1) i__law_dot [.d (.list [.int x3, .int x4, .int x5]), .d (.list [.int x3, .int x4, .int x5])] Q = Q (.d (.int (x3 * x3 + x4 * x4 + x5 * x5))) [] := fun n Q => by simp [in__law_dot, b__law_dot, s3, s4, s5, Int.add_assoc]
    have D12 : ∀ (n : Nat) (Q : W → List W → Prop), callN TB (n + 1) i__law_dot [.d (.list [.int x3, .int x4, .int x5]), .d (.list [.int x6, .int x7, .int x8])] Q = Q (.d (.int (x3 * x6 + x4 * x7 + x5 * x8))) [] := fun n Q => by simp [in__law_dot, b__law_dot, s3, s4, s5, Int.add_assoc]
    have D20 : ∀ (n : Nat) (Q : W → List W → Prop), callN TB (n + 1) i__law_dot [.d (.list [.int x6, .int x7, .int x8]), .d (.list [.int x0, .int x1, .int x2])] Q = Q (.d (.int (x0 * x6 + x1 * x7 + x2 * x8))) [] := fun n Q => by simp [in__law_dot, b__law_dot, s6, s7, s8, Int.mul_comm x6 x0, Int.mul_comm x7 x1, Int.mul_comm x8 x2, Int.add_assoc]
    have D21 : ∀ (n : Nat) (Q : W → List W → Prop), callN TB (n + 1) i__law_dot [.d (.list [.int x6, .int x7, .int x8]), .d (.list [.int x3, .int x4, .int x5])] Q = Q (.d (.int (x3 * x6 + x4 * x7 + x5 * x8))) [] := fun n Q => by simp [in__law_dot, b__law_dot, s6, s7, s8, Int.mul_comm x6 x3, Int.mul_comm x7 x4, Int.mul_comm x8 x5, Int.add_assoc]
    have D22 : ∀ (n : Nat) (Q : W → List W → Prop), callN TB (n + 1) i__law_dot [.d (.list [.int x6, .int x7, .int x8]), .d (.list [.int x6, .int x7, .int x8])] Q = Q (.d (.int (x6 * x6 + x7 * x7 + x8 * x8))) [] := fun n Q => by simp [in__law_dot, b__law_dot, s6, s7, s8, Int.add_assoc]
    simp [D00, D01, D02, D10, D11, D12, D20, D21, D22]
    have := g9 b0 b0
    have := g9 b1 b1
    have := g9 b2 b2
    have := g9 b0 b3
    have := g9 b1 b4
    have := g9 b2 b5
    have := g9 b0 b6
    have := g9 b1 b7
    have := g9 b2 b8
    have := g9 b3 b3
    have := g9 b4 b4
    have := g9 b5 b5
    have := g9 b3 b6
    have := g9 b4 b7
    have := g9 b5 b8
    have := g9 b6 b6
    have := g9 b7 b7
    have := g9 b8 b8
    exact ft3 (g6 := some _) (g7 := some _) (by have := sq_nn x0; have := sq_nn x1; have := sq_nn x2; omega) (by have := sq_nn x3; have := sq_nn x4; have := sq_nn x5; omega) (lag3 _ _ _ _ _ _) (Lo_100 (by omega)) (Lo_100 (by omega)) (Lo_100 (by omega)) (Lo_100 (by omega)) (Lo_100 (by omega)) (Lo_100 (by omega))  hc h
  · simp [hw]
    exact ft3 (g6 := some _) (g7 := some _) (by omega) (by omega) (obt3 bm0 bm1 bl0 bl1 bl2) (Lo_100 (by omega)) (Lo_100 (by omega)) (Lo_100 (by omega)) (Lo_100 (by omega)) (Lo_100 (by omega)) (Lo_100 (by omega))  hc h
end
theorem form_s {n : Nat} {cs : List Int} {m d0 : Int} {Q : W → List W → Prop} {N : Nat} (hN : N = 1 ∨ N = 2 ∨ N = 3) (hc : cs.length ≤ 63) (h : ∀ M ln cs m d, cs.length ≤ 63 → FF N M ln → Q (.d M) [dk cs m d]) : callN TB (n + 8) i__law_form [dk cs m d0, .d (.int (N : Int)), .d (.int 20)] Q := by
  rcases hN with rfl | rfl | rfl
  · exact fh1 hc h
  · exact fh2 hc h
  · exact fh3 hc h
end Mn.R

set_option linter.all false
set_option Elab.async false
set_option maxRecDepth 100000
set_option maxHeartbeats 16000000
set_option exponentiation.threshold 5000
namespace Mn.R
open PySem
def swp (m : List (List Int)) (i j : Nat) : List (List Int) := (m.set i (gr m j)).set j (gr m i)
theorem swp_sq {N : Nat} {m : List (List Int)} (hs : Sq N m) {i j : Nat} (hi : i < N) (hj : j < N) : Sq N (swp m i j) ∧ (dtm (swp m i j) = dtm m ∨ dtm (swp m i j) = -dtm m) := by
  cases hs with
  | q1 =>
    obtain rfl : i = 0 := by omega
    obtain rfl : j = 0 := by omega
    exact ⟨.q1, .inl rfl⟩
  | q2 =>
    have hi' : i = 0 ∨ i = 1 := by omega
    have hj' : j = 0 ∨ j = 1 := by omega
    rcases hi' with rfl | rfl <;> rcases hj' with rfl | rfl
    all_goals
      refine ⟨.q2, ?_⟩
      simp [swp, gr, dtm]
      try grind
  | q3 =>
    have hi' : i = 0 ∨ i = 1 ∨ i = 2 := by omega
    have hj' : j = 0 ∨ j = 1 ∨ j = 2 := by omega
    rcases hi' with rfl | rfl | rfl <;> rcases hj' with rfl | rfl | rfl
    all_goals
      refine ⟨.q3, ?_⟩
      simp [swp, gr, dtm]
      try grind
theorem gr_mem {m : List (List Int)} {i : Nat} (h : i < m.length) : gr m i ∈ m := by
  rw [gr, List.getD, List.getElem?_eq_getElem h]
  exact List.getElem_mem _
theorem swp_mem {m : List (List Int)} {i j : Nat} (hi : i < m.length) (hj : j < m.length) : ∀ r ∈ swp m i j, r ∈ m := by
  intro r hr
  rcases List.mem_or_eq_of_mem_set hr with hr | rfl
  · rcases List.mem_or_eq_of_mem_set hr with hr | rfl
    · exact hr
    · exact gr_mem hj
  · exact gr_mem hi
theorem Mz.mono {K K' : Int} {N : Nat} {m : List (List Int)} (C : Mz K N m) (h : K ≤ K') : Mz K' N m := ⟨C.sq, fun r hr z hz => by have := C.bd r hr z hz; omega⟩
section
variable {n : Nat} {cs : List Int} {d d0 : Int} {Q : W → List W → Prop} {N : Nat}
theorem cbody {m : List (List Int)} {K : Int} (C : Mz K N m) (hd : dtm m = 1 ∨ dtm m = -1) (hK : 0 ≤ K) (hc : cs.length ≤ 63) {kk : Mn.K} {s2 s4 s5 s6 s7 : Option W}
    (h : ∀ m cs d1 d (s5 s6 s7 : Option W), cs.length ≤ 63 → plO s5 = true → plO s6 = true → Mz (4 * K) N m → (dtm m = 1 ∨ dtm m = -1) → kk.nx [some (dk cs d1 d), some (.d (.int (N : Int))), s2, some (.ol (m.map fun r => .d (tI r))), s4, s5, s6, s7]) :
    evB ⟨callN TB (n + 3)⟩ L__law_change_0 [some (dk cs d d0), some (.d (.int (N : Int))), s2, some (.ol (m.map fun r => .d (tI r))), s4, s5, s6, s7] kk := by
  have hN := C.sq.n3
  have hl := C.sq.len
  simp
  refine sp_drw hc (by omega) (by omega) fun i cs m1 d hc hi0 hi1 => ?_
  simp
  refine sp_drw hc (by omega) (by omega) fun j cs m1 d hc hj0 hj1 => ?_
  simp
  refine sp_pck hc (by simp) (by simp) fun x cs m1 d hc hx => ?_
  obtain ⟨a, rfl⟩ : ∃ a : Nat, i = (a : Int) := ⟨i.toNat, by omega⟩
  obtain ⟨b, rfl⟩ : ∃ b : Nat, j = (b : Int) := ⟨j.toNat, by omega⟩
  have ha : a < N := by omega
  have hb : b < N := by omega
  obtain ⟨t, rfl, ht⟩ : ∃ t : Int, x = .int t ∧ (t = 0 ∨ t = 1 ∨ t = -1 ∨ t = 2) := by
    simp at hx
    rcases hx with rfl | rfl | rfl | rfl | rfl | rfl <;> exact ⟨_, rfl, by omega⟩
  clear hx
  have ga := gr_get (m := m) (a := a) (by omega)
  have gb := gr_get (m := m) (a := b) (by omega)
  by_cases t0 : t = 0
  · subst t0
    have R := swp_sq C.sq ha hb
    have S1 := (subR_m (m := m) (i := a) (by omega) (v := gr m b) : _ = some ((m.set a (gr m b)).map fun r => W.d (tI r)))
    have S2 : subR ((m.set a (gr m b)).map fun r => W.d (tI r)) (b : Int) (.d (tI (gr m a))) = some ((swp m a b).map fun r => W.d (tI r)) := subR_m (by rw [List.length_set]; omega)
    generalize m.set a (gr m b) = m2 at S1 S2
    simp [allD_m', ga, gb, S1, S2]
    refine h (swp m a b) _ _ _ _ _ _ hc rfl rfl ⟨R.1, fun r hr z hz => ?_⟩ ?_
    · have := C.bd r (swp_mem (by omega) (by omega) r hr) z hz
      omega
    · rcases hd with q | q <;> rcases R.2 with q' | q' <;> rw [q', q] <;> decide
  · have st : Sm t := Sm_of (by omega) (by omega)
    have P := fun (n : Nat) (Q : W → List W → Prop) (t : Int) (st : Sm t) => plus_s (n := n) (Q := Q) (gr_len C.sq ha) (gr_len C.sq hb) hN.2 st
    have S := fun (b : Nat) (t : Int) => (subR_m (m := m) (i := a) (by omega) (v := ((gr m a).zip (gr m b)).map fun z => z.1 + t * z.2) : _ = some ((rop m a b t).map fun r => W.d (tI r)))
    by_cases e : a = b
    · subst e
      have R := rop_sq C.sq (t := -2) ha ha
      have P2 := fun (n : Nat) (Q : W → List W → Prop) => P n Q (-2) (by unfold Sm; decide)
      simp [t0, allD_m', ga, P2, S a (-2)]
      refine h (rop m a a (-2)) _ _ _ _ _ _ hc rfl rfl ⟨R.1, rop_bd C.sq ha ha (by omega) C.bd⟩ ?_
      rw [R.2.2 rfl]
      rcases hd with q | q <;> rw [q] <;> decide
    · have R := rop_sq C.sq (t := t) ha hb
      have e' : ¬((a : Int) = b) := by omega
      have P2 := fun (n : Nat) (Q : W → List W → Prop) => P n Q t st
      simp [t0, allD_m', ga, gb, e', P2, S b t]
      refine h (rop m a b t) _ _ _ _ _ _ hc rfl rfl ⟨R.1, rop_bd C.sq ha hb (by omega) C.bd⟩ ?_
      rw [R.2.1 e]
      exact hd
theorem cloop {kk : Mn.K} {s2 : Option W} {B : Int}
    (h : ∀ m cs d1 d (s4 s5 s6 s7 : Option W), cs.length ≤ 63 → Mz B N m → (dtm m = 1 ∨ dtm m = -1) → kk.nx [some (dk cs d1 d), some (.d (.int (N : Int))), s2, some (.ol (m.map fun r => .d (tI r))), s4, s5, s6, s7]) :
    ∀ (xs : List Int) {m : List (List Int)} {K : Int} {cs : List Int} {d d0 : Int} {s4 s5 s6 s7 : Option W}, Mz K N m → (dtm m = 1 ∨ dtm m = -1) → 0 ≤ K → K * 4 ^ xs.length ≤ B → cs.length ≤ 63 →
    forW (forStep ⟨callN TB (n + 3)⟩ (.nm 4) L__law_change_0) (xs.map .int) [some (dk cs d d0), some (.d (.int (N : Int))), s2, some (.ol (m.map fun r => .d (tI r))), s4, s5, s6, s7] kk
  | [], m, K, _, _, _, _, _, _, _, C, hd, hK, hB, hc => h _ _ _ _ _ _ _ _ hc (C.mono (by simpa using hB)) hd
  | x :: xs, m, K, cs, d, d0, s4, s5, s6, s7, C, hd, hK, hB, hc => by
    rw [List.map_cons, for_c, forStep_r, bt_nm, kFs_r]
    simp only [set_0, set_s]
    refine cbody C hd hK hc fun m cs d1 d s5 s6 s7 hc _ _ C hd => ?_
    rw [kFor_nx]
    refine cloop h xs C hd (by omega) ?_ hc
    rw [List.length_cons] at hB
    have : 4 * K * 4 ^ xs.length = K * 4 ^ (xs.length + 1) := by rw [Int.pow_succ]; grind
    omega
theorem chg_s (hN : N = 1 ∨ N = 2 ∨ N = 3) (hc : cs.length ≤ 63) (h : ∀ m cs d1 d, cs.length ≤ 63 → Mz 64 N m → (dtm m = 1 ∨ dtm m = -1) → Q (.d (tII m)) [dk cs d1 d]) : callN TB (n + 4) i__law_change [dk cs d d0, .d (.int (N : Int)), .d (.int 3)] Q := by
  have U := un_sq hN
  have key : ∀ (k : Int), 0 ≤ k → k < 4 → ∀ (cs : List Int) (d d0 : Int), cs.length ≤ 63 → forW (forStep ⟨callN TB (n + 3)⟩ (.nm 4) L__law_change_0) ((List.range k.toNat).map fun i => PyData.int ((i : Nat) : Int)) [some (dk cs d d0), some (.d (.int (N : Int))), some (.d (.int 3)), some (.ol ((un N).map fun r => .d (tI r))), none, none, none, none] (kSeq ⟨callN TB (n + 3)⟩ (tlB (tlB b__law_change)) (kQ1 Q)) := by
    intro k h0 h1 cs d d0 hc
    rw [map_rng]
    refine cloop (B := 64) (fun m cs d1 d s4 s5 s6 s7 hc C hd => ?_) _ U.1 (.inl U.2) (by omega) ?_ hc
    · simp only [b__law_change, tlB]
      have := C.sq.len
      have := C.sq.n3
      simp [allD_m']
      try exact ⟨by omega, h m _ _ _ hc C hd⟩
      try exact h m _ _ _ hc C hd
    · rw [List.length_map, List.length_range]
      have : k = 0 ∨ k = 1 ∨ k = 2 ∨ k = 3 := by omega
      rcases this with rfl | rfl | rfl | rfl <;> decide
  rw [in__law_change, b__law_change]
  simp only [b__law_change, tlB] at key
  rcases hN with rfl | rfl | rfl
  · simp [-for_c]
    refine sp_drw hc (by omega) (by omega) fun k cs d d0 hc h0 h1 => ?_
    simp [-for_c]
    exact ⟨by omega, by omega, key k h0 h1 _ _ _ hc⟩
  · simp [-for_c]
    refine sp_drw hc (by omega) (by omega) fun k cs d d0 hc h0 h1 => ?_
    simp [-for_c]
    exact ⟨by omega, by omega, key k h0 h1 _ _ _ hc⟩
  · simp [-for_c]
    refine sp_drw hc (by omega) (by omega) fun k cs d d0 hc h0 h1 => ?_
    simp [-for_c]
    exact ⟨by omega, by omega, key k h0 h1 _ _ _ hc⟩
end
end Mn.R

set_option linter.all false
set_option Elab.async false
set_option maxRecDepth 100000
set_option maxHeartbeats 16000000
set_option exponentiation.threshold 5000
namespace Mn.R
open PySem
def GL : IB := tlB (tlB (L__law_coarse_3))
theorem GL_split : L__law_coarse_3 = (.cons (.par [5, 8, 9, 10] (.cons (.cal i__law_draw (.ref 0 (.cons (.var 1) .nil)) .nil []) (.cons (.cal i__law_draw (.ref 0 (.cons (.var 1) .nil)) .nil []) (.cons (.cal i__law_pick (.ref 0 (.cons (.lst (.cons (.cI 1) (.cons (.neg (.cI 1)) (.cons (.cI 1) (.cons (.cI 2) (.cons (.neg (.cI 2)) .nil)))))) .nil)) .nil []) (.cons (.cal i__law_draw (.ref 0 (.cons (.cI 3) .nil)) .nil []) .nil)))))
  (.cons (.set 11 (.b1 .list (.var 3)))
  GL)) := rfl
def GM : IB := tlB GL
theorem GM_split : GL = (.cons (.ife (.orv (.cons (.cmp .gt (.var 10) (.cI 0)) (.cons (.cmp .eq (.var 5) (.var 8)) .nil))) (.cons (.sub 11 (.var 5) (.cal i__law_plus (.cons (.idx (.var 3) (.var 5)) (.cons (.idx (.var 3) (.var 8)) (.cons (.ife (.cmp .ne (.var 5) (.var 8)) (.var 9) (.neg (.cI 2))) .nil))) .nil []))
  .nil) (.cons (.set 11 (.lc false [12] (.nm 12) (.seq (.var 3)) (.cB true) E__law_coarse_2))
  .nil))
  GM) := rfl
def ge (r : List Int) (i : Nat) : Int := r.getD i 0
def cr (r : List Int) (i j : Nat) (t : Int) : List Int := r.take j ++ [ge r j + t * ge r i] ++ r.drop (j + 1)
theorem ge_get {r : List Int} {a : Nat} (h : a < r.length) : (r.map PyData.int)[a]? = some (.int (ge r a)) := by
  rw [List.getElem?_map, ge, List.getD, List.getElem?_eq_getElem h]
  rfl
theorem cr_sq {N : Nat} {m : List (List Int)} (hs : Sq N m) {i j : Nat} {t : Int} (hi : i < N) (hj : j < N) (hij : i ≠ j) : Sq N (m.map fun r => cr r i j t) ∧ dtm (m.map fun r => cr r i j t) = dtm m := by
  cases hs with
  | q1 => omega
  | q2 =>
    have hi' : i = 0 ∨ i = 1 := by omega
    have hj' : j = 0 ∨ j = 1 := by omega
    rcases hi' with rfl | rfl <;> rcases hj' with rfl | rfl
    all_goals first | exact absurd rfl hij | skip
    all_goals
      refine ⟨.q2, ?_⟩
      simp [cr, ge, dtm]
      try grind
  | q3 =>
    have hi' : i = 0 ∨ i = 1 ∨ i = 2 := by omega
    have hj' : j = 0 ∨ j = 1 ∨ j = 2 := by omega
    rcases hi' with rfl | rfl | rfl <;> rcases hj' with rfl | rfl | rfl
    all_goals first | exact absurd rfl hij | skip
    all_goals
      refine ⟨.q3, ?_⟩
      simp [cr, ge, dtm]
      try grind
theorem cr_e {r : List Int} {i j : Nat} {t : Int} : PyData.tuple ((r.map PyData.int).take j ++ PyData.int (ge r j + t * ge r i) :: (r.map PyData.int).drop (j + 1)) = tI (cr r i j t) := by
  simp [tI, cr]
section
variable {n : Nat} {cs : List Int} {d d0 : Int} {Q : W → List W → Prop} {N : Nat}
theorem gm {m q : List (List Int)} (C : Mz 6 N m) (hd : dtm m ≠ 0) (hs : Sq N q) (hq : dtm q ≠ 0) {kk : Mn.K} {s0 s1 s2 s3 s4 s5 s7 s8 s9 s10 : Option W} {g6 : Option PD} (h3 : s3 = some (.ol (m.map fun r => .d (tI r))) ∨ s3 = some (.d (.list (m.map tI))))
    (h : ∀ m (s3 s11 : Option W), (s3 = some (.ol (m.map fun r => .d (tI r))) ∨ s3 = some (.d (.list (m.map tI)))) → Mz 6 N m → dtm m ≠ 0 → kk.nx [s0, s1, s2, s3, s4, s5, Option.map W.d g6, s7, s8, s9, s10, s11, none]) :
    evB ⟨callN TB (n + 3)⟩ GM [s0, s1, s2, s3, s4, s5, Option.map W.d g6, s7, s8, s9, s10, some (.ol (q.map fun r => .d (tI r))), none] kk := by
  have g : ∀ z : Int, (z.natAbs : Int) ≤ 6 → -6 ≤ z ∧ z ≤ 6 := fun z hz => by omega
  have key : (∀ r ∈ q, ∀ z ∈ r, -6 ≤ z ∧ z ≤ 6) → ∀ s11, kk.nx [s0, s1, s2, some (.d (.list (q.map tI))), s4, s5, Option.map W.d g6, s7, s8, s9, s10, s11, none] := fun hb s11 => h q _ s11 (.inr rfl) ⟨hs, hb⟩ hq
  simp only [GM, GL, tlB]
  simp [pds_tm]
  clear hq
  cases hs with
  | @q1 s =>
    simp
    by_cases hb : (s.natAbs : Int) ≤ 6
    · have k := key (by simp only [List.mem_cons, List.not_mem_nil, or_false, forall_eq_or_imp, forall_eq]; omega)
      simp [hb]
      exact k _
    · simp [hb]
      exact h _ _ _ h3 C hd
  | @q2 p q r s =>
    simp
    by_cases hb : max (p.natAbs : Int) (max (q.natAbs : Int) (max (r.natAbs : Int) s.natAbs)) ≤ 6
    · have hb' := hb
      simp only [Int.max_le] at hb'
      have k := key (by
        simp only [List.mem_cons, List.not_mem_nil, or_false, forall_eq_or_imp, forall_eq]
        exact ⟨⟨g _ hb'.1, g _ hb'.2.1⟩, g _ hb'.2.2.1, g _ hb'.2.2.2⟩)
      simp [hb]
      exact k _
    · simp [hb]
      exact h _ _ _ h3 C hd
  | @q3 p q r s t u v w x =>
    simp
    by_cases hb : max (p.natAbs : Int) (max (q.natAbs : Int) (max (r.natAbs : Int) (max (s.natAbs : Int) (max (t.natAbs : Int) (max (u.natAbs : Int) (max (v.natAbs : Int) (max (w.natAbs : Int) (x.natAbs : Int)))))))) ≤ 6
    · have hb' := hb
      simp only [Int.max_le] at hb'
      obtain ⟨h1, h2, h3, h4, h5, h6, h7, h8, h9⟩ := hb'
      have k := key (by
        simp only [List.mem_cons, List.not_mem_nil, or_false, forall_eq_or_imp, forall_eq]
        exact ⟨⟨g _ h1, g _ h2, g _ h3⟩, ⟨g _ h4, g _ h5, g _ h6⟩, g _ h7, g _ h8, g _ h9⟩)
      simp [hb]
      exact k _
    · simp [hb]
      exact h _ _ _ h3 C hd
theorem gl {m : List (List Int)} (C : Mz 6 N m) (hd : dtm m ≠ 0) {a b : Nat} (ha : a < N) (hb : b < N) {t w : Int} (ht : t = 1 ∨ t = -1 ∨ t = 2 ∨ t = -2) {kk : Mn.K} {s0 s2 s3 s4 s7 : Option W} {g6 : Option PD} (h3 : s3 = some (.ol (m.map fun r => .d (tI r))) ∨ s3 = some (.d (.list (m.map tI))))
    (h : ∀ m (s3 s5 s8 s9 s10 s11 : Option W), (s3 = some (.ol (m.map fun r => .d (tI r))) ∨ s3 = some (.d (.list (m.map tI)))) → Mz 6 N m → dtm m ≠ 0 → kk.nx [s0, some (.d (.int (N : Int))), s2, s3, s4, s5, Option.map W.d g6, s7, s8, s9, s10, s11, none]) :
    evB ⟨callN TB (n + 3)⟩ GL [s0, some (.d (.int (N : Int))), s2, s3, s4, some (.d (.int (a : Int))), Option.map W.d g6, s7, some (.d (.int (b : Int))), some (.d (.int t)), some (.d (.int w)), some (.ol (m.map fun r => .d (tI r))), none] kk := by
  have hN := C.sq.n3
  have hl := C.sq.len
  have ga := gr_get (m := m) (a := a) (by omega)
  have gb := gr_get (m := m) (a := b) (by omega)
  have st : Sm t := Sm_of (by omega) (by omega)
  have P := fun (n : Nat) (Q : W → List W → Prop) (t : Int) (st : Sm t) => plus_s (n := n) (Q := Q) (gr_len C.sq ha) (gr_len C.sq hb) hN.2 st
  have S := fun (b : Nat) (t : Int) => (subR_m (m := m) (i := a) (by omega) (v := ((gr m a).zip (gr m b)).map fun z => z.1 + t * z.2) : _ = some ((rop m a b t).map fun r => W.d (tI r)))
  rw [GM_split]
  by_cases e : a = b
  · subst e
    have R := rop_sq C.sq (t := -2) ha ha
    have P2 := fun (n : Nat) (Q : W → List W → Prop) => P n Q (-2) (by unfold Sm; decide)
    have h3' := h3
    by_cases hw : 0 < w <;> rcases h3 with rfl | rfl
    all_goals
      simp [hw, ga, P2, S a (-2), allD_m']
      exact gm C hd R.1 (by rw [R.2.2 rfl]; omega) h3' fun m s3 s11 h3 => h m _ _ _ _ _ s11 h3
  · have e' : ¬((a : Int) = b) := by omega
    have h3' := h3
    by_cases hw : 0 < w
    · have R := rop_sq C.sq (t := t) ha hb
      have P2 := fun (n : Nat) (Q : W → List W → Prop) => P n Q t st
      rcases h3 with rfl | rfl
      all_goals
        simp [hw, ga, gb, e', P2, S b t, allD_m']
        exact gm C hd R.1 (by rw [R.2.1 e]; exact hd) h3' fun m s3 s11 h3 => h m _ _ _ _ _ s11 h3
    · have R := cr_sq C.sq (t := t) ha hb e
      rcases h3 with rfl | rfl
      all_goals
       simp [hw, e', pds_tm]
       refine acc_mapT (t := tI) (g := fun r => .d (tI (cr r a b t))) (by rw [List.length_nil]; show _ ≤ 1000000; omega) (fun r hr acc k hac hk => ?_) ?_
       · have hk' := hk
         have hr2 := C.sq.rl r hr
         have g1 := ge_get (r := r) (a := a) (by omega)
         have g2 := ge_get (r := r) (a := b) (by omega)
         simp [g1, g2, st]
         rw [cut_lo (show (0 : Int) ≤ (b : Int) + 1 by omega), show ((b : Int) + 1).toNat = b + 1 by omega, cr_e]
         have hd2 : ((r.map PyData.int).drop (b + 1)).length ≤ 3 := by rw [List.length_drop, List.length_map]; omega
         refine ⟨by omega, by omega, hac, hk' _ rfl⟩
       · have e2 : (m.map fun r => W.d (tI (cr r a b t))) = (m.map fun r => cr r a b t).map fun r => W.d (tI r) := by rw [List.map_map]; rfl
         simp
         rw [e2]
         exact gm C hd R.1 (by rw [R.2]; exact hd) (.inr rfl) fun m s3 s11 h3 => h m _ _ _ _ _ s11 h3
theorem gbody {m : List (List Int)} (C : Mz 6 N m) (hd : dtm m ≠ 0) (hc : cs.length ≤ 63) {kk : Mn.K} {s2 s3 s4 s5 s7 s8 s9 s10 s11 : Option W} {g6 : Option PD}
    (h3 : s3 = some (.ol (m.map fun r => .d (tI r))) ∨ s3 = some (.d (.list (m.map tI))))
    (h : ∀ m cs d1 d (s3 s5 s8 s9 s10 s11 : Option W), (s3 = some (.ol (m.map fun r => .d (tI r))) ∨ s3 = some (.d (.list (m.map tI)))) → cs.length ≤ 63 → Mz 6 N m → dtm m ≠ 0 → kk.nx [some (dk cs d1 d), some (.d (.int (N : Int))), s2, s3, s4, s5, Option.map W.d g6, s7, s8, s9, s10, s11, none]) :
    evB ⟨callN TB (n + 3)⟩ L__law_coarse_3 [some (dk cs d d0), some (.d (.int (N : Int))), s2, s3, s4, s5, Option.map W.d g6, s7, s8, s9, s10, s11, none] kk := by
  have hN := C.sq.n3
  have hl := C.sq.len
  rw [GL_split]
  simp
  refine sp_drw hc (by omega) (by omega) fun i cs m1 d hc hi0 hi1 => ?_
  simp
  refine sp_drw hc (by omega) (by omega) fun j cs m1 d hc hj0 hj1 => ?_
  simp
  refine sp_pck hc (by simp) (by simp) fun x cs m1 d hc hx => ?_
  simp
  refine sp_drw hc (by omega) (by omega) fun w cs m1 d hc hw0 hw1 => ?_
  obtain ⟨a, rfl⟩ : ∃ a : Nat, i = (a : Int) := ⟨i.toNat, by omega⟩
  obtain ⟨b, rfl⟩ : ∃ b : Nat, j = (b : Int) := ⟨j.toNat, by omega⟩
  obtain ⟨t, rfl, ht⟩ : ∃ t : Int, x = .int t ∧ (t = 1 ∨ t = -1 ∨ t = 2 ∨ t = -2) := by
    simp at hx
    rcases hx with rfl | rfl | rfl | rfl | rfl <;> exact ⟨_, rfl, by omega⟩
  clear hx
  have em : (List.map W.d (m.map tI)) = m.map fun r => W.d (tI r) := by rw [List.map_map]; rfl
  have h3' := h3
  rcases h3 with rfl | rfl
  · simp [allD_m']
    try rw [em]
    exact gl (a := a) (b := b) C hd (show a < N by omega) (show b < N by omega) ht h3' fun m s3 s5 s8 s9 s10 s11 h3 => h m _ _ _ s3 s5 s8 s9 s10 s11 h3 hc
  · simp
    try rw [em]
    exact gl (a := a) (b := b) C hd (show a < N by omega) (show b < N by omega) ht h3' fun m s3 s5 s8 s9 s10 s11 h3 => h m _ _ _ s3 s5 s8 s9 s10 s11 h3 hc
theorem gloop {kk : Mn.K} {s2 s4 : Option W} {g6 : Option PD}
    (h : ∀ m cs d1 d (s3 s5 s7 s8 s9 s10 s11 : Option W), (s3 = some (.ol (m.map fun r => .d (tI r))) ∨ s3 = some (.d (.list (m.map tI)))) → cs.length ≤ 63 → Mz 6 N m → dtm m ≠ 0 → kk.nx [some (dk cs d1 d), some (.d (.int (N : Int))), s2, s3, s4, s5, Option.map W.d g6, s7, s8, s9, s10, s11, none]) :
    ∀ (xs : List Int) {m : List (List Int)} {cs : List Int} {d d0 : Int} {s3 s5 s7 s8 s9 s10 s11 : Option W}, Mz 6 N m → dtm m ≠ 0 → (s3 = some (.ol (m.map fun r => .d (tI r))) ∨ s3 = some (.d (.list (m.map tI)))) → cs.length ≤ 63 →
    forW (forStep ⟨callN TB (n + 3)⟩ (.nm 7) L__law_coarse_3) (xs.map .int) [some (dk cs d d0), some (.d (.int (N : Int))), s2, s3, s4, s5, Option.map W.d g6, s7, s8, s9, s10, s11, none] kk
  | [], m, _, _, _, _, _, _, _, _, _, _, C, hd, h3, hc => h m _ _ _ _ _ _ _ _ _ _ h3 hc C hd
  | x :: xs, m, cs, d, d0, s3, s5, s7, s8, s9, s10, s11, C, hd, h3, hc => by
    rw [List.map_cons, for_c, forStep_r, bt_nm, kFs_r]
    simp only [set_0, set_s]
    refine gbody C hd hc h3 fun m cs d1 d s3 s5 s8 s9 s10 s11 h3 hc C hd => ?_
    rw [kFor_nx]
    exact gloop h xs C hd h3 hc
def GT : IB := tlB (tlB (b__law_coarse))
theorem GT_split : b__law_coarse = (.cons (.par [3, 4] (.cons (.lst .nil) (.cons (.var 2) .nil)))
  (.cons (.fora (.nm 5) (.rng1 (.var 1)) L__law_coarse_5)
  GT)) := rfl
theorem gt_s {m : List (List Int)} (C : Mz 6 N m) (hd : dtm m ≠ 0) (hc : cs.length ≤ 63) {s2 s4 s5 s8 : Option W} {g6 : Option PD}
    (h : ∀ m cs d1 d, cs.length ≤ 63 → Mz 6 N m → dtm m ≠ 0 → Q (.d (tII m)) [dk cs d1 d]) :
    evB ⟨callN TB (n + 3)⟩ GT [some (dk cs d d0), some (.d (.int (N : Int))), s2, some (.ol (m.map fun r => .d (tI r))), s4, s5, Option.map W.d g6, none, s8, none, none, none, none] (kQ1 Q) := by
  simp only [GT, b__law_coarse, tlB]
  simp [-for_c]
  refine sp_pck hc (by simp) (by simp) fun x cs m d hc hx => ?_
  obtain ⟨k, rfl, hk⟩ : ∃ k : Int, x = .int k ∧ 0 ≤ k ∧ k ≤ 12 := by
    simp at hx
    rcases hx with rfl | rfl | rfl | rfl <;> exact ⟨_, rfl, by omega⟩
  simp [-for_c]
  refine ⟨by omega, by omega, ?_⟩
  rw [map_rng]
  refine gloop (fun m cs d1 d s3 s5 s7 s8 s9 s10 s11 h3 hc C hd => ?_) _ C hd (.inl rfl) hc
  have := C.sq.len
  have := C.sq.n3
  rcases h3 with rfl | rfl
  · simp [allD_m']
    exact h m _ _ _ hc C hd
  · simp
    exact h m _ _ _ hc C hd
theorem left_s {L x : Int} (h0 : 1 ≤ L) (h1 : L ≤ 30) (hx : 1 ≤ x) (hxL : x ≤ L) : 1 ≤ Int.fdiv L x ∧ Int.fdiv L x ≤ 30 := by
  rw [Int.fdiv_eq_ediv_of_nonneg L (by omega)]
  have a : 1 ≤ L / x := by rw [Int.le_ediv_iff_mul_le (by omega)]; omega
  have b : L / x ≤ L := Int.ediv_le_self x (by omega)
  omega
theorem cs1 (hc : cs.length ≤ 63) (h : ∀ m cs d1 d, cs.length ≤ 63 → Mz 6 1 m → dtm m ≠ 0 → Q (.d (tII m)) [dk cs d1 d]) : callN TB (n + 4) i__law_coarse [dk cs d d0, .d (.int 1), .d (.int 30)] Q := by
  have GTe : tlB (tlB b__law_coarse) = GT := rfl
  have e0 : (1 : Int) ≤ 30 ∧ (30 : Int) ≤ 30 := ⟨by omega, by omega⟩
  rw [in__law_coarse, GT_split]
  simp
  refine sp_pck hc (by simp) (by simp) fun p cs m d hc hx => ?_
  obtain ⟨p0, rfl, hp0⟩ : ∃ k : Int, p = .int k ∧ 2 ≤ k ∧ k ≤ 6 := by
    simp at hx
    rcases hx with rfl | rfl | rfl | rfl | rfl <;> exact ⟨_, rfl, by omega⟩
  clear hx
  simp
  refine sp_drw hc (by omega) (by omega) fun r cs m d hc hr0 hr1 => ?_
  obtain ⟨x0, ex0, hx0⟩ : ∃ x, 1 + r = x ∧ 1 ≤ x ∧ x ≤ 30 ∧ x ≤ 6 := ⟨_, rfl, by omega, by omega, by omega⟩
  have fo0 : FdOk x0 := FdOk_of (by omega) (Sm_of (by omega) (by omega))
  have e1 := left_s e0.1 e0.2 hx0.1 hx0.2.1
  simp [ex0, fo0]
  generalize Int.fdiv 30 x0 = L0 at *
  have e1 := e1
  clear e1
  exact gt_s (N := 1) (m := [[x0]]) (g6 := some _) ⟨.q1, by simp only [List.mem_cons, List.not_mem_nil, or_false, forall_eq_or_imp, forall_eq]; omega⟩ (by show x0 ≠ 0; omega) hc h
theorem cs2 (hc : cs.length ≤ 63) (h : ∀ m cs d1 d, cs.length ≤ 63 → Mz 6 2 m → dtm m ≠ 0 → Q (.d (tII m)) [dk cs d1 d]) : callN TB (n + 4) i__law_coarse [dk cs d d0, .d (.int 2), .d (.int 30)] Q := by
  have GTe : tlB (tlB b__law_coarse) = GT := rfl
  have e0 : (1 : Int) ≤ 30 ∧ (30 : Int) ≤ 30 := ⟨by omega, by omega⟩
  rw [in__law_coarse, GT_split]
  simp
  refine sp_pck hc (by simp) (by simp) fun p cs m d hc hx => ?_
  obtain ⟨p0, rfl, hp0⟩ : ∃ k : Int, p = .int k ∧ 2 ≤ k ∧ k ≤ 6 := by
    simp at hx
    rcases hx with rfl | rfl | rfl | rfl | rfl <;> exact ⟨_, rfl, by omega⟩
  clear hx
  simp
  refine sp_drw hc (by omega) (by omega) fun r cs m d hc hr0 hr1 => ?_
  obtain ⟨x0, ex0, hx0⟩ : ∃ x, 1 + r = x ∧ 1 ≤ x ∧ x ≤ 30 ∧ x ≤ 6 := ⟨_, rfl, by omega, by omega, by omega⟩
  have fo0 : FdOk x0 := FdOk_of (by omega) (Sm_of (by omega) (by omega))
  have e1 := left_s e0.1 e0.2 hx0.1 hx0.2.1
  simp [ex0, fo0]
  generalize Int.fdiv 30 x0 = L0 at *
  have e1 := e1
  clear e1
  refine sp_pck hc (by simp) (by simp) fun p cs m d hc hx => ?_
  obtain ⟨p1, rfl, hp1⟩ : ∃ k : Int, p = .int k ∧ 2 ≤ k ∧ k ≤ 6 := by
    simp at hx
    rcases hx with rfl | rfl | rfl | rfl | rfl <;> exact ⟨_, rfl, by omega⟩
  clear hx
  simp
  refine sp_drw hc (by omega) (by omega) fun r cs m d hc hr0 hr1 => ?_
  obtain ⟨x1, ex1, hx1⟩ : ∃ x, 1 + r = x ∧ 1 ≤ x ∧ x ≤ L0 ∧ x ≤ 6 := ⟨_, rfl, by omega, by omega, by omega⟩
  have fo1 : FdOk x1 := FdOk_of (by omega) (Sm_of (by omega) (by omega))
  have e1 := left_s e1.1 e1.2 hx1.1 hx1.2.1
  simp [ex1, fo1]
  generalize Int.fdiv L0 x1 = L1 at *
  have e2 := e1
  clear e1
  exact gt_s (N := 2) (m := [[x0, 0], [0, x1]]) (g6 := some _) ⟨.q2, by simp only [List.mem_cons, List.not_mem_nil, or_false, forall_eq_or_imp, forall_eq]; omega⟩ (by have := Int.mul_pos (show 0 < x0 by omega) (show 0 < x1 by omega); simp [dtm]; omega) hc h
theorem cs3 (hc : cs.length ≤ 63) (h : ∀ m cs d1 d, cs.length ≤ 63 → Mz 6 3 m → dtm m ≠ 0 → Q (.d (tII m)) [dk cs d1 d]) : callN TB (n + 4) i__law_coarse [dk cs d d0, .d (.int 3), .d (.int 30)] Q := by
  have GTe : tlB (tlB b__law_coarse) = GT := rfl
  have e0 : (1 : Int) ≤ 30 ∧ (30 : Int) ≤ 30 := ⟨by omega, by omega⟩
  rw [in__law_coarse, GT_split]
  simp
  refine sp_pck hc (by simp) (by simp) fun p cs m d hc hx => ?_
  obtain ⟨p0, rfl, hp0⟩ : ∃ k : Int, p = .int k ∧ 2 ≤ k ∧ k ≤ 6 := by
    simp at hx
    rcases hx with rfl | rfl | rfl | rfl | rfl <;> exact ⟨_, rfl, by omega⟩
  clear hx
  simp
  refine sp_drw hc (by omega) (by omega) fun r cs m d hc hr0 hr1 => ?_
  obtain ⟨x0, ex0, hx0⟩ : ∃ x, 1 + r = x ∧ 1 ≤ x ∧ x ≤ 30 ∧ x ≤ 6 := ⟨_, rfl, by omega, by omega, by omega⟩
  have fo0 : FdOk x0 := FdOk_of (by omega) (Sm_of (by omega) (by omega))
  have e1 := left_s e0.1 e0.2 hx0.1 hx0.2.1
  simp [ex0, fo0]
  generalize Int.fdiv 30 x0 = L0 at *
  have e1 := e1
  clear e1
  refine sp_pck hc (by simp) (by simp) fun p cs m d hc hx => ?_
  obtain ⟨p1, rfl, hp1⟩ : ∃ k : Int, p = .int k ∧ 2 ≤ k ∧ k ≤ 6 := by
    simp at hx
    rcases hx with rfl | rfl | rfl | rfl | rfl <;> exact ⟨_, rfl, by omega⟩
  clear hx
  simp
  refine sp_drw hc (by omega) (by omega) fun r cs m d hc hr0 hr1 => ?_
  obtain ⟨x1, ex1, hx1⟩ : ∃ x, 1 + r = x ∧ 1 ≤ x ∧ x ≤ L0 ∧ x ≤ 6 := ⟨_, rfl, by omega, by omega, by omega⟩
  have fo1 : FdOk x1 := FdOk_of (by omega) (Sm_of (by omega) (by omega))
  have e1 := left_s e1.1 e1.2 hx1.1 hx1.2.1
  simp [ex1, fo1]
  generalize Int.fdiv L0 x1 = L1 at *
  have e2 := e1
  clear e1
  refine sp_pck hc (by simp) (by simp) fun p cs m d hc hx => ?_
  obtain ⟨p2, rfl, hp2⟩ : ∃ k : Int, p = .int k ∧ 2 ≤ k ∧ k ≤ 6 := by
    simp at hx
    rcases hx with rfl | rfl | rfl | rfl | rfl <;> exact ⟨_, rfl, by omega⟩
  clear hx
  simp
  refine sp_drw hc (by omega) (by omega) fun r cs m d hc hr0 hr1 => ?_
  obtain ⟨x2, ex2, hx2⟩ : ∃ x, 1 + r = x ∧ 1 ≤ x ∧ x ≤ L1 ∧ x ≤ 6 := ⟨_, rfl, by omega, by omega, by omega⟩
  have fo2 : FdOk x2 := FdOk_of (by omega) (Sm_of (by omega) (by omega))
  have e1 := left_s e2.1 e2.2 hx2.1 hx2.2.1
  simp [ex2, fo2]
  generalize Int.fdiv L1 x2 = L2 at *
  have e3 := e1
  clear e1
  exact gt_s (N := 3) (m := [[x0, 0, 0], [0, x1, 0], [0, 0, x2]]) (g6 := some _) ⟨.q3, by simp only [List.mem_cons, List.not_mem_nil, or_false, forall_eq_or_imp, forall_eq]; omega⟩ (by have := Int.mul_pos (show 0 < x0 by omega) (Int.mul_pos (show 0 < x1 by omega) (show 0 < x2 by omega)); simp [dtm]; omega) hc h
end
theorem coarse_s {n : Nat} {cs : List Int} {d d0 : Int} {Q : W → List W → Prop} {N : Nat} (hN : N = 1 ∨ N = 2 ∨ N = 3) (hc : cs.length ≤ 63) (h : ∀ m cs d1 d, cs.length ≤ 63 → Mz 6 N m → dtm m ≠ 0 → Q (.d (tII m)) [dk cs d1 d]) : callN TB (n + 4) i__law_coarse [dk cs d d0, .d (.int (N : Int)), .d (.int 30)] Q := by
  rcases hN with rfl | rfl | rfl
  · exact cs1 hc h
  · exact cs2 hc h
  · exact cs3 hc h
end Mn.R

set_option linter.all false
set_option Elab.async false
set_option maxRecDepth 100000
set_option maxHeartbeats 16000000
set_option exponentiation.threshold 5000
namespace Mn.R
open PySem
theorem ints_vl {B m : Nat} : ∀ {v : List Int}, (∀ z ∈ v, z.natAbs ≤ B) → v.length ≤ m → VlA B 0 (72 * m) (v.map .int)
  | [], _, _ => VlA.nil
  | z :: v, h, hl => by
    rw [List.length_cons] at hl
    have := VlA.cons (Vl.int (d := 0) (h z List.mem_cons_self) (Nat.le_refl 70)) (ints_vl (m := m - 1) (fun q hq => h q (List.mem_cons_of_mem _ hq)) (by omega))
    exact this.mono (Nat.le_refl _) (Nat.le_refl _) (by omega)
theorem vI {B : Nat} {v : List Int} (h : ∀ z ∈ v, z.natAbs ≤ B) (hl : v.length ≤ 3) : Vl B 1 230 (tI v) := (ints_vl h hl).tup.mono (Nat.le_refl _) (Nat.le_refl _) (by omega)
theorem rows_vl {B k : Nat} : ∀ {m : List (List Int)}, (∀ r ∈ m, r.length ≤ 3 ∧ ∀ z ∈ r, z.natAbs ≤ B) → m.length ≤ k → VlA B 1 (232 * k) (m.map tI)
  | [], _, _ => VlA.nil
  | z :: v, h, hl => by
    rw [List.length_cons] at hl
    have hz := h z List.mem_cons_self
    have := VlA.cons (vI hz.2 hz.1) (rows_vl (k := k - 1) (fun q hq => h q (List.mem_cons_of_mem _ hq)) (by omega))
    exact this.mono (Nat.le_refl _) (Nat.le_refl _) (by omega)
theorem vII {B : Nat} {m : List (List Int)} (h : ∀ r ∈ m, r.length ≤ 3 ∧ ∀ z ∈ r, z.natAbs ≤ B) (hl : m.length ≤ 3) : Vl B 2 700 (tII m) := (rows_vl h hl).tup.mono (Nat.le_refl _) (Nat.le_refl _) (by omega)
theorem v2 {B d c : Nat} {x y : PD} (h : Vl B d c x) (h' : Vl B d c y) : Vl B (d + 1) (2 * c + 7) (.tuple [x, y]) := (VlA.cons h (VlA.one h')).tup.mono (Nat.le_refl _) (Nat.le_refl _) (by omega)
theorem rV {B d c : Nat} {x : PD} (h : Vl B d c x) (hB : B ≤ 10 ^ 59) (hd : d ≤ 9) (hc : c ≤ 100000) : (∀ Qw : W → Prop, b1 .repr x Qw = Qw (.d (.str (PyData.shown x)))) ∧ PySem.PyData.strOk (PyData.shown x) = true :=
  ⟨fun Qw => o_reprV h (Nat.le_trans hB (by unfold BN; decide)) (by omega) (by omega), vl_ok _ h.pv⟩
section
variable {n : Nat} {cs : List Int} {d d0 : Int} {Q : W → List W → Prop} {N : Nat} {m : List (List Int)} {K : Int}
theorem Mz.b0 (C : Mz K N m) (hK : K ≤ 2000) : ∀ r ∈ m, r.length ≤ 3 ∧ ∀ z ∈ r, z.natAbs ≤ 2000 := fun r hr => by
  have hN := C.sq.n3
  refine ⟨by rw [C.sq.rl r hr]; exact hN.2, fun z hz => ?_⟩
  have := C.bd r hr z hz
  omega
theorem B0_4 : 2000 ≤ B0 ∧ 10 ^ 12 ≤ B0 := by unfold B0; decide
theorem Mz.rv (C : Mz K N m) (hK : K ≤ 2000) : VlA B0 1 696 (m.map tI) := by
  have hN := C.sq.n3
  exact rows_vl (k := 3) (fun r hr => ⟨(C.b0 hK r hr).1, fun z hz => by have := (C.b0 hK r hr).2 z hz; have := B0_4; omega⟩) (by rw [C.sq.len]; exact hN.2)
theorem pds_ti : ∀ {r : List Int}, W.pds (r.map (W.d ∘ PyData.int)) = r.map PyData.int
  | [] => by simp [W.pds]
  | z :: r => by
    rw [List.map_cons, List.map_cons, W.pds, pds_ti]
    rfl
/-- a coarse table bent -/
theorem bent_c (C : Mz 6 N m) (hc : cs.length ≤ 63) (h : ∀ (y : PD) (cs : List Int) (m d0 : Int), cs.length ≤ 63 → Vl B0 6 4000 y → Q (.d y) [dk cs m d0]) : callN TB (n + 6) i__law_bent [dk cs d d0, .d (tII m)] Q := by
  have hN := C.sq.n3
  have hl := C.sq.len
  refine bent_t (n := n + 1) (d := 2) (c := 700) (d' := 5) (c' := 2000) ((C.rv (by omega)).mono (Nat.le_refl _) (by omega) (by omega)) (by omega) ?_ (by rw [List.length_map]; omega) (by omega) (by omega) hc (fun e he cs m1 d0 Q hc h => ?_) fun y cs m d0 hc hy => h y _ _ _ hc (hy.mono (Nat.le_refl _) (by omega) (by omega))
  · intro h0
    have := congrArg List.length h0
    rw [List.length_map, List.length_nil] at this
    omega
  · obtain ⟨r, hr, rfl⟩ := List.mem_map.mp he
    have hr2 := C.sq.rl r hr
    have hb := C.b0 (by omega) r hr
    refine bent_t (n := n) (d := 2) (c := 220) (d' := 4) (c' := 1000) ((ints_vl (m := 3) (fun z hz => by have := hb.2 z hz; have := B0_4; omega) hb.1).mono (Nat.le_refl _) (by omega) (by omega)) (by omega) ?_ (by rw [List.length_map]; omega) (by omega) (by omega) hc (fun e he cs m1 d0 Q hc h => ?_) fun y cs m d0 hc hy => h y _ _ _ hc (hy.mono (Nat.le_refl _) (by omega) (by omega))
    · intro h0
      have := congrArg List.length h0
      rw [List.length_map, List.length_nil] at this
      omega
    · obtain ⟨z, hz, rfl⟩ := List.mem_map.mp he
      have := C.bd r hr z hz
      exact bent_i (by omega) hc fun y cs m d0 hc hy => h y _ _ _ hc (hy.mono (Nat.le_refl _) (by omega) (by omega))
theorem thing_s (C : Mz 6 N m) (hc : cs.length ≤ 63) (h : ∀ (y : PD) (cs : List Int) (m d0 : Int), cs.length ≤ 63 → Th y → Q (.d y) [dk cs m d0]) : callN TB (n + 7) i__law_thing [dk cs d d0, .d (tII m)] Q := by
  have hN : N = 1 ∨ N = 2 ∨ N = 3 := by have := C.sq.n3; omega
  have hl := C.sq.len
  have hx := C.rv (by omega)
  have B4 := B0_4
  have CL : ∀ {x : PD}, (Pv 9 x && decide (PyData.depth x ≤ 3) && decide (cst x ≤ 1000)) = true → Th x := fun h => by
    simp only [Bool.and_eq_true, decide_eq_true_eq] at h
    exact (⟨h.1.1, h.1.2, h.2⟩ : Vl 9 3 1000 _).mono (by omega) (by omega) (by omega)
  have T : ∀ {ys : List PD} {c' : Nat}, VlA B0 3 c' ys → c' ≤ 19000 → Th (.tuple ys) := fun q hq => q.tup.mono (Nat.le_refl _) (by omega) (by omega)
  rw [in__law_thing, b__law_thing]
  have pds' : W.pds (m.map (W.d ∘ tI)) = m.map tI := pds_tm
  have hx3 : VlA B0 3 696 (m.map tI) := hx.mono (Nat.le_refl _) (by omega) (Nat.le_refl _)
  have lc := cut_len (m.map tI) none (some (-1))
  rw [List.length_map] at lc
  have c1 : VlA B0 3 696 (cut (m.map tI) none (some (-1))) := hx3.cut _ _
  have c2 : VlA B0 3 696 ((m.map tI).take 1) := hx3.take 1
  have c3 : VlA B0 3 696 (m.map tI).tail := by rw [← List.drop_one]; exact hx3.drop 1
  have z1 : VlA B0 3 302 [.tuple [.int 0]] := VlA.one ((cl (by decide +kernel)).mono (by omega) (by omega) (by omega))
  have z2 : VlA B0 3 302 [.tuple [.int 0, .int 0]] := VlA.one ((cl (by decide +kernel)).mono (by omega) (by omega) (by omega))
  have z3 : VlA B0 3 302 [.tuple [.int 0, .int 0, .int 0]] := VlA.one ((cl (by decide +kernel)).mono (by omega) (by omega) (by omega))
  have e1 := T (c1.app c2) (by omega)
  have e2 := T (c1.app z1) (by omega)
  have e3 := T (c1.app z2) (by omega)
  have e4 := T (c1.app z3) (by omega)
  have e5 := T (hx3.app c2) (by omega)
  have e6 := T c3 (by omega)
  have e7 : Th (.list (m.map tI)) := hx3.lst.mono (Nat.le_refl _) (by omega) (by omega)
  have e9 : Vl B0 4 699 (tII m) := hx3.tup
  have e8 : Th (.tuple [tII m]) := (VlA.one e9).tup.mono (Nat.le_refl _) (by omega) (by omega)
  have e0 : Th (tII m) := e9.mono (Nat.le_refl _) (by omega) (by omega)
  have big : Th (.int (1000000000000)) := Vl.int (by omega) (by omega)
  have rw1 : ∀ {g : List Int → PD}, (∀ r ∈ m, Vl B0 3 1000 (g r)) → Th (.tuple (m.map g)) := fun {g} hg => by
    have : VlA B0 3 (1002 * m.length) (m.map g) := by
      clear C hl hx hx3 lc c1 c2 c3 e1 e2 e3 e4 e5 e6 e7 e8 e9 e0 pds'
      induction m with
      | nil => exact VlA.nil
      | cons r m ih =>
        rw [List.map_cons, List.length_cons]
        exact (VlA.cons (hg r List.mem_cons_self) (ih fun r hr => hg r (List.mem_cons_of_mem _ hr))).mono (Nat.le_refl _) (Nat.le_refl _) (by omega)
    exact T this (by omega)
  have row : ∀ r ∈ m, VlA B0 0 216 (r.map PyData.int) := fun r hr => by
    have hb := C.b0 (by omega) r hr
    exact ints_vl (m := 3) (fun z hz => by have := hb.2 z hz; omega) hb.1
  have w0 : VlA B0 0 72 [.int 0] := VlA.one (Vl.int (by omega) (Nat.le_refl _))
  have f1 := rw1 (g := fun r => .list (r.map PyData.int)) fun r hr => (row r hr).lst.mono (Nat.le_refl _) (by omega) (by omega)
  have f2 := rw1 (g := fun r => .tuple (r.map PyData.int ++ [.int 0])) fun r hr => ((row r hr).app w0).tup.mono (Nat.le_refl _) (by omega) (by omega)
  have f3 := rw1 (g := fun r => .tuple (r.map PyData.int).reverse) fun r hr => (row r hr).rev.tup.mono (Nat.le_refl _) (by omega) (by omega)
  have hl3 : m.length ≤ 3 := by omega
  have a1 : allD (m.map fun r => W.d (.list (r.map PyData.int))) = some (m.map fun r => .list (r.map PyData.int)) := allD_mf
  have a2 : allD (m.map fun r => W.d (.tuple (r.map PyData.int ++ [.int 0]))) = some (m.map fun r => .tuple (r.map PyData.int ++ [.int 0])) := allD_mf
  have a3 : allD (m.map fun r => W.d (.tuple (r.map PyData.int).reverse)) = some (m.map fun r => .tuple (r.map PyData.int).reverse) := allD_mf
  have hr3 : ∀ r ∈ m, r.length ≤ 3 := fun r hr => (C.b0 (by omega) r hr).1
  rcases hN with rfl | rfl | rfl
  all_goals
   simp [hl]
   refine sp_drw hc (by omega) (by omega) fun w cs m1 d0 hc hw0 hw1 => ?_
   by_cases h0 : w = 0
   · simp [h0, pds']
     refine ⟨by omega, by omega, by omega, ?_⟩
     refine sp_pck hc (by simp) (by simp) fun y cs m d0 hc hy => ?_
     simp
     refine h _ _ _ _ hc ?_
     simp only [List.mem_cons, List.not_mem_nil, or_false] at hy
     rcases hy with rfl | rfl | rfl | rfl | rfl | rfl <;> assumption
   · by_cases h1 : w = 1
     · simp [h1]
       refine acc_mapT (t := tI) (g := fun r => .d (.list (r.map PyData.int))) (by rw [List.length_nil]; show _ ≤ 1000000; omega) (fun r hr acc k hac hk => ?_) ?_
       · have hk' := hk
         have := hr3 r hr
         simp [pds_ti]
         exact ⟨hac, hk' _ rfl⟩
       · simp [a1]
         refine acc_mapT (t := tI) (g := fun r => .d (.tuple (r.map PyData.int ++ [.int 0]))) (by rw [List.length_nil]; show _ ≤ 1000000; omega) (fun r hr acc k hac hk => ?_) ?_
         · have hk' := hk
           have := hr3 r hr
           simp
           exact ⟨by omega, hac, hk' _ rfl⟩
         · simp [a2]
           refine acc_mapT (t := tI) (g := fun r => .d (.tuple (r.map PyData.int).reverse)) (by rw [List.length_nil]; show _ ≤ 1000000; omega) (fun r hr acc k hac hk => ?_) ?_
           · have hk' := hk
             have := hr3 r hr
             simp
             simp at hk'
             exact ⟨hac, hk' _ rfl⟩
           · simp [a3]
             refine sp_pck hc (by simp) (by simp) fun y cs m d0 hc hy => ?_
             simp
             refine h _ _ _ _ hc ?_
             simp only [List.mem_cons, List.not_mem_nil, or_false] at hy
             repeat' (obtain rfl | hy := hy)
             all_goals first | assumption | exact CL (by decide +kernel) | (rw [List.map_reverse] at *; assumption) | skip
     · simp [h0, h1]
       by_cases h2 : w = 2
       · simp [h2]
         refine bent_c (n := n) C hc fun y cs m d0 hc hy => ?_
         simp
         exact h _ _ _ _ hc (hy.mono (Nat.le_refl _) (by omega) (by omega))
       · simp [h2]
         exact h _ _ _ _ hc e0
end
end Mn.R

set_option linter.all false
set_option Elab.async false
set_option maxRecDepth 100000
set_option maxHeartbeats 16000000
set_option exponentiation.threshold 5000
namespace Mn.R
open PySem
def bT : Nat := 2 ^ 160
theorem bT_59 : bT ≤ 10 ^ 59 := by unfold bT; decide
section
variable {n : Nat} {Q : W → List W → Prop} {N : Nat} {m : List (List Int)} {K : Int} {M : PD} {ln : List Int → List Int → Int}
theorem FF.bd (F : FF N M ln) {u v : List Int} (hu : u.length = N) (hv : v.length = N) (hw : ∀ z ∈ u, z.natAbs < 2 ^ 11) (hx : ∀ z ∈ v, z.natAbs < 2 ^ 11) : (ln u v).natAbs < 2 ^ 60 := by
  have l20 : ∀ {x : Int}, Lo x → x.natAbs < 2 ^ 20 := fun h => h
  cases F with
  | f1 _ sa =>
    obtain ⟨x, rfl⟩ := len1 hu
    obtain ⟨k, rfl⟩ := len1 hv
    simp only [List.mem_cons, List.not_mem_nil, or_false, forall_eq_or_imp, forall_eq] at hw hx
    have sa := l20 sa
    simp only [la1, ln1]
    apply Lg.le
    repeat (first | assumption | apply Lg.sub | apply Lg.add | apply Lg.mul)
    decide
  | f2 _ _ sa sb sc =>
    obtain ⟨x, y, rfl⟩ := len2 hu
    obtain ⟨k, l, rfl⟩ := len2 hv
    simp only [List.mem_cons, List.not_mem_nil, or_false, forall_eq_or_imp, forall_eq] at hw hx
    obtain ⟨w1, w2⟩ := hw
    obtain ⟨x1, x2⟩ := hx
    have sa := l20 sa
    have sb := l20 sb
    have sc := l20 sc
    simp only [la2, ln2]
    apply Lg.le
    repeat (first | assumption | apply Lg.sub | apply Lg.add | apply Lg.mul)
    decide
  | f3 _ _ _ sa sb sc sd se sf =>
    obtain ⟨x, y, z, rfl⟩ := len3 hu
    obtain ⟨k, l, m, rfl⟩ := len3 hv
    simp only [List.mem_cons, List.not_mem_nil, or_false, forall_eq_or_imp, forall_eq] at hw hx
    obtain ⟨w1, w2, w3⟩ := hw
    obtain ⟨x1, x2, x3⟩ := hx
    have sa := l20 sa
    have sb := l20 sb
    have sc := l20 sc
    have sd := l20 sd
    have se := l20 se
    have sf := l20 sf
    simp only [la3, ln3]
    apply Lg.le
    repeat (first | assumption | apply Lg.sub | apply Lg.add | apply Lg.mul)
    decide
theorem Mz.b11 (C : Mz K N m) (hK : K ≤ 2000) : ∀ r ∈ m, ∀ z ∈ r, z.natAbs < 2 ^ 11 := fun r hr z hz => by
  have := C.bd r hr z hz
  omega
theorem FF.vt (F : FF N M ln) (C : Mz K N m) (hK : K ≤ 2000) : Vl bT 2 700 (tab m ln) := by
  have hN := C.sq.n3
  have hl := C.sq.len
  refine vII (fun r0 hr0 => ?_) (by rw [List.length_map]; omega)
  obtain ⟨r, hr, rfl⟩ := List.mem_map.mp hr0
  refine ⟨by rw [List.length_map]; omega, fun z hz => ?_⟩
  obtain ⟨r', hr', rfl⟩ := List.mem_map.mp hz
  have := F.bd (C.sq.rl r hr) (C.sq.rl r' hr') (C.b11 hK r hr) (C.b11 hK r' hr')
  exact Nat.le_of_lt (Nat.lt_of_lt_of_le this (by unfold bT; decide))
theorem Mz.dtb (C : Mz K N m) (hK : K ≤ 2000) : (dtm m).natAbs < 2 ^ 60 := by
  obtain ⟨hs, hb⟩ := C
  have l : ∀ z : Int, (-K ≤ z ∧ z ≤ K) → z.natAbs < 2 ^ 11 := fun z h => by omega
  cases hs with
  | @q1 s =>
    simp only [List.mem_cons, List.not_mem_nil, or_false, forall_eq_or_imp, forall_eq] at hb
    have := l _ hb
    simp only [dtm]
    exact Nat.lt_of_lt_of_le this (by decide)
  | @q2 p q r s =>
    simp only [List.mem_cons, List.not_mem_nil, or_false, forall_eq_or_imp, forall_eq] at hb
    have h1 := l _ hb.1.1
    have h2 := l _ hb.1.2
    have h3 := l _ hb.2.1
    have h4 := l _ hb.2.2
    simp only [dtm]
    apply Lg.le
    repeat (first | assumption | apply Lg.sub | apply Lg.add | apply Lg.mul)
    decide
  | @q3 p q r s t u v w x =>
    simp only [List.mem_cons, List.not_mem_nil, or_false, forall_eq_or_imp, forall_eq] at hb
    have h1 := l _ hb.1.1
    have h2 := l _ hb.1.2.1
    have h3 := l _ hb.1.2.2
    have h4 := l _ hb.2.1.1
    have h5 := l _ hb.2.1.2.1
    have h6 := l _ hb.2.1.2.2
    have h7 := l _ hb.2.2.1
    have h8 := l _ hb.2.2.2.1
    have h9 := l _ hb.2.2.2.2
    simp only [dtm]
    apply Lg.le
    repeat (first | assumption | apply Lg.sub | apply Lg.add | apply Lg.mul)
    decide
theorem Mz.vw (C : Mz K N m) (hK : K ≤ 2000) : Vl bT 0 70 (.int ((dtm m).natAbs : Int)) := by
  have := C.dtb hK
  have h2 : 2 ^ 60 ≤ bT := by unfold bT; decide
  exact Vl.int (by omega) (Nat.le_refl _)
theorem FF.cform (F : FF N M ln) (C : Mz K N m) (hK : K ≤ 2000) (hd : dtm m ≠ 0) : callN TB (n + 10) i_coarse_form [.d M, .d (tII m)] Q = Q (.d (tab m ln)) [] := by
  rw [in_coarse_form, b_coarse_form]
  simp [in_need_both, b_need_both, F.need, F.sf.len, C.need hK hd, F.sf.chg C hK]
theorem tab_map {m' : List (List Int)} {ln' : List Int → List Int → Int} {g : List Int → List Int} (h : ∀ r ∈ m', ∀ r' ∈ m', ln' r r' = ln (g r) (g r')) : tab m' ln' = tab (m'.map g) ln := by
  have e : (m'.map fun r => m'.map fun r' => ln' r r') = (m'.map g).map fun r => (m'.map g).map fun r' => ln r r' := by
    rw [List.map_map]
    refine List.map_congr_left fun r hr => ?_
    simp only [Function.comp_def, List.map_map]
    exact List.map_congr_left fun r' hr' => h r hr r' hr'
  show tII _ = tII _
  rw [e]
theorem allD_tI {l : List (List Int)} {g : List Int → List Int} : allD (l.map fun x => W.d (tI (g x))) = some (l.map fun x => tI (g x)) := allD_mf
end
section
variable {n : Nat} {cs : List Int} {d d0 : Int} {Q : W → List W → Prop} {N : Nat} {m : List (List Int)}
theorem look_s (C : Mz 6 N m) (hc : cs.length ≤ 63) {kk : Mn.K} {s0 s2 s5 s6 s7 s8 s9 s10 s11 s12 s13 s14 : Option W}
    (h : ∀ (cs : List Int) (m1 d : Int) (s8 s12 s13 s14 : Option W), cs.length ≤ 63 → kk.nx [s0, some (dk cs m1 d), s2, some (.d (.int (N : Int))), some (.d (tII m)), s5, s6, s7, s8, s9, s10, s11, s12, s13, s14, none]) :
    evB ⟨callN TB (n + 20)⟩ L_law_0 [s0, some (dk cs d d0), s2, some (.d (.int (N : Int))), some (.d (tII m)), s5, s6, s7, s8, s9, s10, s11, s12, s13, s14, none] kk := by
  have hN : N = 1 ∨ N = 2 ∨ N = 3 := by have := C.sq.n3; omega
  simp
  refine thing_s (n := n + 13) C hc fun z cs m1 d hc hz => ?_
  simp
  refine sp_pck hc (by simp) (by simp) fun v cs m1 d hc hv => ?_
  obtain ⟨k, rfl, hk⟩ : ∃ k : Nat, v = .int (k : Int) ∧ (k = 1 ∨ k = 2 ∨ k = 3) := by
    simp at hv
    rcases hv with rfl | rfl | rfl | rfl
    · exact ⟨N, rfl, hN⟩
    · exact ⟨1, rfl, by omega⟩
    · exact ⟨2, rfl, by omega⟩
    · exact ⟨3, rfl, by omega⟩
  clear hv
  obtain ⟨b, c1, c2⟩ := crv hk hz
  have hz' : Vl B0 8 20000 z := hz
  have hB : B0 ≤ 10 ^ 59 := by unfold B0; decide
  obtain ⟨r1, k1⟩ := rV hz' hB (by omega) (by omega)
  have vb : Vl B0 0 10 (.bool b) := Vl.bool (by omega)
  obtain ⟨r2, k2⟩ := rV (v2 vb vb) hB (by omega) (by omega)
  simp [r1]
  refine c1 (n + 12) _ ?_
  simp
  refine c2 (n + 12) _ ?_
  simp
  refine c2 (n + 12) _ ?_
  simp [r1, r2, k1, k2]
  exact h _ _ _ _ _ _ _ hc
theorem look_loop {kk : Mn.K} (C : Mz 6 N m) {s0 s2 s5 s6 s7 s9 s10 : Option W}
    (h : ∀ (cs : List Int) (m1 d : Int) (s8 s11 s12 s13 s14 : Option W), cs.length ≤ 63 → kk.nx [s0, some (dk cs m1 d), s2, some (.d (.int (N : Int))), some (.d (tII m)), s5, s6, s7, s8, s9, s10, s11, s12, s13, s14, none]) :
    ∀ (xs : List Int) {cs : List Int} {d d0 : Int} {s8 s11 s12 s13 s14 : Option W}, cs.length ≤ 63 →
    forW (forStep ⟨callN TB (n + 20)⟩ (.nm 11) L_law_0) (xs.map PyData.int) [s0, some (dk cs d d0), s2, some (.d (.int (N : Int))), some (.d (tII m)), s5, s6, s7, s8, s9, s10, s11, s12, s13, s14, none] kk
  | [], cs, d, d0, s8, s11, s12, s13, s14, hc => h _ _ _ _ _ _ _ _ hc
  | x :: xs, cs, d, d0, s8, s11, s12, s13, s14, hc => by
    rw [List.map_cons, for_c, forStep_r, bt_nm, kFs_r]
    simp only [set_0, set_s]
    refine look_s C hc fun cs m1 d s8 s12 s13 s14 hc => ?_
    rw [kFor_nx]
    exact look_loop C h xs hc
end
end Mn.R

set_option linter.all false
set_option Elab.async false
set_option maxRecDepth 100000
set_option maxHeartbeats 16000000
set_option exponentiation.threshold 5000
namespace Mn.R
open PySem
def TA : IB := tlB (tlB (tlB (tlB (tlB (tlB (tlB (L_law_2)))))))
theorem TA_split : L_law_2 = (.cons (.set 3 (.cal i__law_pick (.ref 1 (.cons (.lst (.cons (.cI 2) (.cons (.cI 3) (.cons (.cI 1) (.cons (.cI 2) .nil))))) .nil)) .nil []))
  (.cons (.par [4, 5] (.cons (.cal i__law_coarse (.ref 1 (.cons (.var 3) (.cons (.cI 30) .nil))) .nil []) (.cons (.cal i__law_form (.ref 1 (.cons (.var 3) (.cons (.cI 20) .nil))) .nil []) .nil)))
  (.cons (.set 6 (.b1 .abs (.cal i__law_det (.cons (.var 4) .nil) .nil [])))
  (.cons (.set 7 (.tup (.cons (.cal i_index (.cons (.var 3) (.cons (.var 4) .nil)) .nil []) (.cons (.cal i_index .nil (.cons (.var 4) (.cons (.var 3) .nil)) [1, 0]) (.cons (.cal i_is_coarse (.cons (.var 3) (.cons (.var 4) .nil)) .nil []) .nil)))))
  (.cons (.ife (.cmp .ne (.b1 .repr (.var 7)) (.b1 .repr (.tup (.cons (.var 6) (.cons (.var 6) (.cons (.cB true) .nil)))))) (.cons (.ret (.cB false))
  .nil) .nil)
  (.cons (.set 8 (.cal i__law_changed (.cons (.var 5) (.cons (.var 4) .nil)) .nil []))
  (.cons (.ife (.cmp .ne (.b1 .repr (.tup (.cons (.cal i_coarse_form (.cons (.var 5) (.cons (.var 4) .nil)) .nil []) (.cons (.cal i_coarse_form .nil (.cons (.var 4) (.cons (.var 5) .nil)) [1, 0]) .nil)))) (.b1 .repr (.tup (.cons (.var 8) (.cons (.var 8) .nil))))) (.cons (.ret (.cB false))
  .nil) .nil)
  TA))))))) := rfl
def TC : IB := tlB (tlB (TA))
theorem TC_split : TA = (.cons (.set 9 (.cal i__law_change (.ref 1 (.cons (.var 3) (.cons (.cI 3) .nil))) .nil []))
  (.cons (.set 10 (.b1 .tuple (.lc false [15] (.nm 15) (.seq (.var 9)) (.cB true) E_law_1)))
  TC)) := rfl
def TD : IB := tlB (TC)
theorem TD_split : TC = (.cons (.ife (.cal i__law_is_small (.cons (.var 10) (.cons (.cI 6) .nil)) .nil []) (.cons (.set 7 (.tup (.cons (.cal i_index (.cons (.var 3) (.cons (.var 10) .nil)) .nil []) (.cons (.cal i_coarse_form (.cons (.var 5) (.cons (.var 10) .nil)) .nil []) .nil))))
  (.cons (.ife (.cmp .ne (.b1 .repr (.var 7)) (.b1 .repr (.tup (.cons (.var 6) (.cons (.cal i__law_changed (.cons (.var 8) (.cons (.var 9) .nil)) .nil []) .nil))))) (.cons (.ret (.cB false))
  .nil) .nil)
  .nil)) .nil)
  TD) := rfl
def TE : IB := tlB (TD)
theorem TE_split : TD = (.cons (.ife (.andv (.cons (.cal i__law_is_small (.cons (.var 9) (.cons (.cI 6) .nil)) .nil []) (.cons (.cmp .ne (.b1 .repr (.tup (.cons (.cal i_index (.cons (.var 3) (.cons (.var 9) .nil)) .nil []) (.cons (.cal i_coarse_form (.cons (.var 5) (.cons (.var 9) .nil)) .nil []) .nil)))) (.b1 .repr (.tup (.cons (.cI 1) (.cons (.cal i__law_changed (.cons (.var 5) (.cons (.var 9) .nil)) .nil []) .nil))))) .nil))) (.cons (.ret (.cB false))
  .nil) .nil)
  TE) := rfl
section
variable {n : Nat} {cs : List Int} {d d0 : Int} {Q : W → List W → Prop} {N : Nat} {m r : List (List Int)} {M : PD} {ln : List Int → List Int → Int}
theorem te (C : Mz 6 N m) (hc : cs.length ≤ 63) {kk : Mn.K} {s0 s2 s5 s6 s7 s8 s9 s10 s11 s12 s13 s14 : Option W}
    (h : ∀ (cs : List Int) (m1 d : Int) (s3 s4 s8 s11 s12 s13 s14 : Option W), cs.length ≤ 63 → kk.nx [s0, some (dk cs m1 d), s2, s3, s4, s5, s6, s7, s8, s9, s10, s11, s12, s13, s14, none]) :
    evB ⟨callN TB (n + 20)⟩ TE [s0, some (dk cs d d0), s2, some (.d (.int (N : Int))), some (.d (tII m)), s5, s6, s7, s8, s9, s10, s11, s12, s13, s14, none] kk := by
  simp only [TE, TD, TC, TA, tlB]
  simp [-for_c]
  have er : List.map (fun i : Nat => PyData.int (i : Int)) (List.range 4) = ([0, 1, 2, 3] : List Int).map PyData.int := rfl
  try rw [er]
  refine look_loop C (fun cs m1 d s8 s11 s12 s13 s14 hc => ?_) [0, 1, 2, 3] hc
  simp
  exact h _ _ _ _ _ _ _ _ _ _ hc
theorem td (F : FF N M ln) (C : Mz 6 N m) (R : Mz 64 N r) (hr : dtm r = 1 ∨ dtm r = -1) (hc : cs.length ≤ 63) {kk : Mn.K} {s0 s2 s6 s7 s8 s10 s11 s12 s13 s14 : Option W}
    (h : ∀ (cs : List Int) (m1 d : Int) (s3 s4 s5 s7 s8 s9 s10 s11 s12 s13 s14 : Option W), cs.length ≤ 63 → kk.nx [s0, some (dk cs m1 d), s2, s3, s4, s5, s6, s7, s8, s9, s10, s11, s12, s13, s14, none]) :
    evB ⟨callN TB (n + 20)⟩ TD [s0, some (dk cs d d0), s2, some (.d (.int (N : Int))), some (.d (tII m)), some (.d M), s6, s7, s8, some (.d (tII r)), s10, s11, s12, s13, s14, none] kk := by
  obtain ⟨b, hb, _⟩ := low_m (k := 6) R.sq
  have hd : dtm r ≠ 0 := by rcases hr with q | q <;> rw [q] <;> decide
  have e1 : ((dtm r).natAbs : Int) = 1 := by rcases hr with q | q <;> rw [q] <;> rfl
  have I := fun (n : Nat) (Q : W → List W → Prop) => R.index (n := n) (Q := Q) (by omega) hd
  rw [e1] at I
  have A := fun (n : Nat) (Q : W → List W → Prop) => F.cform (n := n) (Q := Q) R (by omega) hd
  have L := fun (n : Nat) (Q : W → List W → Prop) => F.sf.lchg (n := n) (Q := Q) R (by omega)
  have v1 : Vl bT 2 700 (.int 1) := Vl.int (by unfold bT; decide) (by omega)
  obtain ⟨r1, k1⟩ := rV (v2 v1 (F.vt R (by omega))) bT_59 (by omega) (by omega)
  rw [TE_split]
  simp [hb]
  cases b with
  | false =>
    simp
    exact te C hc fun cs m1 d s3 s4 s8 s11 s12 s13 s14 hc => h _ _ _ _ _ _ _ _ _ _ _ _ _ _ hc
  | true =>
    simp [I, A, L, r1, k1]
    exact te C hc fun cs m1 d s3 s4 s8 s11 s12 s13 s14 hc => h _ _ _ _ _ _ _ _ _ _ _ _ _ _ hc
theorem tc (F : FF N M ln) (C : Mz 6 N m) (hm : dtm m ≠ 0) (R : Mz 64 N r) (hr : dtm r = 1 ∨ dtm r = -1) (hc : cs.length ≤ 63) {kk : Mn.K} {s0 s2 s7 s11 s12 s13 s14 : Option W}
    (h : ∀ (cs : List Int) (m1 d : Int) (s3 s4 s5 s6 s7 s8 s9 s10 s11 s12 s13 s14 : Option W), cs.length ≤ 63 → kk.nx [s0, some (dk cs m1 d), s2, s3, s4, s5, s6, s7, s8, s9, s10, s11, s12, s13, s14, none]) :
    evB ⟨callN TB (n + 20)⟩ TC [s0, some (dk cs d d0), s2, some (.d (.int (N : Int))), some (.d (tII m)), some (.d M), some (.d (.int ((dtm m).natAbs : Int))), s7, some (.d (tab m ln)), some (.d (tII r)), some (.d (tII (r.map (ldv m)))), s11, s12, s13, s14, none] kk := by
  have hN := C.sq.n3
  obtain ⟨sb, db⟩ := dt_mul C.sq R.sq
  obtain ⟨b, hb, hb2⟩ := low_m (k := 6) sb
  have hd : dtm (r.map (ldv m)) ≠ 0 := by
    rw [db]
    rcases hr with q | q <;> rw [q] <;> omega
  have e1 : ((dtm (r.map (ldv m))).natAbs : Int) = ((dtm m).natAbs : Int) := by
    rw [db]
    rcases hr with q | q <;> rw [q] <;> omega
  obtain ⟨ln', F', e'⟩ := F.sf.nxt C.sq fun r hr r' hr' => by
    have := F.bd (C.sq.rl r hr) (C.sq.rl r' hr') (C.b11 (by omega) r hr) (C.b11 (by omega) r' hr')
    exact Nat.lt_of_lt_of_le this (by decide)
  have e2 : tab r ln' = tab (r.map (ldv m)) ln := tab_map (fun r1 hr1 r' hr' => e' r1 r' (R.sq.rl r1 hr1) (R.sq.rl r' hr'))
  have L := fun (n : Nat) (Q : W → List W → Prop) => F'.lchg (n := n) (Q := Q) R (by omega)
  rw [e2] at L
  rw [TD_split]
  generalize r.map (ldv m) = q at *
  simp [hb]
  cases b with
  | false =>
    simp
    exact td F C R hr hc fun cs m1 d s3 s4 s5 s7 s8 s9 s10 s11 s12 s13 s14 hc => h _ _ _ _ _ _ _ _ _ _ _ _ _ _ _ hc
  | true =>
    have CQ : Mz 6 N q := ⟨sb, hb2 rfl⟩
    have I := fun (n : Nat) (Q : W → List W → Prop) => CQ.index (n := n) (Q := Q) (by omega) hd
    rw [e1] at I
    have A := fun (n : Nat) (Q : W → List W → Prop) => F.cform (n := n) (Q := Q) CQ (by omega) hd
    have v1 : Vl bT 2 700 (.int ((dtm m).natAbs : Int)) := (C.vw (by omega)).mono (Nat.le_refl _) (by omega) (by omega)
    obtain ⟨r1, k1⟩ := rV (v2 v1 (F.vt CQ (by omega))) bT_59 (by omega) (by omega)
    simp [I, A, L, r1, k1]
    exact td F C R hr hc fun cs m1 d s3 s4 s5 s7 s8 s9 s10 s11 s12 s13 s14 hc => h _ _ _ _ _ _ _ _ _ _ _ _ _ _ _ hc
theorem ta (F : FF N M ln) (C : Mz 6 N m) (hm : dtm m ≠ 0) (hc : cs.length ≤ 63) {kk : Mn.K} {s0 s2 s7 s9 s10 s11 s12 s13 s14 : Option W}
    (h : ∀ (cs : List Int) (m1 d : Int) (s3 s4 s5 s6 s7 s8 s9 s10 s11 s12 s13 s14 : Option W), cs.length ≤ 63 → kk.nx [s0, some (dk cs m1 d), s2, s3, s4, s5, s6, s7, s8, s9, s10, s11, s12, s13, s14, none]) :
    evB ⟨callN TB (n + 20)⟩ TA [s0, some (dk cs d d0), s2, some (.d (.int (N : Int))), some (.d (tII m)), some (.d M), some (.d (.int ((dtm m).natAbs : Int))), s7, some (.d (tab m ln)), s9, s10, s11, s12, s13, s14, none] kk := by
  have hN : N = 1 ∨ N = 2 ∨ N = 3 := by have := C.sq.n3; omega
  rw [TC_split]
  simp
  refine chg_s (n := n + 16) hN hc fun r cs m1 d hc R hr => ?_
  have eB : tII (r.map (ldv m)) = .tuple (r.map fun x => tI (ldv m x)) := by
    show PyData.tuple _ = _
    rw [List.map_map]
    rfl
  have hl := R.sq.len
  simp
  refine acc_mapT (t := tI) (g := fun x => .d (tI (ldv m x))) (by rw [List.length_nil]; show _ ≤ 1000000; omega) (fun z hz acc k ha hk => ?_) ?_
  · have hk' := hk
    have L := fun (n : Nat) (Q : W → List W → Prop) => C.lled (n := n) (Q := Q) (by omega) (R.sq.rl z hz) (R.sm (by omega) z hz)
    simp [L]
    exact ⟨ha, hk' _ rfl⟩
  · simp [allD_tI]
    rw [← eB]
    exact tc F C hm R hr hc h
theorem turn_s {turn : Option W} (hc : cs.length ≤ 63) {kk : Mn.K} {s0 s3 s4 s5 s6 s7 s8 s9 s10 s11 s12 s13 s14 : Option W}
    (h : ∀ (cs : List Int) (m1 d : Int) (s3 s4 s5 s6 s7 s8 s9 s10 s11 s12 s13 s14 : Option W), cs.length ≤ 63 → kk.nx [s0, some (dk cs m1 d), turn, s3, s4, s5, s6, s7, s8, s9, s10, s11, s12, s13, s14, none]) :
    evB ⟨callN TB (n + 20)⟩ L_law_2 [s0, some (dk cs d d0), turn, s3, s4, s5, s6, s7, s8, s9, s10, s11, s12, s13, s14, none] kk := by
  rw [TA_split]
  simp
  refine sp_pck hc (by simp) (by simp) fun v cs m1 d hc hv => ?_
  obtain ⟨N, rfl, hN⟩ : ∃ N : Nat, v = .int (N : Int) ∧ (N = 1 ∨ N = 2 ∨ N = 3) := by
    simp at hv
    rcases hv with rfl | rfl | rfl | rfl
    · exact ⟨2, rfl, by omega⟩
    · exact ⟨3, rfl, by omega⟩
    · exact ⟨1, rfl, by omega⟩
    · exact ⟨2, rfl, by omega⟩
  clear hv
  simp
  refine coarse_s (n := n + 16) hN hc fun m cs m1 d hc C hm => ?_
  simp
  refine form_s (n := n + 12) hN hc fun M ln cs m1 d hc F => ?_
  have D := fun (n : Nat) (Q : W → List W → Prop) => C.ldet (n := n) (Q := Q) (by omega)
  have I := fun (n : Nat) (Q : W → List W → Prop) => C.index (n := n) (Q := Q) (by omega) hm
  have S := fun (n : Nat) (Q : W → List W → Prop) => C.isc (n := n) (Q := Q) (by omega) hm
  have A := fun (n : Nat) (Q : W → List W → Prop) => F.cform (n := n) (Q := Q) C (by omega) hm
  have L := fun (n : Nat) (Q : W → List W → Prop) => F.sf.lchg (n := n) (Q := Q) C (by omega)
  have vb : Vl bT 0 70 (.bool true) := Vl.bool (by omega)
  have vw := C.vw (by omega)
  obtain ⟨r1, k1⟩ := rV ((VlA.cons vw (VlA.cons vw (VlA.one vb))).tup) bT_59 (by omega) (by omega)
  have vt := F.vt C (by omega)
  obtain ⟨r2, k2⟩ := rV (v2 vt vt) bT_59 (by omega) (by omega)
  simp [D, I, S, A, L, r1, k1, r2, k2]
  exact ta F C hm hc h
end
theorem mv_k {c : List Int} {m d : Int} {e : Env} {Q : W → Env → Prop} : mv (dk c m d) e Q = Q (dk c m d) e := (rfl)
theorem law_loop {n : Nat} {s0 : Option W} {kk : K} (h : ∀ (cs : List Int) (m d : Int) (s2 s3 s4 s5 s6 s7 s8 s9 s10 s11 s12 s13 s14 : Option W), kk.nx [s0, some (dk cs m d), s2, s3, s4, s5, s6, s7, s8, s9, s10, s11, s12, s13, s14, none]) :
    ∀ (xs : List Int) (cs : List Int) (m d : Int) (s2 s3 s4 s5 s6 s7 s8 s9 s10 s11 s12 s13 s14 : Option W), cs.length ≤ 63 →
    forW (forStep ⟨callN TB (n + 20)⟩ (.nm 2) L_law_2) (xs.map PyData.int) [s0, some (dk cs m d), s2, s3, s4, s5, s6, s7, s8, s9, s10, s11, s12, s13, s14, none] kk
  | [], cs, m, d, s2, s3, s4, s5, s6, s7, s8, s9, s10, s11, s12, s13, s14, _ => h _ _ _ _ _ _ _ _ _ _ _ _ _ _ _ _
  | x :: xs, cs, m, d, s2, s3, s4, s5, s6, s7, s8, s9, s10, s11, s12, s13, s14, hc => by
    rw [List.map_cons, for_c, forStep_r, bt_nm, kFs_r]
    simp only [set_0, set_s]
    refine turn_s hc fun cs m d s3 s4 s5 s6 s7 s8 s9 s10 s11 s12 s13 s14 hc => ?_
    rw [kFor_nx]
    exact law_loop h xs cs m d _ s3 s4 s5 s6 s7 s8 s9 s10 s11 s12 s13 s14 hc
theorem hlaw (ns : List Int) (h : ns.length ≤ 63) : callN TB 40 i_law [.d (.list (ns.map PyData.int))] fun w _ => w = .d (.bool true) := by
  rw [in_law (n := 39), b_law]
  simp
  refine sp_deck 38 ns h _ fun cs m hc => ?_
  simp [mv_k, -for_c]
  have er : List.map (fun i : Nat => PyData.int (i : Int)) (List.range 3) = ([0, 1, 2] : List Int).map PyData.int := rfl
  try rw [er]
  refine law_loop (n := 19) (fun cs m d s2 s3 s4 s5 s6 s7 s8 s9 s10 s11 s12 s13 s14 => ?_) [0, 1, 2] cs m 0 none none none none none none none none none none none none none hc
  simp
end Mn.R

theorem PySem.Challenge.cw_nearsteps_k41_coarse_tables_index_and_co_holds : PySem.Challenge.rw_nearsteps_k41_coarse_tables_index_and_co.Holds :=
  Mn.law_x fun ns h => Mn.R.hlaw ns h
