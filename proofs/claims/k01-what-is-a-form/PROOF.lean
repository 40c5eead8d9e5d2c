import PyProof.Rows.All
import Wide.All
import OpenK.AllK
import Wide.FinOn
import PySem.Syntax
import HandS.ForMost
import HandS.Flow
import HandS.Wide
import HandS.TupAny
import HandS.TupMul
import HandS.IsInst
import HandS.Deep
import HandS.Walk
import HandS.Style
import HandS.Zip
import HandS.SortInts
import HandS.WordsExc
import HandS.Defaults
import HandS.Head0
import HandS.Head1
import HandS.Head2
import HandS.HeadEnd
import HandS.HeadHook1
import HandS.HeadHook2
import KE.GoesEnum
import HandS.Sort
import KE.KRevSl
import KE.KStateDown
import PySem.Challenge.RW_lengthcounts_k01_what_is_a_form
section
set_option linter.all false
set_option maxRecDepth 10000
namespace LC
open PySem

/-! ### values -/
inductive PV where
  | none
  | bool (b : Bool)
  | int (i : Int)
  | str (s : Str)
  | tup (xs : List PV)
  | lst (u : Bool) (xs : List PV)
  | dic (u : Bool) (ks vs : List PV)
  | exc (c : Str) (fs : List PV)
  | scr (ns : List Int)

instance : Inhabited PV := ⟨.none⟩

mutual
def fz : PV → PV
  | .tup xs => .tup (fzs xs)
  | .lst _ xs => .lst false (fzs xs)
  | .dic _ ks vs => .dic false (fzs ks) (fzs vs)
  | .none => .none
  | .bool b => .bool b
  | .int i => .int i
  | .str s => .str s
  | .exc c fs => .exc c fs
  | .scr ns => .scr ns
def fzs : List PV → List PV
  | [] => []
  | x :: xs => fz x :: fzs xs
end
/- no frozen list within -/
mutual
def nfz : PV → Bool
  | .tup xs => nfzs xs
  | .lst u xs => u && nfzs xs
  | .dic u ks vs => u && nfzs ks && nfzs vs
  | .none => true
  | .bool _ => true
  | .int _ => true
  | .str _ => true
  | .exc _ _ => false
  | .scr _ => false
def nfzs : List PV → Bool
  | [] => true
  | x :: xs => nfz x && nfzs xs
end
/- no list at all within -/
mutual
def lf : PV → Bool
  | .tup xs => lfs xs
  | .lst _ _ => false
  | .dic _ _ _ => false
  | .none => true
  | .bool _ => true
  | .int _ => true
  | .str _ => true
  | .exc _ _ => false
  | .scr _ => false
def lfs : List PV → Bool
  | [] => true
  | x :: xs => lf x && lfs xs
end
/- what == serves: None, truths, numbers, texts, tuples and lists of such -/
mutual
def dok : PV → Bool
  | .tup xs => doks xs
  | .lst _ xs => doks xs
  | .dic _ _ _ => false
  | .exc _ _ => false
  | .scr _ => false
  | .none => true
  | .bool _ => true
  | .int _ => true
  | .str s => s.cps.all fun c => decide (c < 0x110000)
def doks : List PV → Bool
  | [] => true
  | x :: xs => dok x && doks xs
end
mutual
def dep : PV → Nat
  | .tup xs => deps xs + 1
  | .lst _ xs => deps xs + 1
  | .dic _ _ _ => 0
  | .exc _ _ => 0
  | .scr _ => 0
  | .none => 0
  | .bool _ => 0
  | .int _ => 0
  | .str s => 0
def deps : List PV → Nat
  | [] => 0
  | x :: xs => max (dep x) (deps xs)
end
/-- .. at most n deep -/
def dat (n : Nat) (p : PV) : Bool := dok p && decide (dep p ≤ n)
def dats (n : Nat) (ps : List PV) : Bool := doks ps && decide (deps ps ≤ n)
def b2i (b : Bool) : Int := if b then 1 else 0
mutual
def eqv : PV → PV → Bool
  | .none, w => (match w with | .none => true | _ => false)
  | .bool a, w => (match w with | .bool b => a == b | .int j => b2i a == j | _ => false)
  | .int i, w => (match w with | .bool b => i == b2i b | .int j => i == j | _ => false)
  | .str x, w => (match w with | .str y => x == y | _ => false)
  | .lst _ xs, w => (match w with | .lst _ ys => eqvs xs ys | _ => false)
  | .tup xs, w => (match w with | .tup ys => eqvs xs ys | _ => false)
  | .dic _ _ _, _ => false
  | .exc _ _, _ => false
  | .scr _, _ => false
def eqvs : List PV → List PV → Bool
  | [], ys => (match ys with | [] => true | _ => false)
  | x :: xs, ys => (match ys with | y :: ys' => eqv x y && eqvs xs ys' | [] => false)
end

/-! ### outcomes -/
abbrev Env := List (Option PV)
inductive Res (α : Type) where
  | ok (a : α) (ρ : Env)
  | exn (c : Str) (fs : List PV) (ρ : Env)
  | bad
def Res.bind {α β : Type} (r : Res α) (f : α → Env → Res β) : Res β :=
  match r with
  | .ok a ρ => f a ρ
  | .exn c fs ρ => .exn c fs ρ
  | .bad => .bad
@[simp] theorem Res.bind_ok {α β : Type} (a : α) (ρ : Env) (f : α → Env → Res β) : (Res.ok a ρ).bind f = f a ρ := rfl
@[simp] theorem Res.bind_exn {α β : Type} (c : Str) (fs : List PV) (ρ : Env) (f : α → Env → Res β) : (Res.exn c fs ρ : Res α).bind f = .exn c fs ρ := rfl
@[simp] theorem Res.bind_bad {α β : Type} (f : α → Env → Res β) : (Res.bad : Res α).bind f = .bad := rfl
def Res.of {α : Type} (o : Option α) (ρ : Env) : Res α :=
  match o with
  | some a => .ok a ρ
  | none => .bad
@[simp] theorem Res.of_some {α : Type} (a : α) (ρ : Env) : Res.of (some a) ρ = .ok a ρ := rfl
@[simp] theorem Res.of_none {α : Type} (ρ : Env) : (Res.of none ρ : Res α) = .bad := rfl

/-- a call's end: the value, what the in-out list is behind it -/
inductive CRs where
  | ok (v : PV) (io : PV)
  | exn (c : Str) (fs : List PV)
  | bad
abbrev CF := Str → List PV → CRs

/-! ### operations on values -/
def SL : Nat := 16777216
@[irreducible] def BIG : Nat := 2 ^ 400000
@[irreducible] def BIGD : Nat := 2 ^ 8000
def mulOk (i j : Int) : Bool := decide (i.natAbs < BIG) && decide (j.natAbs < BIG)
def divOk (j : Int) : Bool := decide (j ≠ 0) && (decide (j.natAbs < 1073741824) || (decide (0 < j) && decide (j.natAbs < BIGD)))
inductive Bop where
  | add | sub | mul | fdiv | mod | pow
inductive Cop where
  | eq | ne | lt | le | gt | ge | inn | nin
def addV : PV → PV → Option PV
  | .int i, .int j => some (.int (i + j))
  | .str a, .str b => if a.length + b.length ≤ SL then some (.str (a ++ b)) else none
  | .tup xs, .tup ys => if xs.length + ys.length ≤ SL then some (.tup (xs ++ ys)) else none
  | .lst _ xs, .lst _ ys => if xs.length + ys.length ≤ SL then some (.lst true (xs ++ ys)) else none
  | _, _ => none
def mulV : PV → PV → Option PV
  | .int i, .int j => if mulOk i j then some (.int (i * j)) else none
  | .lst _ xs, .int k => if xs.length * k.toNat ≤ SL ∧ k < 1000000000 ∧ -1000000000 < k ∧ lfs xs = true then some (.lst true (List.replicate k.toNat xs).flatten) else none
  | .tup xs, .int k => if xs.length ≤ 1000 ∧ k ≤ 1000 ∧ 1 ≤ k ∧ xs ≠ [] ∧ lfs xs = true then some (.tup (List.replicate k.toNat xs).flatten) else none
  | _, _ => none
/-- an operator of two numbers -/
def intV (f : Int → Int → Option Int) : PV → PV → Option PV
  | .int i, .int j => (f i j).map .int
  | _, _ => none
def binV : Bop → PV → PV → Option PV
  | .add => addV
  | .sub => intV fun i j => some (i - j)
  | .mul => mulV
  | .fdiv => intV fun i j => if divOk j then some (i.fdiv j) else none
  | .mod => intV fun i j => if j ≠ 0 then some (i.fmod j) else none
  | .pow => intV fun i j => if 0 ≤ j ∧ j ≤ 1000 ∧ i.natAbs < 1000 then some (i ^ j.toNat) else none
/-- a comparison of two numbers -/
def cmpI (f : Int → Int → Bool) : PV → PV → Option Bool
  | .int i, .int j => some (f i j)
  | _, _ => none
def flatP : PV → Bool
  | .none => true
  | .bool _ => true
  | .int _ => true
  | .str _ => true
  | _ => false
def inV (neg : Bool) (a : PV) : PV → Option Bool
  | .lst _ xs => if dat 60 a && dats 59 xs then some (if neg then !(xs.any fun z => eqv z a) else xs.any fun z => eqv z a) else none
  | .tup xs => if flatP a && xs.all flatP then some (if neg then !(xs.any fun z => eqv z a) else xs.any fun z => eqv z a) else none
  | .str z => (match a with
    | .str ⟨⟨[c]⟩⟩ => some (if neg then !decide (c ∈ z.cps.toList) else decide (c ∈ z.cps.toList))
    | _ => none)
  | _ => none
def cmpV : Cop → PV → PV → Option Bool
  | .eq => fun a b => if dat 60 a && dat 60 b then some (eqv a b) else none
  | .ne => fun a b => if dat 60 a && dat 60 b then some (!eqv a b) else none
  | .lt => cmpI fun i j => decide (i < j)
  | .le => cmpI fun i j => decide (i ≤ j)
  | .gt => cmpI fun i j => decide (j < i)
  | .ge => cmpI fun i j => decide (j ≤ i)
  | .inn => inV false
  | .nin => inV true
def isNoneV : PV → Bool
  | .none => true
  | _ => false
def truV : PV → Option Bool
  | .none => some false
  | .bool b => some b
  | .int i => some (i != 0)
  | .str s => if s.length ≤ SL then some (s.length != 0) else none
  | .tup xs => some (!xs.isEmpty)
  | .lst _ xs => some (!xs.isEmpty)
  | _ => none
def ixN (n : Nat) (i : Int) : Option Nat := if 0 ≤ i then (if i < n then some i.toNat else none) else if -(n : Int) ≤ i then some (i + n).toNat else none
def atI {α : Type} (xs : List α) (i : Int) : Option α := (ixN xs.length i).bind fun j => xs[j]?
def subV : PV → PV → Option PV
  | .tup xs, .int i => atI xs i
  | .lst _ xs, .int i => atI xs i
  | .scr ns, .int i => (atI ns i).map .int
  | .str s, .int i => if s.length ≤ SL then (atI s.cps.toList i).map fun c => .str ⟨#[c]⟩ else none
  | _, _ => none
def sIx (n d : Nat) : Option Int → Nat
  | none => d
  | some v => if v < 0 then (v + (n : Int)).toNat else min v.toNat n
def cut {α : Type} (xs : List α) (lo hi : Option Int) : List α := (xs.drop (sIx xs.length 0 lo)).take (sIx xs.length xs.length hi - sIx xs.length 0 lo)
def sliV : PV → Option Int → Option Int → Option PV
  | .tup xs, lo, hi => some (.tup (cut xs lo hi))
  | .lst _ xs, lo, hi => some (.lst true (cut xs lo hi))
  | .scr ns, lo, hi => some (.lst true ((cut ns lo hi).map .int))
  | .str s, lo, hi => if s.length ≤ SL then some (.str ⟨(cut s.cps.toList lo hi).toArray⟩) else none
  | _, _, _ => none
inductive Ty where
  | int | bool | str | tuple | list | dict | own (c : Str)
def isiV : PV → Ty → Option Bool
  | .none, .own _ => none
  | .none, _ => some false
  | .bool _, .int => some true
  | .bool _, .bool => some true
  | .bool _, .own _ => none
  | .bool _, _ => some false
  | .int _, .int => some true
  | .int _, .own _ => none
  | .int _, _ => some false
  | .str _, .str => some true
  | .str _, .own _ => none
  | .str _, _ => some false
  | .tup _, .tuple => some true
  | .tup _, .own _ => none
  | .tup _, _ => some false
  | .lst _ _, .list => some true
  | .lst _ _, .own _ => none
  | .lst _ _, _ => some false
  | .dic _ _ _, .dict => some true
  | .dic _ _ _, .own _ => none
  | .dic _ _ _, _ => some false
  | .exc c _, .own d => some (c == d)
  | .exc _ _, _ => none
  | .scr _, _ => none
def intsL : List PV → Option (List Int)
  | [] => some []
  | .int i :: xs => (intsL xs).map (i :: ·)
  | _ :: _ => none
def bools : List PV → Option (List Bool)
  | [] => some []
  | .bool i :: xs => (bools xs).map (i :: ·)
  | _ :: _ => none
def maxL : List Int → Int
  | [] => 0
  | [x] => x
  | x :: xs => max x (maxL xs)
def minL : List Int → Int
  | [] => 0
  | [x] => x
  | x :: xs => min x (minL xs)
inductive Blt where
  | len | abs | max | min | int | str | sum | all | any | tuple | list | divmod
def lenV : List PV → Option PV
  | [.tup xs] => some (.int xs.length)
  | [.lst _ xs] => some (.int xs.length)
  | [.scr ns] => some (.int ns.length)
  | [.str s] => if s.length ≤ SL then some (.int s.length) else none
  | _ => none
def absV : List PV → Option PV
  | [.int i] => some (.int (if i < 0 then -i else i))
  | _ => none
def maxV : List PV → Option PV
  | [.int i, .int j] => some (.int (if j > i then j else i))
  | [.lst _ xs] => (match intsL xs with
    | some (n :: ns) => some (.int (maxL (n :: ns)))
    | _ => none)
  | _ => none
def minV : List PV → Option PV
  | [.int i, .int j] => some (.int (if j < i then j else i))
  | [.lst _ xs] => (match intsL xs with
    | some (n :: ns) => some (.int (minL (n :: ns)))
    | _ => none)
  | _ => none
def intOfV : List PV → Option PV
  | [.int i] => some (.int i)
  | [.bool b] => some (.int (b2i b))
  | _ => none
def strOfV : List PV → Option PV
  | [.int i] => if i.natAbs.log2 < 1920 then some (.str (toString i)) else none
  | _ => none
def sumV : List PV → Option PV
  | [.lst _ xs] => (intsL xs).map fun ns => .int ns.sum
  | _ => none
def allV : List PV → Option PV
  | [.lst _ xs] => (bools xs).map fun bs => .bool (bs.all id)
  | _ => none
def anyV : List PV → Option PV
  | [.lst _ xs] => (bools xs).map fun bs => .bool (bs.any id)
  | _ => none
def tupOfV : List PV → Option PV
  | [.lst _ xs] => some (.tup xs)
  | [.tup xs] => some (.tup xs)
  | _ => none
def lstOfV : List PV → Option PV
  | [.lst _ xs] => some (.lst true xs)
  | [.tup xs] => some (.lst true xs)
  | _ => none
def divmodV : List PV → Option PV
  | [.int i, .int j] => if 0 < j ∧ j < 1073741824 then some (.tup [.int (i / j), .int (i % j)]) else none
  | _ => none
def bltV : Blt → List PV → Option PV
  | .len => lenV
  | .abs => absV
  | .max => maxV
  | .min => minV
  | .int => intOfV
  | .str => strOfV
  | .sum => sumV
  | .all => allV
  | .any => anyV
  | .tuple => tupOfV
  | .list => lstOfV
  | .divmod => divmodV

/-! ### the syntax -/
inductive Tg where
  | nm (i : Nat)
  | tp (ts : List Tg)
mutual
inductive Ex where
  | var (i : Nat)
  | mv (i : Nat)
  | cint (i : Int)
  | cbool (b : Bool)
  | cnone
  | cstr (s : Str)
  | glob (g : Str) (v : PV)
  | bin (o : Bop) (a b : Ex)
  | neg (a : Ex)
  | not (a : Ex)
  | and (a b : Ex)
  | or (a b : Ex)
  | one (a : Ex)
  | cmp (o : Cop) (a b : Ex)
  | chain (o p : Cop) (a b c : Ex)
  | isN (a : Ex)
  | notN (a : Ex)
  | inR (neg : Bool) (a lo hi : Ex)
  | ite (c a b : Ex)
  | tup (es : Exs)
  | lst (es : Exs)
  | dic (es vs : Exs)
  | sub (a i : Ex)
  | sli (a : Ex) (lo hi : Exs)
  | rev (a : Ex)
  | call (f : Str) (es : Exs)
  | callIo (f : Str) (i : Nat) (es : Exs)
  | blt (f : Blt) (es : Exs)
  | isi (a : Ex) (t : Ty)
  | comp (elt : Ex) (tg : Tg) (it : It) (cond : Exs)
inductive Exs where
  | nil
  | cons (e : Ex) (es : Exs)
inductive It where
  | seq (e : Ex)
  | range1 (b : Ex)
  | range2 (a b : Ex)
  | range3 (a b c : Ex)
  | zip (a b : Ex)
  | enum (a : Ex)
end
mutual
inductive Stm where
  | expr (e : Ex)
  | set (i : Nat) (e : Ex)
  | par (i j : Nat) (a b : Ex)
  | asg (tg : Tg) (e : Ex)
  | app (i : Nat) (e : Ex)
  | setAt (i : Nat) (ix e : Ex)
  | setAt2 (i : Nat) (ix jx e : Ex)
  | ret (e : Ex)
  | raise (c : Str) (es : Exs)
  | iff (c : Ex) (a b : Stms)
  | whl (c : Ex) (b : Stms)
  | for_ (fz : Bool) (tg : Tg) (it : It) (b : Stms)
  | brk
  | pass
  | stk
inductive Stms where
  | nil
  | cons (s : Stm) (ss : Stms)
end
structure Fn where
  params : Nat
  slots : Nat
  io : Bool
  body : Stms

/-! ### slots -/
mutual
def Tg.slots : Tg → List Nat
  | .nm i => [i]
  | .tp ts => slotsAll ts
def slotsAll : List Tg → List Nat
  | [] => []
  | t :: ts => t.slots ++ slotsAll ts
end
/-- may slot i be bound: it is there, and not locked -/
def okS (lk : List Nat) (ρ : Env) (i : Nat) : Bool := decide (i < ρ.length) && !lk.contains i
/- bind a target -/
mutual
def bindT (lk : List Nat) : Tg → PV → Env → Option Env
  | .nm i, v, ρ => if okS lk ρ i then some (ρ.set i (some v)) else none
  | .tp ts, v, ρ => (match v with
    | .tup xs => bindTs lk ts xs ρ
    | _ => none)
def bindTs (lk : List Nat) : List Tg → List PV → Env → Option Env
  | [], xs, ρ => (match xs with
    | [] => some ρ
    | _ => none)
  | t :: ts, xs, ρ => (match xs with
    | x :: xs' => (bindT lk t x ρ).bind fun ρ' => bindTs lk ts xs' ρ'
    | [] => none)
end
def getS (ρ : Env) (i : Nat) : Option PV := (ρ[i]?).join
/-- the slots that p picks -/
def selS (p : Nat → Bool) : Nat → Env → Env
  | _, [] => []
  | i, x :: xs => (if p i then x else none) :: selS p (i + 1) xs
/-- the first where it is bound, else the second -/
def orS : Env → Env → Env
  | xs, [] => xs
  | [], _ :: _ => []
  | x :: xs, y :: ys => (match x with | some v => some v | none => y) :: orS xs ys
def frzS (ρ : Env) : Env := ρ.map (Option.map fz)
def wipeS (ρ : Env) (vs : List Nat) : Env := selS (fun i => !vs.contains i) 0 ρ
/-- the slots vs of ρ' put back as in ρ -/
def backS (ρ ρ' : Env) (vs : List Nat) : Env := orS (selS (fun i => vs.contains i) 0 ρ) (wipeS ρ' vs)

/-- the loop of a list comprehension -/
def compL (bd : PV → Env → Option Env) (wp : Env → Env) (cond : Env → Res Bool) (elt : Env → Res PV) : List PV → Env → List PV → Res (List PV)
  | [], ρ, acc => .ok acc ρ
  | x :: xs, ρ, acc => (match bd x (wp ρ) with
    | none => .bad
    | some ρ1 => (match cond ρ1 with
      | .ok true ρ2 => (match elt ρ2 with
        | .ok y ρ3 => if acc.length < SL then compL bd wp cond elt xs (wp ρ3) (acc ++ [y]) else .bad
        | _ => .bad)
      | .ok false ρ2 => compL bd wp cond elt xs (wp ρ2) acc
      | _ => .bad))
def rangeL (lo : Int) : Nat → List PV
  | 0 => []
  | n + 1 => .int lo :: rangeL (lo + 1) n
def rangeC (lo c : Int) : Nat → List PV
  | 0 => []
  | n + 1 => .int lo :: rangeC (lo + c) c n
def zipL : List PV → List PV → List PV
  | x :: xs, y :: ys => .tup [x, y] :: zipL xs ys
  | _, _ => []
def enumL (i : Int) : List PV → List PV
  | [] => []
  | x :: xs => .tup [.int i, x] :: enumL (i + 1) xs
def small62 (i : Int) : Bool := decide (-4611686018427387904 ≤ i) && decide (i < 4611686018427387904)
def range1V : PV → Option (List PV)
  | .int j => if small62 j then some (rangeL 0 j.toNat) else none
  | _ => none
def range2V : PV → PV → Option (List PV)
  | .int i, .int j => if small62 i && small62 j then some (rangeL i (j - i).toNat) else none
  | _, _ => none
/-- by steps of -1 alone -/
def range3V : PV → PV → PV → Option (List PV)
  | .int i, .int j, .int k => if small62 i && small62 j && decide (k = -1) then some (rangeC i (-1) (i - j).toNat) else none
  | _, _, _ => none
def zipV : PV → PV → Option (List PV)
  | .tup xs, .tup ys => some (zipL (fzs xs) (fzs ys))
  | .lst _ xs, .lst _ ys => some (zipL (fzs xs) (fzs ys))
  | _, _ => none
def enumV : PV → Option (List PV)
  | .tup xs => some (enumL 0 (fzs xs))
  | .lst _ xs => some (enumL 0 (fzs xs))
  | _ => none
def seqOf : PV → Option (List PV)
  | .tup xs => some (fzs xs)
  | .lst _ xs => some (fzs xs)
  | .scr ns => some (ns.map .int)
  | .str s => some (s.cps.toList.map fun c => .str ⟨#[c]⟩)
  | _ => none
mutual
/-- the names read as values (not handed in-out) -/
def Ex.vr : Ex → List Nat
  | .var i => [i]
  | .mv _ => []
  | .cint _ => []
  | .cbool _ => []
  | .cnone => []
  | .cstr _ => []
  | .glob _ _ => []
  | .bin _ a b => a.vr ++ b.vr
  | .neg a => a.vr
  | .not a => a.vr
  | .and a b => a.vr ++ b.vr
  | .or a b => a.vr ++ b.vr
  | .one a => a.vr
  | .cmp _ a b => a.vr ++ b.vr
  | .chain _ _ a b c => a.vr ++ b.vr ++ c.vr
  | .isN a => a.vr
  | .notN a => a.vr
  | .inR _ a b c => a.vr ++ b.vr ++ c.vr
  | .ite c a b => c.vr ++ a.vr ++ b.vr
  | .tup es => es.vr
  | .lst es => es.vr
  | .dic es vs => es.vr ++ vs.vr
  | .sub a i => a.vr ++ i.vr
  | .sli a lo hi => a.vr ++ lo.vr ++ hi.vr
  | .rev a => a.vr
  | .call _ es => es.vr
  | .callIo _ _ es => es.vr
  | .blt _ es => es.vr
  | .isi a _ => a.vr
  | .comp e _ it c => e.vr ++ it.vr ++ c.vr
def Exs.vr : Exs → List Nat
  | .nil => []
  | .cons e es => e.vr ++ es.vr
def It.vr : It → List Nat
  | .seq e => e.vr
  | .range1 b => b.vr
  | .range2 a b => a.vr ++ b.vr
  | .range3 a b c => a.vr ++ b.vr ++ c.vr
  | .zip a b => a.vr ++ b.vr
  | .enum a => a.vr
end

mutual
/- the names that an expression may change: handed in-out, moved -/
def Ex.ks : Ex → List Nat
  | .var _ => []
  | .mv i => [i]
  | .cint _ => []
  | .cbool _ => []
  | .cnone => []
  | .cstr _ => []
  | .glob _ _ => []
  | .bin _ a b => a.ks ++ b.ks
  | .neg a => a.ks
  | .not a => a.ks
  | .and a b => a.ks ++ b.ks
  | .or a b => a.ks ++ b.ks
  | .one a => a.ks
  | .cmp _ a b => a.ks ++ b.ks
  | .chain _ _ a b c => a.ks ++ b.ks ++ c.ks
  | .isN a => a.ks
  | .notN a => a.ks
  | .inR _ a b c => a.ks ++ b.ks ++ c.ks
  | .ite c a b => c.ks ++ a.ks ++ b.ks
  | .tup es => es.ks
  | .lst es => es.ks
  | .dic es vs => es.ks ++ vs.ks
  | .sub a i => a.ks ++ i.ks
  | .sli a lo hi => a.ks ++ lo.ks ++ hi.ks
  | .rev a => a.ks
  | .call _ es => es.ks
  | .callIo _ i es => i :: es.ks
  | .blt _ es => es.ks
  | .isi a _ => a.ks
  | .comp e _ it c => e.ks ++ it.ks ++ c.ks
def Exs.ks : Exs → List Nat
  | .nil => []
  | .cons e es => e.ks ++ es.ks
def It.ks : It → List Nat
  | .seq e => e.ks
  | .range1 b => b.ks
  | .range2 a b => a.ks ++ b.ks
  | .range3 a b c => a.ks ++ b.ks ++ c.ks
  | .zip a b => a.ks ++ b.ks
  | .enum a => a.ks
end
/- the value holds no owned list -/
mutual
def cl : PV → Bool
  | .tup xs => cls xs
  | .lst u xs => !u && cls xs
  | .dic u ks vs => !u && cls ks && cls vs
  | .none => true
  | .bool _ => true
  | .int _ => true
  | .str _ => true
  | .exc _ _ => true
  | .scr _ => true
def cls : List PV → Bool
  | [] => true
  | x :: xs => cl x && cls xs
end
def clean : Env → Bool
  | [] => true
  | none :: ρ => clean ρ
  | some v :: ρ => cl v && clean ρ
def mskS (vr ks : List Nat) (ρ : Env) : Env := orS (selS (fun i => ks.contains i) 0 ρ) (frzS (selS (fun i => vr.contains i && !ks.contains i) 0 ρ))
def mrgS (thaw : Bool) (vr ks : List Nat) (ρ ρ1 : Env) : Env :=
  orS (selS (fun i => ks.contains i) 0 ρ1) (if thaw then selS (fun i => !ks.contains i) 0 ρ else orS (frzS (selS (fun i => vr.contains i && !ks.contains i) 0 ρ)) (selS (fun i => !(vr.contains i) && !ks.contains i) 0 ρ))
def nfzO : Option PV → Bool
  | some v => nfz v
  | none => true
def ksOk (ks : List Nat) (ρ : Env) : Bool := (selS (fun i => ks.contains i) 0 ρ).all nfzO
/-- holds an owned list -/
def nlf (ρ : Env) (i : Nat) : Bool := (match getS ρ i with
  | some v => !cl v
  | none => false)
/-- a range: what it was made of may change meanwhile -/
def It.rng : It → Bool
  | .range1 _ => true
  | .range2 _ _ => true
  | _ => false
section
variable (cf : CF)
mutual
def evE : Ex → Env → Res PV
  | .var i, ρ => (match getS ρ i with
    | some v => if cl v then .ok v ρ else .bad
    | none => .bad)
  | .mv i, ρ => (match getS ρ i with
    | some v => if lf v then .ok v ρ else .ok v (ρ.set i none)
    | none => .bad)
  | .cint i, ρ => .ok (.int i) ρ
  | .cbool b, ρ => .ok (.bool b) ρ
  | .cnone, ρ => .ok .none ρ
  | .cstr s, ρ => .ok (.str s) ρ
  | .glob _ v, ρ => .ok v ρ
  | .bin o a b, ρ => (evE a ρ).bind fun x ρ1 => (evE b ρ1).bind fun y ρ2 => Res.of (binV o x y) ρ2
  | .neg a, ρ => (evE a ρ).bind fun x ρ1 => (match x with
    | .int i => .ok (.int (-i)) ρ1
    | _ => .bad)
  | .not a, ρ => (evE a ρ).bind fun x ρ1 => Res.of ((truV x).map fun b => .bool (!b)) ρ1
  | .and a b, ρ => (evE a ρ).bind fun x ρ1 => (match truV x with
    | some true => evE b ρ1
    | some false => .ok x ρ1
    | none => .bad)
  | .or a b, ρ => (evE a ρ).bind fun x ρ1 => (match truV x with
    | some true => .ok x ρ1
    | some false => evE b ρ1
    | none => .bad)
  | .one a, ρ => evE a ρ
  | .cmp o a b, ρ => (evE a ρ).bind fun x ρ1 => (evE b ρ1).bind fun y ρ2 => Res.of ((cmpV o x y).map .bool) ρ2
  | .chain o p a b c, ρ => (evE a ρ).bind fun x ρ1 => (evE b ρ1).bind fun y ρ2 => (match cmpV o x y with
    | some true => (evE c ρ2).bind fun z ρ3 => Res.of ((cmpV p y z).map .bool) ρ3
    | some false => .ok (.bool false) ρ2
    | none => .bad)
  | .isN a, ρ => (evE a ρ).bind fun x ρ1 => .ok (.bool (isNoneV x)) ρ1
  | .notN a, ρ => (evE a ρ).bind fun x ρ1 => .ok (.bool (!isNoneV x)) ρ1
  | .inR ng a lo hi, ρ => (evE a ρ).bind fun x ρ1 => (evE lo ρ1).bind fun y ρ2 => (evE hi ρ2).bind fun z ρ3 => (match x, y, z with
    | .int k, .int i, .int j => .ok (.bool (if ng then !(decide (i ≤ k) && decide (k < j)) else (decide (i ≤ k) && decide (k < j)))) ρ3
    | _, _, _ => .bad)
  | .ite c a b, ρ => (evE c ρ).bind fun x ρ1 => (match truV x with
    | some true => evE a ρ1
    | some false => evE b ρ1
    | none => .bad)
  | .tup es, ρ => (evEs es ρ).bind fun xs ρ1 => if xs.length ≤ SL then .ok (.tup xs) ρ1 else .bad
  | .lst es, ρ => (evEs es ρ).bind fun xs ρ1 => if xs.length ≤ SL then .ok (.lst true xs) ρ1 else .bad
  | .dic es vs, ρ => (evEs es ρ).bind fun ks ρ1 => (evEs vs ρ1).bind fun xs ρ2 => .ok (.dic false ks xs) ρ2
  | .sub a i, ρ => (evE a ρ).bind fun x ρ1 => (evE i ρ1).bind fun y ρ2 => Res.of (subV x y) ρ2
  | .sli a lo hi, ρ => (evE a ρ).bind fun x ρ1 => (evO lo ρ1).bind fun l ρ2 => (evO hi ρ2).bind fun h ρ3 => Res.of (sliV x l h) ρ3
  | .rev a, ρ => (evE a ρ).bind fun x ρ1 => (match x with
    | .tup xs => .ok (.tup xs.reverse) ρ1
    | _ => .bad)
  | .call f es, ρ => (evEs es ρ).bind fun xs ρ1 => (match cf f (fzs xs) with
    | .ok v _ => .ok v ρ1
    | .exn c fs => .exn c fs ρ1
    | .bad => .bad)
  | .callIo f i es, ρ => (match getS ρ i with
    | none => .bad
    | some _ => (evEs es ρ).bind fun xs ρ1 => (match getS ρ1 i with
      | some (.lst true ns) => if lfs ns && decide (i < ρ1.length) then (match cf f (.lst true ns :: fzs xs) with
        | .ok v (.lst true ms) => .ok v (ρ1.set i (some (.lst true ms)))
        | _ => .bad) else .bad
      | _ => .bad))
  | .blt f es, ρ => (evEs es ρ).bind fun xs ρ1 => Res.of (bltV f xs) ρ1
  | .isi a t, ρ => (evE a ρ).bind fun x ρ1 => Res.of ((isiV x t).map .bool) ρ1
  | .comp e tg it c, ρ => (evIt it ρ).bind fun xs ρ1 =>
    (compL (bindT [] tg) (fun r => wipeS r tg.slots) (fun r => evC c r) (fun r => evE e r) xs (wipeS ρ1 tg.slots) []).bind fun ys ρ2 => .ok (.lst true ys) (backS ρ1 ρ2 tg.slots)
def evEs : Exs → Env → Res (List PV)
  | .nil, ρ => .ok [] ρ
  | .cons e es, ρ => (evE e ρ).bind fun x ρ1 => (evEs es ρ1).bind fun xs ρ2 => .ok (x :: xs) ρ2
/-- a slice's end: none, or a number -/
def evO : Exs → Env → Res (Option Int)
  | .nil, ρ => .ok none ρ
  | .cons e _, ρ => (evE e ρ).bind fun x ρ1 => (match x with
    | .int i => .ok (some i) ρ1
    | _ => .bad)
/-- a comprehension's test: none, or one -/
def evC : Exs → Env → Res Bool
  | .nil, ρ => .ok true ρ
  | .cons e _, ρ => (evE e ρ).bind fun x ρ1 => Res.of (truV x) ρ1
def evIt : It → Env → Res (List PV)
  | .seq e, ρ => (evE e ρ).bind fun x ρ1 => Res.of (seqOf x) ρ1
  | .range1 b, ρ => (evE b ρ).bind fun y ρ1 => Res.of (range1V y) ρ1
  | .range2 a b, ρ => (evE a ρ).bind fun x ρ1 => (evE b ρ1).bind fun y ρ2 => Res.of (range2V x y) ρ2
  | .range3 a b c, ρ => (evE a ρ).bind fun x ρ1 => (evE b ρ1).bind fun y ρ2 => (evE c ρ2).bind fun z ρ3 => Res.of (range3V x y z) ρ3
  | .zip a b, ρ => (evE a ρ).bind fun x ρ1 => (evE b ρ1).bind fun y ρ2 => Res.of (zipV x y) ρ2
  | .enum a, ρ => (evE a ρ).bind fun x ρ1 => Res.of (enumV x) ρ1
end

/-! ### statements -/
inductive Fl where
  | next (ρ : Env)
  | ret (v : PV) (ρ : Env)
  | brk (ρ : Env)
  | exn (c : Str) (fs : List PV) (ρ : Env)
  | bad

/-- an expression of a statement: only the names that it reads (frozen) and those that it may change are seen; behind it the others stand as before; those that were read stay frozen if the value holds a frozen list -/
def evX (e : Ex) (ρ : Env) : Res PV :=
  if clean ρ && e.ks.isEmpty then evE cf e ρ else
  match evE cf e (mskS e.vr e.ks ρ) with
  | .ok v ρ1 => if ksOk e.ks ρ1 then .ok v (mrgS (nfz v) e.vr e.ks ρ ρ1) else .bad
  | .exn c fs ρ1 => if ksOk e.ks ρ1 then .exn c fs (mrgS true e.vr e.ks ρ ρ1) else .bad
  | .bad => .bad
def evXt (e : Ex) (ρ : Env) : Res Bool := (evX cf e ρ).bind fun v ρ1 => Res.of (truV v) ρ1
/-- what a for walks: where the items hold no list, the lists that were read are put out of sight meanwhile (the second environment, to be put back behind the loop) -/
def evXi (fz : Bool) (it : It) (ρ : Env) : Res (List PV × Env) :=
  match evIt cf it (mskS it.vr it.ks ρ) with
  | .ok xs ρ1 => if ksOk it.ks ρ1 then (if it.rng then .ok (xs, []) (mrgS true it.vr it.ks ρ ρ1) else if !fz && lfs xs then .ok (xs, selS (nlf ρ) 0 (selS (fun i => it.vr.contains i) 0 (selS (fun i => !it.ks.contains i) 0 ρ)))
      (orS (selS (fun i => it.ks.contains i) 0 ρ1) (selS (fun i => !it.ks.contains i && !(it.vr.contains i && nlf ρ i)) 0 ρ)) else .ok (xs, []) (mrgS false it.vr it.ks ρ ρ1)) else .bad
  | .exn c fs ρ1 => if ksOk it.ks ρ1 then .exn c fs (mrgS true it.vr it.ks ρ ρ1) else .bad
  | .bad => .bad
/-- a number, by names that hold no lists -/
def evZ (e : Ex) (ρ : Env) : Option Int :=
  if e.ks.isEmpty && (selS (fun i => e.vr.contains i) 0 ρ).all (fun o => match o with | some v => lf v | none => true) then
    (match evE cf e (selS (fun i => e.vr.contains i) 0 ρ) with
    | .ok (.int m) _ => some m
    | _ => none)
  else none
def forL (bd : PV → Env → Option Env) (body : Env → Fl) : List PV → Env → Fl
  | [], ρ => .next ρ
  | x :: xs, ρ => (match bd x ρ with
    | none => .bad
    | some ρ1 => (match body ρ1 with
      | .next ρ2 => forL bd body xs ρ2
      | .brk ρ2 => .next ρ2
      | .ret v ρ2 => .ret v ρ2
      | .exn c fs ρ2 => .exn c fs ρ2
      | .bad => .bad))
def whlN (c : Env → Res Bool) (body : Env → Fl) : Nat → Env → Fl
  | 0, _ => .bad
  | k + 1, ρ => (match c ρ with
    | .ok true ρ1 => (match body ρ1 with
      | .next ρ2 => whlN c body k ρ2
      | .brk ρ2 => .next ρ2
      | .ret v ρ2 => .ret v ρ2
      | .exn c fs ρ2 => .exn c fs ρ2
      | .bad => .bad)
    | .ok false ρ1 => .next ρ1
    | .exn c fs ρ1 => .exn c fs ρ1
    | .bad => .bad)
open Classical in
noncomputable def whlW (c : Env → Res Bool) (body : Env → Fl) (ρ : Env) : Fl :=
  if h : ∃ k, whlN c body k ρ ≠ .bad then whlN c body (Classical.choose h) ρ else .bad
/-- behind a for: the hidden slots put back -/
def Fl.put (ρ0 : Env) : Fl → Fl
  | .next ρ => .next (orS ρ ρ0)
  | .ret v ρ => .ret v (orS ρ ρ0)
  | .brk ρ => .brk (orS ρ ρ0)
  | .exn c fs ρ => .exn c fs (orS ρ ρ0)
  | .bad => .bad
mutual
noncomputable def evS : Stm → List Nat → Env → Fl
  | .expr e, lk, ρ => (match evX cf e ρ with
    | .ok _ ρ1 => .next ρ1
    | .exn c fs ρ1 => .exn c fs ρ1
    | .bad => .bad)
  | .set i e, lk, ρ => (match evX cf e ρ with
    | .ok v ρ1 => if okS lk ρ1 i then .next (ρ1.set i (some v)) else .bad
    | .exn c fs ρ1 => .exn c fs ρ1
    | .bad => .bad)
  | .par i j a b, lk, ρ => (match evX cf (.tup (.cons a (.cons b .nil))) ρ with
    | .ok (.tup [v, w]) ρ1 => if okS lk ρ1 i && okS lk ρ1 j && (i != j) then .next ((ρ1.set i (some v)).set j (some w)) else .bad
    | .ok _ _ => .bad
    | .exn c fs ρ1 => .exn c fs ρ1
    | .bad => .bad)
  | .asg tg e, lk, ρ => (match evX cf e ρ with
    | .ok v ρ1 => (match bindT lk tg v ρ1 with
      | some ρ2 => .next ρ2
      | none => .bad)
    | .exn c fs ρ1 => .exn c fs ρ1
    | .bad => .bad)
  | .app i e, lk, ρ => (match getS ρ i with
    | some (.lst true _) => (match evX cf e ρ with
      | .ok v ρ1 => (match getS ρ1 i with
        | some (.lst true xs) => if xs.length < SL then .next (ρ1.set i (some (.lst true (xs ++ [v])))) else .bad
        | _ => .bad)
      | .exn c fs ρ1 => .exn c fs ρ1
      | .bad => .bad)
    | _ => .bad)
  | .setAt i ix e, lk, ρ => (match evX cf e ρ with
    | .ok v ρ1 => (match getS ρ1 i with
      | some _ => (match evX cf ix ρ1 with
        | .ok (.int k) ρ2 => (match getS ρ2 i with
          | some (.lst true xs) => (match ixN xs.length k with
            | some j => .next (ρ2.set i (some (.lst true (xs.set j v))))
            | none => .bad)
          | _ => .bad)
        | _ => .bad)
      | none => .bad)
    | .exn c fs ρ1 => .exn c fs ρ1
    | .bad => .bad)
  | .setAt2 i ix jx e, lk, ρ => (match evX cf e ρ with
    | .ok v ρ1 => (match evZ cf ix ρ1, evZ cf jx ρ1 with
      | some k, some m => (match getS ρ1 i with
        | some (.lst true xs) => (match ixN xs.length k with
          | some j => (match xs[j]? with
            | some (.lst true ys) => (match ixN ys.length m with
              | some l => .next (ρ1.set i (some (.lst true (xs.set j (.lst true (ys.set l v))))))
              | none => .bad)
            | _ => .bad)
          | none => .bad)
        | _ => .bad)
      | _, _ => .bad)
    | .exn c fs ρ1 => .exn c fs ρ1
    | .bad => .bad)
  | .ret e, lk, ρ => (match evX cf e ρ with
    | .ok v ρ1 => .ret v ρ1
    | .exn c fs ρ1 => .exn c fs ρ1
    | .bad => .bad)
  | .raise c es, lk, ρ => (match evEs cf es ρ with
    | .ok xs ρ1 => if clean ρ && lfs xs then .exn c xs ρ1 else .bad
    | _ => .bad)
  | .iff c a b, lk, ρ => (match evXt cf c ρ with
    | .ok true ρ1 => evSs a lk ρ1
    | .ok false ρ1 => evSs b lk ρ1
    | .exn c fs ρ1 => .exn c fs ρ1
    | .bad => .bad)
  | .whl c b, lk, ρ => whlW (evXt cf c) (evSs b lk) ρ
  | .for_ fz tg it b, lk, ρ => (match evXi cf fz it ρ with
    | .ok (xs, ρ0) ρ1 => (forL (bindT ((if it.rng then [] else it.vr) ++ lk) tg) (evSs b ((if it.rng then [] else it.vr) ++ lk)) xs ρ1).put ρ0
    | .exn c fs ρ1 => .exn c fs ρ1
    | .bad => .bad)
  | .brk, lk, ρ => .brk ρ
  | .pass, lk, ρ => .next ρ
  | .stk, lk, ρ => .bad
noncomputable def evSs : Stms → List Nat → Env → Fl
  | .nil, lk, ρ => .next ρ
  | .cons s ss, lk, ρ => (match evS s lk ρ with
    | .next ρ1 => evSs ss lk ρ1
    | .ret v ρ1 => .ret v ρ1
    | .brk ρ1 => .brk ρ1
    | .exn c fs ρ1 => .exn c fs ρ1
    | .bad => .bad)
end
end
/-! ### defs and calls -/
noncomputable def runFn (cf : CF) (fn : Fn) (args : List PV) : CRs :=
  if args.length = fn.params then
    match evSs cf fn.body (if fn.io then [0] else []) (args.map some ++ List.replicate (fn.slots - fn.params) none) with
    | .ret v ρ => if fn.io then (match getS ρ 0 with
      | some (.lst true ms) => if lfs ms then .ok v (.lst true ms) else .bad
      | _ => .bad) else .ok v .none
    | .next ρ => if fn.io then (match getS ρ 0 with
      | some (.lst true ms) => if lfs ms then .ok .none (.lst true ms) else .bad
      | _ => .bad) else .ok .none .none
    | .exn c fs _ => if fn.io then .bad else .exn c fs
    | _ => .bad
  else .bad
noncomputable def callN (T : Str → Option Fn) : Nat → CF
  | 0 => fun _ _ => .bad
  | n + 1 => fun f args => (match T f with
    | some fn => runFn (callN T n) fn args
    | none => .bad)

/-! ### small laws of flags -/
mutual
theorem lf_nfz : ∀ p : PV, lf p = true → nfz p = true
  | .tup xs, h => by simp only [lf, nfz] at *; exact lfs_nfzs xs h
  | .lst u xs, h => by simp [lf] at h
  | .dic u ks vs, h => by simp [lf] at h
  | .none, _ => rfl
  | .bool _, _ => rfl
  | .int _, _ => rfl
  | .str _, _ => rfl
  | .exc _ _, h => by simp [lf] at h
  | .scr _, h => by simp [lf] at h
theorem lfs_nfzs : ∀ ps : List PV, lfs ps = true → nfzs ps = true
  | [], _ => rfl
  | x :: xs, h => by simp only [lfs, nfzs, Bool.and_eq_true] at *; exact ⟨lf_nfz x h.1, lfs_nfzs xs h.2⟩
end
mutual
theorem lf_fz : ∀ p : PV, lf p = true → fz p = p
  | .tup xs, h => by simp only [lf, fz] at *; rw [lfs_fzs xs h]
  | .lst u xs, h => by simp [lf] at h
  | .dic u ks vs, h => by simp [lf] at h
  | .none, _ => rfl
  | .bool _, _ => rfl
  | .int _, _ => rfl
  | .str _, _ => rfl
  | .exc _ _, h => by simp [lf] at h
  | .scr _, h => by simp [lf] at h
theorem lfs_fzs : ∀ ps : List PV, lfs ps = true → fzs ps = ps
  | [], _ => rfl
  | x :: xs, h => by simp only [lfs, fzs, Bool.and_eq_true] at *; rw [lf_fz x h.1, lfs_fzs xs h.2]
end
mutual
theorem cl_fz : ∀ p : PV, cl p = true → fz p = p
  | .tup xs, h => by simp only [cl, fz] at *; rw [cls_fzs xs h]
  | .lst u xs, h => by
    simp only [cl, fz, Bool.and_eq_true, Bool.not_eq_true'] at *; rw [cls_fzs xs h.2, h.1]
  | .dic u ks vs, h => by
    simp only [cl, fz, Bool.and_eq_true, Bool.not_eq_true'] at *; rw [cls_fzs ks h.1.2, cls_fzs vs h.2, h.1.1]
  | .none, _ => rfl
  | .bool _, _ => rfl
  | .int _, _ => rfl
  | .str _, _ => rfl
  | .exc _ _, h => rfl
  | .scr _, h => rfl
theorem cls_fzs : ∀ ps : List PV, cls ps = true → fzs ps = ps
  | [], _ => rfl
  | x :: xs, h => by simp only [cls, fzs, Bool.and_eq_true] at *; rw [cl_fz x h.1, cls_fzs xs h.2]
end
mutual
theorem cl_of_fz : ∀ p : PV, cl (fz p) = true
  | .tup xs => by simp only [cl, fz]; exact cls_of_fzs xs
  | .lst u xs => by simp only [cl, fz, Bool.not_false, Bool.true_and]; exact cls_of_fzs xs
  | .dic u ks vs => by simp only [cl, fz, Bool.not_false, Bool.true_and, Bool.and_eq_true]; exact ⟨cls_of_fzs ks, cls_of_fzs vs⟩
  | .none => rfl
  | .bool _ => rfl
  | .int _ => rfl
  | .str _ => rfl
  | .exc _ _ => rfl
  | .scr _ => rfl
theorem cls_of_fzs : ∀ ps : List PV, cls (fzs ps) = true
  | [] => rfl
  | x :: xs => by simp only [cls, fzs, Bool.and_eq_true]; exact ⟨cl_of_fz x, cls_of_fzs xs⟩
end
theorem fz_fz (p : PV) : fz (fz p) = fz p := cl_fz _ (cl_of_fz p)
theorem fzs_map : ∀ ps : List PV, fzs ps = ps.map fz
  | [] => rfl
  | x :: xs => by rw [fzs, fzs_map xs]; rfl
theorem lfs_all : ∀ ps : List PV, lfs ps = ps.all lf
  | [] => rfl
  | x :: xs => by rw [lfs, lfs_all xs]; rfl
theorem cls_all : ∀ ps : List PV, cls ps = ps.all cl
  | [] => rfl
  | x :: xs => by rw [cls, cls_all xs]; rfl
theorem nfzs_all : ∀ ps : List PV, nfzs ps = ps.all nfz
  | [] => rfl
  | x :: xs => by rw [nfzs, nfzs_all xs]; rfl
theorem doks_all : ∀ ps : List PV, doks ps = ps.all dok
  | [] => rfl
  | x :: xs => by rw [doks, doks_all xs]; rfl
theorem lf_cl (p : PV) (h : lf p = true) : cl p = true := by rw [← lf_fz p h]; exact cl_of_fz p
/-! ### the while -/
theorem whlN_mono {c : Env → Res Bool} {b : Env → Fl} : ∀ (k : Nat) (ρ : Env), whlN c b k ρ ≠ .bad → whlN c b (k + 1) ρ = whlN c b k ρ
  | 0, ρ, h => absurd rfl h
  | k + 1, ρ, h => by
    rw [whlN] at h
    rw [whlN, whlN]
    cases hc : c ρ with
    | ok t ρ1 =>
      rw [hc] at h
      cases t with
      | true =>
        simp only at h ⊢
        cases hb : b ρ1 with
        | next ρ2 =>
          rw [hb] at h
          simp only at h ⊢
          exact whlN_mono k ρ2 h
        | _ => rfl
      | false => rfl
    | _ => rfl
theorem whlN_le {c : Env → Res Bool} {b : Env → Fl} {k : Nat} {ρ : Env} (h : whlN c b k ρ ≠ .bad) : ∀ j, whlN c b (k + j) ρ = whlN c b k ρ
  | 0 => rfl
  | j + 1 => by
    have ih := whlN_le h j
    rw [← Nat.add_assoc, whlN_mono (k + j) ρ (by rw [ih]; exact h), ih]
theorem whlN_eq {c : Env → Res Bool} {b : Env → Fl} {j k : Nat} {ρ : Env} (h : whlN c b k ρ ≠ .bad) (h' : whlN c b j ρ ≠ .bad) : whlN c b k ρ = whlN c b j ρ := by
  rcases Nat.le_total k j with q | q
  · obtain ⟨d, rfl⟩ := Nat.le.dest q
    rw [whlN_le h d]
  · obtain ⟨d, rfl⟩ := Nat.le.dest q
    rw [whlN_le h' d]
theorem whlW_of {c : Env → Res Bool} {b : Env → Fl} {k : Nat} {ρ : Env} (h : whlN c b k ρ ≠ .bad) : whlW c b ρ = whlN c b k ρ := by
  have e : ∃ k, whlN c b k ρ ≠ .bad := ⟨k, h⟩
  unfold whlW
  rw [dif_pos e]
  exact whlN_eq (Classical.choose_spec e) h
theorem whlW_ex {c : Env → Res Bool} {b : Env → Fl} {ρ : Env} (h : whlW c b ρ ≠ .bad) : ∃ k, whlN c b k ρ = whlW c b ρ := by
  unfold whlW at h ⊢
  split at h
  · rename_i e
    exact ⟨_, by rw [dif_pos e]⟩
  · exact absurd rfl h
theorem whlW_step (c : Env → Res Bool) (b : Env → Fl) (ρ : Env) : whlW c b ρ = (match c ρ with
    | .ok true ρ1 => (match b ρ1 with
      | .next ρ2 => whlW c b ρ2
      | .brk ρ2 => .next ρ2
      | .ret v ρ2 => .ret v ρ2
      | .exn c fs ρ2 => .exn c fs ρ2
      | .bad => .bad)
    | .ok false ρ1 => .next ρ1
    | .exn c fs ρ1 => .exn c fs ρ1
    | .bad => .bad) := by
  by_cases h : ∃ k, whlN c b k ρ ≠ .bad
  · obtain ⟨k, h⟩ := h
    cases k with
    | zero => exact absurd rfl h
    | succ k =>
      rw [whlW_of h]
      rw [whlN] at h ⊢
      cases hc : c ρ with
      | ok t ρ1 =>
        rw [hc] at h
        cases t with
        | true =>
          simp only at h ⊢
          cases hb : b ρ1 with
          | next ρ2 =>
            rw [hb] at h
            simp only at h ⊢
            exact (whlW_of h).symm
          | _ => rfl
        | false => rfl
      | _ => rfl
  · have h0 : ∀ k, whlN c b k ρ = .bad := fun k => Classical.byContradiction fun q => h ⟨k, q⟩
    have e : whlW c b ρ = .bad := by
      unfold whlW
      rw [dif_neg h]
    rw [e]
    have h1 := h0 1
    rw [whlN] at h1
    cases hc : c ρ with
    | ok t ρ1 =>
      rw [hc] at h1
      cases t with
      | true =>
        simp only at h1 ⊢
        cases hb : b ρ1 with
        | next ρ2 =>
          simp only
          by_cases q : whlW c b ρ2 = .bad
          · exact q.symm
          · obtain ⟨k, hk⟩ := whlW_ex q
            have h2 := h0 (k + 1)
            rw [whlN, hc] at h2
            simp only [hb] at h2
            rw [← hk, h2]
        | bad => rfl
        | _ => rw [hb] at h1; exact absurd h1 (by simp)
      | false => exact absurd h1 (by simp)
    | exn _ _ _ => rw [hc] at h1; exact absurd h1 (by simp)
    | bad => rfl
end LC
end

section
set_option Elab.async false
set_option linter.all false
set_option maxRecDepth 100000
set_option maxHeartbeats 1000000
namespace LC
open PySem PySem.Spec L2

/-! ### how values lie in the heap -/
inductive Rps (K : PySem.W.Frag) (G H : Hp) : List V → List PV → List Addr → Prop
  | nil : Rps K G H [] [] []
  | none {vs : List V} {ps : List PV} {F : List Addr} (r : Rps K G H vs ps F) : Rps K G H (.non :: vs) (.none :: ps) F
  | bool {b : Bool} {vs : List V} {ps : List PV} {F : List Addr} (r : Rps K G H vs ps F) : Rps K G H (.bl b :: vs) (.bool b :: ps) F
  | int {i : Int} {vs : List V} {ps : List PV} {F : List Addr} (r : Rps K G H vs ps F) : Rps K G H (.int i :: vs) (.int i :: ps) F
  | str {s : Str} {vs : List V} {ps : List PV} {F : List Addr} (r : Rps K G H vs ps F) : Rps K G H (.str s :: vs) (.str s :: ps) F
  | tup {a : Addr} {ws : List V} {qs : List PV} {F1 : List Addr} {vs : List V} {ps : List PV} {F2 : List Addr} (s : SqT K G a ws) (c : Rps K G H ws qs F1) (r : Rps K G H vs ps F2) (d : ∀ x ∈ F1, x ∉ F2) :
      Rps K G H (.ref a :: vs) (.tup qs :: ps) (F1 ++ F2)
  | lstF {a : Addr} {ws : List V} {qs : List PV} {vs : List V} {ps : List PV} {F : List Addr} (s : G a = some (.lst ws)) (c : Rps K G H ws qs []) (r : Rps K G H vs ps F) : Rps K G H (.ref a :: vs) (.lst false qs :: ps) F
  | lstT {a : Addr} {ws : List V} {qs : List PV} {F1 : List Addr} {vs : List V} {ps : List PV} {F2 : List Addr} (s : H a = some (.lst ws)) (n : G a = Option.none) (c : Rps K G H ws qs F1) (r : Rps K G H vs ps F2)
      (n1 : a ∉ F1) (n2 : a ∉ F2) (d : ∀ x ∈ F1, x ∉ F2) : Rps K G H (.ref a :: vs) (.lst true qs :: ps) (a :: (F1 ++ F2))
  | dicF {a : Addr} {kvs : List (Key × V)} {ks xs : List PV} {vs : List V} {ps : List PV} {F : List Addr} (s : G a = some (.dK kvs)) (r : Rps K G H vs ps F) : Rps K G H (.ref a :: vs) (.dic false ks xs :: ps) F
  | scr {a : Addr} {ns : List Int} {vs : List V} {ps : List PV} {F : List Addr} (s : SqL K G a (ns.map V.int)) (r : Rps K G H vs ps F) : Rps K G H (.ref a :: vs) (.scr ns :: ps) F

theorem sqT_mono {K : PySem.W.Frag} {G G' : Hp} {a : Addr} {ws : List V} (s : Same G G') (h : SqT K G a ws) : SqT K G' a ws := by
  rcases h with (h | ⟨o, h⟩) | h
  · exact .inl (.inl (s _ _ h))
  · exact .inl (.inr ⟨o, s _ _ h⟩)
  · exact .inr h

section
variable {K : PySem.W.Frag} {G G' H H' : Hp} {vs ws : List V} {ps qs : List PV} {F F1 F2 : List Addr}
theorem Rps.len (h : Rps K G H vs ps F) : vs.length = ps.length := by
  induction h with
  | nil => rfl
  | tup _ _ _ _ _ ih => simp [ih]
  | lstF _ _ _ _ ih => simp [ih]
  | lstT _ _ _ _ _ _ _ _ ih => simp [ih]
  | _ => simp [*]
theorem Rps.mono (h : Rps K G H vs ps F) (sg : Same G G') : (∀ a ∈ F, H' a = H a ∧ G' a = Option.none) → Rps K G' H' vs ps F := by
  induction h with
  | nil => intro _; exact .nil
  | none _ ih => intro q; exact .none (ih q)
  | bool _ ih => intro q; exact .bool (ih q)
  | int _ ih => intro q; exact .int (ih q)
  | str _ ih => intro q; exact .str (ih q)
  | tup s _ _ d ih1 ih2 => intro q; exact .tup (sqT_mono sg s) (ih1 fun a ha => q a (List.mem_append_left _ ha)) (ih2 fun a ha => q a (List.mem_append_right _ ha)) d
  | lstF s _ _ ih1 ih2 => intro q; exact .lstF (sg _ _ s) (ih1 fun a ha => absurd ha (by simp)) (ih2 q)
  | lstT s n _ _ n1 n2 d ih1 ih2 =>
    intro q
    have q0 := q _ List.mem_cons_self
    exact .lstT (by rw [q0.1]; exact s) q0.2 (ih1 fun a ha => q a (List.mem_cons_of_mem _ (List.mem_append_left _ ha))) (ih2 fun a ha => q a (List.mem_cons_of_mem _ (List.mem_append_right _ ha))) n1 n2 d
  | dicF s _ ih => intro q; exact .dicF (sg _ _ s) (ih q)
  | scr s _ ih => intro q; exact .scr (sg.seq s) (ih q)
theorem Rps.freeze (h : Rps K G H vs ps F) (sg : Same G G') : (∀ a ∈ F, G' a = H a) → Rps K G' H' vs (fzs ps) [] := by
  induction h with
  | nil => intro _; exact .nil
  | none _ ih => intro q; exact .none (ih q)
  | bool _ ih => intro q; exact .bool (ih q)
  | int _ ih => intro q; exact .int (ih q)
  | str _ ih => intro q; exact .str (ih q)
  | tup s _ _ d ih1 ih2 => intro q; exact .tup (F1 := []) (F2 := []) (sqT_mono sg s) (ih1 fun a ha => q a (List.mem_append_left _ ha)) (ih2 fun a ha => q a (List.mem_append_right _ ha)) (by simp)
  | lstF s _ _ ih1 ih2 => intro q; exact .lstF (sg _ _ s) (ih1 fun a ha => absurd ha (by simp)) (ih2 q)
  | lstT s n _ _ n1 n2 d ih1 ih2 =>
    intro q
    have q0 := q _ List.mem_cons_self
    exact .lstF (by rw [q0]; exact s) (ih1 fun a ha => q a (List.mem_cons_of_mem _ (List.mem_append_left _ ha))) (ih2 fun a ha => q a (List.mem_cons_of_mem _ (List.mem_append_right _ ha)))
  | dicF s _ ih => intro q; exact .dicF (sg _ _ s) (ih q)
  | scr s _ ih => intro q; exact .scr (sg.seq s) (ih q)
theorem Rps.inH (h : Rps K G H vs ps F) : ∀ a ∈ F, (∃ ws, H a = some (.lst ws)) ∧ G a = Option.none := by
  induction h with
  | nil => intro a ha; simp at ha
  | none _ ih => exact ih
  | bool _ ih => exact ih
  | int _ ih => exact ih
  | str _ ih => exact ih
  | tup s _ _ d ih1 ih2 =>
    intro a ha
    rcases List.mem_append.mp ha with ha | ha
    · exact ih1 a ha
    · exact ih2 a ha
  | lstF s _ _ ih1 ih2 => exact ih2
  | lstT s n _ _ n1 n2 d ih1 ih2 =>
    intro a ha
    rcases List.mem_cons.mp ha with ha | ha
    · subst ha; exact ⟨⟨_, s⟩, n⟩
    · rcases List.mem_append.mp ha with ha | ha
      · exact ih1 a ha
      · exact ih2 a ha
  | dicF s _ ih => exact ih
  | scr s _ ih => exact ih
open Classical in
/-- G without the addresses B -/
noncomputable def cutH (B : List Addr) (G : Hp) : Hp := fun b => if b ∈ B then Option.none else G b
theorem cutH_in {B : List Addr} {b : Addr} (h : b ∈ B) : cutH B G b = Option.none := by unfold cutH; rw [if_pos h]
theorem cutH_out {B : List Addr} {b : Addr} (h : b ∉ B) : cutH B G b = G b := by unfold cutH; rw [if_neg h]
theorem cutH_some {B : List Addr} {b : Addr} {o : HO} (h : cutH B G b = some o) : b ∉ B ∧ G b = some o := by
  unfold cutH at h
  split at h
  · cases h
  · exact ⟨by assumption, h⟩
theorem Rps.thaw {B : List Addr} (h : Rps K G H vs ps F) (gh : Same G H) (hB : ∀ a ∈ B, ∃ ws, H a = some (.lst ws)) : nfzs ps = true → Rps K (cutH B G) H vs ps F := by
  have notin : ∀ a o, G a = some o → (∀ ws, o ≠ .lst ws) → a ∉ B := fun a o e ne hb => by
    obtain ⟨ws, q⟩ := hB a hb
    have := gh a o e
    rw [q] at this
    cases this
    exact ne _ rfl
  induction h with
  | nil => intro _; exact .nil
  | none _ ih => intro q; exact .none (ih (by simpa [nfzs, nfz] using q))
  | bool _ ih => intro q; exact .bool (ih (by simpa [nfzs, nfz] using q))
  | int _ ih => intro q; exact .int (ih (by simpa [nfzs, nfz] using q))
  | str _ ih => intro q; exact .str (ih (by simpa [nfzs, nfz] using q))
  | tup s _ _ d ih1 ih2 =>
    intro q
    simp only [nfzs, nfz, Bool.and_eq_true] at q
    refine .tup ?_ (ih1 q.1) (ih2 q.2) d
    rcases s with (s | ⟨o, s⟩) | s
    · exact .inl (.inl (by rw [cutH_out (notin _ _ s (by intro ws e; cases e))]; exact s))
    · exact .inl (.inr ⟨o, by rw [cutH_out (notin _ _ s (by intro ws e; cases e))]; exact s⟩)
    · exact .inr s
  | lstF s _ _ ih1 ih2 => intro q; simp [nfzs, nfz] at q
  | lstT s n _ _ n1 n2 d ih1 ih2 =>
    intro q
    simp only [nfzs, nfz, Bool.and_eq_true, Bool.true_and] at q
    refine .lstT s ?_ (ih1 q.1) (ih2 q.2) n1 n2 d
    unfold cutH; split
    · rfl
    · exact n
  | dicF s _ ih => intro q; simp [nfzs, nfz] at q
  | scr s _ ih => intro q; simp [nfzs, nfz] at q
theorem Rps.lf (h : Rps K G H vs ps F) : lfs ps = true → F = [] := by
  induction h with
  | nil => intro _; rfl
  | none _ ih => intro q; exact ih (by simpa [lfs, LC.lf] using q)
  | bool _ ih => intro q; exact ih (by simpa [lfs, LC.lf] using q)
  | int _ ih => intro q; exact ih (by simpa [lfs, LC.lf] using q)
  | str _ ih => intro q; exact ih (by simpa [lfs, LC.lf] using q)
  | tup s _ _ d ih1 ih2 => intro q; simp only [lfs, LC.lf, Bool.and_eq_true] at q; rw [ih1 q.1, ih2 q.2]; rfl
  | lstF s _ _ ih1 ih2 => intro q; simp [lfs, LC.lf] at q
  | lstT s n _ _ n1 n2 d ih1 ih2 => intro q; simp [lfs, LC.lf] at q
  | dicF s _ ih => intro q; simp [lfs, LC.lf] at q
  | scr s _ ih => intro q; simp [lfs, LC.lf] at q
theorem Rps.cl (h : Rps K G H vs ps F) : cls ps = true → F = [] := by
  induction h with
  | nil => intro _; rfl
  | none _ ih => intro q; exact ih (by simpa [cls, LC.cl] using q)
  | bool _ ih => intro q; exact ih (by simpa [cls, LC.cl] using q)
  | int _ ih => intro q; exact ih (by simpa [cls, LC.cl] using q)
  | str _ ih => intro q; exact ih (by simpa [cls, LC.cl] using q)
  | tup s _ _ d ih1 ih2 => intro q; simp only [cls, LC.cl, Bool.and_eq_true] at q; rw [ih1 q.1, ih2 q.2]; rfl
  | lstF s _ _ ih1 ih2 => intro q; simp only [cls, LC.cl, Bool.and_eq_true] at q; exact ih2 q.2
  | lstT s n _ _ n1 n2 d ih1 ih2 => intro q; simp [cls, LC.cl] at q
  | dicF s _ ih => intro q; simp only [cls, LC.cl, Bool.and_eq_true] at q; exact ih q.2
  | scr s _ ih => intro q; simp only [cls, LC.cl, Bool.and_eq_true] at q; exact ih q.2
theorem Rps.uncons {v : V} {p : PV} (h : Rps K G H (v :: vs) (p :: ps) F) : ∃ F1 F2, Rps K G H [v] [p] F1 ∧ Rps K G H vs ps F2 ∧ (∀ x ∈ F1, x ∉ F2) ∧ ∀ x, x ∈ F ↔ x ∈ F1 ∨ x ∈ F2 := by
  cases h with
  | none r => exact ⟨[], _, .none .nil, r, by simp, by simp⟩
  | bool r => exact ⟨[], _, .bool .nil, r, by simp, by simp⟩
  | int r => exact ⟨[], _, .int .nil, r, by simp, by simp⟩
  | str r => exact ⟨[], _, .str .nil, r, by simp, by simp⟩
  | tup s c r d => exact ⟨_, _, .tup s c .nil (by simp), r, by simpa using d, by simp⟩
  | lstF s c r => exact ⟨[], _, .lstF s c .nil, r, by simp, by simp⟩
  | lstT s n c r n1 n2 d =>
    refine ⟨_, _, .lstT s n c .nil n1 (by simp) (by simp), r, ?_, ?_⟩
    · intro x hx
      simp only [List.append_nil, List.mem_cons] at hx
      rcases hx with rfl | hx
      · exact n2
      · exact d x hx
    · intro x; simp [or_assoc]
  | dicF s r => exact ⟨[], _, .dicF s .nil, r, by simp, by simp⟩
  | scr s r => exact ⟨[], _, .scr s .nil, r, by simp, by simp⟩
theorem Rps.mkcons {v : V} {p : PV} (h1 : Rps K G H [v] [p] F1) (h2 : Rps K G H vs ps F2) (d : ∀ x ∈ F1, x ∉ F2) : ∃ F, Rps K G H (v :: vs) (p :: ps) F ∧ ∀ x, x ∈ F ↔ x ∈ F1 ∨ x ∈ F2 := by
  cases h1 with
  | none r => cases r; exact ⟨_, .none h2, by simp⟩
  | bool r => cases r; exact ⟨_, .bool h2, by simp⟩
  | int r => cases r; exact ⟨_, .int h2, by simp⟩
  | str r => cases r; exact ⟨_, .str h2, by simp⟩
  | tup s c r _ => cases r; exact ⟨_, .tup s c h2 (by simpa using d), by simp⟩
  | lstF s c r => cases r; exact ⟨_, .lstF s c h2, by simp⟩
  | lstT s n c r n1 n2 _ =>
    cases r
    refine ⟨_, .lstT s n c h2 n1 (d _ (by simp)) (fun x hx => d x (by simp [hx])), ?_⟩
    intro x; simp [or_assoc]
  | dicF s r => cases r; exact ⟨_, .dicF s h2, by simp⟩
  | scr s r => cases r; exact ⟨_, .scr s h2, by simp⟩
theorem Rps.append (h1 : Rps K G H vs ps F1) : ∀ {ws : List V} {qs : List PV} {F2 : List Addr}, Rps K G H ws qs F2 → (∀ x ∈ F1, x ∉ F2) → ∃ F, Rps K G H (vs ++ ws) (ps ++ qs) F ∧ ∀ x, x ∈ F ↔ x ∈ F1 ∨ x ∈ F2 := by
  induction vs generalizing ps F1 with
  | nil =>
    intro ws qs F2 h2 d
    cases h1
    exact ⟨F2, h2, by simp⟩
  | cons v vs ih =>
    intro ws qs F2 h2 d
    cases ps with
    | nil => exact absurd h1.len (by simp)
    | cons p ps =>
      obtain ⟨Fa, Fb, ha, hb, dd, me⟩ := h1.uncons
      obtain ⟨Fc, hc, mc⟩ := ih hb h2 (fun x hx => d x ((me x).mpr (.inr hx)))
      obtain ⟨Fd, hd, md⟩ := ha.mkcons hc (fun x hx q => by
        rcases (mc x).mp q with q | q
        · exact dd x hx q
        · exact d x ((me x).mpr (.inl hx)) q)
      exact ⟨Fd, hd, fun x => by rw [md, mc, me, or_assoc]⟩
theorem Rps.get (h : Rps K G H vs ps F) {i : Nat} {p : PV} (e : ps[i]? = some p) : ∃ v F1, vs[i]? = some v ∧ Rps K G H [v] [p] F1 ∧ ∀ x ∈ F1, x ∈ F := by
  induction vs generalizing ps F i with
  | nil => cases h; simp at e
  | cons v vs ih =>
    cases ps with
    | nil => simp at e
    | cons q ps =>
      obtain ⟨Fa, Fb, ha, hb, dd, me⟩ := h.uncons
      cases i with
      | zero =>
        simp at e; subst e
        exact ⟨v, Fa, rfl, ha, fun x hx => (me x).mpr (.inl hx)⟩
      | succ i =>
        obtain ⟨w, F1, e1, e2, e3⟩ := ih hb (by simpa using e)
        exact ⟨w, F1, by simpa using e1, e2, fun x hx => (me x).mpr (.inr (e3 x hx))⟩
theorem Rps.drop (h : Rps K G H vs ps F) (n : Nat) : ∃ F1, Rps K G H (vs.drop n) (ps.drop n) F1 ∧ ∀ x ∈ F1, x ∈ F := by
  induction n generalizing vs ps F with
  | zero => exact ⟨F, h, fun _ h => h⟩
  | succ n ih =>
    cases vs with
    | nil => cases h; exact ⟨[], .nil, by simp⟩
    | cons v vs =>
      cases ps with
      | nil => exact absurd h.len (by simp)
      | cons q ps =>
        obtain ⟨Fa, Fb, ha, hb, dd, me⟩ := h.uncons
        obtain ⟨F1, h1, m1⟩ := ih hb
        exact ⟨F1, h1, fun x hx => (me x).mpr (.inr (m1 x hx))⟩
theorem Rps.take (h : Rps K G H vs ps F) (n : Nat) : ∃ F1, Rps K G H (vs.take n) (ps.take n) F1 ∧ ∀ x ∈ F1, x ∈ F := by
  induction n generalizing vs ps F with
  | zero => exact ⟨[], .nil, by simp⟩
  | succ n ih =>
    cases vs with
    | nil => cases h; exact ⟨[], .nil, by simp⟩
    | cons v vs =>
      cases ps with
      | nil => exact absurd h.len (by simp)
      | cons q ps =>
        obtain ⟨Fa, Fb, ha, hb, dd, me⟩ := h.uncons
        obtain ⟨F1, h1, m1⟩ := ih hb
        obtain ⟨F2, h2, m2⟩ := ha.mkcons h1 (fun x hx q => dd x hx (m1 x q))
        refine ⟨F2, h2, fun x hx => (me x).mpr ?_⟩
        rcases (m2 x).mp hx with q | q
        · exact .inl q
        · exact .inr (m1 x q)
theorem Rps.set {v : V} {p : PV} (h : Rps K G H vs ps F) (h1 : Rps K G H [v] [p] F1) (d : ∀ x ∈ F1, x ∉ F) (n : Nat) : ∃ F2, Rps K G H (vs.set n v) (ps.set n p) F2 ∧ ∀ x ∈ F2, x ∈ F ∨ x ∈ F1 := by
  induction n generalizing vs ps F with
  | zero =>
    cases vs with
    | nil => cases h; exact ⟨[], .nil, by simp⟩
    | cons w vs =>
      cases ps with
      | nil => exact absurd h.len (by simp)
      | cons q ps =>
        obtain ⟨Fa, Fb, ha, hb, dd, me⟩ := h.uncons
        obtain ⟨F2, h2, m2⟩ := h1.mkcons hb (fun x hx q => d x hx ((me x).mpr (.inr q)))
        refine ⟨F2, h2, fun x hx => ?_⟩
        rcases (m2 x).mp hx with q | q
        · exact .inr q
        · exact .inl ((me x).mpr (.inr q))
  | succ n ih =>
    cases vs with
    | nil => cases h; exact ⟨[], .nil, by simp⟩
    | cons w vs =>
      cases ps with
      | nil => exact absurd h.len (by simp)
      | cons q ps =>
        obtain ⟨Fa, Fb, ha, hb, dd, me⟩ := h.uncons
        obtain ⟨F1', h1', m1⟩ := ih hb (fun x hx q => d x hx ((me x).mpr (.inr q)))
        obtain ⟨F2, h2, m2⟩ := ha.mkcons h1' (fun x hx q => by
          rcases m1 x q with q | q
          · exact dd x hx q
          · exact d x q ((me x).mpr (.inl hx)))
        refine ⟨F2, h2, fun x hx => ?_⟩
        rcases (m2 x).mp hx with q | q
        · exact .inl ((me x).mpr (.inl q))
        · rcases m1 x q with q | q
          · exact .inl ((me x).mpr (.inr q))
          · exact .inr q
theorem Rps.rev (h : Rps K G H vs ps F) : ∃ F1, Rps K G H vs.reverse ps.reverse F1 ∧ ∀ x ∈ F1, x ∈ F := by
  induction vs generalizing ps F with
  | nil => cases h; exact ⟨[], .nil, by simp⟩
  | cons v vs ih =>
    cases ps with
    | nil => exact absurd h.len (by simp)
    | cons q ps =>
      obtain ⟨Fa, Fb, ha, hb, dd, me⟩ := h.uncons
      obtain ⟨F1, h1, m1⟩ := ih hb
      obtain ⟨F2, h2, m2⟩ := h1.append ha (fun x hx q => dd x q (m1 x hx))
      refine ⟨F2, by simpa using h2, fun x hx => (me x).mpr ?_⟩
      rcases (m2 x).mp hx with q | q
      · exact .inr (m1 x q)
      · exact .inl q
/-! one value -/
theorem Rps.inv_none {v : V} (h : Rps K G H [v] [.none] F) : v = .non ∧ F = [] := by cases h with | none r => cases r; exact ⟨rfl, rfl⟩
theorem Rps.inv_bool {v : V} {b : Bool} (h : Rps K G H [v] [.bool b] F) : v = .bl b ∧ F = [] := by cases h with | bool r => cases r; exact ⟨rfl, rfl⟩
theorem Rps.inv_int {v : V} {i : Int} (h : Rps K G H [v] [.int i] F) : v = .int i ∧ F = [] := by cases h with | int r => cases r; exact ⟨rfl, rfl⟩
theorem Rps.inv_str {v : V} {s : Str} (h : Rps K G H [v] [.str s] F) : v = .str s ∧ F = [] := by cases h with | str r => cases r; exact ⟨rfl, rfl⟩
theorem Rps.inv_tup {v : V} (h : Rps K G H [v] [.tup qs] F) : ∃ a ws, v = .ref a ∧ SqT K G a ws ∧ Rps K G H ws qs F := by
  cases h with | tup s c r d => cases r; exact ⟨_, _, rfl, s, by simpa using c⟩
theorem Rps.inv_lst {v : V} {u : Bool} (h : Rps K G H [v] [.lst u qs] F) (gh : Same G H) : ∃ a ws F1, v = .ref a ∧ H a = some (.lst ws) ∧ Rps K G H ws qs F1 ∧ ∀ x ∈ F1, x ∈ F := by
  cases h with
  | lstF s c r => cases r; exact ⟨_, _, [], rfl, gh _ _ s, c, by simp⟩
  | lstT s n c r n1 n2 d => cases r; exact ⟨_, _, _, rfl, s, c, fun x hx => by simp [hx]⟩
theorem Rps.inv_lstT {v : V} (h : Rps K G H [v] [.lst true qs] F) : ∃ a ws F1, v = .ref a ∧ H a = some (.lst ws) ∧ G a = Option.none ∧ Rps K G H ws qs F1 ∧ a ∉ F1 ∧ F = a :: F1 := by
  cases h with | lstT s n c r n1 n2 d => cases r; exact ⟨_, _, _, rfl, s, n, c, n1, by simp⟩
theorem Rps.inv_lstF {v : V} (h : Rps K G H [v] [.lst false qs] F) : ∃ a ws, v = .ref a ∧ G a = some (.lst ws) ∧ Rps K G H ws qs [] ∧ F = [] := by
  cases h with | lstF s c r => cases r; exact ⟨_, _, rfl, s, c, rfl⟩
theorem Rps.inv_dic {v : V} {u : Bool} {ks xs : List PV} (h : Rps K G H [v] [.dic u ks xs] F) : ∃ a kvs, v = .ref a ∧ G a = some (.dK kvs) ∧ F = [] := by
  cases h with | dicF s r => cases r; exact ⟨_, _, rfl, s, rfl⟩
theorem Rps.inv_scr {v : V} {ns : List Int} (h : Rps K G H [v] [.scr ns] F) : ∃ a, v = .ref a ∧ SqL K G a (ns.map V.int) ∧ F = [] := by
  cases h with | scr s r => cases r; exact ⟨_, rfl, s, rfl⟩
theorem Rps.inv_exc {v : V} {c : Str} {fs : List PV} (h : Rps K G H [v] [.exc c fs] F) : False := by cases h
theorem Rps.mk_tup {a : Addr} (s : SqT K G a ws) (c : Rps K G H ws qs F) : Rps K G H [.ref a] [.tup qs] F := by
  have h := Rps.tup s c .nil (by simp)
  simpa using h
theorem Rps.mk_lstT {a : Addr} (s : H a = some (.lst ws)) (n : G a = Option.none) (c : Rps K G H ws qs F) (n1 : a ∉ F) : Rps K G H [.ref a] [.lst true qs] (a :: F) := by
  have h := Rps.lstT s n c .nil n1 (by simp) (by simp)
  simpa using h
end

abbrev Sl := L2.St
/-! ### the slots -/
inductive Rso (K : PySem.W.Frag) (G H : Hp) : Sl → Env → List Addr → Prop
  | nil : Rso K G H [] [] []
  | hid {x : Option V} {σ : Sl} {ρ : Env} {F : List Addr} (r : Rso K G H σ ρ F) : Rso K G H (x :: σ) (none :: ρ) F
  | val {v : V} {p : PV} {σ : Sl} {ρ : Env} {F1 F2 : List Addr} (c : Rps K G H [v] [p] F1) (r : Rso K G H σ ρ F2) (d : ∀ x ∈ F1, x ∉ F2) : Rso K G H (some v :: σ) (some p :: ρ) (F1 ++ F2)
section
variable {K : PySem.W.Frag} {G G' H H' : Hp} {σ σ' : Sl} {ρ ρ' : Env} {F F1 F2 : List Addr}
theorem Rso.len (h : Rso K G H σ ρ F) : σ.length = ρ.length := by
  induction h with
  | nil => rfl
  | hid _ ih => simp [ih]
  | val _ _ _ ih => simp [ih]
theorem Rso.mono (h : Rso K G H σ ρ F) (sg : Same G G') : (∀ a ∈ F, H' a = H a ∧ G' a = none) → Rso K G' H' σ ρ F := by
  induction h with
  | nil => intro _; exact .nil
  | hid _ ih => intro q; exact .hid (ih q)
  | val c _ d ih => intro q; exact .val (c.mono sg fun a ha => q a (List.mem_append_left _ ha)) (ih fun a ha => q a (List.mem_append_right _ ha)) d
theorem Rso.inH (h : Rso K G H σ ρ F) : ∀ a ∈ F, (∃ ws, H a = some (.lst ws)) ∧ G a = none := by
  induction h with
  | nil => intro a ha; simp at ha
  | hid _ ih => exact ih
  | val c _ d ih =>
    intro a ha
    rcases List.mem_append.mp ha with ha | ha
    · exact c.inH a ha
    · exact ih a ha
theorem Rso.get (h : Rso K G H σ ρ F) {i : Nat} {p : PV} (e : getS ρ i = some p) : ∃ v F1, σ[i]? = some (some v) ∧ Rps K G H [v] [p] F1 ∧ ∀ x ∈ F1, x ∈ F := by
  induction h generalizing i with
  | nil => simp [getS] at e
  | hid _ ih =>
    cases i with
    | zero => simp [getS] at e
    | succ i => exact ih (by simpa [getS] using e)
  | val c _ d ih =>
    cases i with
    | zero =>
      have e' := Option.some.inj e
      subst e'
      exact ⟨_, _, rfl, c, fun x hx => List.mem_append_left _ hx⟩
    | succ i =>
      obtain ⟨v, F1, e1, e2, e3⟩ := ih (i := i) (by simpa [getS] using e)
      exact ⟨v, F1, by simpa using e1, e2, fun x hx => List.mem_append_right _ (e3 x hx)⟩
theorem Rso.unset (h : Rso K G H σ ρ F) (i : Nat) : ∃ F1, Rso K G H σ (ρ.set i none) F1 ∧ ∀ x ∈ F1, x ∈ F := by
  induction h generalizing i with
  | nil => exact ⟨[], .nil, by simp⟩
  | @hid x σ ρ F r ih =>
    cases i with
    | zero => exact ⟨F, .hid r, fun _ h => h⟩
    | succ i =>
      obtain ⟨F1, h1, m1⟩ := ih i
      exact ⟨F1, .hid h1, m1⟩
  | @val v p σ ρ Fa Fb c r d ih =>
    cases i with
    | zero => exact ⟨Fb, .hid r, fun x hx => List.mem_append_right _ hx⟩
    | succ i =>
      obtain ⟨F1, h1, m1⟩ := ih i
      refine ⟨Fa ++ F1, .val c h1 fun x hx q => d x hx (m1 x q), fun x hx => ?_⟩
      rcases List.mem_append.mp hx with q | q
      · exact List.mem_append_left _ q
      · exact List.mem_append_right _ (m1 x q)
theorem Rso.wipe1 (h : Rso K G H σ ρ F) (i : Nat) (y : Option V) : ∃ F1, Rso K G H (σ.set i y) (ρ.set i none) F1 ∧ ∀ x ∈ F1, x ∈ F := by
  induction h generalizing i with
  | nil => exact ⟨[], .nil, by simp⟩
  | @hid x σ ρ F r ih =>
    cases i with
    | zero => exact ⟨F, .hid r, fun _ h => h⟩
    | succ i =>
      obtain ⟨F1, h1, m1⟩ := ih i
      exact ⟨F1, .hid h1, m1⟩
  | @val v p σ ρ Fa Fb c r d ih =>
    cases i with
    | zero => exact ⟨Fb, .hid r, fun x hx => List.mem_append_right _ hx⟩
    | succ i =>
      obtain ⟨F1, h1, m1⟩ := ih i
      refine ⟨Fa ++ F1, .val c h1 fun x hx q => d x hx (m1 x q), fun x hx => ?_⟩
      rcases List.mem_append.mp hx with q | q
      · exact List.mem_append_left _ q
      · exact List.mem_append_right _ (m1 x q)
theorem Rso.set (h : Rso K G H σ ρ F) {i : Nat} {v : V} {p : PV} (hi : i < ρ.length) (c : Rps K G H [v] [p] F1) (d : ∀ x ∈ F1, x ∉ F) : ∃ F2, Rso K G H (σ.set i (some v)) (ρ.set i (some p)) F2 ∧ ∀ x ∈ F2, x ∈ F ∨ x ∈ F1 := by
  induction h generalizing i with
  | nil => simp at hi
  | @hid x σ ρ F r ih =>
    cases i with
    | zero => exact ⟨F1 ++ F, .val c r d, fun x hx => (List.mem_append.mp hx).symm⟩
    | succ i =>
      obtain ⟨F2, h1, m1⟩ := ih (i := i) (by simpa using hi) d
      exact ⟨F2, .hid h1, m1⟩
  | @val w q σ ρ Fa Fb c' r d' ih =>
    cases i with
    | zero =>
      refine ⟨F1 ++ Fb, .val c r fun x hx q => d x hx (List.mem_append_right _ q), fun x hx => ?_⟩
      rcases List.mem_append.mp hx with q | q
      · exact .inr q
      · exact .inl (List.mem_append_right _ q)
    | succ i =>
      obtain ⟨F2, h1, m1⟩ := ih (i := i) (by simpa using hi) (fun x hx q => d x hx (List.mem_append_right _ q))
      refine ⟨Fa ++ F2, .val c' h1 fun x hx q => ?_, fun x hx => ?_⟩
      · rcases m1 x q with q | q
        · exact d' x hx q
        · exact d x q (List.mem_append_left _ hx)
      · rcases List.mem_append.mp hx with q | q
        · exact .inl (List.mem_append_left _ q)
        · rcases m1 x q with q | q
          · exact .inl (List.mem_append_right _ q)
          · exact .inr q
/-- slot i taken out -/
theorem Rso.out (h : Rso K G H σ ρ F) {i : Nat} {p : PV} (e : getS ρ i = some p) :
    ∃ v F1 F2, σ[i]? = some (some v) ∧ Rps K G H [v] [p] F1 ∧ Rso K G H σ (ρ.set i none) F2 ∧ (∀ x ∈ F1, x ∉ F2) ∧ ∀ x, x ∈ F ↔ x ∈ F1 ∨ x ∈ F2 := by
  induction h generalizing i with
  | nil => simp [getS] at e
  | hid _ ih =>
    cases i with
    | zero => simp [getS] at e
    | succ i =>
      obtain ⟨v, F1, F2, e1, e2, e3, e4, e5⟩ := ih (i := i) (by simpa [getS] using e)
      exact ⟨v, F1, F2, by simpa using e1, e2, .hid e3, e4, e5⟩
  | @val w q σ ρ Fa Fb c r d ih =>
    cases i with
    | zero =>
      have e' := Option.some.inj e
      subst e'
      exact ⟨_, Fa, Fb, rfl, c, .hid r, d, by simp⟩
    | succ i =>
      obtain ⟨v, F1, F2, e1, e2, e3, e4, e5⟩ := ih (i := i) (by simpa [getS] using e)
      refine ⟨v, F1, Fa ++ F2, by simpa using e1, e2, .val c e3 fun x hx q => d x hx ((e5 x).mpr (.inr q)), fun x hx q => ?_, fun x => ?_⟩
      · rcases List.mem_append.mp q with q | q
        · exact d x q ((e5 x).mpr (.inl hx))
        · exact e4 x hx q
      · simp only [List.mem_append, e5]
        constructor
        · rintro (h | h | h)
          · exact .inr (.inl h)
          · exact .inl h
          · exact .inr (.inr h)
        · rintro (h | h | h)
          · exact .inr (.inl h)
          · exact .inl h
          · exact .inr (.inr h)
/-- .. and put back, the slot as it stands in σ -/
theorem Rso.back (h : Rso K G H σ (ρ.set i none) F2) {v : V} {p : PV} (hi : i < ρ.length) (e : σ[i]? = some (some v)) (c : Rps K G H [v] [p] F1) (d : ∀ x ∈ F1, x ∉ F2) :
    ∃ F, Rso K G H σ (ρ.set i (some p)) F ∧ ∀ x ∈ F, x ∈ F1 ∨ x ∈ F2 := by
  obtain ⟨F, h1, m1⟩ := h.set (i := i) (v := v) (p := p) (by simpa using hi) c d
  have e1 : σ.set i (some v) = σ := by
    apply List.ext_getElem?
    intro j
    by_cases hj : j = i
    · subst hj
      rw [List.getElem?_set_self (List.getElem?_eq_some_iff.mp e).1, e]
    · rw [List.getElem?_set_ne (Ne.symm hj)]
  rw [e1, List.set_set] at h1
  exact ⟨F, h1, fun x hx => (m1 x hx).symm⟩
end
end LC
end

section
set_option Elab.async false
set_option linter.all false
set_option maxRecDepth 100000
set_option maxHeartbeats 1000000
namespace LC
open PySem PySem.Spec L2
/-! ### states, and what evaluation may do to them -/
structure RS (K : PySem.W.Frag) (G H : Hp) (σ : Sl) (ρ : Env) (F : List Addr) : Prop where
  gh : Same G H
  so : Rso K G H σ ρ F
structure Ext (F : List Addr) (G H G' H' : Hp) : Prop where
  sg : Same G G'
  fr : ∀ b o, H b = some o → b ∉ F → H' b = some o
  dm : ∀ b, H b ≠ none → H' b ≠ none
  nw : ∀ b, G' b ≠ none → G b ≠ none ∨ H b = none ∨ b ∈ F
section
variable {K : PySem.W.Frag} {G H G1 H1 G2 H2 : Hp} {σ : Sl} {ρ : Env} {F F1 Fv : List Addr} {vs : List V} {ps : List PV}
theorem Ext.refl : Ext F G H G H := ⟨Same.refl _, fun _ _ h _ => h, fun _ h => h, fun _ h => .inl h⟩
theorem Ext.trans (a : Ext F G H G1 H1) (b : Ext F1 G1 H1 G2 H2) (s : ∀ x ∈ F1, x ∈ F ∨ H x = none) : Ext F G H G2 H2 where
  sg := a.sg.trans b.sg
  fr := fun x o h n => b.fr x o (a.fr x o h n) fun q => by
    rcases s x q with z | z
    · exact n z
    · rw [z] at h; cases h
  dm := fun x h => b.dm x (a.dm x h)
  nw := fun x h => by
    rcases b.nw x h with z | z | z
    · exact a.nw x z
    · refine .inr (.inl ?_)
      cases q : H x with
      | none => rfl
      | some o => exact absurd z (a.dm x (by rw [q]; simp))
    · rcases s x z with z | z
      · exact .inr (.inr z)
      · exact .inr (.inl z)
theorem Ext.none (a : Ext F G H G1 H1) {x : Addr} (h : H1 x = none) : H x = none := by
  cases q : H x with
  | none => rfl
  | some o => exact absurd h (a.dm x (by rw [q]; simp))
theorem Ext.weak (a : Ext F G H G1 H1) (s : ∀ x ∈ F, x ∈ F1) : Ext F1 G H G1 H1 :=
  ⟨a.sg, fun x o h n => a.fr x o h fun q => n (s x q), a.dm, fun x h => (a.nw x h).imp id (Or.imp id (s x))⟩
/-- what stands apart from F stands on -/
theorem Rps.ext (h : Rps K G H vs ps Fv) (e : Ext F G H G1 H1) (d : ∀ a ∈ Fv, a ∉ F) : Rps K G1 H1 vs ps Fv := h.mono e.sg fun a ha => by
  obtain ⟨⟨ws, q⟩, n⟩ := h.inH a ha
  refine ⟨by rw [q]; exact e.fr a _ q (d a ha), ?_⟩
  cases z : G1 a with
  | none => rfl
  | some o =>
    rcases e.nw a (by rw [z]; simp) with y | y | y
    · exact absurd n y
    · rw [q] at y; cases y
    · exact absurd y (d a ha)
theorem Rso.ext (h : Rso K G H σ ρ Fv) (e : Ext F G H G1 H1) (d : ∀ a ∈ Fv, a ∉ F) : Rso K G1 H1 σ ρ Fv := h.mono e.sg fun a ha => by
  obtain ⟨⟨ws, q⟩, n⟩ := h.inH a ha
  refine ⟨by rw [q]; exact e.fr a _ q (d a ha), ?_⟩
  cases z : G1 a with
  | none => rfl
  | some o =>
    rcases e.nw a (by rw [z]; simp) with y | y | y
    · exact absurd n y
    · rw [q] at y; cases y
    · exact absurd y (d a ha)
theorem RS.ext0 (h : RS K G H σ ρ F) (e : Ext [] G H G1 H1) (gh : Same G1 H1) : RS K G1 H1 σ ρ F := ⟨gh, h.so.ext e (by simp)⟩
/-- a new object that is not owned -/
theorem ext_new {p : Addr} {o : HO} (gh : Same G H) (hp : H p = none) : Ext F G H (upd G p o) (upd H p o) where
  sg := fun b u e => by rw [upd_ne (ne_of_none (gh b u e) hp)]; exact e
  fr := fun b u e _ => by rw [upd_ne (ne_of_none e hp)]; exact e
  dm := fun b e => by
    by_cases h : b = p
    · subst h; rw [upd_same]; simp
    · rw [upd_ne h]; exact e
  nw := fun b e => by
    by_cases h : b = p
    · subst h; exact .inr (.inl hp)
    · rw [upd_ne h] at e; exact .inl e
theorem same_new {p : Addr} {o : HO} (gh : Same G H) : Same (upd G p o) (upd H p o) := fun b u e => by
  by_cases h : b = p
  · subst h; rw [upd_same] at *; exact e
  · rw [upd_ne h] at *; exact gh b u e
/-- a new list that is owned -/
theorem ext_own {p : Addr} {o : HO} (hp : H p = none) : Ext F G H G (upd H p o) where
  sg := Same.refl _
  fr := fun b u e _ => by rw [upd_ne (ne_of_none e hp)]; exact e
  dm := fun b e => by
    by_cases h : b = p
    · subst h; rw [upd_same]; simp
    · rw [upd_ne h]; exact e
  nw := fun b e => .inl e
theorem same_own {p : Addr} {o : HO} (gh : Same G H) (hp : H p = none) : Same G (upd H p o) := fun b u e => by
  rw [upd_ne (ne_of_none (gh b u e) hp)]; exact gh b u e
theorem g_none {p : Addr} (gh : Same G H) (hp : H p = none) : G p = none := gh.free hp
theorem not_mem_new {p : Addr} (h : Rps K G H vs ps Fv) (hp : H p = none) : p ∉ Fv := fun q => by
  obtain ⟨⟨ws, e⟩, _⟩ := h.inH p q
  rw [hp] at e; cases e
/-- a new tuple of these -/
theorem Rps.newTup {p : Addr} (h : Rps K G H vs ps Fv) (gh : Same G H) (hp : H p = Option.none) : Rps K (upd G p (.tup vs)) (upd H p (.tup vs)) [.ref p] [.tup ps] Fv :=
  .mk_tup (.of upd_same) (h.ext (F := []) (ext_new gh hp) (by simp))
theorem Rps.newLst {p : Addr} (h : Rps K G H vs ps Fv) (gh : Same G H) (hp : H p = Option.none) : Rps K G (upd H p (.lst vs)) [.ref p] [.lst true ps] (p :: Fv) :=
  .mk_lstT upd_same (g_none gh hp) (h.ext (F := []) (ext_own hp) (by simp)) (not_mem_new h hp)
end

/-! ### what evaluation promises -/
abbrev XRT := Str → List PV → Value → Option Addr → Hp → Prop
section
variable (K : PySem.W.Frag) (XR : XRT) (σ : Sl) (F : List Addr) (G H : Hp)
def OKs {α : Type} (tol : α → List PV) (r : Res α) (Q : List V → Hp → Prop) (E : XK) : Prop := match r with
  | .ok a ρ' => ∀ vs G' H' F' Fv, Ext F G H G' H' → RS K G' H' σ ρ' F' → (∀ a ∈ F', a ∈ F) → Rps K G' H' vs (tol a) Fv → (∀ a ∈ Fv, a ∉ F' ∧ (a ∈ F ∨ H a = none)) → Q vs H'
  | .exn c fs ρ' => ∀ cls d G' H' F', Ext F G H G' H' → RS K G' H' σ ρ' F' → (∀ a ∈ F', a ∈ F) → XR c fs cls d H' → E cls d H'
  | .bad => False
def OKR (r : Res PV) (Q : VK) (E : XK) : Prop := match r with
  | .ok p ρ' => ∀ v G' H' F' Fv, Ext F G H G' H' → RS K G' H' σ ρ' F' → (∀ a ∈ F', a ∈ F) → Rps K G' H' [v] [p] Fv → (∀ a ∈ Fv, a ∉ F' ∧ (a ∈ F ∨ H a = none)) → Q v H'
  | .exn c fs ρ' => ∀ cls d G' H' F', Ext F G H G' H' → RS K G' H' σ ρ' F' → (∀ a ∈ F', a ∈ F) → XR c fs cls d H' → E cls d H'
  | .bad => False
def OKt (r : Res Bool) (Q : Bool → Hp → Prop) (E : XK) : Prop := match r with
  | .ok b ρ' => ∀ G' H' F', Ext F G H G' H' → RS K G' H' σ ρ' F' → (∀ a ∈ F', a ∈ F) → Q b H'
  | .exn c fs ρ' => ∀ cls d G' H' F', Ext F G H G' H' → RS K G' H' σ ρ' F' → (∀ a ∈ F', a ∈ F) → XR c fs cls d H' → E cls d H'
  | .bad => False
end
section
variable (K : PySem.W.Frag) (XR : XRT) (E : XK) (cf : CF)
/-- a reading does what the evaluator says -/
def GE (t : TE) (c : Ex) : Prop := ∀ (σ : Sl) (ρ : Env) (F : List Addr) (G H : Hp) (Q : VK), RS K G H σ ρ F → OKR K XR σ F G H (evE cf c ρ) Q E → t σ H Q
def GEs (t : TA) (c : Exs) : Prop := ∀ (σ : Sl) (ρ : Env) (F : List Addr) (G H : Hp) (Q : List V → Hp → Prop), RS K G H σ ρ F → OKs K XR σ F G H (fun ps => ps) (evEs cf c ρ) Q E → t σ H Q
def GT (t : TT) (c : Ex) : Prop := ∀ (σ : Sl) (ρ : Env) (F : List Addr) (G H : Hp) (Q : Bool → Hp → Prop), RS K G H σ ρ F → OKt K XR σ F G H ((evE cf c ρ).bind fun v ρ1 => Res.of (truV v) ρ1) Q E → t σ H Q
end

section
variable {K : PySem.W.Frag} {XR : XRT} {E : XK} {cf : CF} {σ : Sl} {ρ : Env} {F : List Addr} {G H : Hp}
/-- one expression, then what follows -/
theorem one {ta : TE} {a : Ex} (ga : GE K XR E cf ta a) (rs : RS K G H σ ρ F) {R : VK} {Z : Res PV → Prop} (hz : Z (evE cf a ρ))
    (hok : ∀ p ρ1, Z (.ok p ρ1) → ∀ v G1 H1 F1 Fv, Ext F G H G1 H1 → RS K G1 H1 σ ρ1 F1 → (∀ a ∈ F1, a ∈ F) → Rps K G1 H1 [v] [p] Fv → (∀ a ∈ Fv, a ∉ F1 ∧ (a ∈ F ∨ H a = none)) → R v H1)
    (hex : ∀ c fs ρ1, Z (.exn c fs ρ1) → ∀ cls d G' H' F', Ext F G H G' H' → RS K G' H' σ ρ1 F' → (∀ a ∈ F', a ∈ F) → XR c fs cls d H' → E cls d H')
    (hbad : Z .bad → False) : ta σ H R := by
  refine ga σ ρ F G H R rs ?_
  unfold OKR
  cases e : evE cf a ρ with
  | ok p ρ1 => rw [e] at hz; exact hok p ρ1 hz
  | exn c fs ρ1 => rw [e] at hz; exact hex c fs ρ1 hz
  | bad => rw [e] at hz; exact hbad hz
/-- two expressions, then what follows -/
theorem two {ta tb : TE} {a b : Ex} (ga : GE K XR E cf ta a) (gb : GE K XR E cf tb b) (rs : RS K G H σ ρ F) {R : V → V → Hp → Prop} {f : PV → PV → Env → Res PV} {Q : VK}
    (h : OKR K XR σ F G H ((evE cf a ρ).bind fun x ρ1 => (evE cf b ρ1).bind fun y ρ2 => f x y ρ2) Q E)
    (k : ∀ px py ρ2, OKR K XR σ F G H (f px py ρ2) Q E → ∀ x y G2 H2 F2 Fx Fy, Ext F G H G2 H2 → RS K G2 H2 σ ρ2 F2 → (∀ a ∈ F2, a ∈ F) → Rps K G2 H2 [x] [px] Fx → Rps K G2 H2 [y] [py] Fy →
      (∀ a ∈ Fx, a ∉ Fy ∧ a ∉ F2 ∧ (a ∈ F ∨ H a = none)) → (∀ a ∈ Fy, a ∉ F2 ∧ (a ∈ F ∨ H a = none)) → R x y H2) : ta σ H fun x H1 => tb σ H1 fun y H2 => R x y H2 := by
  refine one ga rs (Z := fun r => OKR K XR σ F G H (r.bind fun x ρ1 => (evE cf b ρ1).bind fun y ρ2 => f x y ρ2) Q E) h ?_ (fun c fs ρ1 z => z) (fun z => z)
  intro px ρ1 z x G1 H1 F1 Fx e1 rs1 s1 r1 d1
  refine one gb rs1 (Z := fun r => OKR K XR σ F G H (r.bind fun y ρ2 => f px y ρ2) Q E) z ?_ ?_ (fun z => z)
  · intro py ρ2 z2 y G2 H2 F2 Fy e2 rs2 s2 r2 d2
    refine k px py ρ2 z2 x y G2 H2 F2 Fx Fy (e1.trans e2 fun a ha => .inl (s1 a ha)) rs2 (fun a ha => s1 a (s2 a ha)) (r1.ext e2 fun a ha => (d1 a ha).1) r2 ?_ ?_
    · intro a ha
      refine ⟨fun q => ?_, fun q => (d1 a ha).1 (s2 a q), (d1 a ha).2⟩
      obtain ⟨⟨ws, z⟩, _⟩ := r1.inH a ha
      rcases (d2 a q).2 with y | y
      · exact (d1 a ha).1 y
      · rw [z] at y; cases y
    · intro a ha
      refine ⟨(d2 a ha).1, ?_⟩
      rcases (d2 a ha).2 with y | y
      · exact .inl (s1 a y)
      · exact .inr (e1.none y)
  · intro c fs ρ2 z2 cls d G' H' F' e2 rs2 s2 x2
    exact z2 cls d G' H' F' (e1.trans e2 fun a ha => .inl (s1 a ha)) rs2 (fun a ha => s1 a (s2 a ha)) x2
/-- a value made of values: what it is made of, and new objects -/
def Made (K : PySem.W.Frag) (G H : Hp) (Fs : List Addr) (p : PV) (Q : VK) : Prop :=
  ∀ v G' H' Fv, Ext [] G H G' H' → Same G' H' → Rps K G' H' [v] [p] Fv → (∀ a ∈ Fv, a ∈ Fs ∨ H a = none) → Q v H'
/-- the end of an expression by such a value -/
theorem made {F2 Fs : List Addr} {G2 H2 : Hp} {ρ2 : Env} {o : Option PV} {Q : VK} (h : OKR K XR σ F G H (Res.of o ρ2) Q E) (e : Ext F G H G2 H2) (rs : RS K G2 H2 σ ρ2 F2) (s : ∀ a ∈ F2, a ∈ F)
    (d : ∀ a ∈ Fs, a ∉ F2 ∧ (a ∈ F ∨ H a = none)) : ∃ p, o = some p ∧ Made K G2 H2 Fs p Q := by
  cases o with
  | none => exact h.elim
  | some p =>
    refine ⟨p, rfl, fun v G' H' Fv e2 gh r dv => ?_⟩
    refine h v G' H' F2 Fv (e.trans e2 (by simp)) (rs.ext0 e2 gh) s r fun a ha => ?_
    rcases dv a ha with z | z
    · exact d a z
    · refine ⟨fun q => ?_, .inr (e.none z)⟩
      obtain ⟨⟨ws, y⟩, _⟩ := rs.so.inH a q
      rw [z] at y; cases y
end
end LC
end

section
set_option Elab.async false
set_option linter.all false
set_option maxRecDepth 100000
set_option maxHeartbeats 1000000
namespace LC
open PySem PySem.Spec L2
/-! ### operators on values -/
section
variable {X : Cx}
theorem sl_eq : SL = sizeLine := by rw [sizeLine_eq]; rfl
/-- list + list, whichever way they are read -/
theorem lenR {K : PySem.W.Frag} {G H : Hp} {vs : List V} {ps : List PV} {F : List Addr} (h : Rps K G H vs ps F) : ps.length = vs.length := h.len.symm

def BinS (X : Cx) (o : Bop) (op : Operator) : Prop := ∃ r : R2, OpR X (binaryOp op) r ∧ ∀ (G H : Hp) (x y : V) (px py pz : PV) (Fx Fy : List Addr) (Q : VK), Same G H → Rps X.K G H [x] [px] Fx → Rps X.K G H [y] [py] Fy → (∀ a ∈ Fx, a ∉ Fy) →
  binV o px py = some pz → Made X.K G H (Fx ++ Fy) pz Q → r x y H Q
theorem made_same {K : PySem.W.Frag} {G H : Hp} {v : V} {p : PV} {F Fs : List Addr} {Q : VK} (h : Made K G H Fs p Q) (gh : Same G H) (r : Rps K G H [v] [p] F) (s : ∀ a ∈ F, a ∈ Fs) : Q v H := h v G H F Ext.refl gh r fun a ha => .inl (s a ha)
theorem made_tup {K : PySem.W.Frag} {G H : Hp} {vs : List V} {ps : List PV} {F Fs : List Addr} {Q : VK} (h : Made K G H Fs (.tup ps) Q) (gh : Same G H) (r : Rps K G H vs ps F) (s : ∀ a ∈ F, a ∈ Fs) {p : Addr} (hp : H p = none) :
    Q (.ref p) (upd H p (.tup vs)) := h _ _ _ _ (ext_new gh hp) (same_new gh) (r.newTup gh hp) fun a ha => .inl (s a ha)
theorem made_lst {K : PySem.W.Frag} {G H : Hp} {vs : List V} {ps : List PV} {F Fs : List Addr} {Q : VK} (h : Made K G H Fs (.lst true ps) Q) (gh : Same G H) (r : Rps K G H vs ps F) (s : ∀ a ∈ F, a ∈ Fs) {p : Addr} (hp : H p = none) :
    Q (.ref p) (upd H p (.lst vs)) := h _ _ _ _ (ext_own hp) (same_own gh hp) (r.newLst gh hp) fun a ha => by
  rcases List.mem_cons.mp ha with rfl | ha
  · exact .inr hp
  · exact .inl (s a ha)
theorem made_int {K : PySem.W.Frag} {G H : Hp} {i : Int} {Fs : List Addr} {Q : VK} (h : Made K G H Fs (.int i) Q) (gh : Same G H) : Q (.int i) H := made_same h gh (.int .nil) (by simp)
theorem made_bool {K : PySem.W.Frag} {G H : Hp} {i : Bool} {Fs : List Addr} {Q : VK} (h : Made K G H Fs (.bool i) Q) (gh : Same G H) : Q (.bl i) H := made_same h gh (.bool .nil) (by simp)
theorem made_str {K : PySem.W.Frag} {G H : Hp} {i : Str} {Fs : List Addr} {Q : VK} (h : Made K G H Fs (.str i) Q) (gh : Same G H) : Q (.str i) H := made_same h gh (.str .nil) (by simp)

theorem bin_add : BinS X .add .Add := by
  refine ⟨_, (op_add.or op_add_str).or (op_catA.or op_cat), ?_⟩
  intro G H x y px py pz Fx Fy Q gh rx ry d e q
  simp only [binV, addV] at e
  split at e
  · cases e
    obtain ⟨rfl, _⟩ := rx.inv_int
    obtain ⟨rfl, _⟩ := ry.inv_int
    exact .inl (.inl ⟨_, _, rfl, rfl, made_int q gh⟩)
  · split at e
    · cases e
      rename_i hl
      obtain ⟨rfl, _⟩ := rx.inv_str
      obtain ⟨rfl, _⟩ := ry.inv_str
      exact .inl (.inr ⟨_, _, rfl, rfl, by rw [← sl_eq]; exact hl, made_str q gh⟩)
    · cases e
  · split at e
    · cases e
      rename_i hl
      obtain ⟨a, ws, rfl, sa, ra⟩ := rx.inv_tup
      obtain ⟨b, us, rfl, sb, rb⟩ := ry.inv_tup
      obtain ⟨Fz, rz, mz⟩ := ra.append rb d
      refine .inr (.inl ⟨a, b, ws, us, rfl, rfl, sqT_mono gh sa, sqT_mono gh sb, by rw [ra.len, rb.len, ← sl_eq]; exact hl, fun e1 => ?_, fun e1 e2 => ?_, fun e1 e2 p hp => ?_⟩)
      · subst e1
        have e3 := ra.len
        have e4 := List.eq_nil_of_length_eq_zero e3.symm
        subst e4
        exact made_same q gh ry (fun a ha => List.mem_append_right _ ha)
      · subst e2
        have e3 := rb.len
        have e4 := List.eq_nil_of_length_eq_zero e3.symm
        subst e4
        rw [List.append_nil] at q
        exact made_same q gh rx (fun a ha => List.mem_append_left _ ha)
      · exact made_tup q gh rz (fun a ha => List.mem_append.mpr ((mz a).mp ha)) hp
    · cases e
  · split at e
    · cases e
      rename_i hl
      obtain ⟨a, ws, Fa, rfl, sa, ra, ma⟩ := rx.inv_lst gh
      obtain ⟨b, us, Fb, rfl, sb, rb, mb⟩ := ry.inv_lst gh
      obtain ⟨Fz, rz, mz⟩ := ra.append rb (fun a ha q => d a (ma a ha) (mb a q))
      refine .inr (.inr ⟨a, b, ws, us, rfl, rfl, sa, sb, by rw [ra.len, rb.len, ← sl_eq]; exact hl, fun p hp => ?_⟩)
      refine made_lst q gh rz (fun a ha => List.mem_append.mpr ?_) hp
      rcases (mz a).mp ha with z | z
      · exact .inl (ma a z)
      · exact .inr (mb a z)
    · cases e
  · cases e
theorem intV_some {f : Int → Int → Option Int} {p q r : PV} (e : intV f p q = some r) : ∃ i j k, p = .int i ∧ q = .int j ∧ f i j = some k ∧ r = .int k := by
  unfold intV at e
  split at e
  · cases h : f _ _ with
    | none => rw [h] at e; cases e
    | some k => rw [h] at e; cases e; exact ⟨_, _, k, rfl, rfl, h, rfl⟩
  · cases e
/-- an operator of two numbers by a rule -/
theorem bin_int {o : Bop} {op : Operator} {f : Int → Int → Option Int} {C : Int → Int → Prop} {g : Int → Int → Int} (ho : OpR X (binaryOp op) (rI C fun i j => .int (g i j))) (hb : binV o = intV f) (hf : ∀ i j k, f i j = some k → C i j ∧ k = g i j) : BinS X o op := by
  refine ⟨_, ho, ?_⟩
  intro G H x y px py pz Fx Fy Q gh rx ry d e q
  rw [hb] at e
  obtain ⟨i, j, k, rfl, rfl, e2, rfl⟩ := intV_some e
  obtain ⟨rfl, _⟩ := rx.inv_int
  obtain ⟨rfl, _⟩ := ry.inv_int
  obtain ⟨hc, rfl⟩ := hf i j k e2
  exact ⟨i, j, rfl, rfl, hc, made_int q gh⟩
theorem bin_sub : BinS X .sub .Sub := by
  refine ⟨_, op_sub, ?_⟩
  intro G H x y px py pz Fx Fy Q gh rx ry d e q
  obtain ⟨i, j, k, rfl, rfl, e, rfl⟩ := intV_some (show intV _ px py = some pz from e)
  cases e
  obtain ⟨rfl, _⟩ := rx.inv_int
  obtain ⟨rfl, _⟩ := ry.inv_int
  exact ⟨_, _, rfl, rfl, made_int q gh⟩
theorem bin_mod : BinS X .mod .Mod := bin_int op_modN rfl fun i j k e => by
  split at e
  · cases e; exact ⟨by assumption, rfl⟩
  · cases e
theorem bin_pow : BinS X .pow .Pow := bin_int op_pow rfl fun i j k e => by
  split at e
  · cases e
    rename_i h
    exact ⟨⟨h.1, by omega, by omega⟩, rfl⟩
  · cases e
theorem bigd_log {n : Nat} (h : n < BIGD) : n.log2 < 9000 := by
  unfold BIGD at h
  exact Nat.lt_of_lt_of_le (PySem.Flt.log2_lt_of (by decide) h) (by decide)
theorem big_log {n : Nat} (h : n < BIG) : n.log2 < 400000 := by
  unfold BIG at h
  exact PySem.Flt.log2_lt_of (by decide) h
theorem bin_fdiv : BinS X .fdiv .FloorDiv := by
  refine ⟨_, op_fdivN.or op_fdivW, ?_⟩
  intro G H x y px py pz Fx Fy Q gh rx ry d e q
  obtain ⟨i, j, k, rfl, rfl, e2, rfl⟩ := intV_some (show intV _ px py = some pz from e)
  obtain ⟨rfl, _⟩ := rx.inv_int
  obtain ⟨rfl, _⟩ := ry.inv_int
  split at e2
  · cases e2
    rename_i h
    simp only [divOk, Bool.and_eq_true, Bool.or_eq_true, decide_eq_true_eq] at h
    obtain ⟨h0, h1 | ⟨h1, h2⟩⟩ := h
    · exact .inl ⟨i, j, rfl, rfl, ⟨h0, h1⟩, made_int q gh⟩
    · refine .inr ⟨i, j, rfl, rfl, ⟨h1, bigd_log h2⟩, ?_⟩
      have e3 : i / j = i.fdiv j := (Int.fdiv_eq_ediv_of_nonneg i (by omega)).symm
      show Q (.int (i / j)) H
      rw [e3]
      exact made_int q gh
  · cases e2
/-- a tuple once -/
theorem tuple_mul1 (l : Addr) (items : Array Value) (n : Nat) (dd : Option Addr) (sl : Array (Option Value)) (u : Tok) :
    Meets (Builtin.«tuple.__mul__» ⟨[.ref l, .int 1 u], []⟩) (fun _ R s => s.heap.get? l = some { cls := .type "tuple", dict := dd, data := .seq items n, slots := sl } ∧ R (.ok (.ret (Value.ref l))) s) :=
  .of_wp fun prog w A R s h => by
    obtain ⟨hp, g, d, tk, os⟩ := s
    obtain ⟨hl, h⟩ := h
    have f1 := AutoSeq1.idx_int
    wp_walk using wpAny_loadPart' hl
    repeat (first
      | (refine wpAny_ite_false (by simp) ?_; wp_walk using wpAny_loadPart' hl)
      | (refine wpAny_ite_true (by simp) ?_; wp_walk using wpAny_loadPart' hl))
    exact ⟨_, rfl, h⟩
def rRepT1 (K : PySem.W.Frag) : R2 := fun x y H Q => ∃ l xs, x = .ref l ∧ y = .int 1 ∧ SqT K H l xs ∧ Q (.ref l) H
theorem op_repT1 : OpR X (binaryOp .Mult) (rRepT1 X.K) := by
  intro pins s σ H x y v u Q I rx ry h
  obtain ⟨l, xs, rfl, rfl, hT, q⟩ := h
  cases rx
  obtain ⟨t, rfl⟩ := ry
  obtain ⟨its, r, ⟨⟨cls, dd, data, sl⟩, ho, hc, n, hd⟩, hs⟩ := I.tuple hT
  simp only at hc hd
  subst hc hd
  exact wpAny_binaryOp_repeat_ref (T := "tuple") (U := "int") (by decide) ⟨_, ho, rfl⟩ (fun s' => typeIs_int s' 1 t) noFill_tuple_mul F.fills_int_mul F.slot_int_rmul repeat_tuple F.slot_int_index.lookup
    (call_meets F.slot_int_rmul (typeIs_int s 1 t) F.entry_int_rmul (F.args_int_rmul_2 _ _) (int_rmul_tuple 1 t l its.toArray n dd sl)
      ⟨ho, rfl, ⟨_, ho, rfl⟩, call_meets F.slot_tuple_mul ⟨_, ho, rfl⟩ F.entry_tuple_mul (F.args_tuple_mul_2 _ _) (tuple_mul1 l its.toArray n dd sl t) ⟨ho, ⟨.ref l, H, I, rfl, q⟩⟩⟩)
theorem Rps.rep {K : PySem.W.Frag} {G H : Hp} {vs : List V} {ps : List PV} (h : Rps K G H vs ps []) : ∀ k : Nat, Rps K G H (List.replicate k vs).flatten (List.replicate k ps).flatten []
  | 0 => .nil
  | k + 1 => by
    rw [List.replicate_succ, List.replicate_succ, List.flatten_cons, List.flatten_cons]
    obtain ⟨F, h1, m⟩ := h.append (h.rep k) (by simp)
    have : F = [] := List.eq_nil_iff_forall_not_mem.mpr fun a ha => by simpa using (m a).mp ha
    rw [this] at h1
    exact h1
theorem bin_mul : BinS X .mul .Mult := by
  refine ⟨_, (op_mulW.or op_rep).or (op_repT.or op_repT1), ?_⟩
  intro G H x y px py pz Fx Fy Q gh rx ry d e q
  simp only [binV, mulV] at e
  split at e
  · split at e
    · cases e
      rename_i h
      simp only [mulOk, Bool.and_eq_true, decide_eq_true_eq] at h
      obtain ⟨rfl, _⟩ := rx.inv_int
      obtain ⟨rfl, _⟩ := ry.inv_int
      exact .inl (.inl ⟨_, _, rfl, rfl, by have := big_log h.1; have := big_log h.2; unfold CMulW; omega, made_int q gh⟩)
    · cases e
  · split at e
    · cases e
      rename_i h
      obtain ⟨h1, h2, h3, h4⟩ := h
      obtain ⟨a, ws, Fa, rfl, sa, ra, ma⟩ := rx.inv_lst gh
      obtain ⟨rfl, _⟩ := ry.inv_int
      have f0 := ra.lf h4
      subst f0
      exact .inl (.inr ⟨a, _, ws, rfl, rfl, sa, by omega, by omega, by rw [ra.len, ← sl_eq]; exact h1, fun p hp => made_lst q gh (ra.rep _) (by simp) hp⟩)
    · cases e
  · split at e
    · cases e
      rename_i xs k h
      obtain ⟨h1, h2, h3, h4, h5⟩ := h
      obtain ⟨a, ws, rfl, sa, ra⟩ := rx.inv_tup
      obtain ⟨rfl, _⟩ := ry.inv_int
      have f0 := ra.lf h5
      subst f0
      by_cases hk : k = 1
      · subst hk
        refine .inr (.inr ⟨a, ws, rfl, rfl, sqT_mono gh sa, ?_⟩)
        have e1 : (List.replicate (Int.toNat 1) xs).flatten = xs := by simp
        rw [e1] at q
        exact made_same q gh rx (by simp)
      · refine .inr (.inl ⟨a, k, ws, rfl, rfl, sqT_mono gh sa, fun z => ?_, by omega, h2, by rw [ra.len]; exact h1, fun p hp => made_tup q gh (ra.rep _) (by simp) hp⟩)
        subst z
        exact h4 (List.eq_nil_of_length_eq_zero ra.len.symm)
    · cases e
  · cases e
end
end LC
end

section
set_option Elab.async false
set_option linter.all false
set_option maxRecDepth 100000
set_option maxHeartbeats 1000000
namespace LC
open PySem PySem.Spec L2
/-! ### comparisons -/
mutual
def toD : PV → PyData
  | .tup xs => .tuple (toDs xs)
  | .lst _ xs => .list (toDs xs)
  | .none => .none
  | .bool b => .bool b
  | .int i => .int i
  | .str s => .str s
  | .dic _ _ _ => .none
  | .exc _ _ => .none
  | .scr _ => .none
def toDs : List PV → List PyData
  | [] => []
  | x :: xs => toD x :: toDs xs
end
mutual
theorem toD_lay : ∀ (p : PV), dok p = true → (toD p).canLay0 = true
  | .tup xs, h => by simp only [dok] at h; simp only [toD, PyData.canLay0]; exact toDs_lay xs h
  | .lst u xs, h => by simp only [dok] at h; simp only [toD, PyData.canLay0]; exact toDs_lay xs h
  | .none, _ => by simp [toD, PyData.canLay0]
  | .bool _, _ => by simp [toD, PyData.canLay0]
  | .int _, _ => by simp [toD, PyData.canLay0]
  | .str s, h => by simp only [dok] at h; simp only [toD, PyData.canLay0]; exact h
  | .dic _ _ _, h => by simp [dok] at h
  | .exc _ _, h => by simp [dok] at h
  | .scr _, h => by simp [dok] at h
theorem toDs_lay : ∀ (ps : List PV), doks ps = true → PyData.canLayAll0 (toDs ps) = true
  | [], _ => by simp [toDs, PyData.canLayAll0]
  | x :: xs, h => by
    simp only [doks, Bool.and_eq_true] at h
    simp only [toDs, PyData.canLayAll0, Bool.and_eq_true]
    exact ⟨toD_lay x h.1, toDs_lay xs h.2⟩
end
mutual
theorem toD_dep : ∀ (p : PV), (toD p).depth = dep p
  | .tup xs => by simp only [toD, PyData.depth, dep]; rw [toDs_dep xs]
  | .lst u xs => by simp only [toD, PyData.depth, dep]; rw [toDs_dep xs]
  | .none => by simp [toD, PyData.depth, dep]
  | .bool _ => by simp [toD, PyData.depth, dep]
  | .int _ => by simp [toD, PyData.depth, dep]
  | .str s => by simp [toD, PyData.depth, dep]
  | .dic _ _ _ => by simp [toD, PyData.depth, dep]
  | .exc _ _ => by simp [toD, PyData.depth, dep]
  | .scr _ => by simp [toD, PyData.depth, dep]
theorem toDs_dep : ∀ (ps : List PV), PyData.depthAll (toDs ps) = deps ps
  | [] => by simp [toDs, PyData.depthAll, deps]
  | x :: xs => by simp only [toDs, PyData.depthAll, deps]; rw [toD_dep x, toDs_dep xs]
end
theorem toD_shaped {p : PV} {n : Nat} (h : dat n p = true) (hn : n ≤ 64) : SeqAt.shaped (toD p) = true := by
  simp only [dat, Bool.and_eq_true, decide_eq_true_eq] at h
  unfold SeqAt.shaped
  rw [toD_lay p h.1, Bool.true_and, toD_dep]
  exact decide_eq_true (by omega)
mutual
theorem eqv_toD : ∀ (p q : PV), dok p = true → dok q = true → eqv p q = PyData.eqv (toD p) (toD q)
  | .tup xs, q, h, h2 => by
    cases q with
    | tup ys => simp only [eqv, toD, PyData.eqv]; simp only [dok] at h h2; exact eqvs_toD xs ys h h2
    | dic _ _ _ => simp [dok] at h2
    | exc _ _ => simp [dok] at h2
    | scr _ => simp [dok] at h2
    | _ => simp [eqv, toD, PyData.eqv]
  | .lst u xs, q, h, h2 => by
    cases q with
    | lst w ys => simp only [eqv, toD, PyData.eqv]; simp only [dok] at h h2; exact eqvs_toD xs ys h h2
    | dic _ _ _ => simp [dok] at h2
    | exc _ _ => simp [dok] at h2
    | scr _ => simp [dok] at h2
    | _ => simp [eqv, toD, PyData.eqv]
  | .none, q, h, h2 => by
    cases q with
    | dic _ _ _ => simp [dok] at h2
    | exc _ _ => simp [dok] at h2
    | scr _ => simp [dok] at h2
    | _ => simp [eqv, toD, PyData.eqv]
  | .bool b, q, h, h2 => by
    cases q with
    | dic _ _ _ => simp [dok] at h2
    | exc _ _ => simp [dok] at h2
    | scr _ => simp [dok] at h2
    | _ => simp [eqv, toD, PyData.eqv, b2i]
  | .int b, q, h, h2 => by
    cases q with
    | dic _ _ _ => simp [dok] at h2
    | exc _ _ => simp [dok] at h2
    | scr _ => simp [dok] at h2
    | _ => simp [eqv, toD, PyData.eqv, b2i]
  | .str b, q, h, h2 => by
    cases q with
    | dic _ _ _ => simp [dok] at h2
    | exc _ _ => simp [dok] at h2
    | scr _ => simp [dok] at h2
    | _ => simp [eqv, toD, PyData.eqv]
  | .dic _ _ _, _, h, _ => by simp [dok] at h
  | .exc _ _, _, h, _ => by simp [dok] at h
  | .scr _, _, h, _ => by simp [dok] at h
theorem eqvs_toD : ∀ (ps qs : List PV), doks ps = true → doks qs = true → eqvs ps qs = PyData.eqvAll (toDs ps) (toDs qs)
  | [], [], _, _ => by simp [eqvs, toDs, PyData.eqvAll]
  | [], _ :: _, _, _ => by simp [eqvs, toDs, PyData.eqvAll]
  | _ :: _, [], _, _ => by simp [eqvs, toDs, PyData.eqvAll]
  | p :: ps, q :: qs, h, h2 => by
    simp only [doks, Bool.and_eq_true] at h h2
    simp only [eqvs, toDs, PyData.eqvAll]
    rw [eqv_toD p q h.1 h2.1, eqvs_toD ps qs h.2 h2.2]
end
theorem Rps.dp {K : PySem.W.Frag} {G H : Hp} {vs : List V} {ps : List PV} {F : List Addr} (h : Rps K G H vs ps F) (gh : Same G H) : doks ps = true → DpAll K H vs (toDs ps) := by
  induction h with
  | nil => intro _; exact .nil
  | none _ ih => intro q; simp only [doks, Bool.and_eq_true] at q; exact .cons .non (ih q.2)
  | bool _ ih => intro q; simp only [doks, Bool.and_eq_true] at q; exact .cons (.bl _) (ih q.2)
  | int _ ih => intro q; simp only [doks, Bool.and_eq_true] at q; exact .cons (.int _) (ih q.2)
  | str _ ih => intro q; simp only [doks, Bool.and_eq_true] at q; exact .cons (.str _) (ih q.2)
  | tup s _ _ _ ih1 ih2 => intro q; simp only [doks, dok, Bool.and_eq_true] at q; exact .cons (.tup (sqT_mono gh s) (ih1 q.1)) (ih2 q.2)
  | lstF s _ _ ih1 ih2 => intro q; simp only [doks, dok, Bool.and_eq_true] at q; exact .cons (.lst (.of (gh _ _ s)) (ih1 q.1)) (ih2 q.2)
  | lstT s _ _ _ _ _ _ ih1 ih2 => intro q; simp only [doks, dok, Bool.and_eq_true] at q; exact .cons (.lst (.of s) (ih1 q.1)) (ih2 q.2)
  | dicF s _ ih => intro q; simp [doks, dok] at q
  | scr s _ ih => intro q; simp [doks, dok] at q
theorem dat_ok {n : Nat} {p : PV} (h : dat n p = true) : dok p = true := by simp only [dat, Bool.and_eq_true] at h; exact h.1
theorem dats_ok {n : Nat} {p : List PV} (h : dats n p = true) : doks p = true := by simp only [dats, Bool.and_eq_true] at h; exact h.1
theorem Rps.dp1 {K : PySem.W.Frag} {G H : Hp} {v : V} {p : PV} {F : List Addr} (h : Rps K G H [v] [p] F) (gh : Same G H) {n : Nat} (hd : dat n p = true) : Dp K H v (toD p) := by
  have := h.dp gh (by simp [doks, dat_ok hd])
  cases this with | cons a _ => exact a

section
variable {X : Cx}
def CmpS (X : Cx) (o : Cop) (op : CmpOp) : Prop := ∃ r : R2, OpR X (compareOp op) r ∧ ∀ (G H : Hp) (x y : V) (px py : PV) (b : Bool) (Fx Fy : List Addr) (Q : VK), Same G H → Rps X.K G H [x] [px] Fx → Rps X.K G H [y] [py] Fy →
  cmpV o px py = some b → Q (.bl b) H → r x y H Q
theorem cmpI_some {f : Int → Int → Bool} {p q : PV} {b : Bool} (e : cmpI f p q = some b) : ∃ i j, p = .int i ∧ q = .int j ∧ b = f i j := by
  unfold cmpI at e
  split at e
  · cases e; exact ⟨_, _, rfl, rfl, rfl⟩
  · cases e
theorem cmp_int {o : Cop} {op : CmpOp} {f : Int → Int → Bool} (ho : OpR X (compareOp op) (rI0 fun i j => .bl (f i j))) (hb : cmpV o = cmpI f) : CmpS X o op := by
  refine ⟨_, ho, ?_⟩
  intro G H x y px py b Fx Fy Q gh rx ry e q
  rw [hb] at e
  obtain ⟨i, j, rfl, rfl, rfl⟩ := cmpI_some e
  obtain ⟨rfl, _⟩ := rx.inv_int
  obtain ⟨rfl, _⟩ := ry.inv_int
  exact ⟨i, j, rfl, rfl, q⟩
theorem cmp_lt : CmpS X .lt .Lt := cmp_int op_lt rfl
theorem cmp_le : CmpS X .le .LtE := cmp_int op_le rfl
theorem cmp_gt : CmpS X .gt .Gt := cmp_int op_gt rfl
theorem cmp_ge : CmpS X .ge .GtE := cmp_int op_ge rfl
theorem cmp_eq (hu : X.A.units + 64 < cLine) : CmpS X .eq .Eq := by
  refine ⟨_, op_eqD hu, ?_⟩
  intro G H x y px py b Fx Fy Q gh rx ry e q
  simp only [cmpV] at e
  split at e
  · rename_i h
    simp only [Bool.and_eq_true] at h
    cases e
    refine ⟨toD px, toD py, rx.dp1 gh h.1, ry.dp1 gh h.2, toD_shaped h.1 (by decide), toD_shaped h.2 (by decide), ?_⟩
    rw [← eqv_toD px py (dat_ok h.1) (dat_ok h.2)]; exact q
  · cases e
theorem cmp_ne (hu : X.A.units + 64 < cLine) : CmpS X .ne .NotEq := by
  refine ⟨_, op_neD hu, ?_⟩
  intro G H x y px py b Fx Fy Q gh rx ry e q
  simp only [cmpV] at e
  split at e
  · rename_i h
    simp only [Bool.and_eq_true] at h
    cases e
    refine ⟨toD px, toD py, rx.dp1 gh h.1, ry.dp1 gh h.2, toD_shaped h.1 (by decide), toD_shaped h.2 (by decide), ?_⟩
    rw [← eqv_toD px py (dat_ok h.1) (dat_ok h.2)]; exact q
  · cases e
theorem any_toD {a : PV} (ha : dok a = true) : ∀ xs : List PV, doks xs = true → (xs.any fun z => eqv z a) = ((toDs xs).any fun z => PyData.eqv z (toD a))
  | [], _ => rfl
  | x :: xs, h => by
    simp only [doks, Bool.and_eq_true] at h
    rw [List.any_cons, toDs, List.any_cons, any_toD ha xs h.2, eqv_toD x a h.1 ha]
theorem flat_V {K : PySem.W.Frag} {G H : Hp} {v : V} {p : PV} {F : List Addr} (h : Rps K G H [v] [p] F) (e : flatP p = true) : flatV v = true := by
  cases h <;> first | rfl | (simp [flatP] at e)
theorem eqv_V {K : PySem.W.Frag} {G H : Hp} {v w : V} {p q : PV} {F F' : List Addr} (h : Rps K G H [v] [p] F) (h' : Rps K G H [w] [q] F') (e : flatP p = true) (e' : flatP q = true) : eqv p q = eqV v w := by
  cases h <;> first | (simp [flatP] at e; done) | skip
  all_goals (cases h' <;> first | (simp [flatP] at e'; done) | (simp [eqv, eqV, b2i]))
theorem any_V {K : PySem.W.Frag} {G H : Hp} {w : V} {q : PV} {F' : List Addr} (h' : Rps K G H [w] [q] F') (e' : flatP q = true) : ∀ {vs : List V} {ps : List PV} {F : List Addr}, Rps K G H vs ps F → ps.all flatP = true →
    vs.all flatV = true ∧ (ps.any fun z => eqv z q) = L2.inV w vs
  | [], [], _, _, _ => ⟨rfl, rfl⟩
  | [], _ :: _, _, h, _ => absurd h.len (by simp)
  | _ :: _, [], _, h, _ => absurd h.len (by simp)
  | v :: vs, p :: ps, _, h, e => by
    obtain ⟨F1, F2, h1, h2, _, _⟩ := h.uncons
    simp only [List.all_cons, Bool.and_eq_true] at e
    obtain ⟨i1, i2⟩ := any_V h' e' h2 e.2
    refine ⟨by simp [flat_V h1 e.1, i1], ?_⟩
    rw [List.any_cons, i2, eqv_V h1 h' e.1 e']
    rfl
theorem shaped_lst {xs : List PV} (h : dats 59 xs = true) : SeqAt.shaped (.list (toDs xs)) = true := by
  simp only [dats, Bool.and_eq_true, decide_eq_true_eq] at h
  have h2 : dat 60 (.lst true xs) = true := by
    show (doks xs && decide (deps xs + 1 ≤ 60)) = true
    rw [h.1, Bool.true_and]
    exact decide_eq_true (by have := h.2; omega)
  exact toD_shaped h2 (by decide)
theorem cmp_in (hu : X.A.units + 65 < cLine) : CmpS X .inn .In := by
  refine ⟨_, (op_inD hu).or (op_in_seq.or op_in_sign), ?_⟩
  intro G H x y px py b Fx Fy Q gh rx ry e q
  simp only [cmpV, inV] at e
  split at e
  · split at e
    · rename_i h
      simp only [Bool.and_eq_true] at h
      simp only [Bool.false_eq_true, if_false] at e
      cases e
      obtain ⟨a, ws, Fa, rfl, sa, ra, ma⟩ := ry.inv_lst gh
      refine .inl ⟨toD px, toDs _, rx.dp1 gh h.1, .lst (.of sa) (ra.dp gh (dats_ok h.2)), toD_shaped h.1 (by decide), shaped_lst h.2, ?_⟩
      rw [← any_toD (dat_ok h.1) _ (dats_ok h.2)]; exact q
    · cases e
  · split at e
    · rename_i h
      simp only [Bool.and_eq_true] at h
      simp only [Bool.false_eq_true, if_false] at e
      cases e
      obtain ⟨a, ws, rfl, sa, ra⟩ := ry.inv_tup
      obtain ⟨i1, i2⟩ := any_V rx h.1 ra h.2
      refine .inr (.inl ⟨a, ws, rfl, .inr (sqT_mono gh sa), flat_V rx h.1, i1, ?_⟩)
      rw [i2] at q
      exact q
    · cases e
  · split at e
    · simp only [Bool.false_eq_true, if_false] at e
      cases e
      obtain ⟨rfl, _⟩ := rx.inv_str
      obtain ⟨rfl, _⟩ := ry.inv_str
      exact .inr (.inr ⟨_, _, rfl, rfl, q⟩)
    · cases e
  · cases e
theorem cmp_nin (hu : X.A.units + 65 < cLine) : CmpS X .nin .NotIn := by
  refine ⟨_, (op_notInD hu).or (op_notIn_seq.or op_notIn_sign), ?_⟩
  intro G H x y px py b Fx Fy Q gh rx ry e q
  simp only [cmpV, inV] at e
  split at e
  · split at e
    · rename_i h
      simp only [Bool.and_eq_true] at h
      simp only [if_true] at e
      cases e
      obtain ⟨a, ws, Fa, rfl, sa, ra, ma⟩ := ry.inv_lst gh
      refine .inl ⟨toD px, toDs _, rx.dp1 gh h.1, .lst (.of sa) (ra.dp gh (dats_ok h.2)), toD_shaped h.1 (by decide), shaped_lst h.2, ?_⟩
      rw [← any_toD (dat_ok h.1) _ (dats_ok h.2)]; exact q
    · cases e
  · split at e
    · rename_i h
      simp only [Bool.and_eq_true] at h
      simp only [if_true] at e
      cases e
      obtain ⟨a, ws, rfl, sa, ra⟩ := ry.inv_tup
      obtain ⟨i1, i2⟩ := any_V rx h.1 ra h.2
      refine .inr (.inl ⟨a, ws, rfl, .inr (sqT_mono gh sa), flat_V rx h.1, i1, ?_⟩)
      rw [i2] at q
      exact q
    · cases e
  · split at e
    · simp only [if_true] at e
      cases e
      obtain ⟨rfl, _⟩ := rx.inv_str
      obtain ⟨rfl, _⟩ := ry.inv_str
      exact .inr (.inr ⟨_, _, rfl, rfl, q⟩)
    · cases e
  · cases e
/-! truth -/
theorem tru_V {K : PySem.W.Frag} {G H : Hp} {v : V} {p : PV} {F : List Addr} {b : Bool} (h : Rps K G H [v] [p] F) (gh : Same G H) (e : truV p = some b) : TruV K v H b := by
  cases p with
  | none => obtain ⟨rfl, _⟩ := h.inv_none; cases e; rfl
  | bool c => obtain ⟨rfl, _⟩ := h.inv_bool; cases e; rfl
  | int i => obtain ⟨rfl, _⟩ := h.inv_int; cases e; rfl
  | str s =>
    obtain ⟨rfl, _⟩ := h.inv_str
    simp only [truV] at e
    split at e
    · cases e
      rename_i hl
      refine ⟨by rw [← sl_eq]; exact hl, ?_⟩
      cases hz : s.length <;> simp
      omega
    · cases e
  | tup xs =>
    obtain ⟨a, ws, rfl, sa, ra⟩ := h.inv_tup
    cases e
    refine .inr (.inl ⟨ws, sqT_mono gh sa, ?_⟩)
    have := ra.len
    cases ws <;> cases xs <;> simp_all
  | lst u xs =>
    obtain ⟨a, ws, Fa, rfl, sa, ra, ma⟩ := h.inv_lst gh
    cases e
    refine .inl ⟨ws, .of sa, ?_⟩
    have := ra.len
    cases ws <;> cases xs <;> simp_all
  | dic _ _ _ => cases e
  | exc _ _ => cases e
  | scr _ => cases e
end
end LC
end

section
set_option Elab.async false
set_option linter.all false
set_option maxRecDepth 100000
set_option maxHeartbeats 1000000
namespace LC
open PySem PySem.Spec L2
section
variable {X : Cx}
/-! ### items and slices -/
theorem atI_eq {α : Type} (xs : List α) (i : Int) : LC.atI xs i = L2.atI xs i := rfl
theorem sIx_eq (n d : Nat) (o : Option Int) : LC.sIx n d o = HT.sIx n d o := by cases o <;> rfl
theorem cut_eq (xs : List V) (lo hi : Option Int) : LC.cut xs lo hi = cutV xs lo hi := by unfold LC.cut cutV; simp only [sIx_eq]
theorem Rps.at_ {K : PySem.W.Frag} {G H : Hp} {vs : List V} {ps : List PV} {F : List Addr} (h : Rps K G H vs ps F) {i : Int} {p : PV} (e : LC.atI ps i = some p) : ∃ v F1, L2.atI vs i = some v ∧ Rps K G H [v] [p] F1 ∧ ∀ x ∈ F1, x ∈ F := by
  unfold LC.atI at e
  unfold L2.atI
  have hl := h.len
  cases hj : LC.ixN ps.length i with
  | none => rw [hj] at e; cases e
  | some j =>
    rw [hj] at e
    obtain ⟨v, F1, e1, e2, e3⟩ := h.get (i := j) (p := p) e
    refine ⟨v, F1, ?_, e2, e3⟩
    have hj2 : L2.ixN vs.length i = some j := by rw [hl]; exact hj
    rw [hj2]
    exact e1
theorem Rps.cut {K : PySem.W.Frag} {G H : Hp} {vs : List V} {ps : List PV} {F : List Addr} (h : Rps K G H vs ps F) (lo hi : Option Int) : ∃ F1, Rps K G H (cutV vs lo hi) (LC.cut ps lo hi) F1 ∧ ∀ x ∈ F1, x ∈ F := by
  rw [← cut_eq]
  unfold LC.cut
  rw [h.len]
  obtain ⟨F1, h1, m1⟩ := h.drop (LC.sIx ps.length 0 lo)
  obtain ⟨F2, h2, m2⟩ := h1.take (LC.sIx ps.length ps.length hi - LC.sIx ps.length 0 lo)
  exact ⟨F2, h2, fun x hx => m1 x (m2 x hx)⟩
theorem at_map {α β : Type} (f : α → β) (xs : List α) (i : Int) : L2.atI (xs.map f) i = (L2.atI xs i).map f := by
  unfold L2.atI
  rw [List.length_map]
  cases L2.ixN xs.length i with
  | none => rfl
  | some j => simp
/-- x[i] -/
theorem sub_ok {G H : Hp} {x y : V} {px py pz : PV} {Fx Fy : List Addr} {Q : VK} (gh : Same G H) (rx : Rps X.K G H [x] [px] Fx) (ry : Rps X.K G H [y] [py] Fy) (e : subV px py = some pz) (q : Made X.K G H (Fx ++ Fy) pz Q) : rIx X.K x y H Q := by
  unfold subV at e
  split at e
  · obtain ⟨rfl, _⟩ := ry.inv_int
    obtain ⟨a, ws, rfl, sa, ra⟩ := rx.inv_tup
    obtain ⟨v, F1, e1, e2, e3⟩ := ra.at_ e
    exact .inr (.inl ⟨a, ws, _, v, rfl, rfl, sqT_mono gh sa, e1, made_same q gh e2 fun a ha => List.mem_append_left _ (e3 a ha)⟩)
  · obtain ⟨rfl, _⟩ := ry.inv_int
    obtain ⟨a, ws, Fa, rfl, sa, ra, ma⟩ := rx.inv_lst gh
    obtain ⟨v, F1, e1, e2, e3⟩ := ra.at_ e
    exact .inl ⟨a, ws, _, v, rfl, rfl, .of sa, e1, made_same q gh e2 fun a ha => List.mem_append_left _ (ma a (e3 a ha))⟩
  · rename_i ns i
    obtain ⟨rfl, _⟩ := ry.inv_int
    obtain ⟨a, rfl, sa, _⟩ := rx.inv_scr
    cases h : LC.atI ns i with
    | none => rw [h] at e; cases e
    | some n =>
      rw [h] at e
      cases e
      refine .inl ⟨a, _, _, .int n, rfl, rfl, gh.seq sa, ?_, made_int q gh⟩
      rw [at_map, ← atI_eq, h]; rfl
  · rename_i s i
    obtain ⟨rfl, _⟩ := ry.inv_int
    obtain ⟨rfl, _⟩ := rx.inv_str
    split at e
    · rename_i hl
      cases h : LC.atI s.cps.toList i with
      | none => rw [h] at e; cases e
      | some n =>
        rw [h] at e
        cases e
        exact .inr (.inr ⟨_, _, n, rfl, rfl, by rw [← sl_eq]; exact hl, h, made_str q gh⟩)
    · cases e
  · cases e
/-- x[lo:hi] -/
def rSli (K : PySem.W.Frag) : V → Option Int → Option Int → Hp → VK → Prop := fun x lo hi H Q => (rSlA K x lo hi H Q ∨ rSlL K x lo hi H Q) ∨ rSlS x lo hi H Q
theorem sli_all : SlR X (rSli X.K) := (sl_tupA.or sl_list).or sl_str
theorem scr_cut (K : PySem.W.Frag) (G H : Hp) : ∀ ns : List Int, Rps K G H (ns.map V.int) (ns.map PV.int) []
  | [] => .nil
  | n :: ns => .int (scr_cut K G H ns)
theorem map_cut {α β : Type} (f : α → β) (xs : List α) (lo hi : Option Int) : LC.cut (xs.map f) lo hi = (LC.cut xs lo hi).map f := by
  unfold LC.cut
  rw [List.length_map, List.map_take, List.map_drop]
theorem sli_ok {G H : Hp} {x : V} {px pz : PV} {lo hi : Option Int} {Fx Fs : List Addr} {Q : VK} (gh : Same G H) (rx : Rps X.K G H [x] [px] Fx) (hs : ∀ a ∈ Fx, a ∈ Fs) (e : sliV px lo hi = some pz) (q : Made X.K G H Fs pz Q) : rSli X.K x lo hi H Q := by
  unfold sliV at e
  split at e
  · cases e
    obtain ⟨a, ws, rfl, sa, ra⟩ := rx.inv_tup
    obtain ⟨F1, h1, m1⟩ := ra.cut lo hi
    refine .inl (.inl ⟨a, ws, rfl, sqT_mono gh sa, fun z => ?_, fun z p hp => made_tup q gh h1 (fun a ha => hs a (m1 a ha)) hp⟩)
    have e2 : cutV ws lo hi = ws := by
      unfold cutV
      rw [z.1, z.2, List.drop_zero, Nat.sub_zero, List.take_length]
    rename_i xs
    have e3 : LC.cut xs lo hi = xs := by
      have hl := ra.len
      unfold LC.cut
      rw [← hl, sIx_eq, sIx_eq, z.1, z.2, List.drop_zero, Nat.sub_zero, hl, List.take_length]
    rw [e3] at q
    exact made_same q gh rx hs
  · cases e
    obtain ⟨a, ws, Fa, rfl, sa, ra, ma⟩ := rx.inv_lst gh
    obtain ⟨F1, h1, m1⟩ := ra.cut lo hi
    exact .inl (.inr ⟨a, ws, rfl, .of sa, fun p hp => made_lst q gh h1 (fun a ha => hs a (ma a (m1 a ha))) hp⟩)
  · cases e
    obtain ⟨a, rfl, sa, _⟩ := rx.inv_scr
    refine .inl (.inr ⟨a, _, rfl, gh.seq sa, fun p hp => ?_⟩)
    rw [← cut_eq, map_cut]
    exact made_lst q gh (scr_cut _ _ _ _) (by simp) hp
  · split at e
    · cases e
      rename_i hl
      obtain ⟨rfl, _⟩ := rx.inv_str
      refine .inr ⟨_, rfl, by rw [← sl_eq]; exact hl, ?_⟩
      have := made_str q gh
      unfold LC.cut at this
      simp only [sIx_eq] at this
      exact this
    · cases e
  · cases e
/-! ### built-ins -/
theorem Rps.intsL {K : PySem.W.Frag} {G H : Hp} : ∀ {vs : List V} {ps : List PV} {F : List Addr} {ns : List Int}, Rps K G H vs ps F → LC.intsL ps = some ns → vs = ns.map V.int
  | _, [], _, ns, h, e => by cases h; cases e; rfl
  | _, p :: ps, _, ns, h, e => by
    cases p with
    | int i =>
      simp only [LC.intsL] at e
      cases h2 : LC.intsL ps with
      | none => rw [h2] at e; cases e
      | some ms =>
        rw [h2] at e; cases e
        cases h with
        | int r => rw [Rps.intsL r h2]; rfl
    | _ => simp [LC.intsL] at e
theorem Rps.bools {K : PySem.W.Frag} {G H : Hp} : ∀ {vs : List V} {ps : List PV} {F : List Addr} {ns : List Bool}, Rps K G H vs ps F → LC.bools ps = some ns → vs = ns.map V.bl
  | _, [], _, ns, h, e => by cases h; cases e; rfl
  | _, p :: ps, _, ns, h, e => by
    cases p with
    | bool i =>
      simp only [LC.bools] at e
      cases h2 : LC.bools ps with
      | none => rw [h2] at e; cases e
      | some ms =>
        rw [h2] at e; cases e
        cases h with
        | bool r => rw [Rps.bools r h2]; rfl
    | _ => simp [LC.bools] at e
theorem maxL_mem : ∀ (n : Int) (ns : List Int), maxL (n :: ns) ∈ n :: ns ∧ ∀ y ∈ n :: ns, y ≤ maxL (n :: ns)
  | n, [] => by simp [maxL]
  | n, m :: ns => by
    obtain ⟨h1, h2⟩ := maxL_mem m ns
    simp only [maxL]
    constructor
    · rcases Int.le_total n (maxL (m :: ns)) with h | h
      · rw [Int.max_eq_right h]; exact List.mem_cons_of_mem _ h1
      · rw [Int.max_eq_left h]; exact List.mem_cons_self
    · intro y hy
      rcases List.mem_cons.mp hy with rfl | hy
      · exact Int.le_max_left _ _
      · exact Int.le_trans (h2 y hy) (Int.le_max_right _ _)
theorem minL_mem : ∀ (n : Int) (ns : List Int), minL (n :: ns) ∈ n :: ns ∧ ∀ y ∈ n :: ns, minL (n :: ns) ≤ y
  | n, [] => by simp [minL]
  | n, m :: ns => by
    obtain ⟨h1, h2⟩ := minL_mem m ns
    simp only [minL]
    constructor
    · rcases Int.le_total n (minL (m :: ns)) with h | h
      · rw [Int.min_eq_left h]; exact List.mem_cons_self
      · rw [Int.min_eq_right h]; exact List.mem_cons_of_mem _ h1
    · intro y hy
      rcases List.mem_cons.mp hy with rfl | hy
      · exact Int.min_le_left _ _
      · exact Int.le_trans (Int.min_le_right _ _) (h2 y hy)
/-- the name, and what it stands for -/
def Blt.name : Blt → Str
  | .len => "len" | .abs => "abs" | .max => "max" | .min => "min" | .int => "int" | .str => "str" | .sum => "sum" | .all => "all" | .any => "any" | .tuple => "tuple" | .list => "list" | .divmod => "divmod"
def Blt.val : Blt → Value
  | .len => .builtin "len" | .abs => .builtin "abs" | .max => .builtin "max" | .min => .builtin "min" | .int => .type "int" | .str => .type "str" | .sum => .builtin "sum" | .all => .builtin "all" | .any => .builtin "any"
  | .tuple => .type "tuple" | .list => .type "list" | .divmod => .builtin "divmod"
def BltS (X : Cx) (f : Blt) : Prop := ∃ r, CallR X f.val r ∧ ∀ (G H : Hp) (vs : List V) (ps : List PV) (p : PV) (Fs : List Addr) (Q : VK), Same G H → Rps X.K G H vs ps Fs → bltV f ps = some p → Made X.K G H Fs p Q → r vs H Q
theorem rps1 {K : PySem.W.Frag} {G H : Hp} {vs : List V} {p : PV} {F : List Addr} (h : Rps K G H vs [p] F) : ∃ v, vs = [v] ∧ Rps K G H [v] [p] F := by
  cases vs with
  | nil => exact absurd h.len (by simp)
  | cons v vs =>
    cases vs with
    | nil => exact ⟨v, rfl, h⟩
    | cons w vs => exact absurd h.len (by simp)
theorem rps2 {K : PySem.W.Frag} {G H : Hp} {vs : List V} {p q : PV} {F : List Addr} (h : Rps K G H vs [p, q] F) : ∃ v w F1 F2, vs = [v, w] ∧ Rps K G H [v] [p] F1 ∧ Rps K G H [w] [q] F2 ∧ (∀ a, a ∈ F ↔ a ∈ F1 ∨ a ∈ F2) := by
  cases vs with
  | nil => exact absurd h.len (by simp)
  | cons v vs =>
    obtain ⟨F1, F2, h1, h2, _, m⟩ := h.uncons
    obtain ⟨w, rfl, h3⟩ := rps1 h2
    exact ⟨v, w, F1, F2, rfl, h1, h3, m⟩
theorem blt_len : BltS X .len := by
  refine ⟨_, call_len, ?_⟩
  intro G H vs ps p Fs Q gh r e q
  simp only [bltV, lenV] at e
  split at e
  · cases e
    obtain ⟨v, rfl, r⟩ := rps1 r
    obtain ⟨a, ws, rfl, sa, ra⟩ := r.inv_tup
    exact ⟨_, _, rfl, .inr ⟨ws, sqT_mono gh sa, rfl⟩, by rw [ra.len]; exact made_int q gh⟩
  · cases e
    obtain ⟨v, rfl, r⟩ := rps1 r
    obtain ⟨a, ws, Fa, rfl, sa, ra, ma⟩ := r.inv_lst gh
    exact ⟨_, _, rfl, .inl ⟨ws, .of sa, rfl⟩, by rw [ra.len]; exact made_int q gh⟩
  · cases e
    obtain ⟨v, rfl, r⟩ := rps1 r
    obtain ⟨a, rfl, sa, _⟩ := r.inv_scr
    exact ⟨_, _, rfl, .inl ⟨_, gh.seq sa, rfl⟩, by rw [List.length_map]; exact made_int q gh⟩
  · split at e
    · cases e
      rename_i hl
      obtain ⟨v, rfl, r⟩ := rps1 r
      obtain ⟨rfl, _⟩ := r.inv_str
      exact ⟨_, _, rfl, ⟨by rw [← sl_eq]; exact hl, rfl⟩, made_int q gh⟩
    · cases e
  · cases e
theorem blt_abs : BltS X .abs := by
  refine ⟨_, call_abs, ?_⟩
  intro G H vs ps p Fs Q gh r e q
  simp only [bltV, absV] at e
  split at e
  · cases e
    obtain ⟨v, rfl, r⟩ := rps1 r
    obtain ⟨rfl, _⟩ := r.inv_int
    exact ⟨_, rfl, made_int q gh⟩
  · cases e
theorem CallR.or' {f : Value} {r r' : List V → Hp → VK → Prop} (h : CallR X f r) (h' : CallR X f r') : CallR X f (fun xs H Q => r xs H Q ∨ r' xs H Q) := CallR.or h h'
theorem blt_max (hc : X.calm = true) : BltS X .max := by
  refine ⟨_, CallR.or' (call_max2 hc) (cr_max hc), ?_⟩
  intro G H vs ps p Fs Q gh r e q
  simp only [bltV, maxV] at e
  split at e
  · cases e
    obtain ⟨v, w, F1, F2, rfl, r1, r2, _⟩ := rps2 r
    obtain ⟨rfl, _⟩ := r1.inv_int
    obtain ⟨rfl, _⟩ := r2.inv_int
    exact .inl ⟨_, _, rfl, made_int q gh⟩
  · split at e
    · cases e
      rename_i n ns hi
      obtain ⟨v, rfl, r⟩ := rps1 r
      obtain ⟨a, ws, Fa, rfl, sa, ra, ma⟩ := r.inv_lst gh
      have := ra.intsL hi
      subst this
      refine .inr ⟨a, n :: ns, rfl, .of sa, by simp, fun m h1 h2 => ?_⟩
      have e1 : m = maxL (n :: ns) := Int.le_antisymm ((maxL_mem n ns).2 m h1) (h2 _ (maxL_mem n ns).1)
      rw [e1]
      exact made_int q gh
    · cases e
  · cases e
theorem blt_min (hc : X.calm = true) : BltS X .min := by
  refine ⟨_, CallR.or' (call_min2 hc) (cr_min hc), ?_⟩
  intro G H vs ps p Fs Q gh r e q
  simp only [bltV, minV] at e
  split at e
  · cases e
    obtain ⟨v, w, F1, F2, rfl, r1, r2, _⟩ := rps2 r
    obtain ⟨rfl, _⟩ := r1.inv_int
    obtain ⟨rfl, _⟩ := r2.inv_int
    exact .inl ⟨_, _, rfl, made_int q gh⟩
  · split at e
    · cases e
      rename_i n ns hi
      obtain ⟨v, rfl, r⟩ := rps1 r
      obtain ⟨a, ws, Fa, rfl, sa, ra, ma⟩ := r.inv_lst gh
      have := ra.intsL hi
      subst this
      refine .inr ⟨a, n :: ns, rfl, .of sa, by simp, fun m h1 h2 => ?_⟩
      have e1 : m = minL (n :: ns) := Int.le_antisymm (h2 _ (minL_mem n ns).1) ((minL_mem n ns).2 m h1)
      rw [e1]
      exact made_int q gh
    · cases e
  · cases e
theorem blt_int : BltS X .int := by
  refine ⟨_, call_int1, ?_⟩
  intro G H vs ps p Fs Q gh r e q
  simp only [bltV, intOfV] at e
  split at e
  · cases e
    obtain ⟨v, rfl, r⟩ := rps1 r
    obtain ⟨rfl, _⟩ := r.inv_int
    exact .inl ⟨_, rfl, made_int q gh⟩
  · cases e
    obtain ⟨v, rfl, r⟩ := rps1 r
    obtain ⟨rfl, _⟩ := r.inv_bool
    exact .inr ⟨_, rfl, made_int q gh⟩
  · cases e
theorem blt_str : BltS X .str := by
  refine ⟨_, call_str_int, ?_⟩
  intro G H vs ps p Fs Q gh r e q
  simp only [bltV, strOfV] at e
  split at e
  · split at e
    · cases e
      rename_i hl
      obtain ⟨v, rfl, r⟩ := rps1 r
      obtain ⟨rfl, _⟩ := r.inv_int
      exact ⟨_, rfl, hl, made_str q gh⟩
    · cases e
  · cases e
theorem blt_sum (hc : X.calm = true) : BltS X .sum := by
  refine ⟨_, cr_sum hc, ?_⟩
  intro G H vs ps p Fs Q gh r e q
  simp only [bltV, sumV] at e
  split at e
  · rename_i u xs
    obtain ⟨v, rfl, r⟩ := rps1 r
    obtain ⟨a, ws, Fa, rfl, sa, ra, ma⟩ := r.inv_lst gh
    cases hi : LC.intsL xs with
    | none => rw [hi] at e; cases e
    | some ns =>
      rw [hi] at e
      cases e
      have := ra.intsL hi
      subst this
      exact ⟨a, ns, rfl, .of sa, made_int q gh⟩
  · cases e
theorem blt_all (hc : X.calm = true) : BltS X .all := by
  refine ⟨_, cr_all hc, ?_⟩
  intro G H vs ps p Fs Q gh r e q
  simp only [bltV, allV] at e
  split at e
  · rename_i u xs
    obtain ⟨v, rfl, r⟩ := rps1 r
    obtain ⟨a, ws, Fa, rfl, sa, ra, ma⟩ := r.inv_lst gh
    cases hi : LC.bools xs with
    | none => rw [hi] at e; cases e
    | some ns =>
      rw [hi] at e
      cases e
      have := ra.bools hi
      subst this
      exact ⟨a, ns, rfl, .of sa, made_bool q gh⟩
  · cases e
theorem blt_any (hc : X.calm = true) : BltS X .any := by
  refine ⟨_, cr_any hc, ?_⟩
  intro G H vs ps p Fs Q gh r e q
  simp only [bltV, anyV] at e
  split at e
  · rename_i u xs
    obtain ⟨v, rfl, r⟩ := rps1 r
    obtain ⟨a, ws, Fa, rfl, sa, ra, ma⟩ := r.inv_lst gh
    cases hi : LC.bools xs with
    | none => rw [hi] at e; cases e
    | some ns =>
      rw [hi] at e
      cases e
      have := ra.bools hi
      subst this
      exact ⟨a, ns, rfl, .of sa, made_bool q gh⟩
  · cases e
theorem blt_tuple : BltS X .tuple := by
  refine ⟨_, call_tuple_of, ?_⟩
  intro G H vs ps p Fs Q gh r e q
  simp only [bltV, tupOfV] at e
  split at e
  · cases e
    obtain ⟨v, rfl, r⟩ := rps1 r
    obtain ⟨a, ws, Fa, rfl, sa, ra, ma⟩ := r.inv_lst gh
    exact ⟨a, ws, rfl, .inl ⟨.of sa, fun l hl => made_tup q gh ra ma hl⟩⟩
  · cases e
    obtain ⟨v, rfl, r⟩ := rps1 r
    obtain ⟨a, ws, rfl, sa, ra⟩ := r.inv_tup
    exact ⟨a, ws, rfl, .inr ⟨sqT_mono gh sa, made_same q gh r fun _ h => h⟩⟩
  · cases e
theorem blt_list : BltS X .list := by
  refine ⟨_, call_list_of, ?_⟩
  intro G H vs ps p Fs Q gh r e q
  simp only [bltV, lstOfV] at e
  split at e
  · cases e
    obtain ⟨v, rfl, r⟩ := rps1 r
    obtain ⟨a, ws, Fa, rfl, sa, ra, ma⟩ := r.inv_lst gh
    exact ⟨a, ws, rfl, .inl (.of sa), fun l hl => made_lst q gh ra ma hl⟩
  · cases e
    obtain ⟨v, rfl, r⟩ := rps1 r
    obtain ⟨a, ws, rfl, sa, ra⟩ := r.inv_tup
    exact ⟨a, ws, rfl, .inr (sqT_mono gh sa), fun l hl => made_lst q gh ra (fun _ h => h) hl⟩
  · cases e
theorem blt_divmod : BltS X .divmod := by
  refine ⟨_, call_divmod, ?_⟩
  intro G H vs ps p Fs Q gh r e q
  simp only [bltV, divmodV] at e
  split at e
  · split at e
    · cases e
      rename_i hl
      obtain ⟨v, w, F1, F2, rfl, r1, r2, _⟩ := rps2 r
      obtain ⟨rfl, _⟩ := r1.inv_int
      obtain ⟨rfl, _⟩ := r2.inv_int
      exact ⟨_, _, rfl, hl, fun p hp => made_tup q gh (.int (.int .nil)) (by simp) hp⟩
    · cases e
  · cases e
theorem blt_ok (hc : X.calm = true) : ∀ f : Blt, BltS X f
  | .len => blt_len | .abs => blt_abs | .max => blt_max hc | .min => blt_min hc | .int => blt_int | .str => blt_str | .sum => blt_sum hc | .all => blt_all hc | .any => blt_any hc | .tuple => blt_tuple | .list => blt_list | .divmod => blt_divmod
/-! ### isinstance -/
def Ty.name : Ty → Str
  | .int => "int" | .bool => "bool" | .str => "str" | .tuple => "tuple" | .list => "list" | .dict => "dict" | .own c => c
def Ty.id : Ty → String
  | .int => "int" | .bool => "bool" | .str => "str" | .tuple => "tuple" | .list => "list" | .dict => "dict" | .own c => ""
theorem isi_tup {K : PySem.W.Frag} {H : Hp} {a : Addr} {ws : List V} (h : SqT K H a ws) : TyX K H (.ref a) (.type "tuple") := by
  rcases h with (h | ⟨o, h⟩) | ⟨o, its, n, h, hc, _⟩
  · exact .base (.tup h)
  · exact .fTuple h
  · exact .kTuple h hc
theorem isi_ok {G H : Hp} {x : V} {px : PV} {t : Ty} {b : Bool} {Fx : List Addr} {Q : VK} (ht : ∀ c, t ≠ .own c) (gh : Same G H) (rx : Rps X.K G H [x] [px] Fx) (e : isiV px t = some b) (q : Q (.bl b) H) : rIsi X.K [x, .ty t.id] H Q := by
  have fin : ∀ (ty : String), TyX X.K H x (.type ty) → kitB ty t.id = some b → rIsi X.K [x, .ty t.id] H Q := fun ty h1 h2 => ⟨x, .ty t.id, .type ty, .type t.id, b, rfl, .ty _, h1, kit_ty h2, q⟩
  cases px with
  | none =>
    obtain ⟨rfl, _⟩ := rx.inv_none
    refine fin _ (.base .non) ?_
    cases t <;> first | (exact absurd rfl (ht _)) | (cases e; decide +kernel)
  | bool c =>
    obtain ⟨rfl, _⟩ := rx.inv_bool
    refine fin _ (.base (.bl c)) ?_
    cases t <;> first | (exact absurd rfl (ht _)) | (cases e; decide +kernel)
  | int c =>
    obtain ⟨rfl, _⟩ := rx.inv_int
    refine fin _ (.base (.int c)) ?_
    cases t <;> first | (exact absurd rfl (ht _)) | (cases e; decide +kernel)
  | str c =>
    obtain ⟨rfl, _⟩ := rx.inv_str
    refine fin _ (.base (.str c)) ?_
    cases t <;> first | (exact absurd rfl (ht _)) | (cases e; decide +kernel)
  | tup xs =>
    obtain ⟨a, ws, rfl, sa, ra⟩ := rx.inv_tup
    refine fin _ (isi_tup (sqT_mono gh sa)) ?_
    cases t <;> first | (exact absurd rfl (ht _)) | (cases e; decide +kernel)
  | lst u xs =>
    obtain ⟨a, ws, Fa, rfl, sa, ra, ma⟩ := rx.inv_lst gh
    refine fin _ (.base (.lst sa)) ?_
    cases t <;> first | (exact absurd rfl (ht _)) | (cases e; decide +kernel)
  | dic u ks xs =>
    obtain ⟨a, kvs, rfl, sa, _⟩ := rx.inv_dic
    refine fin _ (.base (.dK (gh _ _ sa))) ?_
    cases t <;> first | (exact absurd rfl (ht _)) | (cases e; decide +kernel)
  | exc _ _ => exact rx.inv_exc.elim
  | scr _ => cases t <;> cases e
end
end LC
end

section
set_option Elab.async false
set_option linter.all false
set_option maxRecDepth 100000
set_option maxHeartbeats 1000000
/-! ### enumerate(tuple) -/
namespace PySem
open Sem (wp)
theorem lc_enumerate_new1 {v : Value} {o : Obj} {H : Heap → Prop} (B : Begins v o H) :
    Meets (Builtin.«enumerate.__new__» ⟨[.type "enumerate", v], []⟩) (fun _ R s => H s.heap ∧
      R (.ok (.ret (.ref (s.heap.push o).objs.size))) { s with heap := (s.heap.push o).push { cls := .type "enumerate", data := .fields #[.none, .bool false, .ref s.heap.objs.size, rawInt 0, .none, .none] } }) :=
  .of_wp fun prog w A R s h => by
    obtain ⟨hp, g, d, tk, os⟩ := s; obtain ⟨h1, h⟩ := h
    have hsub := sub_enumerate
    have q1 : ∀ {A' : Around} {E : Value → Shared → Prop} {Q : Value → Shared → Prop}, Q (.ref hp.objs.size) ⟨hp.push o, g, d, tk, os⟩ → wpAny (model prog w) A' (pyIter v) Q E ⟨hp, g, d, tk, os⟩ :=
      fun q => B.iter prog w _ _ ⟨hp, g, d, tk, os⟩ _ h1 q
    wp_walk using q1
    refine wpAny_stack_any fun st => wpAny_pure ?_
    split
    · rename_i c _ _ _ _ _
      cases (c == Value.type "enumerate")
      · wp_walk using q1
        exact ⟨_, rfl, h⟩
      · wp_walk using q1
        exact ⟨_, rfl, h⟩
    · wp_walk using q1
      exact ⟨_, rfl, h⟩
section
variable {prog : Program} {w : World} {A : Around} {E : Value → Shared → Prop} {s : Shared}
theorem lc_enum_begins {v : Value} {o : Obj} {H : Heap → Prop} {Q : Value → Shared → Prop} (B : Begins v o H) (h1 : H s.heap)
    (h : ∀ h', IsEnum h' (s.heap.objs.size + 1) s.heap.objs.size 0 .none → h'.get? s.heap.objs.size = some o → h'.objs.size = s.heap.objs.size + 2 →
      (∀ b o, s.heap.get? b = some o → h'.get? b = some o) → Q (.ref (s.heap.objs.size + 1)) { s with heap := h' }) :
    wpAny (model prog w) A (call (.type "enumerate") [v]) Q E s := by
  refine callType_new F.called_enumerate (by decide) (F.typeCall_enumerate_1 _) (F.newCall_enumerate_1 _) (fun obj => F.args_object_init_2 obj _) F.entry_enumerate_new
    (lc_enumerate_new1 B) ⟨h1, ?_⟩
  have hz : (s.heap.push o).objs.size = s.heap.objs.size + 1 := Heap.size_push ..
  show _ ∧ _
  rw [hz]
  have he : IsEnum ((s.heap.push o).push { cls := .type "enumerate", data := .fields #[.none, .bool false, .ref s.heap.objs.size, rawInt 0, .none, .none] }) (s.heap.objs.size + 1) s.heap.objs.size 0 .none := by
    have := Heap.get?_push_size (s.heap.push o) (o := { cls := .type "enumerate", data := .fields #[.none, .bool false, .ref s.heap.objs.size, rawInt 0, .none, .none] }) rfl
    rw [hz] at this; exact this
  refine ⟨⟨_, he, rfl⟩, h _ he (Heap.get?_push_of_some _ (Heap.get?_push_size _ B.free)) (by rw [Heap.size_push, hz]) fun b o x => Heap.get?_push_of_some _ (Heap.get?_push_of_some _ x)⟩
theorem lc_enum_endT {e it l : Addr} {i : Nat} {items : Array Value} {old : Value} {Q : Option Value → Shared → Prop} (hh : A.handled = none)
    (he : IsEnum s.heap e it i old) (hit : s.heap.IsTupleIter it l i) (hl : s.heap.IsTuple l items) (hx : items[i]? = none)
    (hQ : ∀ h', Heap.ExtBut it s.heap h' → Q none { s with heap := h' }) : wpAny (model prog w) A (pyNext (.ref e)) Q E s := by
  have hT : s.TypeIs (.ref e) "enumerate" := ⟨_, he, rfl⟩
  unfold pyNext
  refine wpAny_bind (wpAny_attempt (wpAny_callSpecial?_slot (name := Str.ofString "__next__") hT F.slot_enumerate_next
    (wpAny_call_entry F.slot_enumerate_next hT F.entry_enumerate_next ?_ (F.args_enumerate_next_1 _))))
  show wpAny _ _ (field (.ref e) 2 >>= _) _ _ _
  refine wpAny_bind (wpAny_field he rfl (x := .ref it) rfl ?_)
  refine wpAny_bind (wpAny_nextOf_tuple_end hh hit hl hx fun h' x he' hx' => ?_)
  obtain ⟨o, ho, hc⟩ := hx'
  refine wpAny_bind (wpAny_isInstance (T := "StopIteration") (b := true) ⟨o, ho, hc⟩ isSubtype_stop ?_)
  exact wpAny_pure (hQ _ he')
end
end PySem
namespace LC
open PySem PySem.Spec L2
def IteT (K : PySem.W.Frag) (a : Addr) : L2.It :=
  ⟨fun i H => ∃ (xs : List V) (x : V), SqT K H a xs ∧ xs[i]? = some x, fun i H v H' => ∃ T x, v = .ref T ∧ H T = none ∧ H' = upd H T (.tup [.int (i : Nat), x]) ∧ ∀ xs, SqT K H a xs → xs[i]? = some x, fun i H => ∃ xs : List V, SqT K H a xs ∧ xs.length ≤ i⟩
theorem turn_enumT {P : Program} {w : World} {K : PySem.W.Frag} {elts : List Expr} {kk : Nat} {tpos : Pos} (a e it : Addr) :
    Turn P w K (.Tuple elts kk tpos) (IteT K a) [e, it] e (fun i h => (∃ old, IsEnum h e it ((i : Nat) : Int) old) ∧ h.IsTupleIter it a i ∧ e ≠ it) where
  mem := by simp
  obj := fun i h st b hb => by
    obtain ⟨⟨old, he⟩, ⟨o, ho, hc, hd⟩, _⟩ := st
    have e' : b = e ∨ b = it := by simpa using hb
    rcases e' with z | z
    · rw [z]; exact ⟨_, he, fun v q => nomatch q⟩
    · rw [z]; exact ⟨o, ho, fun v q => by rw [hd] at q; cases q⟩
  keep := fun i h h' st k => let ⟨⟨old, he⟩, hi, hne⟩ := st; ⟨⟨old, k e (by simp) _ he⟩, hi.at fun o q => k it (by simp) o q, hne⟩
  item := by
    intro X hP hw hK hc i pins s σ H E I hf st hg
    subst hP hw hK
    obtain ⟨⟨old, he⟩, hit, hne⟩ := st
    obtain ⟨xs, x, hq, hx⟩ := hg
    obtain ⟨its, rv, p, hz⟩ := I.tuple hq
    obtain ⟨u, hu, ru⟩ := rv.get hx
    have hel : e < s.heap.objs.size := Heap.lt_size he
    have hil : it < s.heap.objs.size := by obtain ⟨_, q, _⟩ := hit; exact Heap.lt_size q
    have hai : a ≠ it := by
      rintro rfl
      obtain ⟨o, e1, c1, _⟩ := hit
      obtain ⟨o2, e2, c2, _⟩ := p
      rw [e1] at e2; cases e2; rw [c1] at c2; injection c2 with c3; exact absurd c3 (by decide)
    have hae : a ≠ e := by
      rintro rfl
      obtain ⟨o2, e2, c2, _⟩ := p
      have he' : s.heap.get? a = some _ := he
      rw [he'] at e2; cases e2; injection c2 with c3; exact absurd c3 (by decide)
    have ilt : i < its.toArray.size := by
      have := (List.getElem?_eq_some_iff.mp hu).1
      simpa using this
    refine wpAny_pyNext_enum_itemD (Draws.tuple (A := X.A.in1) (show X.A.in1.handled = none from I.ok.hd hc) it a hai its.toArray) he ⟨hit, p⟩ ilt hne (by simp [hne, Ne.symm hae]) fun x' h' tk hP ho st' hT hsz hk => ?_
    have hxu : x' = u := by
      have : its.toArray[i]? = some u := by simpa using hu
      rw [this] at hP; cases hP; rfl
    subst hxu
    refine ⟨_, rfl, wpAny_letOwnedTupleGo_enum (s := { s with heap := h', toks := tk + 1 }) ho fun h'' he' sb => ?_⟩
    have hT2 : h''.get? s.heap.objs.size = some { cls := .type "tuple", data := .seq #[.int i tk, x'] } := (sb.2 _ (Nat.ne_of_gt hel)).trans hT
    have new : ObjOk X.prog X.w (upd H s.heap.objs.size (.tup [.int (i : Nat), x])) h'' s.heap.objs.size (.tup [.int (i : Nat), x]) :=
      ⟨by show 2 ≤ sizeLine; decide, [.int i tk, x'], .cons ⟨_, rfl⟩ (.cons ru .nil), ⟨_, hT2, rfl, _, rfl⟩⟩
    have I1 : Inv X pins σ (upd H s.heap.objs.size (.tup [.int (i : Nat), x])) { s with heap := h'', toks := tk + 1 } :=
      I.turnedNew (ch := [e, it]) (fun b ob hb q => (sb.2 b (fun z => hb (by simp [z]))).trans (hk b ob (fun z => hb (by simp [z])) (fun z => hb (by simp [z])) q)) hf (Nat.le_refl _) new
    refine ⟨.ref s.heap.objs.size, _, I1, rfl, ⟨_, x, rfl, I.hok.fresh (Nat.le_refl _), rfl, fun ys hy => by rw [I.tuple_inj hy hq]; exact hx⟩, ⟨⟨x', ?_⟩, st'.1.at fun o q => (sb.2 it (Ne.symm hne)).trans q, hne⟩, fun b hb => ?_⟩
    · have e1 : ((i + 1 : Nat) : Int) = (i : Int) + 1 := by omega
      rw [e1]; exact he'
    · have hb' : b < s.heap.objs.size := by
        have e' : b = e ∨ b = it := by simpa using hb
        rcases e' with z | z
        · rw [z]; exact hel
        · rw [z]; exact hil
      rw [upd_ne (Nat.ne_of_lt hb')]
      exact (hf b hb).1
  done := by
    intro X hP hw hK hc i pins s σ H E I hf st hg
    subst hP hw hK
    obtain ⟨⟨old, he⟩, hit, hne⟩ := st
    obtain ⟨xs, hq, hx⟩ := hg
    obtain ⟨its, rv, p, hz⟩ := I.tuple hq
    obtain ⟨f0, f1, f2, f3, f4, f5⟩ := hf it (by simp)
    have hl := rv.length
    exact lc_enum_endT (I.ok.hd hc) he hit p (by simp; omega) fun h' eb => ⟨rfl, I.turned (t' := s.toks) (fun b o hb q => eb b o hb q) f0 f1 f3 f4 f5⟩
  self := fun A i s Q E st h => let ⟨⟨_, he⟩, _⟩ := st; wpAny_pyIter_enum he h
def iEnumA (K : PySem.W.Frag) (ta : TA) : TI := fun σ H R => ta σ H fun vs H1 => ∃ a xs, vs = [.ref a] ∧ ((SqL K H1 a xs ∧ R (Ite K a) H1) ∨ (SqT K H1 a xs ∧ R (IteT K a) H1))
theorem pi_enumA {X : Cx} {e : Expr} {ta : TA} {p pos tpos : Pos} {elts : List Expr} {kk : Nat} (hg : Gl X "enumerate") (hm : X.mg "enumerate" = none) (ha : PA X [e] ta) (hs : starEach [e] X.env = [(false, eval e X.env)] := by rfl) :
    PI X (.Tuple elts kk tpos) (.Call (.Name "enumerate" p) [e] [] pos) (iEnumA X.K ta) := by
  refine ⟨fun pins s σ H R I h => ?_⟩
  refine PyProof.Rows.Call_ (ld_blt I hg hm PyProof.Rows.boot_enumerate (PyProof.Rows.callWith_type1 (thn (ha.run pos pins s σ H _ I h) fun us s1 ⟨vs, H1, I1, r1, q1⟩ => ?_) hs rfl))
  obtain ⟨a, xs, ex, q⟩ := q1
  subst ex
  have fin : ∀ b : Addr, b ∈ [s1.heap.objs.size + 1, s1.heap.objs.size] → FpOk X pins H1 b := fun b hb => by
    have e' : b = s1.heap.objs.size + 1 ∨ b = s1.heap.objs.size := by simpa using hb
    have hle : s1.heap.objs.size ≤ b := by
      rcases e' with z | z
      · rw [z]; exact Nat.le_add_right _ _
      · rw [z]; exact Nat.le_refl _
    exact I1.fpOk hle (I1.hok.fresh hle)
  cases r1 with
  | cons r rr =>
    cases rr
    cases r
    rcases q with ⟨hq, q⟩ | ⟨hq, q⟩
    · obtain ⟨its, rv, p', hz⟩ := I1.list hq
      refine call_enumerate_list p'.isList fun h' he hit hsz hk => wpAny_pyIter_enum he ?_
      have I2 : Inv X pins σ H1 { s1 with heap := h' } := I1.kept (t' := s1.toks) hk
      exact ⟨s1.heap.objs.size + 1, [s1.heap.objs.size + 1, s1.heap.objs.size], _, _, H1, rfl, I2, turn_enum a (s1.heap.objs.size + 1) s1.heap.objs.size, ⟨⟨.none, he⟩, hit, Nat.succ_ne_self _⟩, fin, q⟩
    · obtain ⟨its, rv, p', hz⟩ := I1.tuple hq
      refine lc_enum_begins (begins_tuple a its.toArray) p' fun h' he hit hsz hk => wpAny_pyIter_enum he ?_
      have I2 : Inv X pins σ H1 { s1 with heap := h' } := I1.kept (t' := s1.toks) hk
      exact ⟨s1.heap.objs.size + 1, [s1.heap.objs.size + 1, s1.heap.objs.size], _, _, H1, rfl, I2, turn_enumT a (s1.heap.objs.size + 1) s1.heap.objs.size, ⟨⟨.none, he⟩, ⟨_, hit, rfl, rfl⟩, Nat.succ_ne_self _⟩, fin, q⟩
theorem walk_enumT {K : PySem.W.Frag} {a : Addr} {xs : List V} : Walk (IteT K a) xs.length (fun H => SqT K H a xs) (YPair (fun i => some (.int (i : Nat))) (fun i => xs[i]?)) where
  goes := fun i H hi hG => ⟨xs, xs[i], hG, by simp [hi]⟩
  stops := fun H hG => ⟨xs, hG, Nat.le_refl _⟩
  yields := fun i H x H' hi hG hy => by
    obtain ⟨T, z, rfl, hT, rfl, hx⟩ := hy
    exact ⟨T, _, z, rfl, hT, rfl, rfl, hx xs hG⟩
theorem walk_zipT {K : PySem.W.Frag} {a b : Addr} {xs ys : List V} {n : Nat} (hn : n = min xs.length ys.length) : Walk (RZ.ItzT K a b) n (fun H => SqT K H a xs ∧ SqT K H b ys) (YPair (fun i => xs[i]?) (fun i => ys[i]?)) := by
  subst hn
  refine ⟨fun i _ hi q => ?_, fun _ q => ⟨xs, ys, q.1, q.2, by omega⟩, fun i H v H' _ q y => ?_⟩
  · have h1 : i < xs.length := by omega
    have h2 : i < ys.length := by omega
    exact ⟨xs, ys, xs[i], ys[i], q.1, q.2, by simp [h1], by simp [h2]⟩
  · obtain ⟨T, x, z, h1, h2, h3, h4, h5⟩ := y
    exact ⟨T, x, z, h1, h2, h3, h4 xs q.1, h5 ys q.2⟩
end LC
end

section
set_option Elab.async false
set_option linter.all false
set_option maxRecDepth 100000
set_option maxHeartbeats 1000000
namespace LC
open PySem PySem.Spec L2
/-! ### equality of values, by program -/
mutual
def pvEq : PV → PV → Bool
  | .none, w => (match w with | .none => true | _ => false)
  | .bool a, w => (match w with | .bool b => a == b | _ => false)
  | .int a, w => (match w with | .int b => decide (a = b) | _ => false)
  | .str a, w => (match w with | .str b => decide (a = b) | _ => false)
  | .tup xs, w => (match w with | .tup ys => pvEqs xs ys | _ => false)
  | .lst _ _, _ => false
  | .dic _ _ _, _ => false
  | .exc _ _, _ => false
  | .scr _, _ => false
def pvEqs : List PV → List PV → Bool
  | [], ys => (match ys with | [] => true | _ => false)
  | x :: xs, ys => (match ys with | y :: ys' => pvEq x y && pvEqs xs ys' | [] => false)
end
mutual
theorem pvEq_ok : ∀ p q : PV, pvEq p q = true → p = q ∧ lf p = true
  | .none, q, h => by cases q <;> simp_all [pvEq, lf]
  | .bool a, q, h => by cases q <;> simp_all [pvEq, lf]
  | .int a, q, h => by cases q <;> simp_all [pvEq, lf]
  | .str a, q, h => by cases q <;> simp_all [pvEq, lf]
  | .tup xs, q, h => by
    cases q with
    | tup ys =>
      simp only [pvEq] at h
      obtain ⟨e, l⟩ := pvEqs_ok xs ys h
      exact ⟨by rw [e], by simp only [lf]; exact l⟩
    | _ => simp [pvEq] at h
  | .lst _ _, q, h => by simp [pvEq] at h
  | .dic _ _ _, q, h => by simp [pvEq] at h
  | .exc _ _, q, h => by simp [pvEq] at h
  | .scr _, q, h => by simp [pvEq] at h
theorem pvEqs_ok : ∀ ps qs : List PV, pvEqs ps qs = true → ps = qs ∧ lfs ps = true
  | [], [], _ => ⟨rfl, rfl⟩
  | [], _ :: _, h => by simp [pvEqs] at h
  | _ :: _, [], h => by simp [pvEqs] at h
  | p :: ps, q :: qs, h => by
    simp only [pvEqs, Bool.and_eq_true] at h
    obtain ⟨e1, l1⟩ := pvEq_ok p q h.1
    obtain ⟨e2, l2⟩ := pvEqs_ok ps qs h.2
    exact ⟨by rw [e1, e2], by simp only [lfs, l1, l2, Bool.and_self]⟩
end
/-! ### what a def is known by -/
/-- arguments: none owned, but the first one of an in-out def -/
def ArgOk (io : Bool) (ps : List PV) (Fa : List Addr) : Prop := if io = true then ∃ a ns rest, ps = .lst true ns :: rest ∧ lfs ns = true ∧ Fa = [a] else Fa = []
def spF (K : PySem.W.Frag) (XR : XRT) (cf : CF) (f : Str) (io : Bool) (k : Nat) : Sp := fun vs H Q E => ∃ (G : Hp) (ps : List PV) (Fa : List Addr), Same G H ∧ Rps K G H vs ps Fa ∧ ArgOk io ps Fa ∧ vs.length = k ∧
  match cf f ps with
  | .ok p iov => ∀ v G' H' Fv, Ext Fa G H G' H' → Same G' H' → Rps K G' H' [v] [p] Fv → (∀ a ∈ Fv, H a = none) → (io = true → ∃ a ms, vs.head? = some (.ref a) ∧ iov = .lst true ms ∧ lfs ms = true ∧ Fa = [a] ∧ Rps K G' H' [.ref a] [.lst true ms] [a]) → Q v H'
  | .exn c fs => ∀ cls d G' H', Ext Fa G H G' H' → Same G' H' → XR c fs cls d H' → E cls d H'
  | .bad => False
/-- names that must be the built-in ones -/
def bnames : List Str := ["len", "abs", "max", "min", "int", "str", "sum", "all", "any", "tuple", "list", "divmod", "isinstance", "bool", "dict", "range", "zip", "enumerate"]
structure CK where
  N : List Str
  gl : List (Str × PV)
  fs : List (Str × Bool)
structure XOk (c : CK) (XR : XRT) (E : XK) (cf : CF) (X : Cx) : Prop where
  hN : X.N = c.N
  nd : X.N.Nodup
  calm : X.calm = true
  units : X.A.units + 65 < cLine
  blt : ∀ b ∈ bnames, X.mg b = none
  glob : ∀ q ∈ c.gl, ∃ v u, X.mg q.1 = some u ∧ RelV v u ∧ ∀ G H, Same G H → Rps X.K G H [v] [q.2] []
  fn : ∀ q ∈ c.fs, ∃ k fa fd ps n, X.mg q.1 = some (.ref fa) ∧ PySem.W.keepIn X.K (.ref fa) = true ∧ Binds X.K fd ps [] ∧ FnOk X.prog X.w X.K X.mg X.base (L2.CX X.prog X.w) n fa fd ps (spF X.K XR cf q.1 q.2 k) ∧ Room n X.A ∧
    ∀ as, cf q.1 as ≠ .bad → as.length = k
  pass : Passes (L2.CX X.prog X.w) X E
/-! ### the look at the text -/
def isVis (sc : Scope) (x : Str) : Bool := match sc.names.lookup x with
  | some .local => true
  | some .cell => true
  | some .free => true
  | _ => false
def isGl (sc : Scope) (x : Str) : Bool := match sc.names.lookup x with
  | some .globalImplicit => true
  | _ => false
def okName (x : Str) : Bool := !(x == ("__debug__" : Str)) && !(x == ("__classdict__" : Str)) && !(x == ("__name__" : Str))
def notStar : Expr → Bool
  | .Starred _ _ => false
  | _ => true
def notSlice : Expr → Bool
  | .Slice _ _ _ _ => false
  | _ => true
def notSet : Expr → Bool
  | .Set _ _ _ => false
  | _ => true
def bopOk : Bop → Operator → Bool
  | .add, .Add => true
  | .sub, .Sub => true
  | .mul, .Mult => true
  | .fdiv, .FloorDiv => true
  | .mod, .Mod => true
  | .pow, .Pow => true
  | _, _ => false
def copOk : Cop → CmpOp → Bool
  | .eq, .Eq => true
  | .ne, .NotEq => true
  | .lt, .Lt => true
  | .le, .LtE => true
  | .gt, .Gt => true
  | .ge, .GtE => true
  | .inn, .In => true
  | .nin, .NotIn => true
  | _, _ => false
section
variable {c : CK} {XR : XRT} {E : XK} {cf : CF} {X : Cx}
def SE (XR : XRT) (E : XK) (cf : CF) (X : Cx) (a : Ex) (e : Expr) : Prop := ∃ t, PE X e t ∧ GE X.K XR E cf t a
def SEs (XR : XRT) (E : XK) (cf : CF) (X : Cx) (a : Exs) (es : List Expr) : Prop := ∃ t, PA X es t ∧ GEs X.K XR E cf t a
theorem bin_all (o : Bop) (op : Operator) (h : bopOk o op = true) : BinS X o op := by
  cases o <;> cases op <;> first | (exact absurd h (by decide)) | exact bin_add | exact bin_sub | exact bin_mul | exact bin_fdiv | exact bin_mod | exact bin_pow
theorem cmp_all (hu : X.A.units + 65 < cLine) (o : Cop) (op : CmpOp) (h : copOk o op = true) : CmpS X o op := by
  cases o <;> cases op <;> first | (exact absurd h (by decide)) | exact cmp_eq (by omega) | exact cmp_ne (by omega) | exact cmp_lt | exact cmp_le | exact cmp_gt | exact cmp_ge | exact cmp_in hu | exact cmp_nin hu
theorem se_bin {o : Bop} {op : Operator} {a b : Ex} {x y : Expr} {pos : Pos} (h : bopOk o op = true) (ha : SE XR E cf X a x) (hb : SE XR E cf X b y) : SE XR E cf X (.bin o a b) (.BinOp x op y pos) := by
  obtain ⟨ta, pa, ga⟩ := ha
  obtain ⟨tb, pb, gb⟩ := hb
  obtain ⟨r, ro, rs⟩ := bin_all (X := X) o op h
  refine ⟨_, pe_op ro pa pb, fun σ ρ F G H Q st q => ?_⟩
  refine two ga gb st (f := fun x y ρ2 => Res.of (binV o x y) ρ2) q fun px py ρ2 z x y G2 H2 F2 Fx Fy e2 st2 s2 rx ry dx dy => ?_
  obtain ⟨p, ep, m⟩ := made (Fs := Fx ++ Fy) z e2 st2 s2 fun a ha => by
    rcases List.mem_append.mp ha with ha | ha
    · exact (dx a ha).2
    · exact dy a ha
  exact rs G2 H2 x y px py p Fx Fy Q st2.gh rx ry (fun a ha => (dx a ha).1) ep m
theorem se_cmp {o : Cop} {op : CmpOp} {a b : Ex} {x y : Expr} {pos : Pos} (hu : X.A.units + 65 < cLine) (h : copOk o op = true) (hm : behindInMarks op y = false) (ha : SE XR E cf X a x) (hb : SE XR E cf X b y) : SE XR E cf X (.cmp o a b) (.Compare x [op] [y] pos) := by
  obtain ⟨ta, pa, ga⟩ := ha
  obtain ⟨tb, pb, gb⟩ := hb
  obtain ⟨r, ro, rs⟩ := cmp_all (X := X) hu o op h
  refine ⟨_, pe_cmpR ro pa pb hm, fun σ ρ F G H Q st q => ?_⟩
  refine two ga gb st (f := fun x y ρ2 => Res.of ((cmpV o x y).map .bool) ρ2) q fun px py ρ2 z x y G2 H2 F2 Fx Fy e2 st2 s2 rx ry dx dy => ?_
  obtain ⟨p, ep, m⟩ := made (Fs := Fx ++ Fy) z e2 st2 s2 fun a ha => by
    rcases List.mem_append.mp ha with ha | ha
    · exact (dx a ha).2
    · exact dy a ha
  cases hc : cmpV o px py with
  | none => rw [hc] at ep; cases ep
  | some b =>
    rw [hc] at ep
    cases ep
    exact rs G2 H2 x y px py b Fx Fy Q st2.gh rx ry hc (made_bool m st2.gh)
end
end LC
end

section
set_option Elab.async false
set_option linter.all false
set_option maxRecDepth 100000
set_option maxHeartbeats 1000000
namespace LC
open PySem PySem.Spec L2
section
variable {c : CK} {XR : XRT} {E : XK} {cf : CF} {X : Cx}
theorem se_var {i : Nat} {x : Str} {pos : Pos} (hN : X.N[i]? = some x) (hv : Vis X.env.scope x) (hd : (x == ("__debug__" : Str)) = false) (hcd : (x == ("__classdict__" : Str)) = false) : SE XR E cf X (.var i) (.Name x pos) := by
  refine ⟨_, pe_var hN hv hd hcd, fun σ ρ F G H Q st q => ?_⟩
  simp only [evE] at q
  cases h : getS ρ i with
  | none => rw [h] at q; exact q.elim
  | some p =>
    rw [h] at q
    simp only at q
    split at q
    · rename_i hc
      obtain ⟨v, F1, e1, r1, m1⟩ := st.so.get h
      have f0 : F1 = [] := r1.cl (by simp [cls, hc])
      subst f0
      exact ⟨v, e1, q v G H F [] Ext.refl st (fun _ h => h) r1 (by simp)⟩
    · exact q.elim
theorem se_mv {i : Nat} {x : Str} {pos : Pos} (hN : X.N[i]? = some x) (hv : Vis X.env.scope x) (hd : (x == ("__debug__" : Str)) = false) (hcd : (x == ("__classdict__" : Str)) = false) : SE XR E cf X (.mv i) (.Name x pos) := by
  refine ⟨_, pe_var hN hv hd hcd, fun σ ρ F G H Q st q => ?_⟩
  simp only [evE] at q
  cases h : getS ρ i with
  | none => rw [h] at q; exact q.elim
  | some p =>
    rw [h] at q
    simp only at q
    obtain ⟨v, F1, F2, e1, r1, so2, d1, m1⟩ := st.so.out h
    split at q
    · rename_i hc
      have f0 : F1 = [] := r1.lf (by simp [lfs, hc])
      subst f0
      exact ⟨v, e1, q v G H F [] Ext.refl st (fun _ h => h) r1 (by simp)⟩
    · exact ⟨v, e1, q v G H F2 F1 Ext.refl ⟨st.gh, so2⟩ (fun a ha => (m1 a).mpr (.inr ha)) r1 fun a ha => ⟨d1 a ha, .inl ((m1 a).mpr (.inl ha))⟩⟩
theorem ge_const {v : V} {p : PV} {a : Ex} (h : ∀ ρ, evE cf a ρ = .ok p ρ) (r : ∀ G H, Same G H → Rps X.K G H [v] [p] []) : GE X.K XR E cf (tC v) a := fun σ ρ F G H Q st q => by
  rw [h] at q
  exact q v G H F [] Ext.refl st (fun _ h => h) (r G H st.gh) (by simp)
theorem se_int {i : Int} {j : Nat} {pos : Pos} : SE XR E cf X (.cint i) (.Constant (.int i) j pos) := ⟨_, pe_int, ge_const (fun _ => by simp only [evE]) fun _ _ _ => .int .nil⟩
theorem se_bool {i : Bool} {j : Nat} {pos : Pos} : SE XR E cf X (.cbool i) (.Constant (.bool i) j pos) := ⟨_, pe_bl, ge_const (fun _ => by simp only [evE]) fun _ _ _ => .bool .nil⟩
theorem se_none {j : Nat} {pos : Pos} : SE XR E cf X .cnone (.Constant .none j pos) := ⟨_, pe_non, ge_const (fun _ => by simp only [evE]) fun _ _ _ => .none .nil⟩
theorem se_str {i : Str} {j : Nat} {pos : Pos} : SE XR E cf X (.cstr i) (.Constant (.str i) j pos) := ⟨_, pe_str, ge_const (fun _ => by simp only [evE]) fun _ _ _ => .str .nil⟩
theorem se_glob {x : Str} {p : PV} {pos : Pos} (k : XOk c XR E cf X) (hg : Gl X x) (hm : (x, p) ∈ c.gl) (hd : (x == ("__debug__" : Str)) = false) : SE XR E cf X (.glob x p) (.Name x pos) := by
  obtain ⟨v, u, e1, e2, e3⟩ := k.glob _ hm
  exact ⟨_, pe_glob hg e1 e2 hd, ge_const (fun _ => by simp only [evE]) e3⟩
/-- the end of an expression by the value at hand -/
theorem okSame {σ : Sl} {ρ1 : Env} {F F1 Fv : List Addr} {G H G1 H1 : Hp} {v : V} {p : PV} {Q : VK} (q : OKR X.K XR σ F G H (.ok p ρ1) Q E) (e : Ext F G H G1 H1) (st : RS X.K G1 H1 σ ρ1 F1) (s : ∀ a ∈ F1, a ∈ F) (r : Rps X.K G1 H1 [v] [p] Fv) (d : ∀ a ∈ Fv, a ∉ F1 ∧ (a ∈ F ∨ H a = none)) : Q v H1 :=
  q v G1 H1 F1 Fv e st s r d
theorem se_neg {a : Ex} {x : Expr} {pos : Pos} (ha : SE XR E cf X a x) : SE XR E cf X (.neg a) (.UnaryOp .USub x pos) := by
  obtain ⟨ta, pa, ga⟩ := ha
  refine ⟨_, pe_un un_neg pa, fun σ ρ F G H Q st q => ?_⟩
  simp only [evE] at q
  refine one ga st (Z := fun r => OKR X.K XR σ F G H (r.bind fun x ρ1 => (match x with | .int i => .ok (.int (-i)) ρ1 | _ => .bad)) Q E) q ?_ (fun _ _ _ z => z) (fun z => z)
  intro p ρ1 z v G1 H1 F1 Fv e1 st1 s1 r1 d1
  simp only [Res.bind_ok] at z
  split at z
  · obtain ⟨rfl, _⟩ := r1.inv_int
    exact ⟨_, rfl, z _ G1 H1 F1 [] e1 st1 s1 (.int .nil) (by simp)⟩
  · exact z.elim
theorem se_not {a : Ex} {x : Expr} {pos : Pos} (ha : SE XR E cf X a x) : SE XR E cf X (.not a) (.UnaryOp .Not x pos) := by
  obtain ⟨ta, pa, ga⟩ := ha
  refine ⟨_, pe_notT pa, fun σ ρ F G H Q st q => ?_⟩
  simp only [evE] at q
  refine one ga st (Z := fun r => OKR X.K XR σ F G H (r.bind fun x ρ1 => Res.of ((truV x).map fun b => .bool (!b)) ρ1) Q E) q ?_ (fun _ _ _ z => z) (fun z => z)
  intro p ρ1 z v G1 H1 F1 Fv e1 st1 s1 r1 d1
  simp only [Res.bind_ok] at z
  cases h : truV p with
  | none => rw [h] at z; exact z.elim
  | some b =>
    rw [h] at z
    exact ⟨b, tru_V r1 st1.gh h, z _ G1 H1 F1 [] e1 st1 s1 (.bool .nil) (by simp)⟩
theorem later {σ : Sl} {ρ1 : Env} {F F1 : List Addr} {G H G1 H1 : Hp} {Q : VK} {r : Res PV} (e1 : Ext F G H G1 H1) (s1 : ∀ a ∈ F1, a ∈ F) (q : OKR X.K XR σ F G H r Q E) : OKR X.K XR σ F1 G1 H1 r Q E := by
  cases r with
  | ok p ρ2 => exact fun v G2 H2 F2 Fv e2 st2 s2 r2 d2 => q v G2 H2 F2 Fv (e1.trans e2 fun a ha => .inl (s1 a ha)) st2 (fun a ha => s1 a (s2 a ha)) r2 fun a ha => ⟨(d2 a ha).1, by
      rcases (d2 a ha).2 with y | y
      · exact .inl (s1 a y)
      · exact .inr (e1.none y)⟩
  | exn cc fs ρ2 => exact fun cls d G2 H2 F2 e2 st2 s2 x2 => q cls d G2 H2 F2 (e1.trans e2 fun a ha => .inl (s1 a ha)) st2 (fun a ha => s1 a (s2 a ha)) x2
  | bad => exact q
theorem laterS {σ : Sl} {ρ1 : Env} {F F1 : List Addr} {G H G1 H1 : Hp} {α : Type} {tol : α → List PV} {Q : List V → Hp → Prop} {r : Res α} (e1 : Ext F G H G1 H1) (s1 : ∀ a ∈ F1, a ∈ F) (q : OKs X.K XR σ F G H tol r Q E) : OKs X.K XR σ F1 G1 H1 tol r Q E := by
  cases r with
  | ok p ρ2 => exact fun v G2 H2 F2 Fv e2 st2 s2 r2 d2 => q v G2 H2 F2 Fv (e1.trans e2 fun a ha => .inl (s1 a ha)) st2 (fun a ha => s1 a (s2 a ha)) r2 fun a ha => ⟨(d2 a ha).1, by
      rcases (d2 a ha).2 with y | y
      · exact .inl (s1 a y)
      · exact .inr (e1.none y)⟩
  | exn cc fs ρ2 => exact fun cls d G2 H2 F2 e2 st2 s2 x2 => q cls d G2 H2 F2 (e1.trans e2 fun a ha => .inl (s1 a ha)) st2 (fun a ha => s1 a (s2 a ha)) x2
  | bad => exact q
theorem laterT {σ : Sl} {ρ1 : Env} {F F1 : List Addr} {G H G1 H1 : Hp} {Q : Bool → Hp → Prop} {r : Res Bool} (e1 : Ext F G H G1 H1) (s1 : ∀ a ∈ F1, a ∈ F) (q : OKt X.K XR σ F G H r Q E) : OKt X.K XR σ F1 G1 H1 r Q E := by
  cases r with
  | ok p ρ2 => exact fun G2 H2 F2 e2 st2 s2 => q G2 H2 F2 (e1.trans e2 fun a ha => .inl (s1 a ha)) st2 (fun a ha => s1 a (s2 a ha))
  | exn cc fs ρ2 => exact fun cls d G2 H2 F2 e2 st2 s2 x2 => q cls d G2 H2 F2 (e1.trans e2 fun a ha => .inl (s1 a ha)) st2 (fun a ha => s1 a (s2 a ha)) x2
  | bad => exact q
theorem se_and {a b : Ex} {x y : Expr} {rest : List Expr} {pos : Pos} (ha : SE XR E cf X a x) (hb : SE XR E cf X b (.BoolOp .And (y :: rest) pos)) : SE XR E cf X (.and a b) (.BoolOp .And (x :: y :: rest) pos) := by
  obtain ⟨ta, pa, ga⟩ := ha
  obtain ⟨tb, pb, gb⟩ := hb
  refine ⟨_, pe_andT pa pb, fun σ ρ F G H Q st q => ?_⟩
  simp only [evE] at q
  refine one ga st (Z := fun r => OKR X.K XR σ F G H (r.bind fun x ρ1 => (match truV x with | some true => evE cf b ρ1 | some false => .ok x ρ1 | none => .bad)) Q E) q ?_ (fun _ _ _ z => z) (fun z => z)
  intro p ρ1 z v G1 H1 F1 Fv e1 st1 s1 r1 d1
  simp only [Res.bind_ok] at z
  cases h : truV p with
  | none => rw [h] at z; exact z.elim
  | some k =>
    rw [h] at z
    refine ⟨k, tru_V r1 st1.gh h, ?_⟩
    cases k with
    | true => exact iteT (gb σ ρ1 F1 G1 H1 Q st1 (later (ρ1 := ρ1) e1 s1 z))
    | false => exact iteF (okSame z e1 st1 s1 r1 d1)
theorem se_or {a b : Ex} {x y : Expr} {rest : List Expr} {pos : Pos} (ha : SE XR E cf X a x) (hb : SE XR E cf X b (.BoolOp .Or (y :: rest) pos)) : SE XR E cf X (.or a b) (.BoolOp .Or (x :: y :: rest) pos) := by
  obtain ⟨ta, pa, ga⟩ := ha
  obtain ⟨tb, pb, gb⟩ := hb
  refine ⟨_, pe_orT pa pb, fun σ ρ F G H Q st q => ?_⟩
  simp only [evE] at q
  refine one ga st (Z := fun r => OKR X.K XR σ F G H (r.bind fun x ρ1 => (match truV x with | some true => .ok x ρ1 | some false => evE cf b ρ1 | none => .bad)) Q E) q ?_ (fun _ _ _ z => z) (fun z => z)
  intro p ρ1 z v G1 H1 F1 Fv e1 st1 s1 r1 d1
  simp only [Res.bind_ok] at z
  cases h : truV p with
  | none => rw [h] at z; exact z.elim
  | some k =>
    rw [h] at z
    refine ⟨k, tru_V r1 st1.gh h, ?_⟩
    cases k with
    | true => exact iteT (okSame z e1 st1 s1 r1 d1)
    | false => exact iteF (gb σ ρ1 F1 G1 H1 Q st1 (later (ρ1 := ρ1) e1 s1 z))
theorem se_one {a : Ex} {x : Expr} {op : BoolOp} {pos : Pos} (ha : SE XR E cf X a x) : SE XR E cf X (.one a) (.BoolOp op [x] pos) := by
  obtain ⟨ta, pa, ga⟩ := ha
  exact ⟨_, pe_one pa, fun σ ρ F G H Q st q => ga σ ρ F G H Q st (by simpa only [evE] using q)⟩
theorem se_isN {a : Ex} {x : Expr} {j : Nat} {pos' pos : Pos} (ha : SE XR E cf X a x) : SE XR E cf X (.isN a) (.Compare x [.Is] [.Constant .none j pos'] pos) := by
  obtain ⟨ta, pa, ga⟩ := ha
  refine ⟨_, pe_cmp (pc_isN pa), fun σ ρ F G H Q st q => ?_⟩
  simp only [evE] at q
  refine one ga st (Z := fun r => OKR X.K XR σ F G H (r.bind fun x ρ1 => .ok (.bool (isNoneV x)) ρ1) Q E) q ?_ (fun _ _ _ z => z) (fun z => z)
  intro p ρ1 z v G1 H1 F1 Fv e1 st1 s1 r1 d1
  simp only [Res.bind_ok] at z
  have e : isNoneV p = decide (v = V.non) := by cases r1 <;> rfl
  rw [e] at z
  exact z _ G1 H1 F1 [] e1 st1 s1 (.bool .nil) (by simp)
theorem se_notN {a : Ex} {x : Expr} {j : Nat} {pos' pos : Pos} (ha : SE XR E cf X a x) : SE XR E cf X (.notN a) (.Compare x [.IsNot] [.Constant .none j pos'] pos) := by
  obtain ⟨ta, pa, ga⟩ := ha
  refine ⟨_, pe_cmp (pc_notN pa), fun σ ρ F G H Q st q => ?_⟩
  simp only [evE] at q
  refine one ga st (Z := fun r => OKR X.K XR σ F G H (r.bind fun x ρ1 => .ok (.bool (!isNoneV x)) ρ1) Q E) q ?_ (fun _ _ _ z => z) (fun z => z)
  intro p ρ1 z v G1 H1 F1 Fv e1 st1 s1 r1 d1
  simp only [Res.bind_ok] at z
  have e : (!isNoneV p) = !decide (v = V.non) := by cases r1 <;> rfl
  rw [e] at z
  exact z _ G1 H1 F1 [] e1 st1 s1 (.bool .nil) (by simp)
theorem se_sub {a b : Ex} {x y : Expr} {pos : Pos} (hs : notSlice y = true) (ha : SE XR E cf X a x) (hb : SE XR E cf X b y) : SE XR E cf X (.sub a b) (.Subscript x y pos) := by
  obtain ⟨ta, pa, ga⟩ := ha
  obtain ⟨tb, pb, gb⟩ := hb
  refine ⟨_, pe_ix ix_seq pa pb (by intro o i; cases y <;> first | rfl | (simp [notSlice] at hs)), fun σ ρ F G H Q st q => ?_⟩
  simp only [evE] at q
  refine two ga gb st (f := fun x y ρ2 => Res.of (subV x y) ρ2) q fun px py ρ2 z x y G2 H2 F2 Fx Fy e2 st2 s2 rx ry dx dy => ?_
  obtain ⟨p, ep, m⟩ := made (Fs := Fx ++ Fy) z e2 st2 s2 fun a ha => by
    rcases List.mem_append.mp ha with ha | ha
    · exact (dx a ha).2
    · exact dy a ha
  exact sub_ok st2.gh rx ry ep m
/-! tests -/
def ST (XR : XRT) (E : XK) (cf : CF) (X : Cx) (a : Ex) (e : Expr) : Prop := ∃ t, PT X e t ∧ GT X.K XR E cf t a
def SW (XR : XRT) (E : XK) (cf : CF) (X : Cx) (a : Ex) (e : Expr) : Prop := ∃ t, PW X e t ∧ GT X.K XR E cf t a
theorem SW.st {a : Ex} {e : Expr} (h : SW XR E cf X a e) : ST XR E cf X a e := by
  obtain ⟨t, p, g⟩ := h
  exact ⟨t, p.pt, g⟩
def plainT : Expr → Bool
  | .UnaryOp .Not _ _ => false
  | .BoolOp _ _ _ => false
  | .IfExp _ _ _ _ => false
  | .Compare _ _ _ _ => false
  | _ => true
theorem st_plain {a : Ex} {e : Expr} (hp : plainT e = true) (h : SE XR E cf X a e) : ST XR E cf X a e := by
  obtain ⟨t, p, g⟩ := h
  refine ⟨_, pt_truth p ?_, fun σ ρ F G H Q st q => ?_⟩
  · intro w
    cases e with
    | UnaryOp op x pos => cases op <;> first | rfl | (simp [plainT] at hp)
    | BoolOp _ _ _ => exact absurd hp (by simp [plainT])
    | IfExp _ _ _ _ => exact absurd hp (by simp [plainT])
    | Compare _ _ _ _ => exact absurd hp (by simp [plainT])
    | _ => rfl
  · refine one g st (Z := fun r => OKt X.K XR σ F G H (r.bind fun v ρ1 => Res.of (truV v) ρ1) Q E) q ?_ (fun _ _ _ z => z) (fun z => z)
    intro p ρ1 z v G1 H1 F1 Fv e1 st1 s1 r1 d1
    simp only [Res.bind_ok] at z
    cases h : truV p with
    | none => rw [h] at z; exact z.elim
    | some k => rw [h] at z; exact ⟨k, tru_V r1 st1.gh h, z G1 H1 F1 e1 st1 s1⟩
/-- a test, then what follows -/
theorem oneT {ta : TT} {a : Ex} {σ : Sl} {ρ : Env} {F : List Addr} {G H : Hp} (ga : GT X.K XR E cf ta a) (rs : RS X.K G H σ ρ F) {R : Bool → Hp → Prop} {Z : Res Bool → Prop} (hz : Z ((evE cf a ρ).bind fun v ρ1 => Res.of (truV v) ρ1))
    (hok : ∀ p ρ1, Z (.ok p ρ1) → ∀ G1 H1 F1, Ext F G H G1 H1 → RS X.K G1 H1 σ ρ1 F1 → (∀ a ∈ F1, a ∈ F) → R p H1)
    (hex : ∀ c fs ρ1, Z (.exn c fs ρ1) → ∀ cls d G' H' F', Ext F G H G' H' → RS X.K G' H' σ ρ1 F' → (∀ a ∈ F', a ∈ F) → XR c fs cls d H' → E cls d H')
    (hbad : Z .bad → False) : ta σ H R := by
  refine ga σ ρ F G H R rs ?_
  unfold OKt
  cases e : (evE cf a ρ).bind fun v ρ1 => Res.of (truV v) ρ1 with
  | ok p ρ1 => rw [e] at hz; exact hok p ρ1 hz
  | exn c fs ρ1 => rw [e] at hz; exact hex c fs ρ1 hz
  | bad => rw [e] at hz; exact hbad hz
theorem truth_and (a b : Ex) (ρ : Env) : ((evE cf (.and a b) ρ).bind fun v ρ1 => Res.of (truV v) ρ1) = (((evE cf a ρ).bind fun v ρ1 => Res.of (truV v) ρ1).bind fun k ρ1 => if k = true then (evE cf b ρ1).bind fun v ρ2 => Res.of (truV v) ρ2 else .ok false ρ1) := by
  simp only [evE]
  cases evE cf a ρ with
  | ok p ρ1 =>
    simp only [Res.bind_ok]
    cases h : truV p with
    | none => simp
    | some k => cases k <;> simp [h]
  | exn _ _ _ => rfl
  | bad => rfl
theorem truth_or (a b : Ex) (ρ : Env) : ((evE cf (.or a b) ρ).bind fun v ρ1 => Res.of (truV v) ρ1) = (((evE cf a ρ).bind fun v ρ1 => Res.of (truV v) ρ1).bind fun k ρ1 => if k = true then .ok true ρ1 else (evE cf b ρ1).bind fun v ρ2 => Res.of (truV v) ρ2) := by
  simp only [evE]
  cases evE cf a ρ with
  | ok p ρ1 =>
    simp only [Res.bind_ok]
    cases h : truV p with
    | none => simp
    | some k => cases k <;> simp [h]
  | exn _ _ _ => rfl
  | bad => rfl
theorem truth_not (a : Ex) (ρ : Env) : ((evE cf (.not a) ρ).bind fun v ρ1 => Res.of (truV v) ρ1) = (((evE cf a ρ).bind fun v ρ1 => Res.of (truV v) ρ1).bind fun k ρ1 => .ok (!k) ρ1) := by
  simp only [evE]
  cases evE cf a ρ with
  | ok p ρ1 =>
    simp only [Res.bind_ok]
    cases h : truV p with
    | none => simp
    | some k => simp [truV]
  | exn _ _ _ => rfl
  | bad => rfl
theorem st_not {a : Ex} {x : Expr} {pos : Pos} (ha : ST XR E cf X a x) : ST XR E cf X (.not a) (.UnaryOp .Not x pos) := by
  obtain ⟨ta, pa, ga⟩ := ha
  refine ⟨_, pt_not pa, fun σ ρ F G H Q st q => ?_⟩
  rw [truth_not] at q
  refine oneT ga st (Z := fun r => OKt X.K XR σ F G H (r.bind fun k ρ1 => .ok (!k) ρ1) Q E) q ?_ (fun _ _ _ z => z) (fun z => z)
  intro k ρ1 z G1 H1 F1 e1 st1 s1
  exact z G1 H1 F1 e1 st1 s1
theorem sw_and1 {a : Ex} {x : Expr} {pos : Pos} (ha : ST XR E cf X a x) : SW XR E cf X (.one a) (.BoolOp .And [x] pos) := by
  obtain ⟨ta, pa, ga⟩ := ha
  exact ⟨_, pw_and1 pa, fun σ ρ F G H Q st q => ga σ ρ F G H Q st (by simpa only [evE] using q)⟩
theorem sw_or1 {a : Ex} {x : Expr} {pos : Pos} (ha : ST XR E cf X a x) : SW XR E cf X (.one a) (.BoolOp .Or [x] pos) := by
  obtain ⟨ta, pa, ga⟩ := ha
  exact ⟨_, pw_or1 pa, fun σ ρ F G H Q st q => ga σ ρ F G H Q st (by simpa only [evE] using q)⟩
theorem sw_and {a b : Ex} {x y : Expr} {rest : List Expr} {pos : Pos} (ha : ST XR E cf X a x) (hb : SW XR E cf X b (.BoolOp .And (y :: rest) pos)) : SW XR E cf X (.and a b) (.BoolOp .And (x :: y :: rest) pos) := by
  obtain ⟨ta, pa, ga⟩ := ha
  obtain ⟨tb, pb, gb⟩ := hb
  refine ⟨_, pw_and pa pb, fun σ ρ F G H Q st q => ?_⟩
  rw [truth_and] at q
  refine oneT ga st (Z := fun r => OKt X.K XR σ F G H (r.bind fun k ρ1 => if k = true then (evE cf b ρ1).bind fun v ρ2 => Res.of (truV v) ρ2 else .ok false ρ1) Q E) q ?_ (fun _ _ _ z => z) (fun z => z)
  intro k ρ1 z G1 H1 F1 e1 st1 s1
  simp only [Res.bind_ok] at z
  cases k with
  | true =>
    rw [if_pos rfl] at z
    exact iteT (gb σ ρ1 F1 G1 H1 Q st1 (laterT (ρ1 := ρ1) e1 s1 z))
  | false =>
    rw [if_neg (by decide)] at z
    exact iteF (z G1 H1 F1 e1 st1 s1)
theorem sw_or {a b : Ex} {x y : Expr} {rest : List Expr} {pos : Pos} (ha : ST XR E cf X a x) (hb : SW XR E cf X b (.BoolOp .Or (y :: rest) pos)) : SW XR E cf X (.or a b) (.BoolOp .Or (x :: y :: rest) pos) := by
  obtain ⟨ta, pa, ga⟩ := ha
  obtain ⟨tb, pb, gb⟩ := hb
  refine ⟨_, pw_or pa pb, fun σ ρ F G H Q st q => ?_⟩
  rw [truth_or] at q
  refine oneT ga st (Z := fun r => OKt X.K XR σ F G H (r.bind fun k ρ1 => if k = true then .ok true ρ1 else (evE cf b ρ1).bind fun v ρ2 => Res.of (truV v) ρ2) Q E) q ?_ (fun _ _ _ z => z) (fun z => z)
  intro k ρ1 z G1 H1 F1 e1 st1 s1
  simp only [Res.bind_ok] at z
  cases k with
  | true =>
    rw [if_pos rfl] at z
    exact iteT (z G1 H1 F1 e1 st1 s1)
  | false =>
    rw [if_neg (by decide)] at z
    exact iteF (gb σ ρ1 F1 G1 H1 Q st1 (laterT (ρ1 := ρ1) e1 s1 z))
theorem se_ite {k a b : Ex} {t x y : Expr} {pos : Pos} (hk : ST XR E cf X k t) (ha : SE XR E cf X a x) (hb : SE XR E cf X b y) : SE XR E cf X (.ite k a b) (.IfExp t x y pos) := by
  obtain ⟨tk, pk, gk⟩ := hk
  obtain ⟨ta, pa, ga⟩ := ha
  obtain ⟨tb, pb, gb⟩ := hb
  refine ⟨_, pe_ifExp pk pa pb, fun σ ρ F G H Q st q => ?_⟩
  have q' : OKR X.K XR σ F G H (((evE cf k ρ).bind fun v ρ1 => Res.of (truV v) ρ1).bind fun t ρ1 => if t = true then evE cf a ρ1 else evE cf b ρ1) Q E := by
    have e : (((evE cf k ρ).bind fun v ρ1 => Res.of (truV v) ρ1).bind fun t ρ1 => if t = true then evE cf a ρ1 else evE cf b ρ1) = evE cf (.ite k a b) ρ := by
      simp only [evE]
      cases evE cf k ρ with
      | ok p ρ1 =>
        simp only [Res.bind_ok]
        cases h : truV p with
        | none => simp
        | some t => cases t <;> simp
      | exn _ _ _ => rfl
      | bad => rfl
    rw [e]; exact q
  refine oneT gk st (Z := fun r => OKR X.K XR σ F G H (r.bind fun t ρ1 => if t = true then evE cf a ρ1 else evE cf b ρ1) Q E) q' ?_ (fun _ _ _ z => z) (fun z => z)
  intro t ρ1 z G1 H1 F1 e1 st1 s1
  simp only [Res.bind_ok] at z
  cases t with
  | true =>
    rw [if_pos rfl] at z
    exact iteT (ga σ ρ1 F1 G1 H1 Q st1 (later (ρ1 := ρ1) e1 s1 z))
  | false =>
    rw [if_neg (by decide)] at z
    exact iteF (gb σ ρ1 F1 G1 H1 Q st1 (later (ρ1 := ρ1) e1 s1 z))
/-- a comparison as a test -/
theorem st_cmp {o : Cop} {op : CmpOp} {a b : Ex} {x y : Expr} {pos : Pos} (hu : X.A.units + 65 < cLine) (h : copOk o op = true) (hm : behindInMarks op y = false) (ha : SE XR E cf X a x) (hb : SE XR E cf X b y) : ST XR E cf X (.cmp o a b) (.Compare x [op] [y] pos) := by
  obtain ⟨ta, pa, ga⟩ := ha
  obtain ⟨tb, pb, gb⟩ := hb
  obtain ⟨r, ro, rs⟩ := cmp_all (X := X) hu o op h
  refine ⟨_, pt_cmpR ro pa pb hm, fun σ ρ F G H Q st q => ?_⟩
  simp only [evE] at q
  refine one ga st (Z := fun z => OKt X.K XR σ F G H ((z.bind fun x ρ1 => (evE cf b ρ1).bind fun y ρ2 => Res.of ((cmpV o x y).map .bool) ρ2).bind fun v ρ1 => Res.of (truV v) ρ1) Q E) q ?_ (fun _ _ _ z => z) (fun z => z)
  intro px ρ1 z x G1 H1 F1 Fx e1 st1 s1 r1 d1
  simp only [Res.bind_ok] at z
  refine one gb st1 (Z := fun w => OKt X.K XR σ F G H ((w.bind fun y ρ2 => Res.of ((cmpV o px y).map .bool) ρ2).bind fun v ρ1 => Res.of (truV v) ρ1) Q E) z ?_ ?_ (fun z => z)
  · intro py ρ2 z2 y G2 H2 F2 Fy e2 st2 s2 r2 d2
    simp only [Res.bind_ok] at z2
    cases hc : cmpV o px py with
    | none => rw [hc] at z2; exact z2.elim
    | some b =>
      rw [hc] at z2
      have z3 : OKt X.K XR σ F G H (.ok b ρ2) Q E := z2
      exact rs G2 H2 x y px py b Fx Fy _ st2.gh (r1.ext e2 fun a ha => (d1 a ha).1) r2 hc ⟨b, rfl, z3 G2 H2 F2 (e1.trans e2 fun a ha => .inl (s1 a ha)) st2 fun a ha => s1 a (s2 a ha)⟩
  · intro cc fs ρ2 z2 cls d G' H' F' e2 rs2 s2 x2
    exact z2 cls d G' H' F' (e1.trans e2 fun a ha => .inl (s1 a ha)) rs2 (fun a ha => s1 a (s2 a ha)) x2
end
end LC
end

section
set_option Elab.async false
set_option linter.all false
set_option maxRecDepth 100000
set_option maxHeartbeats 1000000
namespace LC
open PySem PySem.Spec L2
section
variable {c : CK} {XR : XRT} {E : XK} {cf : CF} {X : Cx}
theorem star_cons {e : Expr} {es : List Expr} {env : PySem.Env} (h : notStar e = true) : starEach (e :: es) env = (false, eval e env) :: starEach es env := by
  cases e <;> first | rfl | (simp [notStar] at h)
theorem star_none {es : List Expr} {env : PySem.Env} {pos : Pos} (h : es.all notStar = true) : (backTo pos (starEach es env)).any (·.1) = false := by
  induction es with
  | nil => rfl
  | cons e es ih =>
    simp only [List.all_cons, Bool.and_eq_true] at h
    rw [star_cons h.1]
    have := ih h.2
    unfold backTo at this ⊢
    simp only [List.map_cons, List.any_cons, Bool.false_or]
    exact this
theorem ses_nil : SEs XR E cf X .nil [] := ⟨_, pa_nil, fun σ ρ F G H Q st q => by
  simp only [evEs] at q
  exact q [] G H F [] Ext.refl st (fun _ h => h) .nil (by simp)⟩
theorem ses_cons {a : Ex} {as : Exs} {x : Expr} {xs : List Expr} (hx : notStar x = true) (ha : SE XR E cf X a x) (hs : SEs XR E cf X as xs) : SEs XR E cf X (.cons a as) (x :: xs) := by
  obtain ⟨ta, pa, ga⟩ := ha
  obtain ⟨ts, ps, gs⟩ := hs
  refine ⟨_, pa_cons pa ps (star_cons hx), fun σ ρ F G H Q st q => ?_⟩
  simp only [evEs] at q
  refine one ga st (Z := fun r => OKs X.K XR σ F G H (fun ps => ps) (r.bind fun x ρ1 => (evEs cf as ρ1).bind fun xs ρ2 => .ok (x :: xs) ρ2) Q E) q ?_ (fun _ _ _ z => z) (fun z => z)
  intro p ρ1 z v G1 H1 F1 Fv e1 st1 s1 r1 d1
  simp only [Res.bind_ok] at z
  refine gs σ ρ1 F1 G1 H1 _ st1 ?_
  cases h : evEs cf as ρ1 with
  | bad => rw [h] at z; exact z.elim
  | exn cc fs ρ2 => rw [h] at z; exact fun cls d G2 H2 F2 e2 st2 s2 x2 => z cls d G2 H2 F2 (e1.trans e2 fun a ha => .inl (s1 a ha)) st2 (fun a ha => s1 a (s2 a ha)) x2
  | ok qs ρ2 =>
    rw [h] at z
    intro ws G2 H2 F2 Fw e2 st2 s2 r2 d2
    have r1' := r1.ext e2 fun a ha => (d1 a ha).1
    obtain ⟨Fz, rz, mz⟩ := r1'.mkcons r2 (fun a ha q => by
      obtain ⟨⟨us, y⟩, _⟩ := r1.inH a ha
      rcases (d2 a q).2 with w | w
      · exact (d1 a ha).1 w
      · rw [y] at w; cases w)
    refine z (v :: ws) G2 H2 F2 Fz (e1.trans e2 fun a ha => .inl (s1 a ha)) st2 (fun a ha => s1 a (s2 a ha)) rz fun a ha => ?_
    rcases (mz a).mp ha with y | y
    · exact ⟨fun q => (d1 a y).1 (s2 a q), (d1 a y).2⟩
    · refine ⟨(d2 a y).1, ?_⟩
      rcases (d2 a y).2 with w | w
      · exact .inl (s1 a w)
      · exact .inr (e1.none w)
/-- several expressions, then a value made of them -/
theorem many {ta : TA} {as : Exs} {σ : Sl} {ρ : Env} {F : List Addr} {G H : Hp} {Q : VK} {R : List V → Hp → Prop} {f : List PV → Option PV} (gs : GEs X.K XR E cf ta as) (st : RS X.K G H σ ρ F)
    (q : OKR X.K XR σ F G H ((evEs cf as ρ).bind fun xs ρ1 => Res.of (f xs) ρ1) Q E) (k : ∀ ps p vs G1 H1 Fs, f ps = some p → Same G1 H1 → Rps X.K G1 H1 vs ps Fs → Made X.K G1 H1 Fs p Q → R vs H1) : ta σ H R := by
  refine gs σ ρ F G H R st ?_
  cases h : evEs cf as ρ with
  | bad => rw [h] at q; exact q.elim
  | exn cc fs ρ2 => rw [h] at q; exact q
  | ok ps ρ1 =>
    rw [h] at q
    intro vs G1 H1 F1 Fs e1 st1 s1 r1 d1
    obtain ⟨p, ep, m⟩ := made (Fs := Fs) q e1 st1 s1 d1
    exact k ps p vs G1 H1 Fs ep st1.gh r1 m
theorem se_tup {as : Exs} {xs : List Expr} {k : Nat} {pos : Pos} (hs : SEs XR E cf X as xs) : SE XR E cf X (.tup as) (.Tuple xs k pos) := by
  obtain ⟨ts, ps, gs⟩ := hs
  refine ⟨_, pe_tup ps, fun σ ρ F G H Q st q => ?_⟩
  have q' : OKR X.K XR σ F G H ((evEs cf as ρ).bind fun xs ρ1 => Res.of (if xs.length ≤ SL then some (.tup xs) else none) ρ1) Q E := by
    simp only [evE] at q
    cases h : evEs cf as ρ with
    | ok xs ρ1 =>
      rw [h] at q
      simp only [Res.bind_ok] at q ⊢
      split
      · rename_i hl; rw [if_pos hl] at q; exact q
      · rename_i hl; rw [if_neg hl] at q; exact q
    | exn _ _ _ => rw [h] at q; exact q
    | bad => rw [h] at q; exact q
  refine many gs st q' fun ps p vs G1 H1 Fs ep gh r m => ?_
  split at ep
  · cases ep
    rename_i hl
    exact ⟨by rw [r.len, ← sl_eq]; exact hl, fun a ha => made_tup m gh r (fun _ h => h) ha⟩
  · cases ep
theorem se_lst {as : Exs} {xs : List Expr} {pos : Pos} (hs : SEs XR E cf X as xs) : SE XR E cf X (.lst as) (.List xs pos) := by
  obtain ⟨ts, ps, gs⟩ := hs
  refine ⟨_, pe_lst ps, fun σ ρ F G H Q st q => ?_⟩
  have q' : OKR X.K XR σ F G H ((evEs cf as ρ).bind fun xs ρ1 => Res.of (if xs.length ≤ SL then some (.lst true xs) else none) ρ1) Q E := by
    simp only [evE] at q
    cases h : evEs cf as ρ with
    | ok xs ρ1 =>
      rw [h] at q
      simp only [Res.bind_ok] at q ⊢
      split
      · rename_i hl; rw [if_pos hl] at q; exact q
      · rename_i hl; rw [if_neg hl] at q; exact q
    | exn _ _ _ => rw [h] at q; exact q
    | bad => rw [h] at q; exact q
  refine many gs st q' fun ps p vs G1 H1 Fs ep gh r m => ?_
  split at ep
  · cases ep
    rename_i hl
    exact ⟨by rw [r.len, ← sl_eq]; exact hl, fun a ha => made_lst m gh r (fun _ h => h) ha⟩
  · cases ep
theorem boot_blt (f : Blt) : bootBuiltins f.name = some f.val := by cases f <;> decide +kernel
theorem name_blt (f : Blt) : f.name ≠ "__name__" ∧ (f.name == ("__debug__" : Str)) = false ∧ f.name ∈ bnames := by cases f <;> decide +kernel
theorem se_blt {f : Blt} {as : Exs} {x : Expr} {xs : List Expr} {p pos : Pos} (k : XOk c XR E cf X) (hg : Gl X f.name) (hx : (x :: xs).all notStar = true) (hs : SEs XR E cf X as (x :: xs)) : SE XR E cf X (.blt f as) (.Call (.Name f.name p) (x :: xs) [] pos) := by
  obtain ⟨ts, ps, gs⟩ := hs
  obtain ⟨r, ro, rs⟩ := blt_ok (X := X) k.calm f
  obtain ⟨n1, n2, n3⟩ := name_blt f
  simp only [List.all_cons, Bool.and_eq_true] at hx
  have hm := k.blt _ n3
  have pe : PE X (.Call (.Name f.name p) (x :: xs) [] pos) (tCB r ts) := by
    have hb := boot_blt f
    cases f <;> first
      | exact pe_callB ro hg hm hb ps n1 n2 (star_cons hx.1) (star_none hx.2)
      | exact pe_callTy ro hg hm hb ps n1 n2 (star_cons hx.1) (star_none hx.2)
  refine ⟨_, pe, fun σ ρ F G H Q st q => ?_⟩
  simp only [evE] at q
  exact many gs st q fun ps p vs G1 H1 Fs ep gh r m => rs G1 H1 vs ps p Fs Q gh r ep m
theorem boot_ty (t : Ty) (h : ∀ c, t ≠ .own c) : bootBuiltins t.name = some (.type t.id) ∧ t.name ≠ "__name__" ∧ (t.name == ("__debug__" : Str)) = false ∧ t.name ∈ bnames := by
  cases t <;> first | exact absurd rfl (h _) | decide +kernel
theorem se_isi {t : Ty} {a : Ex} {x : Expr} {p p2 pos : Pos} (k : XOk c XR E cf X) (ht : ∀ c, t ≠ .own c) (hg : Gl X "isinstance") (hg2 : Gl X t.name) (hx : notStar x = true) (ha : SE XR E cf X a x) :
    SE XR E cf X (.isi a t) (.Call (.Name "isinstance" p) [x, .Name t.name p2] [] pos) := by
  obtain ⟨ta, pa, ga⟩ := ha
  obtain ⟨b1, b2, b3, b4⟩ := boot_ty t ht
  have p2' : PE X (.Name t.name p2) (tC (.ty t.id)) := pe_bltn hg2 (k.blt _ b4) b1 rfl b2 b3
  refine ⟨_, pe_callB call_isi hg (k.blt _ (by decide +kernel)) (by decide +kernel) (pa_cons pa (pa_cons p2' pa_nil (by rfl)) (star_cons hx)) (by decide) (by decide) (star_cons hx) (by rfl), fun σ ρ F G H Q st q => ?_⟩
  simp only [evE] at q
  refine one ga st (Z := fun r => OKR X.K XR σ F G H (r.bind fun x ρ1 => Res.of ((isiV x t).map .bool) ρ1) Q E) q ?_ (fun _ _ _ z => z) (fun z => z)
  intro p ρ1 z v G1 H1 F1 Fv e1 st1 s1 r1 d1
  simp only [Res.bind_ok] at z
  cases h : isiV p t with
  | none => rw [h] at z; exact z.elim
  | some b =>
    rw [h] at z
    exact isi_ok ht st1.gh r1 h (z _ G1 H1 F1 [] e1 st1 s1 (.bool .nil) (by simp))
/-! slices -/
def GO (XR : XRT) (E : XK) (cf : CF) (X : Cx) (a : Exs) (o : Option Expr) : Prop := ∃ t, PO X o t ∧ ∀ (σ : Sl) (ρ : Env) (F : List Addr) (G H : Hp) (Q : Option Int → Hp → Prop), RS X.K G H σ ρ F →
  (match evO cf a ρ with
    | .ok i ρ1 => ∀ G1 H1 F1, Ext F G H G1 H1 → RS X.K G1 H1 σ ρ1 F1 → (∀ a ∈ F1, a ∈ F) → Q i H1
    | .exn c fs ρ1 => ∀ cls d G' H' F', Ext F G H G' H' → RS X.K G' H' σ ρ1 F' → (∀ a ∈ F', a ∈ F) → XR c fs cls d H' → E cls d H'
    | .bad => False) → t σ H Q
theorem go_none : GO XR E cf X .nil none := ⟨_, po_none, fun σ ρ F G H Q st q => by
  simp only [evO] at q
  exact q G H F Ext.refl st fun _ h => h⟩
theorem go_some {a : Ex} {x : Expr} (ha : SE XR E cf X a x) : GO XR E cf X (.cons a .nil) (some x) := by
  obtain ⟨ta, pa, ga⟩ := ha
  refine ⟨_, po_some pa, fun σ ρ F G H Q st q => ?_⟩
  refine ga σ ρ F G H _ st ?_
  simp only [evO] at q
  cases h : evE cf a ρ with
  | bad => rw [h] at q; exact q
  | exn cc fs ρ1 => rw [h] at q; exact q
  | ok p ρ1 =>
    rw [h] at q
    simp only [Res.bind_ok] at q
    intro v G1 H1 F1 Fv e1 st1 s1 r1 d1
    cases p with
    | int i =>
      obtain ⟨rfl, _⟩ := r1.inv_int
      exact ⟨i, rfl, q G1 H1 F1 e1 st1 s1⟩
    | _ => exact q.elim
theorem se_sli {a : Ex} {lo hi : Exs} {x : Expr} {l h : Option Expr} {p2 pos : Pos} (ha : SE XR E cf X a x) (hl : GO XR E cf X lo l) (hh : GO XR E cf X hi h) : SE XR E cf X (.sli a lo hi) (.Subscript x (.Slice l h none p2) pos) := by
  obtain ⟨ta, pa, ga⟩ := ha
  obtain ⟨tl, pl, gl⟩ := hl
  obtain ⟨th, ph, gh⟩ := hh
  refine ⟨_, pe_slice sli_all pa pl ph, fun σ ρ F G H Q st q => ?_⟩
  simp only [evE] at q
  refine one ga st (Z := fun r => OKR X.K XR σ F G H (r.bind fun x ρ1 => (evO cf lo ρ1).bind fun l ρ2 => (evO cf hi ρ2).bind fun h ρ3 => Res.of (sliV x l h) ρ3) Q E) q ?_ (fun _ _ _ z => z) (fun z => z)
  intro p ρ1 z v G1 H1 F1 Fv e1 st1 s1 r1 d1
  simp only [Res.bind_ok] at z
  refine gl σ ρ1 F1 G1 H1 _ st1 ?_
  cases hlo : evO cf lo ρ1 with
  | bad => rw [hlo] at z; exact z
  | exn cc fs ρ2 => rw [hlo] at z; exact fun cls d G2 H2 F2 e2 st2 s2 x2 => z cls d G2 H2 F2 (e1.trans e2 fun a ha => .inl (s1 a ha)) st2 (fun a ha => s1 a (s2 a ha)) x2
  | ok lv ρ2 =>
    rw [hlo] at z
    simp only [Res.bind_ok] at z
    intro G2 H2 F2 e2 st2 s2
    refine gh σ ρ2 F2 G2 H2 _ st2 ?_
    cases hhi : evO cf hi ρ2 with
    | bad => rw [hhi] at z; exact z
    | exn cc fs ρ3 => rw [hhi] at z; exact fun cls d G3 H3 F3 e3 st3 s3 x3 => z cls d G3 H3 F3 ((e1.trans e2 fun a ha => .inl (s1 a ha)).trans e3 fun a ha => .inl (s1 a (s2 a ha))) st3 (fun a ha => s1 a (s2 a (s3 a ha))) x3
    | ok hv ρ3 =>
      rw [hhi] at z
      simp only [Res.bind_ok] at z
      intro G3 H3 F3 e3 st3 s3
      have e13 : Ext F1 G1 H1 G3 H3 := e2.trans e3 fun a ha => .inl (s2 a ha)
      obtain ⟨p', ep, m⟩ := made (Fs := Fv) z (e1.trans e13 fun a ha => .inl (s1 a ha)) st3 (fun a ha => s1 a (s2 a (s3 a ha))) fun a ha => ⟨fun q => (d1 a ha).1 (s2 a (s3 a q)), (d1 a ha).2⟩
      exact sli_ok st3.gh (r1.ext e13 fun a ha => (d1 a ha).1) (fun _ h => h) ep m
/-! chains -/
theorem se_chain {o o2 : Cop} {op op2 : CmpOp} {a b d : Ex} {x y w : Expr} {pos : Pos} (hu : X.A.units + 65 < cLine) (h : copOk o op = true) (h2 : copOk o2 op2 = true) (hm : notSet w = true)
    (ha : SE XR E cf X a x) (hb : SE XR E cf X b y) (hd : SE XR E cf X d w) : SE XR E cf X (.chain o o2 a b d) (.Compare x [op, op2] [y, w] pos) ∧ ST XR E cf X (.chain o o2 a b d) (.Compare x [op, op2] [y, w] pos) := by
  obtain ⟨ta, pa, ga⟩ := ha
  obtain ⟨tb, pb, gb⟩ := hb
  obtain ⟨td, pd, gd⟩ := hd
  obtain ⟨r, ro, rs⟩ := cmp_all (X := X) hu o op h
  obtain ⟨r2, ro2, rs2⟩ := cmp_all (X := X) hu o2 op2 h2
  have hlm : lastMarks [op, op2] [y, w] = false := by
    show behindInMarks op2 w = false
    cases w <;> first | rfl | (simp [notSet] at hm)
  -- both readings by one lemma
  have key : ∀ (σ : Sl) (ρ : Env) (F : List Addr) (G H : Hp) (Q : VK), RS X.K G H σ ρ F → OKR X.K XR σ F G H (evE cf (.chain o o2 a b d) ρ) Q E → tChain r r2 ta tb td σ H Q := by
    intro σ ρ F G H Q st q
    simp only [evE] at q
    refine two ga gb st (f := fun x y ρ2 => (match cmpV o x y with
      | some true => (evE cf d ρ2).bind fun z ρ3 => Res.of ((cmpV o2 y z).map .bool) ρ3
      | some false => .ok (.bool false) ρ2
      | none => .bad)) q fun px py ρ2 z x y G2 H2 F2 Fx Fy e2 st2 s2 rx ry dx dy => ?_
    cases hc : cmpV o px py with
    | none => simp only [hc] at z; exact z.elim
    | some k =>
      refine rs G2 H2 x y px py k Fx Fy _ st2.gh rx ry hc ⟨k, rfl, ?_⟩
      cases k with
      | false =>
        simp only [hc] at z
        exact iteF (z _ G2 H2 F2 [] e2 st2 s2 (.bool .nil) (by simp))
      | true =>
        simp only [hc] at z
        refine iteT (one gd st2 (Z := fun r => OKR X.K XR σ F G H (r.bind fun z ρ3 => Res.of ((cmpV o2 py z).map .bool) ρ3) Q E) z ?_ ?_ (fun z => z))
        · intro pz ρ3 z3 w G3 H3 F3 Fw e3 st3 s3 r3 d3
          simp only [Res.bind_ok] at z3
          cases hc2 : cmpV o2 py pz with
          | none => rw [hc2] at z3; exact z3.elim
          | some k2 =>
            rw [hc2] at z3
            exact rs2 G3 H3 y w py pz k2 Fy Fw Q st3.gh (ry.ext e3 fun a ha => (dy a ha).1) r3 hc2 (z3 _ G3 H3 F3 [] (e2.trans e3 fun a ha => .inl (s2 a ha)) st3 (fun a ha => s2 a (s3 a ha)) (.bool .nil) (by simp))
        · intro cc fs ρ3 z3 cls dd G' H' F' e3 st3 s3 x3
          exact z3 cls dd G' H' F' (e2.trans e3 fun a ha => .inl (s2 a ha)) st3 (fun a ha => s2 a (s3 a ha)) x3
  refine ⟨⟨_, pe_chain ro ro2 pa pb pd hlm, key⟩, ⟨_, pt_chain ro ro2 pa pb pd hlm, fun σ ρ F G H Q st q => ?_⟩⟩
  refine key σ ρ F G H _ st ?_
  have bo : ∀ p ρ1, evE cf (.chain o o2 a b d) ρ = .ok p ρ1 → ∃ k, p = .bool k := by
    intro p ρ1 e
    simp only [evE] at e
    cases h1 : evE cf a ρ with
    | ok px ρ2 =>
      rw [h1] at e; simp only [Res.bind_ok] at e
      cases h2 : evE cf b ρ2 with
      | ok py ρ3 =>
        rw [h2] at e; simp only [Res.bind_ok] at e
        cases h3 : cmpV o px py with
        | none => simp only [h3] at e; cases e
        | some k =>
          cases k with
          | false => simp only [h3] at e; cases e; exact ⟨false, rfl⟩
          | true =>
            simp only [h3] at e
            cases h4 : evE cf d ρ3 with
            | ok pz ρ4 =>
              rw [h4] at e; simp only [Res.bind_ok] at e
              cases h5 : cmpV o2 py pz with
              | none => rw [h5] at e; cases e
              | some k => rw [h5] at e; cases e; exact ⟨k, rfl⟩
            | exn _ _ _ => rw [h4] at e; cases e
            | bad => rw [h4] at e; cases e
      | exn _ _ _ => rw [h2] at e; cases e
      | bad => rw [h2] at e; cases e
    | exn _ _ _ => rw [h1] at e; cases e
    | bad => rw [h1] at e; cases e
  cases hv : evE cf (.chain o o2 a b d) ρ with
  | bad => rw [hv] at q; exact q
  | exn cc fs ρ1 => rw [hv] at q; exact q
  | ok p ρ1 =>
    obtain ⟨k, rfl⟩ := bo p ρ1 hv
    rw [hv] at q
    intro v G1 H1 F1 Fv e1 st1 s1 r1 d1
    obtain ⟨rfl, _⟩ := r1.inv_bool
    exact ⟨k, rfl, q G1 H1 F1 e1 st1 s1⟩
end
end LC
end

section
set_option Elab.async false
set_option linter.all false
set_option maxRecDepth 100000
set_option maxHeartbeats 1000000
namespace LC
open PySem PySem.Spec L2
/-! ### parts of the slots -/
section
variable {K : PySem.W.Frag} {G G' H H' : Hp} {σ σ' : Sl} {ρ ρ' : Env} {F F1 F2 : List Addr}
theorem selS_len (p : Nat → Bool) : ∀ (i : Nat) (ρ : Env), (selS p i ρ).length = ρ.length
  | _, [] => rfl
  | i, x :: xs => by simp [selS, selS_len p (i + 1) xs]
theorem orS_len : ∀ ρ ρ' : Env, (orS ρ ρ').length = ρ.length
  | xs, [] => by cases xs <;> rfl
  | [], _ :: _ => rfl
  | x :: xs, y :: ys => by simp [orS, orS_len xs ys]
theorem Rso.split (p : Nat → Bool) (h : Rso K G H σ ρ F) : ∀ i, ∃ Fa Fb, Rso K G H σ (selS p i ρ) Fa ∧ Rso K G H σ (selS (fun j => !p j) i ρ) Fb ∧ (∀ a ∈ Fa, a ∉ Fb) ∧ ∀ a, a ∈ F ↔ a ∈ Fa ∨ a ∈ Fb := by
  induction h with
  | nil => intro i; exact ⟨[], [], .nil, .nil, by simp, by simp⟩
  | hid r ih =>
    intro i
    obtain ⟨Fa, Fb, h1, h2, h3, h4⟩ := ih (i + 1)
    refine ⟨Fa, Fb, ?_, ?_, h3, h4⟩
    · simp only [selS, ite_self]; exact .hid h1
    · simp only [selS, ite_self]; exact .hid h2
  | @val v q σ ρ Fx Fy c r d ih =>
    intro i
    obtain ⟨Fa, Fb, h1, h2, h3, h4⟩ := ih (i + 1)
    cases hp : p i with
    | true =>
      refine ⟨Fx ++ Fa, Fb, ?_, ?_, ?_, ?_⟩
      · simp only [selS, hp, if_true]; exact .val c h1 fun a ha q => d a ha ((h4 a).mpr (.inl q))
      · simp only [selS, hp, Bool.not_true, Bool.false_eq_true, if_false]; exact .hid h2
      · intro a ha q
        rcases List.mem_append.mp ha with ha | ha
        · exact d a ha ((h4 a).mpr (.inr q))
        · exact h3 a ha q
      · intro a; simp only [List.mem_append, h4, or_assoc]
    | false =>
      refine ⟨Fa, Fx ++ Fb, ?_, ?_, ?_, ?_⟩
      · simp only [selS, hp, Bool.false_eq_true, if_false]; exact .hid h1
      · simp only [selS, hp, Bool.not_false, if_true]; exact .val c h2 fun a ha q => d a ha ((h4 a).mpr (.inr q))
      · intro a ha q
        rcases List.mem_append.mp q with q | q
        · exact d a q ((h4 a).mpr (.inl ha))
        · exact h3 a ha q
      · intro a
        simp only [List.mem_append, h4]
        constructor
        · rintro (h | h | h)
          · exact .inr (.inl h)
          · exact .inl h
          · exact .inr (.inr h)
        · rintro (h | h | h)
          · exact .inr (.inl h)
          · exact .inl h
          · exact .inr (.inr h)
theorem Rso.join (h : Rso K G H σ ρ F1) : ∀ {ρ' : Env} {F2 : List Addr}, Rso K G H σ ρ' F2 → (∀ a ∈ F1, a ∉ F2) → ∃ F, Rso K G H σ (orS ρ ρ') F ∧ ∀ a ∈ F, a ∈ F1 ∨ a ∈ F2 := by
  induction h with
  | nil => intro ρ' F2 h2 d; cases h2; exact ⟨[], .nil, by simp⟩
  | hid r ih =>
    intro ρ' F2 h2 d
    cases h2 with
    | hid r2 =>
      obtain ⟨F, h, m⟩ := ih r2 d
      exact ⟨F, .hid h, m⟩
    | @val v p σ ρ' Fx Fy c r2 d2 =>
      obtain ⟨F, h, m⟩ := ih r2 (fun a ha q => d a ha (List.mem_append_right _ q))
      refine ⟨Fx ++ F, .val c h fun a ha q => ?_, fun a ha => ?_⟩
      · rcases m a q with z | z
        · exact d a z (List.mem_append_left _ ha)
        · exact d2 a ha z
      · rcases List.mem_append.mp ha with z | z
        · exact .inr (List.mem_append_left _ z)
        · rcases m a z with z | z
          · exact .inl z
          · exact .inr (List.mem_append_right _ z)
  | @val v p σ ρ Fx Fy c r d1 ih =>
    intro ρ' F2 h2 d
    have go : ∀ {y : Option PV} {ρ'' : Env} {F3 : List Addr}, Rso K G H σ ρ'' F3 → (∀ a ∈ F3, a ∈ F2) → ∃ F, Rso K G H (some v :: σ) (orS (some p :: ρ) (y :: ρ'')) F ∧ ∀ a ∈ F, a ∈ Fx ++ Fy ∨ a ∈ F2 := by
      intro y ρ'' F3 r3 m3
      obtain ⟨F, h, m⟩ := ih r3 (fun a ha q => d a (List.mem_append_right _ ha) (m3 a q))
      refine ⟨Fx ++ F, .val c h fun a ha q => ?_, fun a ha => ?_⟩
      · rcases m a q with z | z
        · exact d1 a ha z
        · exact d a (List.mem_append_left _ ha) (m3 a z)
      · rcases List.mem_append.mp ha with z | z
        · exact .inl (List.mem_append_left _ z)
        · rcases m a z with z | z
          · exact .inl (List.mem_append_right _ z)
          · exact .inr (m3 a z)
    cases h2 with
    | hid r2 => exact go r2 fun _ h => h
    | val c2 r2 d2 => exact go r2 fun a ha => List.mem_append_right _ ha
theorem Rso.freeze (h : Rso K G H σ ρ F) (sg : Same G G') : (∀ a ∈ F, G' a = H a) → Rso K G' H' σ (frzS ρ) [] := by
  induction h with
  | nil => intro _; exact .nil
  | hid _ ih => intro q; exact .hid (ih q)
  | val c _ d ih =>
    intro q
    exact .val (F1 := []) (F2 := []) (c.freeze sg fun a ha => q a (List.mem_append_left _ ha)) (ih fun a ha => q a (List.mem_append_right _ ha)) (by simp)
theorem Rso.congr (h : Rso K G H σ ρ F) : ∀ {σ' : Sl}, σ'.length = σ.length → (∀ i, getS ρ i ≠ none → σ'[i]? = σ[i]?) → Rso K G H σ' ρ F := by
  induction h with
  | nil => intro σ' hl _; have := List.eq_nil_of_length_eq_zero hl; subst this; exact .nil
  | hid r ih =>
    intro σ' hl he
    cases σ' with
    | nil => simp at hl
    | cons y σ' => exact .hid (ih (by simpa using hl) fun i hi => by have := he (i + 1) (by simpa [getS] using hi); simpa using this)
  | val c r d ih =>
    intro σ' hl he
    cases σ' with
    | nil => simp at hl
    | cons y σ' =>
      have h0 := he 0 (by simp [getS])
      simp at h0
      subst h0
      exact .val c (ih (by simpa using hl) fun i hi => by have := he (i + 1) (by simpa [getS] using hi); simpa using this) d
theorem Rso.thaw {B : List Addr} (h : Rso K G H σ ρ F) (gh : Same G H) (hB : ∀ a ∈ B, ∃ ws, H a = some (.lst ws)) : ρ.all nfzO = true → Rso K (cutH B G) H σ ρ F := by
  induction h with
  | nil => intro _; exact .nil
  | hid r ih => intro q; simp only [List.all_cons, Bool.and_eq_true] at q; exact .hid (ih q.2)
  | val c r d ih => intro q; simp only [List.all_cons, Bool.and_eq_true, nfzO] at q; exact .val (c.thaw gh hB (by simp [nfzs, q.1])) (ih q.2) d
theorem Rso.clean (h : Rso K G H σ ρ F) : clean ρ = true → F = [] := by
  induction h with
  | nil => intro _; rfl
  | hid r ih => intro q; exact ih (by simpa [LC.clean] using q)
  | val c r d ih => intro q; simp only [LC.clean, Bool.and_eq_true] at q; rw [c.cl (by simp [cls, q.1]), ih q.2]; rfl
theorem getS_sel (p : Nat → Bool) : ∀ (i j : Nat) (ρ : Env), getS (selS p i ρ) j = if p (i + j) then getS ρ j else none
  | i, j, [] => by simp [selS, getS]
  | i, 0, x :: xs => by simp only [selS, getS]; cases p i <;> simp
  | i, j + 1, x :: xs => by
    have := getS_sel p (i + 1) j xs
    simp only [selS]
    have e : i + (j + 1) = i + 1 + j := by omega
    rw [e]
    simpa [getS] using this
open Classical in
/-- G with the objects of H at B -/
noncomputable def frzH (B : List Addr) (H G : Hp) : Hp := fun b => if b ∈ B then H b else G b
theorem frzH_in {B : List Addr} {b : Addr} (h : b ∈ B) : frzH B H G b = H b := by unfold frzH; rw [if_pos h]
theorem frzH_out {B : List Addr} {b : Addr} (h : b ∉ B) : frzH B H G b = G b := by unfold frzH; rw [if_neg h]
theorem frzH_sg {B : List Addr} (hB : ∀ a ∈ B, G a = none) : Same G (frzH B H G) := fun b o e => by
  rw [frzH_out (fun q => by rw [hB b q] at e; cases e)]; exact e
theorem frzH_gh {B : List Addr} (gh : Same G H) : Same (frzH B H G) H := fun b o e => by
  by_cases h : b ∈ B
  · rw [frzH_in h] at e; exact e
  · rw [frzH_out h] at e; exact gh b o e
theorem ext_frz {B : List Addr} (hB : ∀ a ∈ B, G a = none) : Ext B G H (frzH B H G) H where
  sg := frzH_sg hB
  fr := fun b o h _ => h
  dm := fun b h => h
  nw := fun b h => by
    by_cases q : b ∈ B
    · exact .inr (.inr q)
    · rw [frzH_out q] at h; exact .inl h
end
section
variable {c : CK} {XR : XRT} {E : XK} {cf : CF} {X : Cx}
/-! ### calls of defs -/
theorem se_call {f : Str} {as : Exs} {x : Expr} {xs : List Expr} {p pos : Pos} (k : XOk c XR E cf X) (hf : (f, false) ∈ c.fs) (hg : Gl X f) (hd : (f == ("__debug__" : Str)) = false) (hx : (x :: xs).all notStar = true) (hs : SEs XR E cf X as (x :: xs)) :
    SE XR E cf X (.call f as) (.Call (.Name f p) (x :: xs) [] pos) := by
  obtain ⟨ts, ps, gs⟩ := hs
  obtain ⟨kk, fa, fd, prm, n, hm, hk, hb, hF, hr, hlen⟩ := k.fn _ hf
  simp only [List.all_cons, Bool.and_eq_true] at hx
  refine ⟨_, pe_call hF hr hg hm hk hb .nil k.pass ps hd (star_cons hx.1) (star_none hx.2), fun σ ρ F G H Q st q => ?_⟩
  refine gs σ ρ F G H _ st ?_
  simp only [evE] at q
  cases h : evEs cf as ρ with
  | bad => rw [h] at q; exact q
  | exn cc fs ρ1 => rw [h] at q; exact q
  | ok qs ρ1 =>
    rw [h] at q
    simp only [Res.bind_ok] at q
    intro vs G1 H1 F1 Fs e1 st1 s1 r1 d1
    have hB : ∀ a ∈ Fs, G1 a = none := fun a ha => (r1.inH a ha).2
    have ef : Ext Fs G1 H1 (frzH Fs H1 G1) H1 := ext_frz hB
    have rf : Rps X.K (frzH Fs H1 G1) H1 vs (fzs qs) [] := r1.freeze (frzH_sg hB) fun a ha => frzH_in ha
    have so1 : Rso X.K (frzH Fs H1 G1) H1 σ ρ1 F1 := st1.so.ext ef fun a ha q => (d1 a q).1 ha
    have eF : Ext F G H (frzH Fs H1 G1) H1 := e1.trans ef fun a ha => (d1 a ha).2
    refine ⟨frzH Fs H1 G1, fzs qs, [], frzH_gh st1.gh, by rw [List.append_nil]; exact rf, by simp [ArgOk], ?_, ?_⟩
    · rw [List.append_nil, rf.len]
      exact hlen _ fun z => by
        have z' : cf f (fzs qs) = .bad := z
        rw [z'] at q; exact q
    · show (match cf f (fzs qs) with | _ => _)
      cases hc : cf f (fzs qs) with
      | bad => rw [hc] at q; exact q
      | exn cc fs =>
        rw [hc] at q
        exact fun cls d G2 H2 e2 gh2 x2 => q cls d G2 H2 F1 (eF.trans e2 (by simp)) ⟨gh2, so1.ext e2 (by simp)⟩ s1 x2
      | ok pv iov =>
        rw [hc] at q
        intro v G2 H2 Fv e2 gh2 r2 d2 _
        refine q v G2 H2 F1 Fv (eF.trans e2 (by simp)) ⟨gh2, so1.ext e2 (by simp)⟩ s1 r2 fun a ha => ?_
        have hn := d2 a ha
        refine ⟨fun z => ?_, .inr (e1.none hn)⟩
        obtain ⟨⟨ws, y⟩, _⟩ := st1.so.inH a z
        rw [hn] at y; cases y
theorem se_callIo {f px : Str} {i : Nat} {as : Exs} {xs : List Expr} {p p2 pos : Pos} (k : XOk c XR E cf X) (hf : (f, true) ∈ c.fs) (hg : Gl X f) (hd : (f == ("__debug__" : Str)) = false)
    (hN : X.N[i]? = some px) (hv : Vis X.env.scope px) (hd2 : (px == ("__debug__" : Str)) = false) (hcd : (px == ("__classdict__" : Str)) = false) (hx : xs.all notStar = true) (hs : SEs XR E cf X as xs) :
    SE XR E cf X (.callIo f i as) (.Call (.Name f p) (.Name px p2 :: xs) [] pos) := by
  obtain ⟨ts, ps, gs⟩ := hs
  obtain ⟨kk, fa, fd, prm, n, hm, hk, hb, hF, hr, hlen⟩ := k.fn _ hf
  refine ⟨_, pe_call hF hr hg hm hk hb .nil k.pass (pa_cons (pe_var hN hv hd2 hcd) ps (by rfl)) hd (by rfl) (star_none hx), fun σ ρ F G H Q st q => ?_⟩
  simp only [evE] at q
  cases h0 : getS ρ i with
  | none => rw [h0] at q; exact q.elim
  | some p0 =>
    rw [h0] at q
    simp only at q
    obtain ⟨v0, _, ev0, _, _⟩ := st.so.get h0
    refine ⟨v0, ev0, ?_⟩
    refine gs σ ρ F G H _ st ?_
    cases h : evEs cf as ρ with
    | bad => rw [h] at q; exact q
    | exn cc fs ρ1 => rw [h] at q; exact q
    | ok qs ρ1 =>
      rw [h] at q
      simp only [Res.bind_ok] at q
      intro vs G1 H1 F1 Fs e1 st1 s1 r1 d1
      cases h1 : getS ρ1 i with
      | none => rw [h1] at q; exact q.elim
      | some p1 =>
        obtain ⟨v1, Fi, F2, ev1, ri, so2, di, mi⟩ := st1.so.out h1
        rw [ev0] at ev1
        cases ev1
        have hcase : ∃ ns, p1 = .lst true ns ∧ lfs ns = true ∧ i < ρ1.length ∧ ∃ pv ms, cf f (.lst true ns :: fzs qs) = .ok pv (.lst true ms) ∧ OKR X.K XR σ F G H (.ok pv (ρ1.set i (some (.lst true ms)))) Q E := by
          rw [h1] at q
          split at q
          · rename_i e
            cases e
            split at q
            · rename_i hc
              simp only [Bool.and_eq_true, decide_eq_true_eq] at hc
              split at q
              · rename_i hcf
                exact ⟨_, rfl, hc.1, hc.2, _, _, hcf, q⟩
              · exact q.elim
            · exact q.elim
          · exact q.elim
        obtain ⟨ns, rfl, hns, hil, pv, ms, hc, q⟩ := hcase
        obtain ⟨a, ws, Fw, rfl, ha, hga, rw', hna, rfl⟩ := ri.inv_lstT
        have fw := rw'.lf hns
        subst fw
        have hB : ∀ b ∈ Fs, G1 b = none := fun b hb => (r1.inH b hb).2
        have aF1 : a ∈ F1 := (mi a).mpr (.inl (by simp))
        have aFs : a ∉ Fs := fun z => (d1 a z).1 aF1
        have ef : Ext Fs G1 H1 (frzH Fs H1 G1) H1 := ext_frz hB
        have rf : Rps X.K (frzH Fs H1 G1) H1 vs (fzs qs) [] := r1.freeze (frzH_sg hB) fun b hb => frzH_in hb
        have ra : Rps X.K (frzH Fs H1 G1) H1 [.ref a] [.lst true ns] [a] := ri.ext ef fun b hb => by
          have : b = a := by simpa using hb
          rw [this]; exact aFs
        have so2' : Rso X.K (frzH Fs H1 G1) H1 σ (ρ1.set i none) F2 := so2.ext ef fun b hb z => (d1 b z).1 ((mi b).mpr (.inr hb))
        have eF : Ext F G H (frzH Fs H1 G1) H1 := e1.trans ef fun b hb => (d1 b hb).2
        obtain ⟨Fz, rz, mz⟩ := ra.mkcons rf (by simp)
        have fz1 : Rps X.K (frzH Fs H1 G1) H1 (.ref a :: vs) (.lst true ns :: fzs qs) [a] := by
          have h2 := Rps.lstT ha (by rw [frzH_out aFs]; exact hga) (rw'.mono (H' := H1) (frzH_sg hB) (by simp)) rf (by simp) (by simp) (by simp)
          simpa using h2
        refine ⟨frzH Fs H1 G1, .lst true ns :: fzs qs, [a], frzH_gh st1.gh, by rw [List.append_nil]; exact fz1, by unfold ArgOk; rw [if_pos rfl]; exact ⟨a, ns, _, rfl, hns, rfl⟩, ?_, ?_⟩
        · rw [List.append_nil, fz1.len]
          exact hlen _ fun z => by
            have z' : cf f (.lst true ns :: fzs qs) = .bad := z
            rw [z'] at hc; cases hc
        · show (match cf f (.lst true ns :: fzs qs) with | _ => _)
          rw [hc]
          intro v G2 H2 Fv e2 gh2 r2 d2 hio
          obtain ⟨a', ms', ea, em, hms, efa, rio⟩ := hio rfl
          rw [List.append_nil] at ea
          cases ea
          cases em
          have so3 : Rso X.K G2 H2 σ (ρ1.set i none) F2 := so2'.ext e2 fun b hb z => by
            have : b = a := by simpa using z
            subst this
            exact di b (by simp) hb
          obtain ⟨F3, so4, m4⟩ := so3.back hil ev0 rio (fun b hb z => by
            have : b = a := by simpa using hb
            subst this
            exact di b (by simp) z)
          have hsub : ∀ b ∈ F3, b ∈ F1 := fun b hb => by
            rcases m4 b hb with z | z
            · have : b = a := by simpa using z
              rw [this]; exact aF1
            · exact (mi b).mpr (.inr z)
          refine q v G2 H2 F3 Fv (eF.trans e2 fun b hb => by
            have : b = a := by simpa using hb
            rw [this]; exact .inl (s1 a aF1)) ⟨gh2, so4⟩ (fun b hb => s1 b (hsub b hb)) r2 fun b hb => ?_
          have hn := d2 b hb
          refine ⟨fun z => ?_, .inr (e1.none hn)⟩
          obtain ⟨⟨ws, y⟩, _⟩ := st1.so.inH b (hsub b z)
          rw [hn] at y; cases y
end
end LC
end

section
set_option Elab.async false
set_option linter.all false
set_option maxRecDepth 100000
set_option maxHeartbeats 1000000
namespace LC
open PySem PySem.Spec L2
section
variable {c : CK} {XR : XRT} {E : XK} {cf : CF} {X : Cx}
/-! ### targets -/
def SG (X : Cx) (tg : Tg) (e : Expr) : Prop := ∃ g, PG X e g ∧ ∀ (lk : List Nat) (σ : Sl) (ρ ρ' : Env) (F Fv : List Addr) (G H : Hp) (v : V) (p : PV) (Q : Sl → Hp → Prop), Same G H → Rso X.K G H σ ρ F → Rps X.K G H [v] [p] Fv → (∀ a ∈ Fv, a ∉ F) →
  bindT lk tg p ρ = some ρ' → (∀ σ' F', Rso X.K G H σ' ρ' F' → (∀ a ∈ F', a ∈ F ∨ a ∈ Fv) → (∀ j, j ∉ tg.slots → σ'[j]? = σ[j]?) → σ'.length = σ.length → (∀ j ∈ lk, σ'[j]? = σ[j]?) → Q σ' H) → g v σ H Q
def SGs (X : Cx) (ts : List Tg) (es : List Expr) : Prop := ∃ g, PGs X es g ∧ ∀ (lk : List Nat) (σ : Sl) (ρ ρ' : Env) (F Fv : List Addr) (G H : Hp) (vs : List V) (ps : List PV) (Q : Sl → Hp → Prop), Same G H → Rso X.K G H σ ρ F → Rps X.K G H vs ps Fv → (∀ a ∈ Fv, a ∉ F) →
  bindTs lk ts ps ρ = some ρ' → (∀ σ' F', Rso X.K G H σ' ρ' F' → (∀ a ∈ F', a ∈ F ∨ a ∈ Fv) → (∀ j, j ∉ slotsAll ts → σ'[j]? = σ[j]?) → σ'.length = σ.length → (∀ j ∈ lk, σ'[j]? = σ[j]?) → Q σ' H) → g vs σ H Q
theorem sg_name {i : Nat} {x : Str} {pos : Pos} (hN : X.N.Nodup) (hi : X.N[i]? = some x) (hx : Loc X.env.scope x) (hf : X.fn x = true ∨ X.env.scope.names.lookup x = some .local) : SG X (.nm i) (.Name x pos) := by
  refine ⟨_, pg_name hN hi hx hf, fun lk σ ρ ρ' F Fv G H v p Q gh so r d e k => ?_⟩
  simp only [bindT] at e
  split at e
  · cases e
    rename_i hk
    simp only [okS, Bool.and_eq_true, decide_eq_true_eq, Bool.not_eq_true'] at hk
    obtain ⟨F2, so2, m2⟩ := so.set hk.1 r d
    refine k _ F2 so2 m2 (fun j hj => ?_) (by simp) fun j hj => ?_
    · have : j ≠ i := fun z => hj (by simp [Tg.slots, z])
      rw [List.getElem?_set_ne (Ne.symm this)]
    · have : j ≠ i := fun z => by
        subst z
        have := hk.2
        simp only [List.contains_eq_any_beq] at this
        rw [List.any_eq_false] at this
        exact this j hj (by simp)
      rw [List.getElem?_set_ne (Ne.symm this)]
  · cases e
theorem sgs_nil : SGs X [] [] := by
  refine ⟨_, pgs_nil, fun lk σ ρ ρ' F Fv G H vs ps Q gh so r d e k => ?_⟩
  cases ps with
  | nil => simp only [bindTs] at e; cases e; cases r; exact ⟨rfl, k σ F so (fun a ha => .inl ha) (fun _ _ => rfl) rfl fun _ _ => rfl⟩
  | cons p ps => simp [bindTs] at e
theorem assign_star {e : Expr} {es : List Expr} {env : PySem.Env} (h : notStar e = true) : (assignEach (e :: es) env).map (·.2) = assign e env :: (assignEach es env).map (·.2) := by
  cases e <;> first | rfl | (simp [notStar] at h)
theorem sgs_cons {t : Tg} {ts : List Tg} {x : Expr} {xs : List Expr} (hx : notStar x = true) (h1 : SG X t x) (h2 : SGs X ts xs) : SGs X (t :: ts) (x :: xs) := by
  obtain ⟨g1, p1, k1⟩ := h1
  obtain ⟨g2, p2, k2⟩ := h2
  refine ⟨_, pgs_cons p1 p2 (assign_star hx), fun lk σ ρ ρ' F Fv G H vs ps Q gh so r d e k => ?_⟩
  cases ps with
  | nil => simp [bindTs] at e
  | cons p ps =>
    cases vs with
    | nil => exact absurd r.len (by simp)
    | cons v vs =>
      simp only [bindTs] at e
      cases hb : bindT lk t p ρ with
      | none => rw [hb] at e; cases e
      | some ρ1 =>
        rw [hb] at e
        obtain ⟨Fa, Fb, ra, rb, dab, mab⟩ := r.uncons
        refine ⟨v, vs, rfl, ?_⟩
        refine k1 lk σ ρ ρ1 F Fa G H v p _ gh so ra (fun a ha => d a ((mab a).mpr (.inl ha))) hb fun σ1 F1 so1 m1 j1 l1 q1 => ?_
        refine k2 lk σ1 ρ1 ρ' F1 Fb G H vs ps _ gh so1 rb (fun a ha q => ?_) e fun σ2 F2 so2 m2 j2 l2 q2 => ?_
        · rcases m1 a q with z | z
          · exact d a ((mab a).mpr (.inr ha)) z
          · exact dab a z ha
        · refine k σ2 F2 so2 (fun a ha => ?_) (fun j hj => ?_) (l2.trans l1) fun j hj => (q2 j hj).trans (q1 j hj)
          · rcases m2 a ha with z | z
            · rcases m1 a z with y | y
              · exact .inl y
              · exact .inr ((mab a).mpr (.inl y))
            · exact .inr ((mab a).mpr (.inr z))
          · simp only [slotsAll, List.mem_append, not_or] at hj
            exact (j2 j hj.2).trans (j1 j hj.1)
theorem assign_len {env : PySem.Env} : ∀ es : List Expr, es.all notStar = true → (assignEach es env).length = es.length ∧ (assignEach es env).findIdx? (·.1) = none
  | [], _ => ⟨rfl, rfl⟩
  | e :: es, h => by
    simp only [List.all_cons, Bool.and_eq_true] at h
    obtain ⟨i1, i2⟩ := assign_len (env := env) es h.2
    have hf : (assignEach (e :: es) env) = (false, assign e env) :: assignEach es env := by
      have h1 := h.1
      cases e <;> first | rfl | (simp [notStar] at h1)
    rw [hf]
    refine ⟨by simp [i1], ?_⟩
    rw [List.findIdx?_cons, i2]
    rfl
theorem sg_tup {ts : List Tg} {xs : List Expr} {k : Nat} {pos : Pos} (hc : X.calm = true) (hx : xs.all notStar = true) (h : SGs X ts xs) (hl : ts.length = xs.length) : SG X (.tp ts) (.Tuple xs k pos) := by
  obtain ⟨g, p, kk⟩ := h
  obtain ⟨a1, a2⟩ := assign_len (env := X.env) xs hx
  refine ⟨_, pg_tup hc p a1 a2, fun lk σ ρ ρ' F Fv G H v pv Q gh so r d e k => ?_⟩
  cases pv with
  | tup qs =>
    simp only [bindT] at e
    obtain ⟨a, ws, rfl, sa, ra⟩ := r.inv_tup
    have hb : ∀ (ts : List Tg) (qs : List PV) (ρ ρ' : Env), bindTs lk ts qs ρ = some ρ' → qs.length = ts.length := by
      intro ts
      induction ts with
      | nil => intro qs ρ ρ' e; cases qs with | nil => rfl | cons _ _ => simp [bindTs] at e
      | cons t ts ih =>
        intro qs ρ ρ' e
        cases qs with
        | nil => simp [bindTs] at e
        | cons q qs =>
          simp only [bindTs] at e
          cases h1 : bindT lk t q ρ with
          | none => rw [h1] at e; cases e
          | some ρ1 => rw [h1] at e; simp [ih qs ρ1 ρ' e]
    refine ⟨a, ws, rfl, sqT_mono gh sa, by rw [ra.len, hb ts qs ρ ρ' e, hl], ?_⟩
    exact kk lk σ ρ ρ' F Fv G H ws qs Q gh so ra d e fun σ' F' h1 h2 h3 h4 h5 => k σ' F' h1 h2 (fun j hj => h3 j (by simpa [Tg.slots] using hj)) h4 h5
  | _ => simp [bindT] at e
/-! ### what is walked -/
def OKi (K : PySem.W.Frag) (XR : XRT) (σ : Sl) (F : List Addr) (G H : Hp) (r : Res (List PV)) (R : L2.It → Hp → Prop) (E : XK) : Prop := match r with
  | .ok items ρ' => ∀ (J : L2.It) (Gd : Hp → Prop) (Y : Nat → Hp → V → Hp → Prop) G' H' F', Ext F G H G' H' → RS K G' H' σ ρ' F' → (∀ a ∈ F', a ∈ F) → Walk J items.length Gd Y → (∀ G2 H2, Same G' G2 → Same G2 H2 → Gd H2) →
      (∀ i G2 H2 x H3 p, items[i]? = some p → Same G' G2 → Same G2 H2 → Y i H2 x H3 → ∃ G3, Ext [] G2 H2 G3 H3 ∧ Same G3 H3 ∧ Rps K G3 H3 [x] [p] []) → R J H'
  | .exn c fs ρ' => ∀ cls d G' H' F', Ext F G H G' H' → RS K G' H' σ ρ' F' → (∀ a ∈ F', a ∈ F) → XR c fs cls d H' → E cls d H'
  | .bad => False
def SI (XR : XRT) (E : XK) (cf : CF) (X : Cx) (it : It) (tg e : Expr) : Prop := ∃ w, PI X tg e w ∧ ∀ (σ : Sl) (ρ : Env) (F : List Addr) (G H : Hp) (R : L2.It → Hp → Prop), RS X.K G H σ ρ F → OKi X.K XR σ F G H (evIt cf it ρ) R E → w σ H R
/-- a source that the loop cannot touch -/
def OKiR (K : PySem.W.Frag) (XR : XRT) (σ : Sl) (F : List Addr) (G H : Hp) (r : Res (List PV)) (R : L2.It → Hp → Prop) (E : XK) : Prop := match r with
  | .ok items ρ' => ∀ (J : L2.It) (Gd : Hp → Prop) (Y : Nat → Hp → V → Hp → Prop) G' H' F', Ext F G H G' H' → RS K G' H' σ ρ' F' → (∀ a ∈ F', a ∈ F) → Walk J items.length Gd Y → (∀ H2, Gd H2) →
      (∀ i G2 H2 x H3 p, items[i]? = some p → Same G2 H2 → Y i H2 x H3 → ∃ G3, Ext [] G2 H2 G3 H3 ∧ Same G3 H3 ∧ Rps K G3 H3 [x] [p] []) → R J H'
  | .exn c fs ρ' => ∀ cls d G' H' F', Ext F G H G' H' → RS K G' H' σ ρ' F' → (∀ a ∈ F', a ∈ F) → XR c fs cls d H' → E cls d H'
  | .bad => False
def SIr (XR : XRT) (E : XK) (cf : CF) (X : Cx) (it : It) (tg e : Expr) : Prop := ∃ w, PI X tg e w ∧ ∀ (σ : Sl) (ρ : Env) (F : List Addr) (G H : Hp) (R : L2.It → Hp → Prop), RS X.K G H σ ρ F → OKiR X.K XR σ F G H (evIt cf it ρ) R E → w σ H R
theorem SIr.si {it : It} {tg e : Expr} (h : SIr XR E cf X it tg e) : SI XR E cf X it tg e := by
  obtain ⟨w, p, g⟩ := h
  refine ⟨w, p, fun σ ρ F G H R st q => g σ ρ F G H R st ?_⟩
  cases hr : evIt cf it ρ with
  | bad => rw [hr] at q; exact q
  | exn cc fs ρ1 => rw [hr] at q; exact q
  | ok items ρ1 =>
    rw [hr] at q
    exact fun J Gd Y G' H' F' e1 st1 s1 walk hG hY => q J Gd Y G' H' F' e1 st1 s1 walk (fun _ _ _ _ => hG _) fun i G2 H2 x H3 p e sg gh y => hY i G2 H2 x H3 p e gh y
/-- items of a frozen source, as they stand -/
theorem at_item {K : PySem.W.Frag} {G' G2 H1 H2 H3 : Hp} {ws : List V} {qs : List PV} {x : V} {p : PV} {i : Nat} (r : Rps K G' H1 ws qs []) (e : qs[i]? = some p) (sg : Same G' G2) (gh : Same G2 H2) (y : YAt ws i H2 x H3) : ∃ G3, Ext [] G2 H2 G3 H3 ∧ Same G3 H3 ∧ Rps K G3 H3 [x] [p] [] := by
  obtain ⟨rfl, hx⟩ := y
  obtain ⟨v, F1, e1, e2, e3⟩ := r.get e
  rw [hx] at e1
  cases e1
  have : F1 = [] := List.eq_nil_iff_forall_not_mem.mpr fun a ha => by simpa using e3 a ha
  subst this
  exact ⟨G2, Ext.refl, gh, e2.mono sg (by simp)⟩
theorem pair_item {K : PySem.W.Frag} {G' G2 H1 H2 H3 : Hp} {fx fy : Nat → Option V} {x : V} {p q : PV} {i : Nat} (hx : ∀ v, fx i = some v → Rps K G' H1 [v] [p] []) (hy : ∀ v, fy i = some v → Rps K G' H1 [v] [q] []) (sg : Same G' G2) (gh : Same G2 H2) (y : YPair fx fy i H2 x H3) :
    ∃ G3, Ext [] G2 H2 G3 H3 ∧ Same G3 H3 ∧ Rps K G3 H3 [x] [.tup [p, q]] [] := by
  obtain ⟨T, a, b, rfl, hT, rfl, ha, hb⟩ := y
  have r1 : Rps K G2 H2 [a] [p] [] := (hx a ha).mono sg (by simp)
  have r2 : Rps K G2 H2 [b] [q] [] := (hy b hb).mono sg (by simp)
  obtain ⟨F, r, m⟩ := r1.append r2 (by simp)
  have : F = [] := List.eq_nil_iff_forall_not_mem.mpr fun a ha => by simpa using (m a).mp ha
  subst this
  exact ⟨upd G2 T (.tup [a, b]), ext_new gh hT, same_new gh, r.newTup gh hT⟩
theorem fzs_get (xs : List PV) (i : Nat) : (fzs xs)[i]? = (xs[i]?).map fz := by rw [fzs_map, List.getElem?_map]
theorem fzs_len (xs : List PV) : (fzs xs).length = xs.length := by rw [fzs_map, List.length_map]
/-- the source, frozen -/
theorem frozen {σ : Sl} {ρ1 : Env} {F F1 Fv : List Addr} {G H G1 H1 : Hp} {vs : List V} {ps : List PV} (e1 : Ext F G H G1 H1) (st1 : RS X.K G1 H1 σ ρ1 F1) (r1 : Rps X.K G1 H1 vs ps Fv) (d1 : ∀ a ∈ Fv, a ∉ F1 ∧ (a ∈ F ∨ H a = none)) :
    ∃ G', Ext F G H G' H1 ∧ RS X.K G' H1 σ ρ1 F1 ∧ Rps X.K G' H1 vs (fzs ps) [] := by
  have hB : ∀ a ∈ Fv, G1 a = none := fun a ha => (r1.inH a ha).2
  have ef : Ext Fv G1 H1 (frzH Fv H1 G1) H1 := ext_frz hB
  exact ⟨frzH Fv H1 G1, e1.trans ef fun a ha => (d1 a ha).2, ⟨frzH_gh st1.gh, st1.so.ext ef fun a ha q => (d1 a q).1 ha⟩, r1.freeze (frzH_sg hB) fun a ha => frzH_in ha⟩
def iSeq (K : PySem.W.Frag) (tl : TE) : TI := fun σ H R => tl σ H fun x H1 => (∃ a, x = .ref a ∧ ((∃ xs, SqL K H1 a xs) ∧ R (Itl K a) H1)) ∨ (∃ a, x = .ref a ∧ ((∃ xs, SqT K H1 a xs) ∧ R (Itt K a) H1)) ∨ ∃ z, x = .str z ∧ R (Its z) H1
theorem pi_seq {tg l : Expr} {tl : TE} (hl : PE X l tl) : PI X tg l (iSeq X.K tl) := by
  refine ⟨fun pins s σ H R I h => ?_⟩
  refine thn (hl.run pins s σ H _ I h) fun v s1 ⟨x, H1, I1, r1, q1⟩ => ?_
  have one : ∀ b : Addr, b ∈ [s1.heap.objs.size] → FpOk X pins H1 b := fun b hb => by
    have e : b = s1.heap.objs.size := by simpa using hb
    subst e
    exact I1.fpOk (Nat.le_refl _) (I1.hok.fresh (Nat.le_refl _))
  rcases q1 with ⟨a, e, ⟨xs, hq⟩, q⟩ | ⟨a, e, ⟨xs, hq⟩, q⟩ | ⟨z, e, q⟩
  · subst e
    cases r1
    obtain ⟨its, rv, p, hz⟩ := I1.list hq
    refine wpAny_pyIter_list p.isList ?_
    exact ⟨s1.heap.objs.size, [s1.heap.objs.size], _, _, H1, rfl, I1.kept (t' := s1.toks) fun b o e => Heap.get?_push_of_some _ e, turn_list a _, ⟨_, Heap.get?_push_size _ rfl, rfl, rfl⟩, one, q⟩
  · subst e
    cases r1
    obtain ⟨its, rv, p, hz⟩ := I1.tuple hq
    refine wpAny_pyIter_tuple p ?_
    exact ⟨s1.heap.objs.size, [s1.heap.objs.size], _, _, H1, rfl, I1.kept (t' := s1.toks) fun b o e => Heap.get?_push_of_some _ e, turn_tuple a _, ⟨_, Heap.get?_push_size _ rfl, rfl, rfl⟩, one, q⟩
  · subst e
    obtain ⟨t, rfl⟩ := r1
    cases ha : z.cps.all (· < 128)
    · exact wpAny_pyIter_wide ha (pi_one (tk := s1.toks) I1 _ (turn_str _ z t "str_iterator" (.inr rfl)) ⟨_, Heap.get?_push_size _ rfl, rfl, rfl⟩ q)
    · exact wpAny_pyIter_ascii ha (pi_one (tk := s1.toks) I1 _ (turn_str _ z t "str_ascii_iterator" (.inl rfl)) ⟨_, Heap.get?_push_size _ rfl, rfl, rfl⟩ q)
theorem si_seq {a : Ex} {tg x : Expr} (ha : SE XR E cf X a x) : SI XR E cf X (.seq a) tg x := by
  obtain ⟨ta, pa, ga⟩ := ha
  refine ⟨_, pi_seq pa, fun σ ρ F G H R st q => ?_⟩
  simp only [evIt] at q
  refine one ga st (Z := fun r => OKi X.K XR σ F G H (r.bind fun x ρ1 => Res.of (seqOf x) ρ1) R E) q ?_ (fun _ _ _ z => z) (fun z => z)
  intro p ρ1 z v G1 H1 F1 Fv e1 st1 s1 r1 d1
  simp only [Res.bind_ok] at z
  obtain ⟨G', eF, st', rf⟩ := frozen e1 st1 r1 d1
  cases p with
  | tup xs =>
    have z' : OKi X.K XR σ F G H (.ok (fzs xs) ρ1) R E := z
    obtain ⟨b, ws, rfl, sb, rb⟩ := rf.inv_tup
    refine .inr (.inl ⟨b, rfl, ⟨ws, sqT_mono st'.gh sb⟩, z' (Itt X.K b) (fun H => SqT X.K H b ws) (YAt ws) G' H1 F1 eF st' s1 ?_ (fun G2 H2 sg gh => sqT_mono gh (sqT_mono sg sb)) fun i G2 H2 x H3 p e sg gh y => at_item rb e sg gh y⟩)
    rw [← rb.len]; exact walk_tup (K := X.K) (a := b) (xs := ws)
  | lst u xs =>
    have z' : OKi X.K XR σ F G H (.ok (fzs xs) ρ1) R E := z
    obtain ⟨b, ws, rfl, sb, rb, _⟩ := rf.inv_lstF
    refine .inl ⟨b, rfl, ⟨ws, .of (st'.gh _ _ sb)⟩, z' (Itl X.K b) (fun H => SqL X.K H b ws) (YAt ws) G' H1 F1 eF st' s1 ?_ (fun G2 H2 sg gh => SqL.of (gh _ _ (sg _ _ sb))) fun i G2 H2 x H3 p e sg gh y => at_item rb e sg gh y⟩
    rw [← rb.len]; exact walk_list (K := X.K) (a := b) (xs := ws)
  | scr ns =>
    have z' : OKi X.K XR σ F G H (.ok (ns.map .int) ρ1) R E := z
    obtain ⟨b, rfl, sb, _⟩ := rf.inv_scr
    refine .inl ⟨b, rfl, ⟨_, st'.gh.seq sb⟩, z' (Itl X.K b) (fun H => SqL X.K H b (ns.map V.int)) (YAt (ns.map V.int)) G' H1 F1 eF st' s1 ?_ (fun G2 H2 sg gh => gh.seq (sg.seq sb)) fun i G2 H2 x H3 p e sg gh y => at_item (scr_cut X.K G' H1 ns) e sg gh y⟩
    have e : (ns.map PV.int).length = (ns.map V.int).length := by simp
    rw [e]; exact walk_list
  | str s =>
    have z' : OKi X.K XR σ F G H (.ok (s.cps.toList.map fun c => .str ⟨#[c]⟩) ρ1) R E := z
    obtain ⟨rfl, _⟩ := rf.inv_str
    refine .inr (.inr ⟨s, rfl, z' (Its s) (fun _ => True) (fun i H v H' => H' = H ∧ ∃ c, s.cps[i]? = some c ∧ v = .str ⟨#[c]⟩) G' H1 F1 eF st' s1 ?_ (fun _ _ _ _ => trivial) fun i G2 H2 x H3 p e sg gh y => ?_⟩)
    · have e : (s.cps.toList.map fun c => PV.str ⟨#[c]⟩).length = s.cps.size := by simp
      rw [e]; exact walk_str
    · obtain ⟨rfl, c, hc, rfl⟩ := y
      rw [List.getElem?_map] at e
      have h2 : s.cps.toList[i]? = some c := by simpa using hc
      rw [h2] at e
      cases e
      exact ⟨G2, Ext.refl, gh, .str .nil⟩
  | _ => exact z.elim
theorem small62_ok {i : Int} (h : small62 i = true) : -(2 ^ 62) ≤ i ∧ i < 2 ^ 62 := by
  simp only [small62, Bool.and_eq_true, decide_eq_true_eq] at h
  exact ⟨by have := h.1; omega, by have := h.2; omega⟩
theorem rangeL_get : ∀ (n i : Nat) (lo : Int) (p : PV), (rangeL lo n)[i]? = some p → p = .int (lo + i)
  | 0, i, lo, p, h => by simp [rangeL] at h
  | n + 1, 0, lo, p, h => by simp [rangeL] at h; rw [← h]; simp
  | n + 1, i + 1, lo, p, h => by
    have := rangeL_get n i (lo + 1) p (by simpa [rangeL] using h)
    rw [this]
    congr 1
    omega
theorem rangeL_len : ∀ (n : Nat) (lo : Int), (rangeL lo n).length = n
  | 0, _ => rfl
  | n + 1, lo => by simp [rangeL, rangeL_len n]
theorem rangeC_get : ∀ (n i : Nat) (lo c : Int) (p : PV), (rangeC lo c n)[i]? = some p → p = .int (lo + (i : Nat) * c)
  | 0, i, lo, c, p, h => by simp [rangeC] at h
  | n + 1, 0, lo, c, p, h => by simp [rangeC] at h; rw [← h]; simp
  | n + 1, i + 1, lo, c, p, h => by
    have := rangeC_get n i (lo + c) c p (by simpa [rangeC] using h)
    rw [this]
    congr 1
    have e : ((i + 1 : Nat) : Int) * c = c + (i : Int) * c := by rw [Int.natCast_add, Int.add_mul]; omega
    omega
theorem rangeC_len : ∀ (n : Nat) (lo c : Int), (rangeC lo c n).length = n
  | 0, _, _ => rfl
  | n + 1, lo, c => by simp [rangeC, rangeC_len n]
theorem fn_item {K : PySem.W.Frag} {G2 H2 H3 : Hp} {f : Nat → V} {x : V} {p : PV} {i : Nat} (h : ∀ G H, Rps K G H [f i] [p] []) (gh : Same G2 H2) (y : YFn f i H2 x H3) : ∃ G3, Ext [] G2 H2 G3 H3 ∧ Same G3 H3 ∧ Rps K G3 H3 [x] [p] [] := by
  obtain ⟨rfl, rfl⟩ := y
  exact ⟨G2, Ext.refl, gh, h _ _⟩
/-- one expression, its items -/
theorem oneI {ta : TE} {a : Ex} {σ : Sl} {ρ : Env} {F : List Addr} {G H : Hp} {R : L2.It → Hp → Prop} {R2 : VK} {f : PV → Option (List PV)} (ga : GE X.K XR E cf ta a) (st : RS X.K G H σ ρ F)
    (q : OKi X.K XR σ F G H ((evE cf a ρ).bind fun x ρ1 => Res.of (f x) ρ1) R E)
    (k : ∀ px items ρ1 x G1 H1 F1 Fv, f px = some items → OKi X.K XR σ F G H (.ok items ρ1) R E → Ext F G H G1 H1 → RS X.K G1 H1 σ ρ1 F1 → (∀ a ∈ F1, a ∈ F) → Rps X.K G1 H1 [x] [px] Fv → (∀ a ∈ Fv, a ∉ F1 ∧ (a ∈ F ∨ H a = none)) → R2 x H1) : ta σ H R2 := by
  refine one ga st (Z := fun r => OKi X.K XR σ F G H (r.bind fun x ρ1 => Res.of (f x) ρ1) R E) q ?_ (fun _ _ _ z => z) (fun z => z)
  intro p ρ1 z v G1 H1 F1 Fv e1 st1 s1 r1 d1
  simp only [Res.bind_ok] at z
  cases hf : f p with
  | none => rw [hf] at z; exact z.elim
  | some items => rw [hf] at z; exact k p items ρ1 v G1 H1 F1 Fv hf z e1 st1 s1 r1 d1
theorem twoI {ta tb : TE} {a b : Ex} {σ : Sl} {ρ : Env} {F : List Addr} {G H : Hp} {R : L2.It → Hp → Prop} {R2 : V → V → Hp → Prop} {f : PV → PV → Option (List PV)} (ga : GE X.K XR E cf ta a) (gb : GE X.K XR E cf tb b) (st : RS X.K G H σ ρ F)
    (q : OKi X.K XR σ F G H ((evE cf a ρ).bind fun x ρ1 => (evE cf b ρ1).bind fun y ρ2 => Res.of (f x y) ρ2) R E)
    (k : ∀ px py items ρ2 x y G2 H2 F2 Fs, f px py = some items → OKi X.K XR σ F G H (.ok items ρ2) R E → Ext F G H G2 H2 → RS X.K G2 H2 σ ρ2 F2 → (∀ a ∈ F2, a ∈ F) → Rps X.K G2 H2 [x, y] [px, py] Fs → (∀ a ∈ Fs, a ∉ F2 ∧ (a ∈ F ∨ H a = none)) → R2 x y H2) : ta σ H fun x H1 => tb σ H1 fun y H2 => R2 x y H2 := by
  refine one ga st (Z := fun r => OKi X.K XR σ F G H (r.bind fun x ρ1 => (evE cf b ρ1).bind fun y ρ2 => Res.of (f x y) ρ2) R E) q ?_ (fun _ _ _ z => z) (fun z => z)
  intro px ρ1 z x G1 H1 F1 Fx e1 st1 s1 r1 d1
  simp only [Res.bind_ok] at z
  refine one gb st1 (Z := fun r => OKi X.K XR σ F G H (r.bind fun y ρ2 => Res.of (f px y) ρ2) R E) z ?_ ?_ (fun z => z)
  · intro py ρ2 z2 y G2 H2 F2 Fy e2 st2 s2 r2 d2
    simp only [Res.bind_ok] at z2
    cases hf : f px py with
    | none => rw [hf] at z2; exact z2.elim
    | some items =>
      rw [hf] at z2
      obtain ⟨Fs, rs, ms⟩ := (r1.ext e2 fun a ha => (d1 a ha).1).append r2 (fun a ha q => by
        obtain ⟨⟨us, y⟩, _⟩ := r1.inH a ha
        rcases (d2 a q).2 with w | w
        · exact (d1 a ha).1 w
        · rw [y] at w; cases w)
      refine k px py items ρ2 x y G2 H2 F2 Fs hf z2 (e1.trans e2 fun a ha => .inl (s1 a ha)) st2 (fun a ha => s1 a (s2 a ha)) rs fun a ha => ?_
      rcases (ms a).mp ha with y | y
      · exact ⟨fun q => (d1 a y).1 (s2 a q), (d1 a y).2⟩
      · refine ⟨(d2 a y).1, ?_⟩
        rcases (d2 a y).2 with w | w
        · exact .inl (s1 a w)
        · exact .inr (e1.none w)
  · intro cc fs ρ2 z2 cls d G' H' F' e2 rs2 s2 x2
    exact z2 cls d G' H' F' (e1.trans e2 fun a ha => .inl (s1 a ha)) rs2 (fun a ha => s1 a (s2 a ha)) x2
/-- one expression, its items -/
theorem oneIr {ta : TE} {a : Ex} {σ : Sl} {ρ : Env} {F : List Addr} {G H : Hp} {R : L2.It → Hp → Prop} {R2 : VK} {f : PV → Option (List PV)} (ga : GE X.K XR E cf ta a) (st : RS X.K G H σ ρ F)
    (q : OKiR X.K XR σ F G H ((evE cf a ρ).bind fun x ρ1 => Res.of (f x) ρ1) R E)
    (k : ∀ px items ρ1 x G1 H1 F1 Fv, f px = some items → OKiR X.K XR σ F G H (.ok items ρ1) R E → Ext F G H G1 H1 → RS X.K G1 H1 σ ρ1 F1 → (∀ a ∈ F1, a ∈ F) → Rps X.K G1 H1 [x] [px] Fv → (∀ a ∈ Fv, a ∉ F1 ∧ (a ∈ F ∨ H a = none)) → R2 x H1) : ta σ H R2 := by
  refine one ga st (Z := fun r => OKiR X.K XR σ F G H (r.bind fun x ρ1 => Res.of (f x) ρ1) R E) q ?_ (fun _ _ _ z => z) (fun z => z)
  intro p ρ1 z v G1 H1 F1 Fv e1 st1 s1 r1 d1
  simp only [Res.bind_ok] at z
  cases hf : f p with
  | none => rw [hf] at z; exact z.elim
  | some items => rw [hf] at z; exact k p items ρ1 v G1 H1 F1 Fv hf z e1 st1 s1 r1 d1
theorem twoIr {ta tb : TE} {a b : Ex} {σ : Sl} {ρ : Env} {F : List Addr} {G H : Hp} {R : L2.It → Hp → Prop} {R2 : V → V → Hp → Prop} {f : PV → PV → Option (List PV)} (ga : GE X.K XR E cf ta a) (gb : GE X.K XR E cf tb b) (st : RS X.K G H σ ρ F)
    (q : OKiR X.K XR σ F G H ((evE cf a ρ).bind fun x ρ1 => (evE cf b ρ1).bind fun y ρ2 => Res.of (f x y) ρ2) R E)
    (k : ∀ px py items ρ2 x y G2 H2 F2 Fs, f px py = some items → OKiR X.K XR σ F G H (.ok items ρ2) R E → Ext F G H G2 H2 → RS X.K G2 H2 σ ρ2 F2 → (∀ a ∈ F2, a ∈ F) → Rps X.K G2 H2 [x, y] [px, py] Fs → (∀ a ∈ Fs, a ∉ F2 ∧ (a ∈ F ∨ H a = none)) → R2 x y H2) : ta σ H fun x H1 => tb σ H1 fun y H2 => R2 x y H2 := by
  refine one ga st (Z := fun r => OKiR X.K XR σ F G H (r.bind fun x ρ1 => (evE cf b ρ1).bind fun y ρ2 => Res.of (f x y) ρ2) R E) q ?_ (fun _ _ _ z => z) (fun z => z)
  intro px ρ1 z x G1 H1 F1 Fx e1 st1 s1 r1 d1
  simp only [Res.bind_ok] at z
  refine one gb st1 (Z := fun r => OKiR X.K XR σ F G H (r.bind fun y ρ2 => Res.of (f px y) ρ2) R E) z ?_ ?_ (fun z => z)
  · intro py ρ2 z2 y G2 H2 F2 Fy e2 st2 s2 r2 d2
    simp only [Res.bind_ok] at z2
    cases hf : f px py with
    | none => rw [hf] at z2; exact z2.elim
    | some items =>
      rw [hf] at z2
      obtain ⟨Fs, rs, ms⟩ := (r1.ext e2 fun a ha => (d1 a ha).1).append r2 (fun a ha q => by
        obtain ⟨⟨us, y⟩, _⟩ := r1.inH a ha
        rcases (d2 a q).2 with w | w
        · exact (d1 a ha).1 w
        · rw [y] at w; cases w)
      refine k px py items ρ2 x y G2 H2 F2 Fs hf z2 (e1.trans e2 fun a ha => .inl (s1 a ha)) st2 (fun a ha => s1 a (s2 a ha)) rs fun a ha => ?_
      rcases (ms a).mp ha with y | y
      · exact ⟨fun q => (d1 a y).1 (s2 a q), (d1 a y).2⟩
      · refine ⟨(d2 a y).1, ?_⟩
        rcases (d2 a y).2 with w | w
        · exact .inl (s1 a w)
        · exact .inr (e1.none w)
  · intro cc fs ρ2 z2 cls d G' H' F' e2 rs2 s2 x2
    exact z2 cls d G' H' F' (e1.trans e2 fun a ha => .inl (s1 a ha)) rs2 (fun a ha => s1 a (s2 a ha)) x2
theorem range_items {lo : Int} {n : Nat} : ∀ i G2 H2 x H3 p, (rangeL lo n)[i]? = some p → Same G2 H2 → YFn (fun i => V.int (lo + i)) i H2 x H3 → ∃ G3, Ext [] G2 H2 G3 H3 ∧ Same G3 H3 ∧ Rps X.K G3 H3 [x] [p] [] := by
  intro i G2 H2 x H3 p e gh y
  exact fn_item (fun G H => by rw [rangeL_get _ _ _ _ e]; exact .int .nil) gh y
theorem si_range1r {a : Ex} {tg x : Expr} {p pos : Pos} (k : XOk c XR E cf X) (hg : Gl X "range") (hx : notStar x = true) (ha : SE XR E cf X a x) : SIr XR E cf X (.range1 a) tg (.Call (.Name "range" p) [x] [] pos) := by
  obtain ⟨ta, pa, ga⟩ := ha
  refine ⟨_, pi_range1 hg (k.blt _ (by decide +kernel)) (pa_cons pa pa_nil (star_cons hx)) (by rw [star_cons hx]; rfl), fun σ ρ F G H R st q => ?_⟩
  simp only [evIt] at q
  refine oneIr ga st q fun px items ρ1 x G1 H1 F1 Fv hf z e1 st1 s1 r1 d1 => ?_
  unfold range1V at hf
  split at hf
  · split at hf
    · cases hf
      rename_i j hj
      obtain ⟨rfl, _⟩ := r1.inv_int
      obtain ⟨b1, b2⟩ := small62_ok hj
      refine ⟨j, rfl, b1, b2, z _ _ _ G1 H1 F1 e1 st1 s1 (by rw [rangeL_len]; exact walk_range) (fun _ => trivial) fun i G2 H2 x H3 p e gh y => range_items i G2 H2 x H3 p e gh y⟩
    · cases hf
  · cases hf
theorem si_range1 {a : Ex} {tg x : Expr} {p pos : Pos} (k : XOk c XR E cf X) (hg : Gl X "range") (hx : notStar x = true) (ha : SE XR E cf X a x) : SI XR E cf X (.range1 a) tg (.Call (.Name "range" p) [x] [] pos) := (si_range1r k hg hx ha).si
theorem si_range2r {a b : Ex} {tg x y : Expr} {p pos : Pos} (k : XOk c XR E cf X) (hg : Gl X "range") (hx : notStar x = true) (hy : notStar y = true) (ha : SE XR E cf X a x) (hb : SE XR E cf X b y) : SIr XR E cf X (.range2 a b) tg (.Call (.Name "range" p) [x, y] [] pos) := by
  obtain ⟨ta, pa, ga⟩ := ha
  obtain ⟨tb, pb, gb⟩ := hb
  refine ⟨_, pi_range2 hg (k.blt _ (by decide +kernel)) (pa_cons pa (pa_cons pb pa_nil (star_cons hy)) (star_cons hx)) (by rw [star_cons hx, star_cons hy]; rfl) (by rw [star_cons hy]; rfl), fun σ ρ F G H R st q => ?_⟩
  simp only [evIt] at q
  refine twoIr ga gb st q fun px py items ρ1 x y G1 H1 F1 Fv hf z e1 st1 s1 r1 d1 => ?_
  unfold range2V at hf
  split at hf
  · split at hf
    · cases hf
      rename_i i j hj
      simp only [Bool.and_eq_true] at hj
      obtain ⟨v, w, Fa, Fb, ev, ra, rb, _⟩ := rps2 r1
      cases ev
      obtain ⟨rfl, _⟩ := ra.inv_int
      obtain ⟨rfl, _⟩ := rb.inv_int
      obtain ⟨b1, b2⟩ := small62_ok hj.1
      obtain ⟨b3, b4⟩ := small62_ok hj.2
      exact ⟨i, j, rfl, ⟨b1, b2, b3, b4⟩, z _ _ _ G1 H1 F1 e1 st1 s1 (by rw [rangeL_len]; exact walk_range) (fun _ => trivial) fun i G2 H2 x H3 p e gh y => range_items i G2 H2 x H3 p e gh y⟩
    · cases hf
  · cases hf
theorem si_range2 {a b : Ex} {tg x y : Expr} {p pos : Pos} (k : XOk c XR E cf X) (hg : Gl X "range") (hx : notStar x = true) (hy : notStar y = true) (ha : SE XR E cf X a x) (hb : SE XR E cf X b y) : SI XR E cf X (.range2 a b) tg (.Call (.Name "range" p) [x, y] [] pos) := (si_range2r k hg hx hy ha hb).si
theorem zipL_get : ∀ (xs ys : List PV) (i : Nat) (p : PV), (zipL xs ys)[i]? = some p → ∃ x y, xs[i]? = some x ∧ ys[i]? = some y ∧ p = .tup [x, y]
  | [], _, i, p, h => by simp [zipL] at h
  | _ :: _, [], i, p, h => by simp [zipL] at h
  | x :: xs, y :: ys, 0, p, h => by simp [zipL] at h; exact ⟨x, y, rfl, rfl, h.symm⟩
  | x :: xs, y :: ys, i + 1, p, h => by
    obtain ⟨a, b, e1, e2, e3⟩ := zipL_get xs ys i p (by simpa [zipL] using h)
    exact ⟨a, b, by simpa using e1, by simpa using e2, e3⟩
theorem zipL_len : ∀ (xs ys : List PV), (zipL xs ys).length = min xs.length ys.length
  | [], _ => by simp [zipL]
  | _ :: _, [] => by simp [zipL]
  | x :: xs, y :: ys => by simp [zipL, zipL_len xs ys]
theorem enumL_get : ∀ (xs : List PV) (i : Nat) (k : Int) (p : PV), (enumL k xs)[i]? = some p → ∃ x, xs[i]? = some x ∧ p = .tup [.int (k + i), x]
  | [], i, k, p, h => by simp [enumL] at h
  | x :: xs, 0, k, p, h => by simp [enumL] at h; exact ⟨x, rfl, by rw [← h]; simp⟩
  | x :: xs, i + 1, k, p, h => by
    obtain ⟨a, e1, e2⟩ := enumL_get xs i (k + 1) p (by simpa [enumL] using h)
    refine ⟨a, by simpa using e1, ?_⟩
    rw [e2]
    congr 3
    omega
theorem enumL_len : ∀ (xs : List PV) (k : Int), (enumL k xs).length = xs.length
  | [], _ => rfl
  | x :: xs, k => by simp [enumL, enumL_len xs]
theorem rps_at {K : PySem.W.Frag} {G H : Hp} {ws : List V} {qs : List PV} {i : Nat} {p : PV} (r : Rps K G H ws qs []) (e : qs[i]? = some p) : ∀ v, ws[i]? = some v → Rps K G H [v] [p] [] := fun v hv => by
  obtain ⟨w, F1, e1, e2, e3⟩ := r.get e
  rw [hv] at e1
  cases e1
  have : F1 = [] := List.eq_nil_iff_forall_not_mem.mpr fun a ha => by simpa using e3 a ha
  subst this
  exact e2
theorem si_zip {a b : Ex} {x y : Expr} {elts : List Expr} {kk : Nat} {tpos p pos : Pos} (k : XOk c XR E cf X) (hg : Gl X "zip") (hx : notStar x = true) (hy : notStar y = true) (ha : SE XR E cf X a x) (hb : SE XR E cf X b y) : SI XR E cf X (.zip a b) (.Tuple elts kk tpos) (.Call (.Name "zip" p) [x, y] [] pos) := by
  obtain ⟨ta, pa, ga⟩ := ha
  obtain ⟨tb, pb, gb⟩ := hb
  refine ⟨_, RZ.pi_zipA hg (k.blt _ (by decide +kernel)) (pa_cons pa (pa_cons pb pa_nil (star_cons hy)) (star_cons hx)) (star_cons hx) (by rw [star_cons hy]; rfl), fun σ ρ F G H R st q => ?_⟩
  simp only [evIt] at q
  refine twoI ga gb st q fun px py items ρ1 x y G1 H1 F1 Fv hf z e1 st1 s1 r1 d1 => ?_
  obtain ⟨G', eF, st', rf⟩ := frozen e1 st1 r1 d1
  obtain ⟨v, w, Fa, Fb, ev, ra, rb, mab⟩ := rps2 rf
  cases ev
  have fa0 : Fa = [] := List.eq_nil_iff_forall_not_mem.mpr fun a ha => by simpa using (mab a).mpr (.inl ha)
  have fb0 : Fb = [] := List.eq_nil_iff_forall_not_mem.mpr fun a ha => by simpa using (mab a).mpr (.inr ha)
  subst fa0 fb0
  unfold zipV at hf
  split at hf
  · cases hf
    obtain ⟨a1, ws, rfl, sa, rwa⟩ := ra.inv_tup
    obtain ⟨b1, us, rfl, sb, rub⟩ := rb.inv_tup
    refine ⟨a1, b1, ws, us, rfl, .inr ⟨sqT_mono st'.gh sa, sqT_mono st'.gh sb, z (RZ.ItzT X.K a1 b1) (fun H => SqT X.K H a1 ws ∧ SqT X.K H b1 us) (YPair (fun i => ws[i]?) (fun i => us[i]?)) G' H1 F1 eF st' s1 ?_ (fun G2 H2 sg gh => ⟨sqT_mono gh (sqT_mono sg sa), sqT_mono gh (sqT_mono sg sb)⟩) ?_⟩⟩
    · exact walk_zipT (by rw [zipL_len, rwa.len, rub.len])
    · intro i G2 H2 x H3 p e sg gh y
      obtain ⟨px, py, ex, ey, rfl⟩ := zipL_get _ _ _ _ e
      exact pair_item (rps_at rwa ex) (rps_at rub ey) sg gh y
  · cases hf
    obtain ⟨a1, ws, rfl, sa, rwa, _⟩ := ra.inv_lstF
    obtain ⟨b1, us, rfl, sb, rub, _⟩ := rb.inv_lstF
    refine ⟨a1, b1, ws, us, rfl, .inl ⟨.of (st'.gh _ _ sa), .of (st'.gh _ _ sb), z (Itz X.K a1 b1) (fun H => SqL X.K H a1 ws ∧ SqL X.K H b1 us) (YPair (fun i => ws[i]?) (fun i => us[i]?)) G' H1 F1 eF st' s1 ?_ (fun G2 H2 sg gh => ⟨.of (gh _ _ (sg _ _ sa)), .of (gh _ _ (sg _ _ sb))⟩) ?_⟩⟩
    · exact walk_zip (by rw [zipL_len, rwa.len, rub.len])
    · intro i G2 H2 x H3 p e sg gh y
      obtain ⟨px, py, ex, ey, rfl⟩ := zipL_get _ _ _ _ e
      exact pair_item (rps_at rwa ex) (rps_at rub ey) sg gh y
  · cases hf
theorem si_enum {a : Ex} {x : Expr} {elts : List Expr} {kk : Nat} {tpos p pos : Pos} (k : XOk c XR E cf X) (hg : Gl X "enumerate") (hx : notStar x = true) (ha : SE XR E cf X a x) : SI XR E cf X (.enum a) (.Tuple elts kk tpos) (.Call (.Name "enumerate" p) [x] [] pos) := by
  obtain ⟨ta, pa, ga⟩ := ha
  refine ⟨_, pi_enumA hg (k.blt _ (by decide +kernel)) (pa_cons pa pa_nil (star_cons hx)) (by rw [star_cons hx]; rfl), fun σ ρ F G H R st q => ?_⟩
  simp only [evIt] at q
  refine oneI ga st q fun px items ρ1 x G1 H1 F1 Fv hf z e1 st1 s1 r1 d1 => ?_
  obtain ⟨G', eF, st', rf⟩ := frozen e1 st1 r1 d1
  unfold enumV at hf
  split at hf
  · cases hf
    obtain ⟨a1, ws, rfl, sa, rwa⟩ := rf.inv_tup
    refine ⟨a1, ws, rfl, .inr ⟨sqT_mono st'.gh sa, z (IteT X.K a1) (fun H => SqT X.K H a1 ws) (YPair (fun i => some (.int (i : Nat))) (fun i => ws[i]?)) G' H1 F1 eF st' s1 ?_ (fun G2 H2 sg gh => sqT_mono gh (sqT_mono sg sa)) ?_⟩⟩
    · rw [enumL_len, ← rwa.len]; exact walk_enumT
    · intro i G2 H2 x H3 p e sg gh y
      obtain ⟨py, ey, rfl⟩ := enumL_get _ _ _ _ e
      exact pair_item (H1 := H1) (fun v hv => by cases hv; rw [Int.zero_add]; exact .int .nil) (rps_at rwa ey) sg gh y
  · cases hf
    obtain ⟨a1, ws, rfl, sa, rwa, _⟩ := rf.inv_lstF
    refine ⟨a1, ws, rfl, .inl ⟨.of (st'.gh _ _ sa), z (Ite X.K a1) (fun H => SqL X.K H a1 ws) (YPair (fun i => some (.int (i : Nat))) (fun i => ws[i]?)) G' H1 F1 eF st' s1 ?_ (fun G2 H2 sg gh => .of (gh _ _ (sg _ _ sa))) ?_⟩⟩
    · rw [enumL_len, ← rwa.len]; exact walk_enum
    · intro i G2 H2 x H3 p e sg gh y
      obtain ⟨py, ey, rfl⟩ := enumL_get _ _ _ _ e
      exact pair_item (H1 := H1) (fun v hv => by cases hv; rw [Int.zero_add]; exact .int .nil) (rps_at rwa ey) sg gh y
  · cases hf
end
end LC
end

section
set_option Elab.async false
set_option linter.all false
set_option maxRecDepth 100000
set_option maxHeartbeats 1000000
namespace LC
open PySem PySem.Spec L2
/-! ### comprehensions -/
theorem wipe_in {σ : Sl} {j : Nat} (hj : j < σ.length) : ∀ {vs : List Nat}, j ∈ vs → (wipe σ vs)[j]? = some none
  | [], h => by simp at h
  | v :: vs, h => by
    unfold wipe
    by_cases e : v = j
    · subst e
      rw [List.getElem?_set_self (by rw [wipe_length]; exact hj)]
    · rw [List.getElem?_set_ne e]
      exact wipe_in hj (by rcases List.mem_cons.mp h with z | z; exact absurd z.symm e; exact z)
theorem wipe_eq {σ σ' : Sl} {vs : List Nat} (hl : σ'.length = σ.length) (h : ∀ j, j ∉ vs → σ'[j]? = σ[j]?) : wipe σ' vs = wipe σ vs := by
  apply List.ext_getElem?
  intro j
  by_cases hj : j ∈ vs
  · by_cases hlt : j < σ.length
    · rw [wipe_in hlt hj, wipe_in (by omega) hj]
    · rw [List.getElem?_eq_none (by rw [wipe_length]; omega), List.getElem?_eq_none (by rw [wipe_length]; omega)]
  · rw [wipe_out hj, wipe_out hj]; exact h j hj
theorem sel_idem {f : Nat → Bool} : ∀ (ρ : Env) (z : Nat), selS f z (selS f z ρ) = selS f z ρ
  | [], _ => rfl
  | a :: l, z => by
    simp only [selS]
    rw [sel_idem l]
    by_cases h : f z = true
    · simp [h]
    · simp [h]
theorem wipe_idem {ρ : Env} {vs : List Nat} : wipeS (wipeS ρ vs) vs = wipeS ρ vs := sel_idem ρ 0
theorem compL_noexn {bd : PV → Env → Option Env} {wp : Env → Env} {cond : Env → Res Bool} {elt : Env → Res PV} : ∀ (xs : List PV) (ρ : Env) (acc : List PV) (c : Str) (fs : List PV) (ρ' : Env), compL bd wp cond elt xs ρ acc ≠ .exn c fs ρ'
  | [], ρ, acc, c, fs, ρ' => by simp [compL]
  | x :: xs, ρ, acc, c, fs, ρ' => by
    simp only [compL]
    split
    · simp
    · split
      · split
        · split
          · exact compL_noexn xs _ _ c fs ρ'
          · simp
        · simp
      · exact compL_noexn xs _ _ c fs ρ'
      · simp
section
variable {c : CK} {XR : XRT} {E : XK} {cf : CF} {X : Cx}
theorem pe_weak {e : Expr} {t t' : TE} (h : PE X e t') (w : ∀ σ H Q, t σ H Q → t' σ H Q) : PE X e t := ⟨fun pins s σ H Q I hw => h.run pins s σ H Q I (w σ H Q hw)⟩
theorem uniE {ι : Type} {Xs : ι → Cx} {K : PySem.W.Frag} {a : Ex} {e : Expr} (hK : ∀ j, (Xs j).K = K) (h : ∀ j, SE XR E cf (Xs j) a e) : ∃ t, (∀ j, PE (Xs j) e t) ∧ GE K XR E cf t a := by
  have h : ∀ j, ∃ t, PE (Xs j) e t ∧ GE K XR E cf t a := fun j => by have z := h j; unfold SE at z; rw [hK j] at z; exact z
  exact ⟨fun σ H Q => ∀ j, Classical.choose (h j) σ H Q, fun j => pe_weak (Classical.choose_spec (h j)).1 fun σ H Q hw => hw j, fun σ ρ F G H Q st q j => (Classical.choose_spec (h j)).2 σ ρ F G H Q st q⟩
theorem uniG {ι : Type} {Xs : ι → Cx} {K : PySem.W.Frag} {tg : Tg} {e : Expr} (hK : ∀ j, (Xs j).K = K) (h : ∀ j, SG (Xs j) tg e) : ∃ g, (∀ j, PG (Xs j) e g) ∧ ∀ (lk : List Nat) (σ : Sl) (ρ ρ' : Env) (F Fv : List Addr) (G H : Hp) (v : V) (p : PV) (Q : Sl → Hp → Prop), Same G H → Rso K G H σ ρ F → Rps K G H [v] [p] Fv → (∀ a ∈ Fv, a ∉ F) →
  bindT lk tg p ρ = some ρ' → (∀ σ' F', Rso K G H σ' ρ' F' → (∀ a ∈ F', a ∈ F ∨ a ∈ Fv) → (∀ j, j ∉ tg.slots → σ'[j]? = σ[j]?) → σ'.length = σ.length → (∀ j ∈ lk, σ'[j]? = σ[j]?) → Q σ' H) → g v σ H Q := by
  have h : ∀ j, ∃ g, PG (Xs j) e g ∧ _ := fun j => by have z := h j; unfold SG at z; rw [hK j] at z; exact z
  exact ⟨fun v σ H Q => ∀ j, Classical.choose (h j) v σ H Q, fun j => ⟨fun pins s σ H v u Q I r hw => (Classical.choose_spec (h j)).1.run pins s σ H v u Q I r (hw j)⟩, fun lk σ ρ ρ' F Fv G H v p Q gh so r d e k j => (Classical.choose_spec (h j)).2 lk σ ρ ρ' F Fv G H v p Q gh so r d e k⟩
/-- a comprehension's tests -/
def GC (K : PySem.W.Frag) (XR : XRT) (E : XK) (cf : CF) (t : TT) (a : Exs) : Prop := ∀ (σ : Sl) (ρ : Env) (F : List Addr) (G H : Hp) (Q : Bool → Hp → Prop), RS K G H σ ρ F → OKt K XR σ F G H (evC cf a ρ) Q E → t σ H Q
def SC (XR : XRT) (E : XK) (cf : CF) (X : Cx) (a : Exs) (ifs : List Expr) : Prop := ∃ t, PTs X ifs t ∧ GC X.K XR E cf t a
theorem sc_nil : SC XR E cf X .nil [] := ⟨_, pts_nil, fun σ ρ F G H Q st q => by
  simp only [evC] at q
  exact q G H F Ext.refl st fun _ h => h⟩
theorem sc_one {a : Ex} {as : Exs} {x : Expr} (h : ST XR E cf X a x) : SC XR E cf X (.cons a as) [x] := by
  obtain ⟨t, p, g⟩ := h
  exact ⟨t, pts_one p, fun σ ρ F G H Q st q => g σ ρ F G H Q st (by simpa only [evC] using q)⟩
theorem uniC {ι : Type} {Xs : ι → Cx} {K : PySem.W.Frag} {a : Exs} {e : List Expr} (hK : ∀ j, (Xs j).K = K) (h : ∀ j, SC XR E cf (Xs j) a e) : ∃ t, (∀ j, PTs (Xs j) e t) ∧ GC K XR E cf t a := by
  have h : ∀ j, ∃ t, PTs (Xs j) e t ∧ GC K XR E cf t a := fun j => by have z := h j; unfold SC at z; rw [hK j] at z; exact z
  exact ⟨fun σ H Q => ∀ j, Classical.choose (h j) σ H Q, fun j => ⟨fun pins s σ H Q I hw => (Classical.choose_spec (h j)).1.run pins s σ H Q I (hw j)⟩, fun σ ρ F G H Q st q j => (Classical.choose_spec (h j)).2 σ ρ F G H Q st q⟩
/-- the contexts of a comprehension's block -/
structure Blk where
  s : Shared
  H : Hp
  C : Addr
  cl : List (Str × Addr)
  fp : List Addr
abbrev blkX (X : Cx) (scope : Scope) (b : Blk) : Cx := X.blk b.s b.H scope (compEnvC scope b.cl b.C X.env) b.fp
theorem se_comp {elt : Ex} {tg : Tg} {it : It} {cond : Exs} {ee te ie : Expr} {ifs : List Expr} {scope : Scope} {own : List (Str × Nat)} {pos : Pos} (k : XOk c XR E cf X) (hi : SI XR E cf X it te ie) (ok : BlkOk X.N X.env.scope scope own) (hown : own.map (·.2) = tg.slots) (hset : notSet ie = true)
    (hg : ∀ b, SG (blkX X scope b) tg te) (ht : ∀ b, SC XR E0 cf (blkX X scope b) cond ifs) (he : ∀ b, SE XR E0 cf (blkX X scope b) elt ee) :
    (∃ wi g tt tee, PI X te ie wi ∧ (∀ b, PG (blkX X scope b) te g) ∧ (∀ b, PTs (blkX X scope b) ifs tt) ∧ (∀ b, PE (blkX X scope b) ee tee) ∧ GE X.K XR E cf (tLc wi g tt tee (own.map (·.2))) (.comp elt tg it cond)) := by
  obtain ⟨wi, pi, gi⟩ := hi
  obtain ⟨g, pg, gg⟩ := uniG (Xs := blkX X scope) (K := X.K) (fun _ => rfl) hg
  obtain ⟨tt, pt, gt⟩ := uniC (Xs := blkX X scope) (K := X.K) (fun _ => rfl) ht
  obtain ⟨tee, pe, ge⟩ := uniE (Xs := blkX X scope) (K := X.K) (fun _ => rfl) he
  refine ⟨wi, g, tt, tee, pi, pg, pt, pe, fun σ ρ F G H Q st q => ?_⟩
  rw [hown]
  refine gi σ ρ F G H _ st ?_
  simp only [evE] at q
  cases hit : evIt cf it ρ with
  | bad => rw [hit] at q; exact q
  | exn cc fs ρ1 => rw [hit] at q; exact q
  | ok items ρ1 =>
    rw [hit] at q
    simp only [Res.bind_ok] at q
    intro J Gd Y G1 H1 F1 e1 st1 s1 walk hGd hY D hD
    cases hcl : compL (bindT [] tg) (fun r => wipeS r tg.slots) (fun r => evC cf cond r) (fun r => evE cf elt r) items (wipeS ρ1 tg.slots) [] with
    | bad => rw [hcl] at q; exact q.elim
    | exn cc fs ρ2 => exact absurd hcl (compL_noexn _ _ _ _ _ _)
    | ok ys ρ2 =>
      rw [hcl] at q
      simp only [Res.bind_ok] at q
      obtain ⟨Fo, Fw, so_o, so_w, dow, mow⟩ := st1.so.split (fun i => tg.slots.contains i) 0
      have so_w : Rso X.K G1 H1 σ (wipeS ρ1 tg.slots) Fw := so_w
      have wcong : ∀ {G H : Hp} {ρ' : Env} {F' : List Addr} {σ' : Sl}, σ'.length = σ.length → (∀ j, j ∉ tg.slots → σ'[j]? = σ[j]?) → Rso X.K G H σ' (wipeS ρ' tg.slots) F' → Rso X.K G H (wipe σ tg.slots) (wipeS ρ' tg.slots) F' := by
        intro G H ρ' F' σ' hl hj so
        refine so.congr (by rw [wipe_length, hl]) fun i hi => ?_
        have hi' : i ∉ tg.slots := by
          intro z
          apply hi
          unfold wipeS
          rw [getS_sel]
          simp [z]
        rw [wipe_out hi', hj i hi']
      have DFw : D ∉ Fw := fun z => by
        obtain ⟨⟨ws, y⟩, _⟩ := so_w.inH D z
        rw [hD] at y; cases y
      refine lc_it walk (fun i Hh => ∃ Gg ρi Fi acc accV Fa, Ext Fw G1 H1 Gg Hh ∧ Same Gg Hh ∧ Gg D = none ∧ Hh D = some (.lst accV) ∧ Rso X.K Gg Hh (wipe σ tg.slots) (wipeS ρi tg.slots) Fi ∧ (∀ a ∈ Fi, a ∈ Fw) ∧ Rps X.K Gg Hh accV acc Fa ∧ (∀ a ∈ Fa, a ∉ Fi ∧ a ≠ D ∧ (a ∈ Fw ∨ H1 a = none)) ∧
        compL (bindT [] tg) (fun r => wipeS r tg.slots) (fun r => evC cf cond r) (fun r => evE cf elt r) (items.drop i) (wipeS ρi tg.slots) acc = .ok ys ρ2) ?_ ?_ ?_ ?_
      · -- the start
        refine ⟨G1, ρ1, Fw, [], [], [], ext_own hD, same_own st1.gh hD, g_none st1.gh hD, upd_same, ?_, fun _ h => h, .nil, by simp, by simpa using hcl⟩
        exact wcong rfl (fun _ _ => rfl) (so_w.ext (F := []) (ext_own hD) (by simp))
      · rintro i Hh hi ⟨Gg, ρi, Fi, acc, accV, Fa, ex, gh, _⟩
        exact hGd Gg Hh ex.sg gh
      · -- a turn
        rintro i x Hh H' hi ⟨Gg, ρi, Fi, acc, accV, Fa, ex, gh, gD, hDv, so, sub, racc, dacc, hcp⟩ y
        have hitem : items[i]? = some items[i] := by simp [hi]
        obtain ⟨G3, e3, gh3, r3⟩ := hY i Gg Hh x H' _ hitem ex.sg gh y
        have hdrop : items.drop i = items[i] :: items.drop (i + 1) := List.drop_eq_getElem_cons hi
        rw [hdrop] at hcp
        simp only [compL] at hcp
        have so0 : Rso X.K G3 H' (wipe σ tg.slots) (wipeS (wipeS ρi tg.slots) tg.slots) Fi := by
          rw [wipe_idem]
          exact so.ext e3 (by simp)
        cases hb : bindT [] tg items[i] (wipeS (wipeS ρi tg.slots) tg.slots) with
        | none => rw [hb] at hcp; cases hcp
        | some ρa =>
          rw [hb] at hcp
          simp only at hcp
          refine gg [] _ _ ρa Fi [] G3 H' x _ _ gh3 so0 r3 (by simp) hb fun σ2 F2 so2 m2 j2 l2 _ => ?_
          have l2' : σ2.length = σ.length := by rw [l2, wipe_length]
          have j2' : ∀ j, j ∉ tg.slots → σ2[j]? = σ[j]? := fun j hj => by rw [j2 j hj, wipe_out hj]
          refine ⟨wipe_eq l2' j2', ?_⟩
          have F2sub : ∀ a ∈ F2, a ∈ Fi := fun a ha => by
            rcases m2 a ha with z | z
            · exact z
            · simp at z
          have eX3 : Ext Fw G1 H1 G3 H' := ex.trans e3 (by simp)
          have hD3 : H' D = some (.lst accV) := e3.fr D _ hDv (by simp)
          have gD3 : G3 D = none := by
            cases z : G3 D with
            | none => rfl
            | some o =>
              rcases e3.nw D (by rw [z]; simp) with w | w | w
              · exact absurd gD w
              · rw [hDv] at w; cases w
              · simp at w
          have racc3 : Rps X.K G3 H' accV acc Fa := racc.ext e3 (by simp)
          -- what holds behind the test and the element
          have keepD : ∀ {G5 H5 : Hp}, Ext F2 G3 H' G5 H5 → H5 D = some (.lst accV) ∧ G5 D = none := fun {G5 H5} e5 => by
            have nD : D ∉ F2 := fun z => DFw (sub D (F2sub D z))
            refine ⟨e5.fr D _ hD3 nD, ?_⟩
            cases z : G5 D with
            | none => rfl
            | some o =>
              rcases e5.nw D (by rw [z]; simp) with w | w | w
              · exact absurd gD3 w
              · rw [hD3] at w; cases w
              · exact absurd w nD
          have accOut : ∀ a ∈ Fa, a ∉ F2 := fun a ha z => (dacc a ha).1 (F2sub a z)
          refine gt σ2 ρa F2 G3 H' _ ⟨gh3, so2⟩ ?_
          cases hcd : evC cf cond ρa with
          | bad => rw [hcd] at hcp; cases hcp
          | exn cc fs ρb => rw [hcd] at hcp; cases hcp
          | ok t ρb =>
            rw [hcd] at hcp
            intro G4 H4 F4 e4 st4 s4
            cases t with
            | false =>
              simp only at hcp
              refine iteF ⟨G4, ρb, ?_⟩
              obtain ⟨Fi', Fx, so5, _, _, m5⟩ := st4.so.split (fun i => !tg.slots.contains i) 0
              refine ⟨Fi', acc, accV, Fa, eX3.trans e4 (fun a ha => .inl (sub a (F2sub a ha))), st4.gh, (keepD e4).2, (keepD e4).1, wcong l2' j2' so5, fun a ha => sub a (F2sub a (s4 a ((m5 a).mpr (.inl ha)))), racc3.ext e4 accOut, fun a ha => ⟨fun z => accOut a ha (s4 a ((m5 a).mpr (.inl z))), (dacc a ha).2⟩, ?_⟩
              exact hcp
            | true =>
              simp only at hcp
              refine iteT (ge σ2 ρb F4 G4 H4 _ st4 ?_)
              cases hel : evE cf elt ρb with
              | bad => rw [hel] at hcp; cases hcp
              | exn cc fs ρc => rw [hel] at hcp; cases hcp
              | ok py ρc =>
                rw [hel] at hcp
                intro vy G5 H5 F5 Fy e5 st5 s5 ry dy
                simp only at hcp
                split at hcp
                · rename_i hlen
                  have e45 : Ext F2 G3 H' G5 H5 := e4.trans e5 fun a ha => .inl (s4 a ha)
                  obtain ⟨k1, k2⟩ := keepD e45
                  refine ⟨accV, k1, by rw [racc.len, ← sl_eq]; exact hlen, ?_⟩
                  obtain ⟨Fi', Fx, so6, _, _, m6⟩ := st5.so.split (fun i => !tg.slots.contains i) 0
                  have FyD : ∀ a ∈ Fy, a ≠ D := fun a ha z => by
                    subst z
                    rcases (dy a ha).2 with w | w
                    · exact DFw (sub a (F2sub a (s4 a w)))
                    · have := (keepD e4).1; rw [this] at w; cases w
                  have FyFa : ∀ a ∈ Fa, a ∉ Fy := fun a ha z => by
                    obtain ⟨⟨us, w⟩, _⟩ := (racc3.ext e4 accOut).inH a ha
                    rcases (dy a z).2 with u | u
                    · exact accOut a ha (s4 a u)
                    · rw [w] at u; cases u
                  obtain ⟨Fz, rz, mz⟩ := (racc3.ext e45 accOut).append ry FyFa
                  -- the new item at D
                  have eD : Ext [D] G5 H5 G5 (upd H5 D (.lst (accV ++ [vy]))) := ⟨Same.refl _, fun b o e n => by rw [upd_ne (fun z => n (by simp [z]))]; exact e, fun b e => by
                    by_cases z : b = D
                    · subst z; rw [upd_same]; simp
                    · rw [upd_ne z]; exact e, fun b e => .inl e⟩
                  have ghD : Same G5 (upd H5 D (.lst (accV ++ [vy]))) := fun b o e => by
                    have : b ≠ D := fun z => by rw [z, k2] at e; cases e
                    rw [upd_ne this]; exact st5.gh b o e
                  refine ⟨G5, ρc, Fi', acc ++ [py], accV ++ [vy], Fz, ?_, ghD, k2, upd_same, ?_, fun a ha => sub a (F2sub a (s4 a (s5 a ((m6 a).mpr (.inl ha))))), rz.ext eD fun a ha z => ?_, fun a ha => ?_, ?_⟩
                  · refine (eX3.trans e45 fun a ha => .inl (sub a (F2sub a ha))).trans eD fun a ha => ?_
                    have : a = D := by simpa using ha
                    rw [this]; exact .inr hD
                  · refine wcong l2' j2' (so6.ext eD fun a ha z => ?_)
                    have : a = D := by simpa using z
                    subst this
                    exact DFw (sub a (F2sub a (s4 a (s5 a ((m6 a).mpr (.inl ha))))))
                  · have : a = D := by simpa using z
                    subst this
                    rcases (mz a).mp ha with w | w
                    · exact (dacc a w).2.1 rfl
                    · exact FyD a w rfl
                  · rcases (mz a).mp ha with w | w
                    · exact ⟨fun z => accOut a w (s4 a (s5 a ((m6 a).mpr (.inl z)))), (dacc a w).2⟩
                    · refine ⟨fun z => (dy a w).1 ((m6 a).mpr (.inl z)), FyD a w, ?_⟩
                      rcases (dy a w).2 with u | u
                      · exact .inl (sub a (F2sub a (s4 a u)))
                      · exact .inr (eX3.none (e4.none u))
                  · exact hcp
                · cases hcp
      · -- the end
        rintro Hh ⟨Gg, ρi, Fi, acc, accV, Fa, ex, gh, gD, hDv, so, sub, racc, dacc, hcp⟩
        rw [List.drop_length] at hcp
        simp only [compL] at hcp
        cases hcp
        have soO : Rso X.K Gg Hh σ (selS (fun i => tg.slots.contains i) 0 ρ1) Fo := so_o.ext ex fun a ha z => dow a ha z
        have soN : Rso X.K Gg Hh σ (wipeS (wipeS ρi tg.slots) tg.slots) Fi := by
          rw [wipe_idem]
          refine so.congr (by rw [wipe_length]) fun i hi => ?_
          have hi' : i ∉ tg.slots := by
            intro z
            apply hi
            unfold wipeS
            rw [getS_sel]
            simp [z]
          rw [wipe_out hi']
        obtain ⟨Fz, soz, mz⟩ := soO.join soN (fun a ha z => dow a ha (sub a z))
        refine q (.ref D) Gg Hh Fz (D :: Fa) (e1.trans ex fun a ha => .inl (s1 a ((mow a).mpr (.inr ha)))) ⟨gh, soz⟩ (fun a ha => ?_) (.mk_lstT hDv gD racc fun z => (dacc D z).2.1 rfl) fun a ha => ?_
        · rcases mz a ha with w | w
          · exact s1 a ((mow a).mpr (.inl w))
          · exact s1 a ((mow a).mpr (.inr (sub a w)))
        · rcases List.mem_cons.mp ha with w | w
          · subst w
            refine ⟨fun z => ?_, .inr (e1.none hD)⟩
            rcases mz a z with w | w
            · obtain ⟨⟨ws, y⟩, _⟩ := so_o.inH a w
              rw [hD] at y; cases y
            · exact DFw (sub a w)
          · refine ⟨fun z => ?_, ?_⟩
            · rcases mz a z with u | u
              · rcases (dacc a w).2.2 with y | y
                · exact dow a u y
                · obtain ⟨⟨ws, y2⟩, _⟩ := so_o.inH a u
                  rw [y] at y2; cases y2
              · exact (dacc a w).1 u
            · rcases (dacc a w).2.2 with y | y
              · exact .inl (s1 a ((mow a).mpr (.inr y)))
              · exact .inr (e1.none y)
end
end LC
end

section
set_option Elab.async false
set_option linter.all false
set_option maxRecDepth 100000
set_option maxHeartbeats 1000000
namespace LC
open PySem PySem.Spec L2 PyProof.Rows
/-! ### t[::-1] -/
section
variable {prog : Program} {w : World} {A : Around} {E : Value → Shared → Prop} {s : Shared}
theorem rev_places (n : Nat) : Builtin.Slice.slicePlaces ((n : Int) - 1) (-1) (-1) = n := by
  unfold Builtin.Slice.slicePlaces
  have h1 : ¬ ((-1 : Int) > 0) := by decide
  simp only [h1, if_false]
  by_cases h : (n : Int) - 1 > -1
  · simp only [h, if_true]
    have e : ((n : Int) - 1 - -1 - 1) / (- -1) + 1 = (n : Int) := by
      rw [show (- -1 : Int) = 1 by decide, Int.ediv_one]
      omega
    rw [e]; simp
  · simp only [h, if_false]
    omega
theorem rev_pick (xs : Array Value) : ((List.range xs.size).filterMap fun (k : Nat) => xs[((xs.size : Int) - 1 + (k : Int) * -1).toNat]?).toArray = xs.toList.reverse.toArray := by
  have e : (List.range xs.size).filterMap (fun (k : Nat) => xs[((xs.size : Int) - 1 + (k : Int) * -1).toNat]?) = ((List.range xs.size).map fun k => xs.size - 1 - k).filterMap (xs[·]?) := by
    rw [List.filterMap_map]
    have e0 : ∀ (f g : Nat → Option Value) (l : List Nat), (∀ k ∈ l, f k = g k) → l.filterMap f = l.filterMap g := by
      intro f g l
      induction l with
      | nil => intro _; rfl
      | cons a l ih =>
        intro h
        simp only [List.filterMap_cons]
        rw [h a (by simp), ih fun k hk => h k (by simp [hk])]
    apply e0
    intro k hk
    have := List.mem_range.mp hk
    have e2 : ((xs.size : Int) - 1 + (k : Int) * -1).toNat = xs.size - 1 - k := by omega
    rw [e2]; rfl
  rw [e, PySem.W.krv_range, List.filterMap_reverse, PySem.W.krv_all]
theorem sliceApplied_rev {sl : Addr} {t : Tok} {n : Nat} {Q : Int × Int × Nat → Shared → Prop} (hs : s.heap.IsSliceOf sl .none .none (.int (-1) t)) (h : Q ((n : Int) - 1, -1, n) s) : wpAny (model prog w) A (Builtin.Slice.sliceApplied (.ref sl) (pure (n : Int))) Q E s := by
  obtain ⟨os, hos, hcs, hds⟩ := id hs
  unfold Builtin.Slice.sliceApplied Builtin.Slice.sliceFields
  refine wpAny_bind (wpAny_bind (wpAny_field hos hds (x := .none) rfl (wpAny_bind (wpAny_field hos hds (x := .none) rfl (wpAny_bind (wpAny_field hos hds (x := .int (-1) t) rfl (wpAny_pure ?_)))))))
  refine wpAny_bind (slicePart_int ?_)
  show wpAny _ _ (if ((-1 : Int) == 0) = true then _ else _) _ _ s
  rw [if_neg (by decide)]
  refine wpAny_bind (slicePart_none (wpAny_bind (slicePart_none (wpAny_bind (wpAny_pure ?_)))))
  show wpAny _ _ (pure ((n : Int) - 1, (-1 : Int), Builtin.Slice.slicePlaces ((n : Int) - 1) (-1) (-1))) _ _ s
  rw [rev_places]
  exact wpAny_pure h
theorem getItem_tuple_rev {t sl : Addr} {items : Array Value} {tk : Tok} {Q : Value → Shared → Prop} (ht : IsTup s.heap t items) (hs : s.heap.IsSliceOf sl .none .none (.int (-1) tk))
    (h : Q (.ref s.heap.objs.size) { s with heap := s.heap.push { cls := .type "tuple", data := .seq items.toList.reverse.toArray } })
    (hsz : items.size ≤ sizeLine) : wpAny (model prog w) A (getItem (.ref t) (.ref sl)) Q E s := by
  have htake : sizeOk (.seq items.toList.reverse.toArray) := by
    show items.toList.reverse.toArray.size ≤ sizeLine
    rw [List.size_toArray, List.length_reverse, Array.length_toList]
    exact hsz
  obtain ⟨os, hos, hcs, hds⟩ := id hs
  have hTs : s.TypeIs (.ref sl) "slice" := ⟨os, hos, hcs⟩
  unfold getItem
  try with_reducible refine wpAny_holding ?_
  first | refine wpAny_bind (wpAny_pure ?_) | skip
  refine wpAny_bind (wpAny_sequenceKey ht.typeIs (by decide) ?_)
  refine wpAny_bind (wpAny_callSpecial?_slot (name := Str.ofString "__getitem__") ht.typeIs PyProof.Rows.slot_tuple_getitem
    (wpAny_call_entry PyProof.Rows.slot_tuple_getitem ht.typeIs entry_tuple_getitem ?_ (args_tuple_getitem _ _)))
  show wpAny _ _ (Builtin.Tuple.tupleItemsOf (.ref t) >>= _) _ _ s
  refine wpAny_bind (tupleItemsOf_ ht ?_)
  refine wpAny_bind (wpAny_typeOf hTs ?_)
  rw [if_pos (by decide)]
  refine wpAny_bind (sliceApplied_rev hs ?_)
  have hno : ¬ ((((items.size : Int) - 1) == 0 && (-1 : Int) == 1 && items.size == items.size) = true) := by simp
  show wpAny _ _ (if (((items.size : Int) - 1) == 0 && (-1 : Int) == 1 && items.size == items.size) = true then _ else _) _ _ s
  rw [if_neg hno, rev_pick]
  first
    | exact wpAny_bind (m := Builtin.Tuple.tupleExact _) (wpAny_newObj_type (wpAny_pure ⟨_, rfl, wpAny_pure h⟩) htake)
    | exact wpAny_bind (m := Builtin.Tuple.tupleExact _) (wpAny_newObj_type (wpAny_bind (wpAny_pure (wpAny_pure ⟨_, rfl, wpAny_pure h⟩))) htake)
    | exact wpAny_bind (wpAny_bind (m := Builtin.Tuple.tupleExact _) (wpAny_newObj_type (wpAny_pure (wpAny_pure ⟨_, rfl, wpAny_pure h⟩)) htake))
    | exact wpAny_bind (wpAny_bind (m := Builtin.Tuple.tupleExact _) (wpAny_newObj_type (wpAny_pure ⟨_, rfl, wpAny_pure h⟩) htake))
end
section
variable {c : CK} {XR : XRT} {E : XK} {cf : CF} {X : Cx}
def tRevT (K : PySem.W.Frag) (te : TE) : TE := fun σ H Q => te σ H fun x H1 => ∃ a xs, x = .ref a ∧ SqT K H1 a xs ∧ ∀ p, H1 p = none → Q (.ref p) (upd H1 p (.tup xs.reverse))
theorem pe_revT {e : Expr} {te : TE} {k : Nat} {p1 p2 p3 pos : Pos} (he : PE X e te) : PE X (.Subscript e (.Slice none none (some (.UnaryOp .USub (.Constant (.int 1) k p1) p2)) p3) pos) (tRevT X.K te) := by
  refine ⟨fun pins s σ H Q I h => ?_⟩
  refine Subscript_ (thn (he.run pins s σ H _ I h) fun v s1 ⟨x, H1, I1, r1, q1⟩ => ?_)
  obtain ⟨a, xs, ex, hx, q⟩ := q1
  subst ex
  cases r1
  have hst : PO X (some (.UnaryOp .USub (.Constant (.int 1) k p1) p2)) (tPart (tUn (rU fun i => .int (-i)) (tC (.int 1)))) := po_some (pe_un un_neg pe_int)
  refine wpAny_Slice (thn (po_none.run pins s1 σ H1 (fun o H2 => o = none ∧ H2 = H1) I1 ⟨rfl, rfl⟩) fun vl s2 ⟨l, H2, I2, pl, el, e2⟩ => ?_)
  subst el e2
  refine thn (po_none.run pins s2 σ H2 (fun o H3 => o = none ∧ H3 = H2) I2 ⟨rfl, rfl⟩) fun vu s3 ⟨u, H3, I3, pu, eu, e3⟩ => ?_
  subst eu e3
  refine thn (hst.run pins s3 σ H3 (fun o H4 => o = some (-1) ∧ H4 = H3) I3 ⟨1, rfl, -1, rfl, rfl, rfl⟩) fun vs s4 ⟨o, H4, I4, ps, eo, e4⟩ => ?_
  subst eo e4
  cases pl
  cases pu
  cases ps with | int _ tk =>
  have I5 : Inv X pins σ H4 { s4 with heap := s4.heap.push { cls := .type "slice", data := .fields #[.none, .none, .int (-1) tk] } } := I4.kept (t' := s4.toks) fun b ob q => Heap.get?_push_of_some _ q
  obtain ⟨its, r, ht, hz⟩ := I5.tuple hx
  have hlen := r.length
  show wpAny (model X.prog X.w) X.A (subscriptTail e (.Slice none none (some (.UnaryOp .USub (.Constant (.int 1) k p1) p2)) p3) (.ref a) (.ref s4.heap.objs.size)) (EP X pins σ Q) X.xe { s4 with heap := s4.heap.push { cls := .type "slice", data := .fields #[.none, .none, .int (-1) tk] } }
  refine tail_any (ops := [.ref a, .ref s4.heap.objs.size]) ht.typeIs (PyProof.Rows.slot_tuple_getitem.lookup) ?_ (by with_unfolding_all rfl)
  refine getItem_tuple_rev ht (Heap.IsSliceOf.new _ .none .none (.int (-1) tk)) ?_ (by rw [List.size_toArray]; omega)
  refine ⟨.ref _, _, I5.laid (t' := s4.toks) (o := .tup xs.reverse) (fun b ob q => Heap.get?_push_of_some _ q) (Nat.le_refl _) ?_, rfl, q _ (I5.hok.fresh (Nat.le_refl _))⟩
  exact ⟨by rw [List.length_reverse]; exact hz, _, r.reverse, IsTup.new _ _⟩
theorem se_rev {a : Ex} {x : Expr} {k : Nat} {p1 p2 p3 pos : Pos} (ha : SE XR E cf X a x) : SE XR E cf X (.rev a) (.Subscript x (.Slice none none (some (.UnaryOp .USub (.Constant (.int 1) k p1) p2)) p3) pos) := by
  obtain ⟨ta, pa, ga⟩ := ha
  refine ⟨_, pe_revT pa, fun σ ρ F G H Q st q => ?_⟩
  simp only [evE] at q
  refine one ga st (Z := fun r => OKR X.K XR σ F G H (r.bind fun x ρ1 => (match x with | .tup xs => .ok (.tup xs.reverse) ρ1 | _ => .bad)) Q E) q ?_ (fun _ _ _ z => z) (fun z => z)
  intro p ρ1 z v G1 H1 F1 Fv e1 st1 s1 r1 d1
  simp only [Res.bind_ok] at z
  cases p with
  | tup xs =>
    obtain ⟨b, ws, rfl, sb, rb⟩ := r1.inv_tup
    refine ⟨b, ws, rfl, sqT_mono st1.gh sb, fun p hp => ?_⟩
    obtain ⟨F', rr, mr⟩ := rb.rev
    refine z _ _ _ F1 F' (e1.trans (F1 := []) (ext_new st1.gh hp) (by simp)) ⟨same_new st1.gh, st1.so.ext (F := []) (ext_new st1.gh hp) (by simp)⟩ s1 (rr.newTup st1.gh hp) fun a ha => d1 a (mr a ha)
  | _ => exact z.elim
/-! ### i in range(lo, hi) -/
theorem op_notin_rng : OpR X (compareOp .NotIn) (fun x y H Q => ∃ i a lo hi, x = V.int i ∧ y = V.ref a ∧ H a = some (.rng lo hi) ∧ Q (.bl (!decide (lo ≤ i ∧ i < hi))) H) := by
  intro pins s σ H x y v u Q I rx ry h
  obtain ⟨i, a, lo, hi, rfl, rfl, ha, q⟩ := h
  obtain ⟨k, rfl⟩ := rx
  obtain rfl : u = Value.ref a := ry
  obtain ⟨t1, t2, t3, ho⟩ := I.hok a _ ha
  show wpAny _ _ (do return Value.bool (!(← contains (Value.ref a) (Value.int i k)))) _ _ s
  refine wpAny_bind (wpAny_contains_slot (T := "range") ⟨_, ho, rfl⟩ F.slot_range_contains (call_meets F.slot_range_contains ⟨_, ho, rfl⟩ F.entry_range_contains (F.args_range_contains_2 _ _) (q_contains a lo hi i t1 t2 t3 k)
    ⟨ho, wpAny_truthy_bool (wpAny_pure ⟨.bl _, H, I, rfl, ?_⟩)⟩))
  rw [place1]
  exact q
def inOp (ng : Bool) : CmpOp := if ng then .NotIn else .In
def rInR (ng : Bool) : R2 := fun x y H Q => ∃ i a lo hi, x = V.int i ∧ y = V.ref a ∧ H a = some (.rng lo hi) ∧ Q (.bl (if ng then !decide (lo ≤ i ∧ i < hi) else decide (lo ≤ i ∧ i < hi))) H
def rRng2 : List V → Hp → VK → Prop := fun vs H Q => ∃ i j, vs = [V.int i, V.int j] ∧ ∀ (p : Addr), H p = none → Q (V.ref p) (upd H p (HO.rng i j))
theorem op_inR (ng : Bool) : OpR X (compareOp (inOp ng)) (rInR ng) := by
  cases ng
  · exact op_in_rng
  · exact op_notin_rng
theorem inR_mark {op : CmpOp} {f : Expr} {as : List Expr} {ks : List Keyword} {pos : Pos} : behindInMarks op (.Call f as ks pos) = false := by
  cases op <;> rfl
theorem se_inR {ng : Bool} {a lo hi : Ex} {x y z : Expr} {p pos pos2 : Pos} (k : XOk c XR E cf X) (hg : Gl X "range") (hy : notStar y = true) (hz : notStar z = true) (ha : SE XR E cf X a x) (hl : SE XR E cf X lo y) (hh : SE XR E cf X hi z) :
    SE XR E cf X (.inR ng a lo hi) (.Compare x [inOp ng] [.Call (.Name "range" p) [y, z] [] pos] pos2) ∧ ST XR E cf X (.inR ng a lo hi) (.Compare x [inOp ng] [.Call (.Name "range" p) [y, z] [] pos] pos2) := by
  obtain ⟨ta, pa, ga⟩ := ha
  obtain ⟨tl, pl, gl⟩ := hl
  obtain ⟨th, ph, gh⟩ := hh
  have pr : PE X (.Call (.Name "range" p) [y, z] [] pos) (tCB rRng2 (tCons tl (tCons th tNil))) := pe_callTy cr_range2 hg (k.blt _ (by decide +kernel)) (by decide +kernel) (pa_cons pl (pa_cons ph pa_nil (star_cons hz)) (star_cons hy)) (by decide) (by decide) (star_cons hy) (star_none (by simp [hz]))
  have key : ∀ (σ : Sl) (ρ : Env) (F : List Addr) (G H : Hp) (Q : VK), RS X.K G H σ ρ F → OKR X.K XR σ F G H (evE cf (.inR ng a lo hi) ρ) Q E → tOp (rInR ng) ta (tCB rRng2 (tCons tl (tCons th tNil))) σ H Q := by
    intro σ ρ F G H Q st q
    simp only [evE] at q
    refine one ga st (Z := fun r => OKR X.K XR σ F G H (r.bind fun x ρ1 => (evE cf lo ρ1).bind fun y ρ2 => (evE cf hi ρ2).bind fun z ρ3 => (match x, y, z with
      | .int k, .int i, .int j => .ok (.bool (if ng then !(decide (i ≤ k) && decide (k < j)) else (decide (i ≤ k) && decide (k < j)))) ρ3
      | _, _, _ => .bad)) Q E) q ?_ (fun _ _ _ z => z) (fun z => z)
    intro px ρ1 zz v G1 H1 F1 Fv e1 st1 s1 r1 d1
    simp only [Res.bind_ok] at zz
    refine one gl st1 (Z := fun r => OKR X.K XR σ F G H (r.bind fun y ρ2 => (evE cf hi ρ2).bind fun z ρ3 => (match (generalizing := false) px, y, z with
      | .int k, .int i, .int j => .ok (.bool (if ng then !(decide (i ≤ k) && decide (k < j)) else (decide (i ≤ k) && decide (k < j)))) ρ3
      | _, _, _ => .bad)) Q E) zz ?_ (fun _ _ _ z cls d G' H' F' e2 st2 s2 x2 => z cls d G' H' F' (e1.trans e2 fun a ha => .inl (s1 a ha)) st2 (fun a ha => s1 a (s2 a ha)) x2) (fun z => z)
    intro py ρ2 zz v2 G2 H2 F2 Fv2 e2 st2 s2 r2 d2
    simp only [Res.bind_ok] at zz
    have e12 : Ext F G H G2 H2 := e1.trans e2 fun a ha => .inl (s1 a ha)
    have s12 : ∀ a ∈ F2, a ∈ F := fun a ha => s1 a (s2 a ha)
    refine one gh st2 (Z := fun r => OKR X.K XR σ F G H (r.bind fun z ρ3 => (match (generalizing := false) px, py, z with
      | .int k, .int i, .int j => .ok (.bool (if ng then !(decide (i ≤ k) && decide (k < j)) else (decide (i ≤ k) && decide (k < j)))) ρ3
      | _, _, _ => .bad)) Q E) zz ?_ (fun _ _ _ z cls d G' H' F' e3 st3 s3 x3 => z cls d G' H' F' (e12.trans e3 fun a ha => .inl (s12 a ha)) st3 (fun a ha => s12 a (s3 a ha)) x3) (fun z => z)
    intro pz ρ3 zz v3 G3 H3 F3 Fv3 e3 st3 s3 r3 d3
    simp only [Res.bind_ok] at zz
    split at zz
    · obtain ⟨rfl, _⟩ := r1.inv_int
      obtain ⟨rfl, _⟩ := r2.inv_int
      obtain ⟨rfl, _⟩ := r3.inv_int
      refine ⟨_, _, rfl, fun p hp => ⟨_, p, _, _, rfl, rfl, upd_same, ?_⟩⟩
      have ee : ∀ (i k j : Int), (decide (i ≤ k) && decide (k < j)) = decide (i ≤ k ∧ k < j) := fun i k j => by simp
      rw [ee] at zz
      refine zz _ G3 _ F3 [] ((e12.trans e3 fun a ha => .inl (s12 a ha)).trans (F1 := []) (ext_own hp) (by simp)) ⟨same_own st3.gh hp, st3.so.ext (F := []) (ext_own hp) (by simp)⟩ (fun a ha => s12 a (s3 a ha)) (.bool .nil) (by simp)
    · exact zz.elim
  refine ⟨⟨_, pe_cmpR (op_inR ng) pa pr inR_mark, key⟩, ⟨_, pt_cmpR (op_inR ng) pa pr inR_mark, fun σ ρ F G H Q st q => ?_⟩⟩
  refine key σ ρ F G H _ st ?_
  have bo : ∀ p ρ1, evE cf (.inR ng a lo hi) ρ = .ok p ρ1 → ∃ k, p = .bool k := by
    intro p ρ1 e
    simp only [evE] at e
    cases h1 : evE cf a ρ with
    | ok px ρ2 =>
      rw [h1] at e; simp only [Res.bind_ok] at e
      cases h2 : evE cf lo ρ2 with
      | ok py ρ3 =>
        rw [h2] at e; simp only [Res.bind_ok] at e
        cases h4 : evE cf hi ρ3 with
        | ok pz ρ4 =>
          rw [h4] at e; simp only [Res.bind_ok] at e
          split at e
          · cases e; exact ⟨_, rfl⟩
          · cases e
        | exn _ _ _ => rw [h4] at e; cases e
        | bad => rw [h4] at e; cases e
      | exn _ _ _ => rw [h2] at e; cases e
      | bad => rw [h2] at e; cases e
    | exn _ _ _ => rw [h1] at e; cases e
    | bad => rw [h1] at e; cases e
  cases hv : evE cf (.inR ng a lo hi) ρ with
  | bad => rw [hv] at q; exact q
  | exn cc fs ρ1 => rw [hv] at q; exact q
  | ok p ρ1 =>
    obtain ⟨k, rfl⟩ := bo p ρ1 hv
    rw [hv] at q
    intro v G1 H1 F1 Fv e1 st1 s1 r1 d1
    obtain ⟨rfl, _⟩ := r1.inv_bool
    exact ⟨k, rfl, q G1 H1 F1 e1 st1 s1⟩
/-! ### {'a': 1} -/
theorem se_dic1 {s : Str} {i : Int} {j j2 : Nat} {p1 p2 pos : Pos} : SE XR E cf X (.dic (.cons (.cstr s) .nil) (.cons (.cint i) .nil)) (.Dict [some (.Constant (.str s) j p1)] [.Constant (.int i) j2 p2] pos) := by
  refine ⟨_, pe_disp (pps_cons pe_str pe_int pps_nil) (by rfl) (by rfl) (by simp) (by simp), fun σ ρ F G H Q st q => ?_⟩
  simp only [evE, evEs, Res.bind_ok] at q
  intro p hp
  refine ⟨upd_same, [(.inr s, .int i)], rfl, by simp, ?_⟩
  have eu : ∀ {o : HO}, upd (upd H p (.dK [])) p o = upd H p o := by
    intro o
    funext b
    by_cases h : b = p
    · subst h; rw [upd_same, upd_same]
    · rw [upd_ne h, upd_ne h, upd_ne h]
  rw [eu]
  exact q (.ref p) (upd G p _) _ F [] (ext_new st.gh hp) ⟨same_new st.gh, st.so.ext (F := []) (ext_new st.gh hp) (by simp)⟩ (fun _ h => h) (.dicF upd_same .nil) (by simp)
/-! ### comprehensions as values -/
theorem xok_blk {scope : Scope} {b : Blk} (k : XOk c XR E cf X) : XOk c XR E0 cf (blkX X scope b) :=
  ⟨k.hN, k.nd, k.calm, k.units, k.blt, k.glob, k.fn, fun _ _ _ _ _ _ _ ⟨_, _, _, _, _, _, _, _, _, _, _, _, h⟩ => h.elim⟩
theorem notSet_fold {e : Expr} {env : PySem.Env} (h : notSet e = true) : ∀ x, foldedSetIterable e env x = pure x := by
  intro x
  cases e <;> first | rfl | (simp [notSet] at h)
theorem se_lc {elt : Ex} {tg : Tg} {it : It} {cond : Exs} {ee te ie : Expr} {ifs : List Expr} {scope : Scope} {own : List (Str × Nat)} {pos : Pos} (k : XOk c XR E cf X) (hi : SI XR E cf X it te ie) (ok : BlkOk X.N X.env.scope scope own) (hown : own.map (·.2) = tg.slots) (hset : notSet ie = true)
    (hg : ∀ b, SG (blkX X scope b) tg te) (ht : ∀ b, SC XR E0 cf (blkX X scope b) cond ifs) (he : ∀ b, SE XR E0 cf (blkX X scope b) elt ee) : SE XR E cf X (.comp elt tg it cond) (.ListComp ee [⟨te, ie, ifs, 0⟩] scope pos) := by
  obtain ⟨wi, g, tt, tee, pi, pg, pt, pe, ge⟩ := se_comp (pos := pos) k hi ok hown hset hg ht he
  exact ⟨_, pe_lc k.calm k.nd pi ok (fun s H C cl fp => pg ⟨s, H, C, cl, fp⟩) (fun s H C cl fp => pt ⟨s, H, C, cl, fp⟩) (fun s H C cl fp => pe ⟨s, H, C, cl, fp⟩) (notSet_fold hset), ge⟩
end
end LC
end

section
set_option Elab.async false
set_option linter.all false
set_option maxRecDepth 100000
set_option maxHeartbeats 1000000
namespace LC
open PySem PySem.Spec L2
/-! ### the look at expressions -/
section
variable (c : CK)
def okVar (sc : Scope) (i : Nat) (x : Str) : Bool := decide (c.N[i]? = some x) && isVis sc x && okName x
def okGl (sc : Scope) (x : Str) : Bool := isGl sc x && okName x
def okTg (fn : Str → Bool) (sc : Scope) (i : Nat) (x : Str) : Bool := decide (c.N[i]? = some x) && (match sc.names.lookup x with
  | some .local => true
  | some .cell => fn x
  | _ => false)
mutual
def ckTg (fn : Str → Bool) (sc : Scope) : Tg → Expr → Bool
  | .nm i, e => (match e with
    | .Name x _ => okTg c fn sc i x
    | _ => false)
  | .tp ts, e => (match e with
    | .Tuple xs _ _ => xs.all notStar && ckTgs fn sc ts xs
    | _ => false)
def ckTgs (fn : Str → Bool) (sc : Scope) : List Tg → List Expr → Bool
  | [], es => (match es with
    | [] => true
    | _ => false)
  | t :: ts, es => (match es with
    | x :: xs => ckTg fn sc t x && ckTgs fn sc ts xs
    | [] => false)
end
def ownOf (N : List Str) (vs : List Nat) : List (Str × Nat) := vs.map fun i => ((N[i]?).getD default, i)
def isTupE : Expr → Bool
  | .Tuple _ _ _ => true
  | _ => false
/-- may stand as a test -/
def Ex.tOk : Ex → Bool
  | .ite _ _ _ => false
  | .not a => a.tOk
  | .and a b => a.tOk && b.tOk
  | .or a b => a.tOk && b.tOk
  | .one a => a.tOk
  | _ => true
mutual
def ckE : Ex → Scope → Expr → Bool
  | .var i, sc, e => (match e with
    | .Name x _ => okVar c sc i x
    | _ => false)
  | .mv i, sc, e => (match e with
    | .Name x _ => okVar c sc i x
    | _ => false)
  | .cint i, sc, e => (match e with
    | .Constant (.int j) _ _ => decide (i = j)
    | _ => false)
  | .cbool i, sc, e => (match e with
    | .Constant (.bool j) _ _ => i == j
    | _ => false)
  | .cnone, sc, e => (match e with
    | .Constant .none _ _ => true
    | _ => false)
  | .cstr s, sc, e => (match e with
    | .Constant (.str t) _ _ => decide (s = t)
    | _ => false)
  | .glob g v, sc, e => (match e with
    | .Name x _ => decide (g = x) && okGl sc x && (match c.gl.find? (fun q => decide (q.1 = x)) with
      | some q => pvEq q.2 v
      | none => false)
    | _ => false)
  | .bin o a b, sc, e => (match e with
    | .BinOp x op y _ => bopOk o op && ckE a sc x && ckE b sc y
    | _ => false)
  | .neg a, sc, e => (match e with
    | .UnaryOp .USub x _ => ckE a sc x
    | _ => false)
  | .not a, sc, e => (match e with
    | .UnaryOp .Not x _ => ckE a sc x
    | _ => false)
  | .and a b, sc, e => (match e with
    | .BoolOp .And (x :: y :: rest) pos => ckE a sc x && ckE b sc (.BoolOp .And (y :: rest) pos)
    | _ => false)
  | .or a b, sc, e => (match e with
    | .BoolOp .Or (x :: y :: rest) pos => ckE a sc x && ckE b sc (.BoolOp .Or (y :: rest) pos)
    | _ => false)
  | .one a, sc, e => (match e with
    | .BoolOp _ [x] _ => ckE a sc x
    | _ => false)
  | .cmp o a b, sc, e => (match e with
    | .Compare x [op] [y] _ => copOk o op && notSet y && ckE a sc x && ckE b sc y
    | _ => false)
  | .chain o p a b d, sc, e => (match e with
    | .Compare x [op, op2] [y, w] _ => copOk o op && copOk p op2 && notSet w && ckE a sc x && ckE b sc y && ckE d sc w
    | _ => false)
  | .isN a, sc, e => (match e with
    | .Compare x [.Is] [.Constant .none _ _] _ => ckE a sc x
    | _ => false)
  | .notN a, sc, e => (match e with
    | .Compare x [.IsNot] [.Constant .none _ _] _ => ckE a sc x
    | _ => false)
  | .inR ng a lo hi, sc, e => (match e with
    | .Compare x [op] [.Call (.Name r _) [y, z] [] _] _ => (op == inOp ng) && decide (r = "range") && okGl sc "range" && notStar y && notStar z && ckE a sc x && ckE lo sc y && ckE hi sc z
    | _ => false)
  | .ite k a b, sc, e => (match e with
    | .IfExp t x y _ => k.tOk && ckE k sc t && ckE a sc x && ckE b sc y
    | _ => false)
  | .tup es, sc, e => (match e with
    | .Tuple xs _ _ => ckEs es sc xs
    | _ => false)
  | .lst es, sc, e => (match e with
    | .List xs _ => ckEs es sc xs
    | _ => false)
  | .dic es vs, sc, e => (match e with
    | .Dict [some (.Constant (.str s) _ _)] [.Constant (.int i) _ _] _ => (match es, vs with
      | .cons (.cstr t) .nil, .cons (.cint j) .nil => decide (t = s) && decide (j = i)
      | _, _ => false)
    | _ => false)
  | .sub a i, sc, e => (match e with
    | .Subscript x y _ => notSlice y && ckE a sc x && ckE i sc y
    | _ => false)
  | .sli a lo hi, sc, e => (match e with
    | .Subscript x (.Slice l h none _) _ => ckE a sc x && ckO lo sc l && ckO hi sc h
    | _ => false)
  | .rev a, sc, e => (match e with
    | .Subscript x (.Slice none none (some (.UnaryOp .USub (.Constant (.int 1) _ _) _)) _) _ => ckE a sc x
    | _ => false)
  | .call f es, sc, e => (match e with
    | .Call (.Name g _) (x :: xs) [] _ => decide (f = g) && okGl sc g && c.fs.contains (g, false) && ckEs es sc (x :: xs)
    | _ => false)
  | .callIo f i es, sc, e => (match e with
    | .Call (.Name g _) (.Name px _ :: xs) [] _ => decide (f = g) && okGl sc g && c.fs.contains (g, true) && okVar c sc i px && ckEs es sc xs
    | _ => false)
  | .blt f es, sc, e => (match e with
    | .Call (.Name g _) (x :: xs) [] _ => decide (f.name = g) && okGl sc g && ckEs es sc (x :: xs)
    | _ => false)
  | .isi a t, sc, e => (match e with
    | .Call (.Name g _) [x, .Name y _] [] _ => decide (g = "isinstance") && decide (t.name = y) && okGl sc g && okGl sc y && notStar x && (match t with | .own _ => false | _ => true) && ckE a sc x
    | _ => false)
  | .comp elt tg it cond, sc, e => (match e with
    | .ListComp ee [⟨te, ie, ifs, 0⟩] scope _ => blkC c.N sc scope (ownOf c.N tg.slots) && notSet ie && ckIt it sc te ie && ckTg c (fun x => scope.names.lookup x == some .cell) (relS scope sc) tg te && ckC cond (relS scope sc) ifs && ckE elt (relS scope sc) ee
    | _ => false)
def ckEs : Exs → Scope → List Expr → Bool
  | .nil, sc, es => (match es with
    | [] => true
    | _ => false)
  | .cons a as, sc, es => (match es with
    | x :: xs => notStar x && ckE a sc x && ckEs as sc xs
    | [] => false)
def ckO : Exs → Scope → Option Expr → Bool
  | .nil, sc, o => (match o with
    | none => true
    | _ => false)
  | .cons a as, sc, o => (match o with
    | some x => (match as with | .nil => true | _ => false) && ckE a sc x
    | none => false)
def ckC : Exs → Scope → List Expr → Bool
  | .nil, sc, es => (match es with
    | [] => true
    | _ => false)
  | .cons a as, sc, es => (match es with
    | [x] => a.tOk && ckE a sc x
    | _ => false)
def ckIt : It → Scope → Expr → Expr → Bool
  | .seq a, sc, tg, e => ckE a sc e
  | .range1 a, sc, tg, e => (match e with
    | .Call (.Name r _) [x] [] _ => decide (r = "range") && okGl sc "range" && notStar x && ckE a sc x
    | _ => false)
  | .range2 a b, sc, tg, e => (match e with
    | .Call (.Name r _) [x, y] [] _ => decide (r = "range") && okGl sc "range" && notStar x && notStar y && ckE a sc x && ckE b sc y
    | _ => false)
  | .range3 a b d, sc, tg, e => false
  | .zip a b, sc, tg, e => (match e with
    | .Call (.Name r _) [x, y] [] _ => decide (r = "zip") && okGl sc "zip" && isTupE tg && notStar x && notStar y && ckE a sc x && ckE b sc y
    | _ => false)
  | .enum a, sc, tg, e => (match e with
    | .Call (.Name r _) [x] [] _ => decide (r = "enumerate") && okGl sc "enumerate" && isTupE tg && notStar x && ckE a sc x
    | _ => false)
end
end
end LC
end

section
set_option Elab.async false
set_option linter.all false
set_option maxRecDepth 100000
set_option maxHeartbeats 2000000
namespace LC
open PySem PySem.Spec L2
section
variable {c : CK} {XR : XRT} {E : XK} {cf : CF} {X : Cx}
theorem vis_of {sc : Scope} {x : Str} (h : isVis sc x = true) : Vis sc x := by
  unfold isVis at h
  split at h
  · exact .inl (by assumption)
  · exact .inr (.inl (by assumption))
  · exact .inr (.inr (by assumption))
  · cases h
theorem okName_of {x : Str} (h : okName x = true) : (x == ("__debug__" : Str)) = false ∧ (x == ("__classdict__" : Str)) = false ∧ (x == ("__name__" : Str)) = false := by
  unfold okName at h
  simp only [Bool.and_eq_true, Bool.not_eq_true'] at h
  exact ⟨h.1.1, h.1.2, h.2⟩
theorem gl_of {x : Str} (h : okGl X.env.scope x = true) : Gl X x ∧ (x == ("__debug__" : Str)) = false := by
  unfold okGl isGl at h
  rw [Bool.and_eq_true] at h
  refine ⟨?_, (okName_of h.2).1⟩
  have h1 := h.1
  split at h1
  · assumption
  · cases h1
theorem okVar_of (k : XOk c XR E cf X) {i : Nat} {x : Str} (h : okVar c X.env.scope i x = true) : X.N[i]? = some x ∧ Vis X.env.scope x ∧ (x == ("__debug__" : Str)) = false ∧ (x == ("__classdict__" : Str)) = false := by
  unfold okVar at h
  simp only [Bool.and_eq_true, decide_eq_true_eq] at h
  rw [k.hN]
  exact ⟨h.1.1, vis_of h.1.2, (okName_of h.2).1, (okName_of h.2).2.1⟩
theorem okTg_of {fn : Str → Bool} (hf : ∀ x, fn x = true → X.fn x = true) (hN : X.N = c.N) {i : Nat} {x : Str} (h : okTg c fn X.env.scope i x = true) : X.N[i]? = some x ∧ Loc X.env.scope x ∧ (X.fn x = true ∨ X.env.scope.names.lookup x = some .local) := by
  unfold okTg at h
  simp only [Bool.and_eq_true, decide_eq_true_eq] at h
  rw [hN]
  refine ⟨h.1, ?_⟩
  have h2 := h.2
  split at h2
  · exact ⟨.inl (by assumption), .inr (by assumption)⟩
  · exact ⟨.inr (by assumption), .inl (hf _ h2)⟩
  · cases h2
mutual
theorem ckTg_ok {fn : Str → Bool} (hf : ∀ x, fn x = true → X.fn x = true) (hN : X.N = c.N) (nd : X.N.Nodup) (hc : X.calm = true) : ∀ (tg : Tg) (e : Expr), ckTg c fn X.env.scope tg e = true → SG X tg e
  | .nm i, e, h => by
    unfold ckTg at h
    split at h
    · obtain ⟨h1, h2, h3⟩ := okTg_of hf hN h
      exact sg_name nd h1 h2 h3
    · cases h
  | .tp ts, e, h => by
    unfold ckTg at h
    split at h
    · rw [Bool.and_eq_true] at h
      obtain ⟨h1, h2⟩ := ckTgs_ok hf hN nd hc ts _ h.2 h.1
      exact sg_tup hc h.1 h1 h2
    · cases h
theorem ckTgs_ok {fn : Str → Bool} (hf : ∀ x, fn x = true → X.fn x = true) (hN : X.N = c.N) (nd : X.N.Nodup) (hc : X.calm = true) : ∀ (ts : List Tg) (es : List Expr), ckTgs c fn X.env.scope ts es = true → es.all notStar = true → SGs X ts es ∧ ts.length = es.length
  | [], es, h => by
    unfold ckTgs at h
    split at h
    · intro _; exact ⟨sgs_nil, rfl⟩
    · cases h
  | t :: ts, es, h => by
    unfold ckTgs at h
    split at h
    · rw [Bool.and_eq_true] at h
      intro hs
      simp only [List.all_cons, Bool.and_eq_true] at hs
      obtain ⟨h1, h2⟩ := ckTgs_ok hf hN nd hc ts _ h.2 hs.2
      exact ⟨sgs_cons hs.1 (ckTg_ok hf hN nd hc t _ h.1) h1, by simp [h2]⟩
    · cases h
end
end
section
variable {c : CK} {XR : XRT} {E : XK} {cf : CF} {X : Cx}
theorem st_isN {a : Ex} {x : Expr} {j : Nat} {pos' pos : Pos} (ha : SE XR E cf X a x) : ST XR E cf X (.isN a) (.Compare x [.Is] [.Constant .none j pos'] pos) := by
  obtain ⟨ta, pa, ga⟩ := ha
  refine ⟨_, pt_cmp (pc_isN pa), fun σ ρ F G H Q st q => ?_⟩
  simp only [evE] at q
  refine one ga st (Z := fun r => OKt X.K XR σ F G H ((r.bind fun x ρ1 => .ok (.bool (isNoneV x)) ρ1).bind fun v ρ1 => Res.of (truV v) ρ1) Q E) q ?_ (fun _ _ _ z => z) (fun z => z)
  intro p ρ1 z v G1 H1 F1 Fv e1 st1 s1 r1 d1
  simp only [Res.bind_ok] at z
  have e : isNoneV p = decide (v = V.non) := by cases r1 <;> rfl
  have z' : OKt X.K XR σ F G H (.ok (isNoneV p) ρ1) Q E := z
  rw [e] at z'
  exact ⟨_, rfl, z' G1 H1 F1 e1 st1 s1⟩
theorem st_notN {a : Ex} {x : Expr} {j : Nat} {pos' pos : Pos} (ha : SE XR E cf X a x) : ST XR E cf X (.notN a) (.Compare x [.IsNot] [.Constant .none j pos'] pos) := by
  obtain ⟨ta, pa, ga⟩ := ha
  refine ⟨_, pt_cmp (pc_notN pa), fun σ ρ F G H Q st q => ?_⟩
  simp only [evE] at q
  refine one ga st (Z := fun r => OKt X.K XR σ F G H ((r.bind fun x ρ1 => .ok (.bool (!isNoneV x)) ρ1).bind fun v ρ1 => Res.of (truV v) ρ1) Q E) q ?_ (fun _ _ _ z => z) (fun z => z)
  intro p ρ1 z v G1 H1 F1 Fv e1 st1 s1 r1 d1
  simp only [Res.bind_ok] at z
  have e : (!isNoneV p) = !decide (v = V.non) := by cases r1 <;> rfl
  have z' : OKt X.K XR σ F G H (.ok (!isNoneV p) ρ1) Q E := z
  rw [e] at z'
  exact ⟨_, rfl, z' G1 H1 F1 e1 st1 s1⟩
theorem notSet_mark {op : CmpOp} {y : Expr} (h : notSet y = true) : behindInMarks op y = false := by
  cases y <;> first | (cases op <;> rfl) | (simp [notSet] at h)
end
/-- what the look gives -/
def isBO : Expr → Bool
  | .BoolOp _ _ _ => true
  | _ => false
def CkP (c : CK) (a : Ex) : Prop := ∀ (XR : XRT) (E : XK) (cf : CF) (X : Cx) (e : Expr), XOk c XR E cf X → ckE c a X.env.scope e = true → SE XR E cf X a e ∧ (a.tOk = true → ST XR E cf X a e) ∧ (a.tOk = true → isBO e = true → SW XR E cf X a e)
theorem ckp_plain {XR : XRT} {E : XK} {cf : CF} {X : Cx} {a : Ex} {e : Expr} (h : SE XR E cf X a e) (p : plainT e = true) : SE XR E cf X a e ∧ (a.tOk = true → ST XR E cf X a e) ∧ (a.tOk = true → isBO e = true → SW XR E cf X a e) :=
  ⟨h, fun _ => st_plain p h, fun _ q => by cases e <;> first | (cases p; done) | (cases q; done) | (exfalso; simp [isBO] at q)⟩
theorem ckp_test {XR : XRT} {E : XK} {cf : CF} {X : Cx} {a : Ex} {e : Expr} (h : SE XR E cf X a e) (t : a.tOk = true → ST XR E cf X a e) (p : isBO e = false) : SE XR E cf X a e ∧ (a.tOk = true → ST XR E cf X a e) ∧ (a.tOk = true → isBO e = true → SW XR E cf X a e) :=
  ⟨h, t, fun _ q => by rw [p] at q; cases q⟩
theorem pvEq_eq {p q : PV} (h : pvEq p q = true) : p = q := (pvEq_ok p q h).1
variable (c : CK)
mutual
theorem ck_ok : ∀ a : Ex, CkP c a
  | .var i => fun XR E cf X e k h => by
    unfold ckE at h; split at h
    · obtain ⟨h1, h2, h3, h4⟩ := okVar_of k h
      exact ckp_plain (se_var h1 h2 h3 h4) rfl
    · cases h
  | .mv i => fun XR E cf X e k h => by
    unfold ckE at h; split at h
    · obtain ⟨h1, h2, h3, h4⟩ := okVar_of k h
      exact ckp_plain (se_mv h1 h2 h3 h4) rfl
    · cases h
  | .cint i => fun XR E cf X e k h => by
    unfold ckE at h; split at h
    · have := of_decide_eq_true h; subst this
      exact ckp_plain se_int rfl
    · cases h
  | .cbool i => fun XR E cf X e k h => by
    unfold ckE at h; split at h
    · have := eq_of_beq h; subst this
      exact ckp_plain se_bool rfl
    · cases h
  | .cnone => fun XR E cf X e k h => by
    unfold ckE at h; split at h
    · exact ckp_plain se_none rfl
    · cases h
  | .cstr s => fun XR E cf X e k h => by
    unfold ckE at h; split at h
    · have := of_decide_eq_true h; subst this
      exact ckp_plain se_str rfl
    · cases h
  | .glob g v => fun XR E cf X e k h => by
    unfold ckE at h; split at h
    · rename_i x _
      simp only [Bool.and_eq_true, decide_eq_true_eq] at h
      obtain ⟨⟨h1, h2⟩, h3⟩ := h
      subst h1
      obtain ⟨g1, g2⟩ := gl_of h2
      split at h3
      · rename_i q hq
        have e1 := List.find?_some hq
        have e2 := List.mem_of_find?_eq_some hq
        have e3 : q.1 = g := by simpa using e1
        have e4 := pvEq_eq h3
        obtain ⟨q1, q2⟩ := q
        simp only at e3 e4
        subst e3 e4
        exact ckp_plain (se_glob k g1 e2 g2) rfl
      · cases h3
    · cases h
  | .bin o a b => fun XR E cf X e k h => by
    unfold ckE at h; split at h
    · simp only [Bool.and_eq_true] at h
      exact ckp_plain (se_bin h.1.1 (ck_ok a XR E cf X _ k h.1.2).1 (ck_ok b XR E cf X _ k h.2).1) rfl
    · cases h
  | .neg a => fun XR E cf X e k h => by
    unfold ckE at h; split at h
    · exact ckp_plain (se_neg (ck_ok a XR E cf X _ k h).1) rfl
    · cases h
  | .not a => fun XR E cf X e k h => by
    unfold ckE at h; split at h
    · have ih := ck_ok a XR E cf X _ k h
      exact ckp_test (se_not ih.1) (fun t => st_not (ih.2.1 (by simpa [Ex.tOk] using t))) rfl
    · cases h
  | .and a b => fun XR E cf X e k h => by
    unfold ckE at h; split at h
    · simp only [Bool.and_eq_true] at h
      have ia := ck_ok a XR E cf X _ k h.1
      have ib := ck_ok b XR E cf X _ k h.2
      have hs : (Ex.and a b).tOk = true → SW XR E cf X (.and a b) _ := fun t => by
        simp only [Ex.tOk, Bool.and_eq_true] at t
        exact sw_and (ia.2.1 t.1) (ib.2.2 t.2 rfl)
      exact ⟨se_and ia.1 ib.1, fun t => (hs t).st, fun t _ => hs t⟩
    · cases h
  | .or a b => fun XR E cf X e k h => by
    unfold ckE at h; split at h
    · simp only [Bool.and_eq_true] at h
      have ia := ck_ok a XR E cf X _ k h.1
      have ib := ck_ok b XR E cf X _ k h.2
      have hs : (Ex.or a b).tOk = true → SW XR E cf X (.or a b) _ := fun t => by
        simp only [Ex.tOk, Bool.and_eq_true] at t
        exact sw_or (ia.2.1 t.1) (ib.2.2 t.2 rfl)
      exact ⟨se_or ia.1 ib.1, fun t => (hs t).st, fun t _ => hs t⟩
    · cases h
  | .one a => fun XR E cf X e k h => by
    unfold ckE at h; split at h
    · rename_i op x pos
      have ia := ck_ok a XR E cf X _ k h
      have hs : (Ex.one a).tOk = true → SW XR E cf X (.one a) (.BoolOp op [x] pos) := fun t => by
        cases op
        · exact sw_and1 (ia.2.1 (by simpa [Ex.tOk] using t))
        · exact sw_or1 (ia.2.1 (by simpa [Ex.tOk] using t))
      exact ⟨se_one ia.1, fun t => (hs t).st, fun t _ => hs t⟩
    · cases h
  | .cmp o a b => fun XR E cf X e k h => by
    unfold ckE at h; split at h
    · simp only [Bool.and_eq_true] at h
      have ia := (ck_ok a XR E cf X _ k h.1.2).1
      have ib := (ck_ok b XR E cf X _ k h.2).1
      exact ckp_test (se_cmp k.units h.1.1.1 (notSet_mark h.1.1.2) ia ib) (fun _ => st_cmp k.units h.1.1.1 (notSet_mark h.1.1.2) ia ib) rfl
    · cases h
  | .chain o p a b d => fun XR E cf X e k h => by
    unfold ckE at h; split at h
    · simp only [Bool.and_eq_true] at h
      have ia := (ck_ok a XR E cf X _ k h.1.1.2).1
      have ib := (ck_ok b XR E cf X _ k h.1.2).1
      have id := (ck_ok d XR E cf X _ k h.2).1
      obtain ⟨s1, s2⟩ := se_chain (pos := by assumption) k.units h.1.1.1.1.1 h.1.1.1.1.2 h.1.1.1.2 ia ib id
      exact ckp_test s1 (fun _ => s2) rfl
    · cases h
  | .isN a => fun XR E cf X e k h => by
    unfold ckE at h; split at h
    · have ia := (ck_ok a XR E cf X _ k h).1
      exact ckp_test (se_isN ia) (fun _ => st_isN ia) rfl
    · cases h
  | .notN a => fun XR E cf X e k h => by
    unfold ckE at h; split at h
    · have ia := (ck_ok a XR E cf X _ k h).1
      exact ckp_test (se_notN ia) (fun _ => st_notN ia) rfl
    · cases h
  | .inR ng a lo hi => fun XR E cf X e k h => by
    unfold ckE at h; split at h
    · simp only [Bool.and_eq_true, decide_eq_true_eq] at h
      obtain ⟨⟨⟨⟨⟨⟨⟨h1, h2⟩, h3⟩, h4⟩, h5⟩, h6⟩, h7⟩, h8⟩ := h
      have h1 := eq_of_beq h1
      subst h1 h2
      obtain ⟨s1, s2⟩ := se_inR (ng := ng) k (gl_of h3).1 h4 h5 (ck_ok a XR E cf X _ k h6).1 (ck_ok lo XR E cf X _ k h7).1 (ck_ok hi XR E cf X _ k h8).1
      exact ckp_test s1 (fun _ => s2) rfl
    · cases h
  | .ite t a b => fun XR E cf X e k h => by
    unfold ckE at h; split at h
    · simp only [Bool.and_eq_true] at h
      refine ckp_test (se_ite ((ck_ok t XR E cf X _ k h.1.1.2).2.1 h.1.1.1) (ck_ok a XR E cf X _ k h.1.2).1 (ck_ok b XR E cf X _ k h.2).1) (fun q => by simp [Ex.tOk] at q) rfl
    · cases h
  | .tup es => fun XR E cf X e k h => by
    unfold ckE at h; split at h
    · exact ckp_plain (se_tup (cks_ok es XR E cf X _ k h).1) rfl
    · cases h
  | .lst es => fun XR E cf X e k h => by
    unfold ckE at h; split at h
    · exact ckp_plain (se_lst (cks_ok es XR E cf X _ k h).1) rfl
    · cases h
  | .dic es vs => fun XR E cf X e k h => by
    unfold ckE at h; split at h
    · split at h
      · simp only [Bool.and_eq_true, decide_eq_true_eq] at h
        obtain ⟨rfl, rfl⟩ := h
        exact ckp_plain se_dic1 rfl
      · cases h
    · cases h
  | .sub a i => fun XR E cf X e k h => by
    unfold ckE at h; split at h
    · simp only [Bool.and_eq_true] at h
      exact ckp_plain (se_sub h.1.1 (ck_ok a XR E cf X _ k h.1.2).1 (ck_ok i XR E cf X _ k h.2).1) rfl
    · cases h
  | .sli a lo hi => fun XR E cf X e k h => by
    unfold ckE at h; split at h
    · simp only [Bool.and_eq_true] at h
      exact ckp_plain (se_sli (ck_ok a XR E cf X _ k h.1.1).1 (cko_ok lo XR E cf X _ k h.1.2) (cko_ok hi XR E cf X _ k h.2)) rfl
    · cases h
  | .rev a => fun XR E cf X e k h => by
    unfold ckE at h; split at h
    · exact ckp_plain (se_rev (ck_ok a XR E cf X _ k h).1) rfl
    · cases h
  | .call f es => fun XR E cf X e k h => by
    unfold ckE at h; split at h
    · simp only [Bool.and_eq_true, decide_eq_true_eq] at h
      obtain ⟨⟨⟨h1, h2⟩, h3⟩, h4⟩ := h
      subst h1
      obtain ⟨s1, s2⟩ := cks_ok es XR E cf X _ k h4
      exact ckp_plain (se_call k (by simpa using h3) (gl_of h2).1 (gl_of h2).2 s2 s1) rfl
    · cases h
  | .callIo f i es => fun XR E cf X e k h => by
    unfold ckE at h; split at h
    · simp only [Bool.and_eq_true, decide_eq_true_eq] at h
      obtain ⟨⟨⟨⟨h1, h2⟩, h3⟩, h4⟩, h5⟩ := h
      subst h1
      obtain ⟨s1, s2⟩ := cks_ok es XR E cf X _ k h5
      obtain ⟨v1, v2, v3, v4⟩ := okVar_of k h4
      exact ckp_plain (se_callIo k (by simpa using h3) (gl_of h2).1 (gl_of h2).2 v1 v2 v3 v4 s2 s1) rfl
    · cases h
  | .blt f es => fun XR E cf X e k h => by
    unfold ckE at h; split at h
    · simp only [Bool.and_eq_true, decide_eq_true_eq] at h
      obtain ⟨⟨h1, h2⟩, h3⟩ := h
      subst h1
      obtain ⟨s1, s2⟩ := cks_ok es XR E cf X _ k h3
      exact ckp_plain (se_blt k (gl_of h2).1 s2 s1) rfl
    · cases h
  | .isi a t => fun XR E cf X e k h => by
    unfold ckE at h; split at h
    · simp only [Bool.and_eq_true, decide_eq_true_eq] at h
      obtain ⟨⟨⟨⟨⟨⟨h1, h2⟩, h3⟩, h4⟩, h5⟩, h6⟩, h7⟩ := h
      subst h1 h2
      exact ckp_plain (se_isi k (fun cc z => by subst z; cases h6) (gl_of h3).1 (gl_of h4).1 h5 (ck_ok a XR E cf X _ k h7).1) rfl
    · cases h
  | .comp elt tg it cond => fun XR E cf X e k h => by
    unfold ckE at h; split at h
    · simp only [Bool.and_eq_true] at h
      obtain ⟨⟨⟨⟨⟨h1, h2⟩, h3⟩, h4⟩, h5⟩, h6⟩ := h
      refine ckp_plain (se_lc k (ckit_ok it XR E cf X _ _ k h3) (own := ownOf c.N tg.slots) (by rw [k.hN]; exact blkOk_by h1) (by unfold ownOf; rw [List.map_map]; exact List.map_id' _) h2 (fun b => ?_) (fun b => ?_) (fun b => ?_)) rfl
      · exact ckTg_ok (c := c) (X := blkX X _ b) (fun x h => h) k.hN k.nd k.calm tg _ h4
      · exact ckc_ok cond XR E0 cf _ _ (xok_blk k) h5
      · exact (ck_ok elt XR E0 cf _ _ (xok_blk k) h6).1
    · cases h
theorem cks_ok : ∀ (as : Exs) (XR : XRT) (E : XK) (cf : CF) (X : Cx) (es : List Expr), XOk c XR E cf X → ckEs c as X.env.scope es = true → SEs XR E cf X as es ∧ es.all notStar = true
  | .nil => fun XR E cf X es k h => by
    unfold ckEs at h; split at h
    · exact ⟨ses_nil, rfl⟩
    · cases h
  | .cons a as => fun XR E cf X es k h => by
    unfold ckEs at h; split at h
    · simp only [Bool.and_eq_true] at h
      obtain ⟨s1, s2⟩ := cks_ok as XR E cf X _ k h.2
      exact ⟨ses_cons h.1.1 (ck_ok a XR E cf X _ k h.1.2).1 s1, by simp [h.1.1, s2]⟩
    · cases h
theorem cko_ok : ∀ (as : Exs) (XR : XRT) (E : XK) (cf : CF) (X : Cx) (o : Option Expr), XOk c XR E cf X → ckO c as X.env.scope o = true → GO XR E cf X as o
  | .nil => fun XR E cf X o k h => by
    unfold ckO at h; split at h
    · exact go_none
    · cases h
  | .cons a as => fun XR E cf X o k h => by
    unfold ckO at h; split at h
    · rw [Bool.and_eq_true] at h
      obtain ⟨h1, h2⟩ := h
      split at h1
      · exact go_some (ck_ok a XR E cf X _ k h2).1
      · cases h1
    · cases h
theorem ckc_ok : ∀ (as : Exs) (XR : XRT) (E : XK) (cf : CF) (X : Cx) (es : List Expr), XOk c XR E cf X → ckC c as X.env.scope es = true → SC XR E cf X as es
  | .nil => fun XR E cf X es k h => by
    unfold ckC at h; split at h
    · exact sc_nil
    · cases h
  | .cons a as => fun XR E cf X es k h => by
    unfold ckC at h; split at h
    · rw [Bool.and_eq_true] at h
      exact sc_one ((ck_ok a XR E cf X _ k h.2).2.1 h.1)
    · cases h
theorem ckit_ok : ∀ (it : It) (XR : XRT) (E : XK) (cf : CF) (X : Cx) (tg e : Expr), XOk c XR E cf X → ckIt c it X.env.scope tg e = true → SI XR E cf X it tg e
  | .seq a => fun XR E cf X tg e k h => by
    unfold ckIt at h
    exact si_seq (ck_ok a XR E cf X _ k h).1
  | .range1 a => fun XR E cf X tg e k h => by
    unfold ckIt at h; split at h
    · simp only [Bool.and_eq_true, decide_eq_true_eq] at h
      obtain ⟨⟨⟨h1, h2⟩, h3⟩, h4⟩ := h
      subst h1
      exact si_range1 k (gl_of h2).1 h3 (ck_ok a XR E cf X _ k h4).1
    · cases h
  | .range2 a b => fun XR E cf X tg e k h => by
    unfold ckIt at h; split at h
    · simp only [Bool.and_eq_true, decide_eq_true_eq] at h
      obtain ⟨⟨⟨⟨⟨h1, h2⟩, h3⟩, h4⟩, h5⟩, h6⟩ := h
      subst h1
      exact si_range2 k (gl_of h2).1 h3 h4 (ck_ok a XR E cf X _ k h5).1 (ck_ok b XR E cf X _ k h6).1
    · cases h
  | .range3 a b d => fun XR E cf X tg e k h => by
    unfold ckIt at h; cases h
  | .zip a b => fun XR E cf X tg e k h => by
    unfold ckIt at h; split at h
    · simp only [Bool.and_eq_true, decide_eq_true_eq] at h
      obtain ⟨⟨⟨⟨⟨⟨h1, h2⟩, h0⟩, h3⟩, h4⟩, h5⟩, h6⟩ := h
      subst h1
      cases tg <;> first | (cases h0; done) | exact si_zip k (gl_of h2).1 h3 h4 (ck_ok a XR E cf X _ k h5).1 (ck_ok b XR E cf X _ k h6).1
    · cases h
  | .enum a => fun XR E cf X tg e k h => by
    unfold ckIt at h; split at h
    · simp only [Bool.and_eq_true, decide_eq_true_eq] at h
      obtain ⟨⟨⟨⟨h1, h2⟩, h0⟩, h3⟩, h5⟩ := h
      subst h1
      cases tg <;> first | (cases h0; done) | exact si_enum k (gl_of h2).1 h3 (ck_ok a XR E cf X _ k h5).1
    · cases h
end
theorem ckitr_ok (c : CK) : ∀ (it : It) (XR : XRT) (E : XK) (cf : CF) (X : Cx) (tg e : Expr), XOk c XR E cf X → it.rng = true → ckIt c it X.env.scope tg e = true → SIr XR E cf X it tg e
  | .range1 a => fun XR E cf X tg e k _ h => by
    unfold ckIt at h; split at h
    · simp only [Bool.and_eq_true, decide_eq_true_eq] at h
      obtain ⟨⟨⟨h1, h2⟩, h3⟩, h4⟩ := h
      subst h1
      exact si_range1r k (gl_of h2).1 h3 (ck_ok c a XR E cf X _ k h4).1
    · cases h
  | .range2 a b => fun XR E cf X tg e k _ h => by
    unfold ckIt at h; split at h
    · simp only [Bool.and_eq_true, decide_eq_true_eq] at h
      obtain ⟨⟨⟨⟨⟨h1, h2⟩, h3⟩, h4⟩, h5⟩, h6⟩ := h
      subst h1
      exact si_range2r k (gl_of h2).1 h3 h4 (ck_ok c a XR E cf X _ k h5).1 (ck_ok c b XR E cf X _ k h6).1
    · cases h
  | .seq _ => fun _ _ _ _ _ _ _ z _ => by cases z
  | .range3 _ _ _ => fun _ _ _ _ _ _ _ z _ => by cases z
  | .zip _ _ => fun _ _ _ _ _ _ _ z _ => by cases z
  | .enum _ => fun _ _ _ _ _ _ _ z _ => by cases z
end LC
end

section
set_option Elab.async false
set_option linter.all false
set_option maxRecDepth 100000
set_option maxHeartbeats 2000000
namespace LC
open PySem PySem.Spec L2
/-! ### an expression of a statement -/
theorem sel_sel (p q : Nat → Bool) : ∀ (i : Nat) (ρ : Env), selS p i (selS q i ρ) = selS (fun j => q j && p j) i ρ
  | _, [] => rfl
  | i, x :: xs => by
    simp only [selS]
    rw [sel_sel p q (i + 1) xs]
    by_cases hp : p i = true <;> by_cases hq : q i = true <;> simp [hp, hq]
theorem sel_or (p q : Nat → Bool) : ∀ (i : Nat) (ρ : Env), orS (selS p i ρ) (selS q i ρ) = selS (fun j => p j || q j) i ρ
  | _, [] => rfl
  | i, x :: xs => by
    simp only [selS, orS]
    rw [sel_or p q (i + 1) xs]
    by_cases hp : p i = true <;> by_cases hq : q i = true <;> cases x <;> simp [hp, hq]
section
variable {K : PySem.W.Frag} {G G' H H' : Hp} {σ σ' : Sl} {ρ ρ' : Env} {F F1 F2 : List Addr}
theorem Rso.lfE (h : Rso K G H σ ρ F) : (∀ i v, getS ρ i = some v → lf v = true) → F = [] := by
  induction h with
  | nil => intro _; rfl
  | hid r ih => intro q; exact ih fun i v e => q (i + 1) v (by simpa [getS] using e)
  | val c r d ih =>
    intro q
    have h0 := q 0 _ (by simp [getS]; rfl)
    rw [c.lf (by simp [lfs, h0]), ih fun i v e => q (i + 1) v (by simpa [getS] using e)]; rfl
theorem Rso.clE (h : Rso K G H σ ρ F) : (∀ i v, getS ρ i = some v → cl v = true) → F = [] := by
  induction h with
  | nil => intro _; rfl
  | hid r ih => intro q; exact ih fun i v e => q (i + 1) v (by simpa [getS] using e)
  | val c r d ih =>
    intro q
    have h0 := q 0 _ (by simp [getS]; rfl)
    rw [c.cl (by simp [cls, h0]), ih fun i v e => q (i + 1) v (by simpa [getS] using e)]; rfl
/-- three parts of the slots: changed, read, the others -/
structure Parts (K : PySem.W.Frag) (G H : Hp) (σ : Sl) (ρ : Env) (F : List Addr) (vr ks : List Nat) (Fk Fv Fo : List Addr) : Prop where
  k : Rso K G H σ (selS (fun i => ks.contains i) 0 ρ) Fk
  v : Rso K G H σ (selS (fun i => vr.contains i) 0 (selS (fun i => !ks.contains i) 0 ρ)) Fv
  o : Rso K G H σ (selS (fun i => !vr.contains i) 0 (selS (fun i => !ks.contains i) 0 ρ)) Fo
  kv : ∀ a ∈ Fk, a ∉ Fv
  ko : ∀ a ∈ Fk, a ∉ Fo
  vo : ∀ a ∈ Fv, a ∉ Fo
  m : ∀ a, a ∈ F ↔ a ∈ Fk ∨ a ∈ Fv ∨ a ∈ Fo
theorem parts (h : Rso K G H σ ρ F) (vr ks : List Nat) : ∃ Fk Fv Fo, Parts K G H σ ρ F vr ks Fk Fv Fo := by
  obtain ⟨Fk, Fn, h1, h2, d1, m1⟩ := h.split (fun i => ks.contains i) 0
  obtain ⟨Fv, Fo, h3, h4, d2, m2⟩ := h2.split (fun i => vr.contains i) 0
  exact ⟨Fk, Fv, Fo, h1, h3, h4, fun a ha z => d1 a ha ((m2 a).mpr (.inl z)), fun a ha z => d1 a ha ((m2 a).mpr (.inr z)), d2, fun a => by rw [m1, m2]⟩
theorem Parts.msk {vr ks : List Nat} {Fk Fv Fo : List Addr} (p : Parts K G H σ ρ F vr ks Fk Fv Fo) (gh : Same G H) : ∃ Fm, RS K (frzH Fv H G) H σ (mskS vr ks ρ) Fm ∧ (∀ a ∈ Fm, a ∈ Fk) ∧ Ext Fv G H (frzH Fv H G) H := by
  have hB : ∀ a ∈ Fv, G a = none := fun a ha => (p.v.inH a ha).2
  have ef : Ext Fv G H (frzH Fv H G) H := ext_frz hB
  have k' : Rso K (frzH Fv H G) H σ _ Fk := p.k.ext ef p.kv
  have v' : Rso K (frzH Fv H G) H σ (frzS _) [] := p.v.freeze (frzH_sg hB) fun a ha => frzH_in ha
  obtain ⟨Fm, j, mj⟩ := k'.join v' (by simp)
  refine ⟨Fm, ⟨frzH_gh gh, ?_⟩, fun a ha => ?_, ef⟩
  · unfold mskS
    rw [sel_sel] at j
    have e : (fun j => !ks.contains j && vr.contains j) = fun i => vr.contains i && !ks.contains i := by funext i; rw [Bool.and_comm]
    rw [e] at j
    exact j
  · rcases mj a ha with z | z
    · exact z
    · simp at z
/-- behind it, the lists that were read still frozen -/
theorem Parts.back {vr ks : List Nat} {Fk Fv Fo Fm F1 : List Addr} {G1 H1 : Hp} {ρ1 : Env} (p : Parts K G H σ ρ F vr ks Fk Fv Fo) (gh : Same G H) (sm : ∀ a ∈ Fm, a ∈ Fk) (e1 : Ext Fm (frzH Fv H G) H G1 H1) (st1 : RS K G1 H1 σ ρ1 F1) (s1 : ∀ a ∈ F1, a ∈ Fm) :
    Ext F G H G1 H1 ∧ ∃ F2, RS K G1 H1 σ (mrgS false vr ks ρ ρ1) F2 ∧ (∀ a ∈ F2, a ∈ F) ∧ ∀ a ∈ F2, a ∈ F1 ∨ (a ∉ Fm ∧ H a ≠ none) := by
  have hB : ∀ a ∈ Fv, G a = none := fun a ha => (p.v.inH a ha).2
  have ef : Ext Fv G H (frzH Fv H G) H := ext_frz hB
  refine ⟨(ef.weak fun a ha => (p.m a).mpr (.inr (.inl ha))).trans e1 fun a ha => .inl ((p.m a).mpr (.inl (sm a ha))), ?_⟩
  obtain ⟨Fa, Fb, h1, h2, d1, m1⟩ := st1.so.split (fun i => ks.contains i) 0
  have v' : Rso K (frzH Fv H G) H σ (frzS _) [] := p.v.freeze (frzH_sg hB) fun a ha => frzH_in ha
  have v1 : Rso K G1 H1 σ (frzS _) [] := v'.ext e1 (by simp)
  have o' : Rso K (frzH Fv H G) H σ _ Fo := p.o.ext ef fun a ha z => p.vo a z ha
  have o1 : Rso K G1 H1 σ _ Fo := o'.ext e1 fun a ha z => p.ko a (sm a z) ha
  obtain ⟨F3, j3, m3⟩ := v1.join o1 (by simp)
  obtain ⟨F2, j2, m2⟩ := h1.join j3 fun a ha z => by
    rcases m3 a z with y | y
    · simp at y
    · exact p.ko a (sm a (s1 a ((m1 a).mpr (.inl ha)))) y
  refine ⟨F2, ⟨st1.gh, ?_⟩, fun a ha => ?_, fun a ha => ?_⟩
  · unfold mrgS
    rw [if_neg (by simp)]
    rw [sel_sel, sel_sel] at j2
    have e : (fun j => !ks.contains j && vr.contains j) = fun i => vr.contains i && !ks.contains i := by funext i; rw [Bool.and_comm]
    have e' : (fun j => !ks.contains j && !vr.contains j) = fun i => !(vr.contains i) && !ks.contains i := by funext i; rw [Bool.and_comm]
    rw [e, e'] at j2
    exact j2
  · rcases m2 a ha with z | z
    · exact (p.m a).mpr (.inl (sm a (s1 a ((m1 a).mpr (.inl z)))))
    · rcases m3 a z with y | y
      · simp at y
      · exact (p.m a).mpr (.inr (.inr y))
  · rcases m2 a ha with z | z
    · exact .inl ((m1 a).mpr (.inl z))
    · rcases m3 a z with y | y
      · simp at y
      · refine .inr ⟨fun w => p.ko a (sm a w) y, ?_⟩
        obtain ⟨⟨ws, w⟩, _⟩ := p.o.inH a y
        rw [w]; simp
/-- behind it, as before -/
structure Thawed (K : PySem.W.Frag) (G H : Hp) (σ : Sl) (ρ : Env) (F : List Addr) (ks : List Nat) (Fv Fo : List Addr) (G1 H1 : Hp) (ρ1 : Env) (F1 : List Addr) : Prop where
  ext : Ext F G H (cutH Fv G1) H1
  gh : Same (cutH Fv G1) H1
  k : ∃ Fa, Rso K (cutH Fv G1) H1 σ (selS (fun i => ks.contains i) 0 ρ1) Fa ∧ (∀ a ∈ Fa, a ∈ F1)
  kp : ∀ a, a ∈ Fv ∨ a ∈ Fo → H1 a = H a ∧ cutH Fv G1 a = none
  val : ∀ vs ps Fw, Rps K G1 H1 vs ps Fw → nfzs ps = true → Rps K (cutH Fv G1) H1 vs ps Fw
theorem Parts.thaw {vr ks : List Nat} {Fk Fv Fo Fm F1 : List Addr} {G1 H1 : Hp} {ρ1 : Env} (p : Parts K G H σ ρ F vr ks Fk Fv Fo) (gh : Same G H) (sm : ∀ a ∈ Fm, a ∈ Fk) (e1 : Ext Fm (frzH Fv H G) H G1 H1) (st1 : RS K G1 H1 σ ρ1 F1) (s1 : ∀ a ∈ F1, a ∈ Fm) (hk : ksOk ks ρ1 = true) :
    Thawed K G H σ ρ F ks Fv Fo G1 H1 ρ1 F1 := by
  have hB : ∀ a ∈ Fv, G a = none := fun a ha => (p.v.inH a ha).2
  have hH : ∀ a ∈ Fv, H1 a = H a := fun a ha => by
    obtain ⟨⟨ws, w⟩, _⟩ := p.v.inH a ha
    have : frzH Fv H G a = some (.lst ws) := by rw [frzH_in ha]; exact w
    rw [w]
    exact st1.gh a _ (e1.sg a _ this)
  have hL : ∀ a ∈ Fv, ∃ ws, H1 a = some (.lst ws) := fun a ha => by
    obtain ⟨⟨ws, w⟩, _⟩ := p.v.inH a ha
    exact ⟨ws, by rw [hH a ha, w]⟩
  have hO : ∀ a ∈ Fo, H1 a = H a ∧ G1 a = none := fun a ha => by
    obtain ⟨⟨ws, w⟩, n⟩ := p.o.inH a ha
    have nm : a ∉ Fm := fun z => p.ko a (sm a z) ha
    have nv : a ∉ Fv := fun z => p.vo a z ha
    refine ⟨by rw [w]; exact e1.fr a _ w nm, ?_⟩
    cases z : G1 a with
    | none => rfl
    | some o =>
      rcases e1.nw a (by rw [z]; simp) with y | y | y
      · rw [frzH_out nv] at y; exact absurd n y
      · rw [w] at y; cases y
      · exact absurd y nm
  refine ⟨⟨fun b o e => ?_, fun b o e n => ?_, fun b e => e1.dm b e, fun b e => ?_⟩, fun b o e => st1.gh b o (cutH_some e).2, ?_, fun a ha => ?_, fun vs ps Fw r h => r.thaw st1.gh hL h⟩
  · have nb : b ∉ Fv := fun z => by rw [hB b z] at e; cases e
    rw [cutH_out nb]
    exact e1.sg b o (by rw [frzH_out nb]; exact e)
  · exact e1.fr b o e fun z => n ((p.m b).mpr (.inl (sm b z)))
  · by_cases nb : b ∈ Fv
    · rw [cutH_in nb] at e; exact absurd rfl e
    · rw [cutH_out nb] at e
      rcases e1.nw b e with z | z | z
      · rw [frzH_out nb] at z; exact .inl z
      · exact .inr (.inl z)
      · exact .inr (.inr ((p.m b).mpr (.inl (sm b z))))
  · obtain ⟨Fa, Fb, h1, h2, d1, m1⟩ := st1.so.split (fun i => ks.contains i) 0
    exact ⟨Fa, h1.thaw st1.gh hL hk, fun a ha => (m1 a).mpr (.inl ha)⟩
  · rcases ha with ha | ha
    · exact ⟨hH a ha, cutH_in ha⟩
    · have nv : a ∉ Fv := fun z => p.vo a z ha
      exact ⟨(hO a ha).1, by rw [cutH_out nv]; exact (hO a ha).2⟩
theorem Parts.all {vr ks : List Nat} {Fk Fv Fo Fm F1 : List Addr} {G1 H1 : Hp} {ρ1 : Env} (p : Parts K G H σ ρ F vr ks Fk Fv Fo) (sm : ∀ a ∈ Fm, a ∈ Fk) (s1 : ∀ a ∈ F1, a ∈ Fm) (t : Thawed K G H σ ρ F ks Fv Fo G1 H1 ρ1 F1) :
    ∃ F2, RS K (cutH Fv G1) H1 σ (mrgS true vr ks ρ ρ1) F2 ∧ (∀ a ∈ F2, a ∈ F) ∧ ∀ a ∈ F2, a ∈ F1 ∨ (a ∉ Fm ∧ H a ≠ none) := by
  have v1 : Rso K (cutH Fv G1) H1 σ _ Fv := p.v.mono t.ext.sg fun a ha => t.kp a (.inl ha)
  have o1 : Rso K (cutH Fv G1) H1 σ _ Fo := p.o.mono t.ext.sg fun a ha => t.kp a (.inr ha)
  obtain ⟨Fa, ka, sa⟩ := t.k
  obtain ⟨F3, j3, m3⟩ := v1.join o1 p.vo
  obtain ⟨F2, j2, m2⟩ := ka.join j3 fun a ha z => by
    rcases m3 a z with y | y
    · exact p.kv a (sm a (s1 a (sa a ha))) y
    · exact p.ko a (sm a (s1 a (sa a ha))) y
  refine ⟨F2, ⟨t.gh, ?_⟩, fun a ha => ?_, fun a ha => ?_⟩
  · unfold mrgS
    rw [if_pos rfl]
    rw [sel_sel, sel_sel, sel_or] at j2
    have e : (fun j => !ks.contains j && vr.contains j || !ks.contains j && !vr.contains j) = fun i => !ks.contains i := by funext i; cases ks.contains i <;> cases vr.contains i <;> rfl
    rw [e] at j2
    exact j2
  · rcases m2 a ha with z | z
    · exact (p.m a).mpr (.inl (sm a (s1 a (sa a z))))
    · rcases m3 a z with y | y
      · exact (p.m a).mpr (.inr (.inl y))
      · exact (p.m a).mpr (.inr (.inr y))
  · rcases m2 a ha with z | z
    · exact .inl (sa a z)
    · rcases m3 a z with y | y
      · refine .inr ⟨fun w => p.kv a (sm a w) y, ?_⟩
        obtain ⟨⟨ws, w⟩, _⟩ := p.v.inH a y
        rw [w]; simp
      · refine .inr ⟨fun w => p.ko a (sm a w) y, ?_⟩
        obtain ⟨⟨ws, w⟩, _⟩ := p.o.inH a y
        rw [w]; simp
end
section
variable {K : PySem.W.Frag} {XR : XRT} {E : XK} {cf : CF} {X : Cx}
theorem nofv {F1 Fm F2 Fv : List Addr} {H : Hp} (m2 : ∀ a ∈ F2, a ∈ F1 ∨ (a ∉ Fm ∧ H a ≠ none)) (d : ∀ a ∈ Fv, a ∉ F1 ∧ (a ∈ Fm ∨ H a = none)) : ∀ a ∈ Fv, a ∉ F2 := fun a ha z => by
  rcases m2 a z with y | ⟨y1, y2⟩
  · exact (d a ha).1 y
  · rcases (d a ha).2 with w | w
    · exact y1 w
    · exact y2 w
theorem gx {a : Ex} {t : TE} (ga : GE K XR E cf t a) {σ : Sl} {ρ : Env} {F : List Addr} {G H : Hp} {Q : VK} (st : RS K G H σ ρ F) (q : OKR K XR σ F G H (evX cf a ρ) Q E) : t σ H Q := by
  unfold evX at q
  split at q
  · exact ga σ ρ F G H Q st q
  · obtain ⟨Fk, Fv, Fo, p⟩ := parts st.so a.vr a.ks
    obtain ⟨Fm, stm, sm, ef⟩ := p.msk st.gh
    refine ga σ _ Fm _ H Q stm ?_
    cases h : evE cf a (mskS a.vr a.ks ρ) with
    | bad => rw [h] at q; exact q
    | exn cc fs ρ1 =>
      rw [h] at q
      simp only at q
      split at q
      · rename_i hk
        intro cls d G1 H1 F1 e1 st1 s1 x1
        have th := p.thaw st.gh sm e1 st1 s1 hk
        obtain ⟨F2, st2, s2, _⟩ := p.all sm s1 th
        exact q cls d _ H1 F2 th.ext st2 s2 x1
      · exact q.elim
    | ok pv ρ1 =>
      rw [h] at q
      simp only at q
      split at q
      · rename_i hk
        intro v G1 H1 F1 Fw e1 st1 s1 r1 d1
        cases hn : nfz pv with
        | true =>
          rw [hn] at q
          have th := p.thaw st.gh sm e1 st1 s1 hk
          obtain ⟨F2, st2, s2, m2⟩ := p.all sm s1 th
          refine q v _ H1 F2 Fw th.ext st2 s2 (th.val _ _ _ r1 (by simp [nfzs, hn])) fun b hb => ⟨nofv m2 d1 b hb, ?_⟩
          rcases (d1 b hb).2 with y | y
          · exact .inl ((p.m b).mpr (.inl (sm b y)))
          · exact .inr y
        | false =>
          rw [hn] at q
          obtain ⟨ex, F2, st2, s2, m2⟩ := p.back st.gh sm e1 st1 s1
          refine q v _ H1 F2 Fw ex st2 s2 r1 fun b hb => ⟨nofv m2 d1 b hb, ?_⟩
          rcases (d1 b hb).2 with y | y
          · exact .inl ((p.m b).mpr (.inl (sm b y)))
          · exact .inr y
      · exact q.elim
theorem gxt {a : Ex} {t : TT} (ga : GT K XR E cf t a) {σ : Sl} {ρ : Env} {F : List Addr} {G H : Hp} {Q : Bool → Hp → Prop} (st : RS K G H σ ρ F) (q : OKt K XR σ F G H (evXt cf a ρ) Q E) : t σ H Q := by
  unfold evXt evX at q
  split at q
  · exact ga σ ρ F G H Q st q
  · obtain ⟨Fk, Fv, Fo, p⟩ := parts st.so a.vr a.ks
    obtain ⟨Fm, stm, sm, ef⟩ := p.msk st.gh
    refine ga σ _ Fm _ H Q stm ?_
    cases h : evE cf a (mskS a.vr a.ks ρ) with
    | bad => rw [h] at q; exact q
    | exn cc fs ρ1 =>
      rw [h] at q
      simp only at q
      split at q
      · rename_i hk
        intro cls d G1 H1 F1 e1 st1 s1 x1
        have th := p.thaw st.gh sm e1 st1 s1 hk
        obtain ⟨F2, st2, s2, _⟩ := p.all sm s1 th
        exact q cls d _ H1 F2 th.ext st2 s2 x1
      · exact q.elim
    | ok pv ρ1 =>
      rw [h] at q
      simp only at q
      split at q
      · rename_i hk
        simp only [Res.bind_ok] at q ⊢
        cases ht : truV pv with
        | none => rw [ht] at q; exact q
        | some b =>
          rw [ht] at q
          intro G1 H1 F1 e1 st1 s1
          cases hn : nfz pv with
          | true =>
            rw [hn] at q
            have th := p.thaw st.gh sm e1 st1 s1 hk
            obtain ⟨F2, st2, s2, m2⟩ := p.all sm s1 th
            exact q _ H1 F2 th.ext st2 s2
          | false =>
            rw [hn] at q
            obtain ⟨ex, F2, st2, s2, m2⟩ := p.back st.gh sm e1 st1 s1
            exact q _ H1 F2 ex st2 s2
      · exact q.elim
end
end LC
end

section
set_option Elab.async false
set_option linter.all false
set_option maxRecDepth 100000
set_option maxHeartbeats 2000000
namespace LC
open PySem PySem.Spec L2
/-! ### statements -/
structure SOk (c : CK) (XR : XRT) (E : XK) (cf : CF) (X : Cx) : Prop where
  x : XOk c XR E cf X
  own : PassesOwn (model X.prog X.w) X.A X.env X.xe
  fnT : ∀ y, X.fn y = true
  kind : X.env.scope.kind = .function
/-- what a statement may do to the state -/
structure Goes (K : PySem.W.Frag) (lk : List Nat) (σ : Sl) (F : List Addr) (G H : Hp) (σ' : Sl) (ρ' : Env) (F' : List Addr) (G' H' : Hp) : Prop where
  ext : Ext F G H G' H'
  st : RS K G' H' σ' ρ' F'
  sub : ∀ a ∈ F', a ∈ F ∨ H a = none
  len : σ'.length = σ.length
  lock : ∀ j ∈ lk, σ'[j]? = σ[j]?
section
variable (K : PySem.W.Frag) (XR : XRT) (lk : List Nat) (σ : Sl) (F : List Addr) (G H : Hp)
def OKf (r : Fl) (D : Ends) (E : XK) : Prop := match r with
  | .next ρ' => ∀ σ' F' G' H', Goes K lk σ F G H σ' ρ' F' G' H' → D.nx σ' H'
  | .brk ρ' => ∀ σ' F' G' H', Goes K lk σ F G H σ' ρ' F' G' H' → D.bk σ' H'
  | .ret p ρ' => ∀ v Fv σ' F' G' H', Goes K lk σ F G H σ' ρ' F' G' H' → Rps K G' H' [v] [p] Fv → (∀ a ∈ Fv, a ∉ F' ∧ (a ∈ F ∨ H a = none)) → D.rt v H'
  | .exn c fs ρ' => ∀ cls d σ' F' G' H', Goes K lk σ F G H σ' ρ' F' G' H' → XR c fs cls d H' → E cls d H'
  | .bad => False
end
section
variable {K : PySem.W.Frag} {XR : XRT} {E : XK} {lk : List Nat} {σ σ1 σ2 : Sl} {F F1 F2 : List Addr} {G H G1 H1 G2 H2 : Hp} {ρ ρ1 ρ2 : Env}
theorem Goes.refl (st : RS K G H σ ρ F) : Goes K lk σ F G H σ ρ F G H := ⟨Ext.refl, st, fun _ h => .inl h, rfl, fun _ _ => rfl⟩
theorem Goes.of (e : Ext F G H G1 H1) (st : RS K G1 H1 σ ρ1 F1) (s : ∀ a ∈ F1, a ∈ F) : Goes K lk σ F G H σ ρ1 F1 G1 H1 := ⟨e, st, fun a h => .inl (s a h), rfl, fun _ _ => rfl⟩
theorem Goes.trans (a : Goes K lk σ F G H σ1 ρ1 F1 G1 H1) (b : Goes K lk σ1 F1 G1 H1 σ2 ρ2 F2 G2 H2) : Goes K lk σ F G H σ2 ρ2 F2 G2 H2 :=
  ⟨a.ext.trans b.ext a.sub, b.st, fun x hx => by
    rcases b.sub x hx with z | z
    · exact a.sub x z
    · exact .inr (a.ext.none z), b.len.trans a.len, fun j hj => (b.lock j hj).trans (a.lock j hj)⟩
theorem Goes.back (a : Goes K lk σ F G H σ1 ρ1 F1 G1 H1) {Fv : List Addr} (d : ∀ x ∈ Fv, x ∉ F2 ∧ (x ∈ F1 ∨ H1 x = none)) : ∀ x ∈ Fv, x ∉ F2 ∧ (x ∈ F ∨ H x = none) := fun x hx => ⟨(d x hx).1, by
  rcases (d x hx).2 with z | z
  · exact a.sub x z
  · exact .inr (a.ext.none z)⟩
theorem OKf.later {r : Fl} {D : Ends} (q : OKf K XR lk σ F G H r D E) (g : Goes K lk σ F G H σ1 ρ1 F1 G1 H1) : OKf K XR lk σ1 F1 G1 H1 r D E := by
  cases r with
  | next ρ' => exact fun σ' F' G' H' g' => q σ' F' G' H' (g.trans g')
  | brk ρ' => exact fun σ' F' G' H' g' => q σ' F' G' H' (g.trans g')
  | ret p ρ' => exact fun v Fv σ' F' G' H' g' r d => q v Fv σ' F' G' H' (g.trans g') r (g.back d)
  | exn c fs ρ' => exact fun cls d σ' F' G' H' g' x => q cls d σ' F' G' H' (g.trans g') x
  | bad => exact q
theorem Goes.few {lk' : List Nat} (g : Goes K lk σ F G H σ1 ρ1 F1 G1 H1) (s : ∀ j ∈ lk', j ∈ lk) : Goes K lk' σ F G H σ1 ρ1 F1 G1 H1 := ⟨g.ext, g.st, g.sub, g.len, fun j hj => g.lock j (s j hj)⟩
/-- a name bound anew -/
theorem Goes.set {i : Nat} {v : V} {p : PV} {Fv : List Addr} (hi : okS lk ρ1 i = true) (e : Ext F G H G1 H1) (st : RS K G1 H1 σ ρ1 F1) (s : ∀ a ∈ F1, a ∈ F) (r : Rps K G1 H1 [v] [p] Fv) (d : ∀ a ∈ Fv, a ∉ F1 ∧ (a ∈ F ∨ H a = none)) :
    ∃ F2, Goes K lk σ F G H (σ.set i (some v)) (ρ1.set i (some p)) F2 G1 H1 := by
  unfold okS at hi
  simp only [Bool.and_eq_true, decide_eq_true_eq, Bool.not_eq_true'] at hi
  obtain ⟨F2, h2, m2⟩ := st.so.set hi.1 r fun a ha => (d a ha).1
  refine ⟨F2, e, ⟨st.gh, h2⟩, fun a ha => ?_, by simp, fun j hj => ?_⟩
  · rcases m2 a ha with z | z
    · exact .inl (s a z)
    · exact (d a z).2
  · rw [List.getElem?_set_ne]
    intro z
    subst z
    have := hi.2
    simp [hj] at this
end
section
variable {c : CK} {XR : XRT} {E : XK} {cf : CF} {X : Cx}
def SS (XR : XRT) (E : XK) (cf : CF) (X : Cx) (s : Stm) (e : Stmt) : Prop := ∃ t, PS X e t ∧ ∀ (lk : List Nat) (σ : Sl) (ρ : Env) (F : List Addr) (G H : Hp) (D : Ends), RS X.K G H σ ρ F → OKf X.K XR lk σ F G H (evS cf s lk ρ) D E → t D σ H
def SSs (XR : XRT) (E : XK) (cf : CF) (X : Cx) (s : Stms) (es : List Stmt) : Prop := ∃ t, PSs X es t ∧ ∀ (lk : List Nat) (σ : Sl) (ρ : Env) (F : List Addr) (G H : Hp) (D : Ends), RS X.K G H σ ρ F → OKf X.K XR lk σ F G H (evSs cf s lk ρ) D E → t D σ H
theorem ss_nil : SSs XR E cf X .nil [] := ⟨_, pss_nil, fun lk σ ρ F G H D st q => by
  simp only [evSs] at q
  exact q σ F G H (Goes.refl st)⟩
theorem ss_cons {s : Stm} {ss : Stms} {e : Stmt} {es : List Stmt} (h1 : SS XR E cf X s e) (h2 : SSs XR E cf X ss es) : SSs XR E cf X (.cons s ss) (e :: es) := by
  obtain ⟨t1, p1, g1⟩ := h1
  obtain ⟨t2, p2, g2⟩ := h2
  refine ⟨_, pss_cons p1 p2, fun lk σ ρ F G H D st q => ?_⟩
  refine g1 lk σ ρ F G H { D with nx := t2 D } st ?_
  simp only [evSs] at q
  cases h : evS cf s lk ρ with
  | next ρ1 =>
    rw [h] at q
    exact fun σ1 F1 G1 H1 g => g2 lk σ1 ρ1 F1 G1 H1 D g.st (q.later g)
  | ret v ρ1 => rw [h] at q; exact q
  | brk ρ1 => rw [h] at q; exact q
  | exn cc fs ρ1 => rw [h] at q; exact q
  | bad => rw [h] at q; exact q
theorem ss_pass {pos : Pos} : SS XR E cf X .pass (.Pass pos) := ⟨_, ps_pass, fun lk σ ρ F G H D st q => by
  simp only [evS] at q
  exact q σ F G H (Goes.refl st)⟩
/-- whatever it is: nothing is said of it -/
theorem ss_stk {e : Stmt} : SS XR E cf X .stk e := ⟨fun _ _ _ => False, ⟨fun _ _ _ _ _ _ h => h.elim⟩, fun lk σ ρ F G H D st q => by
  simp only [evS] at q
  exact q⟩
theorem ss_brk {pos : Pos} : SS XR E cf X .brk (.Break pos) := ⟨_, ps_break, fun lk σ ρ F G H D st q => by
  simp only [evS] at q
  exact q σ F G H (Goes.refl st)⟩
/-- an expression, then what a statement makes of it -/
theorem oneX {ta : TE} {a : Ex} {lk : List Nat} {σ : Sl} {ρ : Env} {F : List Addr} {G H : Hp} {D : Ends} {R : VK} {f : PV → Env → Fl} (ga : GE X.K XR E cf ta a) (st : RS X.K G H σ ρ F)
    (q : OKf X.K XR lk σ F G H (match evX cf a ρ with | .ok v ρ1 => f v ρ1 | .exn c fs ρ1 => .exn c fs ρ1 | .bad => .bad) D E)
    (k : ∀ p ρ1, OKf X.K XR lk σ F G H (f p ρ1) D E → ∀ v G1 H1 F1 Fv, Ext F G H G1 H1 → RS X.K G1 H1 σ ρ1 F1 → (∀ a ∈ F1, a ∈ F) → Rps X.K G1 H1 [v] [p] Fv → (∀ a ∈ Fv, a ∉ F1 ∧ (a ∈ F ∨ H a = none)) → R v H1) : ta σ H R := by
  refine gx ga st ?_
  cases h : evX cf a ρ with
  | bad => rw [h] at q; exact q
  | exn cc fs ρ1 => rw [h] at q; exact fun cls d G1 H1 F1 e1 st1 s1 x1 => q cls d σ F1 G1 H1 (.of e1 st1 s1) x1
  | ok p ρ1 => rw [h] at q; exact fun v G1 H1 F1 Fv e1 st1 s1 r1 d1 => k p ρ1 q v G1 H1 F1 Fv e1 st1 s1 r1 d1
theorem oneXt {ta : TT} {a : Ex} {lk : List Nat} {σ : Sl} {ρ : Env} {F : List Addr} {G H : Hp} {D : Ends} {R : Bool → Hp → Prop} {f g : Env → Fl} (ga : GT X.K XR E cf ta a) (st : RS X.K G H σ ρ F)
    (q : OKf X.K XR lk σ F G H (match evXt cf a ρ with | .ok true ρ1 => f ρ1 | .ok false ρ1 => g ρ1 | .exn c fs ρ1 => .exn c fs ρ1 | .bad => .bad) D E)
    (k : ∀ b ρ1, OKf X.K XR lk σ F G H (if b = true then f ρ1 else g ρ1) D E → ∀ G1 H1 F1, Ext F G H G1 H1 → RS X.K G1 H1 σ ρ1 F1 → (∀ a ∈ F1, a ∈ F) → R b H1) : ta σ H R := by
  refine gxt ga st ?_
  cases h : evXt cf a ρ with
  | bad => rw [h] at q; exact q
  | exn cc fs ρ1 => rw [h] at q; exact fun cls d G1 H1 F1 e1 st1 s1 x1 => q cls d σ F1 G1 H1 (.of e1 st1 s1) x1
  | ok b ρ1 =>
    rw [h] at q
    refine fun G1 H1 F1 e1 st1 s1 => k b ρ1 ?_ G1 H1 F1 e1 st1 s1
    cases b
    · exact q
    · exact q
def notComp : Expr → Bool
  | .ListComp _ _ _ _ => false
  | .SetComp _ _ _ _ => false
  | .DictComp _ _ _ _ _ => false
  | _ => true
theorem noswap {e : Expr} {t : Option Expr} {l : Nat} {env : PySem.Env} (h : notComp e = true) : swapsWith e t l env = pure false := by
  cases e <;> first | rfl | (cases h)
theorem ss_expr {a : Ex} {e : Expr} {pos : Pos} (hc : notComp e = true) (ha : SE XR E cf X a e) : SS XR E cf X (.expr a) (.Expr e pos) := by
  obtain ⟨ta, pa, ga⟩ := ha
  refine ⟨_, ps_expr pa (noswap hc), fun lk σ ρ F G H D st q => ?_⟩
  simp only [evS] at q
  exact oneX (f := fun _ ρ1 => .next ρ1) ga st q fun p ρ1 z v G1 H1 F1 Fv e1 st1 s1 r1 d1 => z σ F1 G1 H1 (.of e1 st1 s1)
theorem ss_ret {a : Ex} {e : Expr} {pos : Pos} (ha : SE XR E cf X a e) : SS XR E cf X (.ret a) (.Return (some e) pos) := by
  obtain ⟨ta, pa, ga⟩ := ha
  refine ⟨_, ps_ret pa, fun lk σ ρ F G H D st q => ?_⟩
  simp only [evS] at q
  exact oneX (f := fun v ρ1 => .ret v ρ1) ga st q fun p ρ1 z v G1 H1 F1 Fv e1 st1 s1 r1 d1 => z v Fv σ F1 G1 H1 (.of e1 st1 s1) r1 d1
theorem set_go {a : Ex} {i : Nat} {ta : TE} (ga : GE X.K XR E cf ta a) : ∀ (lk : List Nat) (σ : Sl) (ρ : Env) (F : List Addr) (G H : Hp) (D : Ends), RS X.K G H σ ρ F → OKf X.K XR lk σ F G H (evS cf (.set i a) lk ρ) D E → tAsg ta (gName i) D σ H := fun lk σ ρ F G H D st q => by
  simp only [evS] at q
  refine oneX (f := fun v ρ1 => if okS lk ρ1 i then .next (ρ1.set i (some v)) else .bad) ga st q fun p ρ1 z v G1 H1 F1 Fv e1 st1 s1 r1 d1 => ?_
  split at z
  · rename_i hi
    obtain ⟨F2, g⟩ := Goes.set hi e1 st1 s1 r1 d1
    exact z _ F2 G1 H1 g
  · exact z.elim
theorem ss_set {a : Ex} {i : Nat} {x : Str} {e : Expr} {pos pos' : Pos} (k : SOk c XR E cf X) (hi : X.N[i]? = some x) (hx : Loc X.env.scope x) (hs : swapsWith e (some (.Name x pos')) pos.line X.env = pure false) (ha : SE XR E cf X a e) : SS XR E cf X (.set i a) (.Assign [.Name x pos'] e pos) := by
  obtain ⟨ta, pa, ga⟩ := ha
  exact ⟨_, ps_set k.x.nd hi hx pa hs (.inl (k.fnT x)), set_go ga⟩
theorem ss_setLc {elt : Ex} {tg : Tg} {it : It} {cond : Exs} {ee te ie : Expr} {ifs : List Expr} {scope : Scope} {own : List (Str × Nat)} {pos : Pos} {i : Nat} {x : Str} {py spos : Pos} (k : SOk c XR E cf X) (hi : X.N[i]? = some x) (hx : X.env.scope.names.lookup x = some .local) (hl : (py.line == pos.line) = true)
    (hsn : (scope.names.any fun (n, k) => n == x && (k == .local || k == .cell)) = false) (hit : SI XR E cf X it te ie) (ok : BlkOk X.N X.env.scope scope own) (hown : own.map (·.2) = tg.slots) (hset : notSet ie = true)
    (hg : ∀ b, SG (blkX X scope b) tg te) (ht : ∀ b, SC XR E0 cf (blkX X scope b) cond ifs) (he : ∀ b, SE XR E0 cf (blkX X scope b) elt ee) : SS XR E cf X (.set i (.comp elt tg it cond)) (.Assign [.Name x py] (.ListComp ee [⟨te, ie, ifs, 0⟩] scope pos) spos) := by
  obtain ⟨wi, g, tt, tee, pi, pg, pt, pe, ge⟩ := se_comp (pos := pos) k.x hit ok hown hset hg ht he
  exact ⟨_, ps_setLc k.x.calm k.x.nd hi hx (sw_true k.kind hx hl hsn) pi ok (fun s H C cl fp => pg ⟨s, H, C, cl, fp⟩) (fun s H C cl fp => pt ⟨s, H, C, cl, fp⟩) (fun s H C cl fp => pe ⟨s, H, C, cl, fp⟩) (notSet_fold hset), set_go ge⟩
theorem ss_asg {a : Ex} {tg : Tg} {e te : Expr} {pos : Pos} (k : SOk c XR E cf X) (hs : swapsWithSole [te] e pos.line X.env = pure false) (hw : swappedStores [te] e X.env = pure none) (h1 : (assignEach [te] X.env).map (·.2) = [assign te X.env]) (ha : SE XR E cf X a e) (hg : SG X tg te) : SS XR E cf X (.asg tg a) (.Assign [te] e pos) := by
  obtain ⟨ta, pa, ga⟩ := ha
  obtain ⟨g, pg, kg⟩ := hg
  refine ⟨_, ps_asg pa pg hs hw h1, fun lk σ ρ F G H D st q => ?_⟩
  simp only [evS] at q
  refine oneX (f := fun v ρ1 => (match bindT lk tg v ρ1 with | some ρ2 => .next ρ2 | none => .bad)) ga st q fun p ρ1 z v G1 H1 F1 Fv e1 st1 s1 r1 d1 => ?_
  cases hb : bindT lk tg p ρ1 with
  | none => rw [hb] at z; exact z.elim
  | some ρ2 =>
    rw [hb] at z
    refine kg lk σ ρ1 ρ2 F1 Fv G1 H1 v p _ st1.gh st1.so r1 (fun a ha => (d1 a ha).1) hb fun σ2 F2 so2 m2 _ l2 k2 => ?_
    refine z σ2 F2 G1 H1 ⟨e1, ⟨st1.gh, so2⟩, fun a ha => ?_, l2, k2⟩
    rcases m2 a ha with y | y
    · exact .inl (s1 a y)
    · exact (d1 a y).2
theorem ss_if {a : Ex} {s1 s2 : Stms} {e : Expr} {b1 b2 : List Stmt} {pos : Pos} (ha : ST XR E cf X a e) (h1 : SSs XR E cf X s1 b1) (h2 : SSs XR E cf X s2 b2) : SS XR E cf X (.iff a s1 s2) (.If e b1 b2 pos) := by
  obtain ⟨ta, pa, ga⟩ := ha
  obtain ⟨t1, p1, g1⟩ := h1
  obtain ⟨t2, p2, g2⟩ := h2
  refine ⟨_, ps_if pa p1 p2, fun lk σ ρ F G H D st q => ?_⟩
  simp only [evS] at q
  refine oneXt (f := fun ρ1 => evSs cf s1 lk ρ1) (g := fun ρ1 => evSs cf s2 lk ρ1) ga st q fun b ρ1 z G1 H1 F1 e1 st1 sb => ?_
  cases b with
  | true => exact iteT (g1 lk σ ρ1 F1 G1 H1 D st1 (OKf.later (by simpa using z) (.of e1 st1 sb)))
  | false => exact iteF (g2 lk σ ρ1 F1 G1 H1 D st1 (OKf.later (by simpa using z) (.of e1 st1 sb)))
theorem ss_while {a : Ex} {ss : Stms} {e : Expr} {body : List Stmt} {pos : Pos} (k : SOk c XR E cf X) (ha : ST XR E cf X a e) (hb : SSs XR E cf X ss body) : SS XR E cf X (.whl a ss) (.While e body [] pos) := by
  obtain ⟨ta, pa, ga⟩ := ha
  obtain ⟨tb, pb, gb⟩ := hb
  refine ⟨_, ps_while k.own pa pb, fun lk σ ρ F G H D st q => ?_⟩
  simp only [evS] at q
  by_cases hbad : whlW (evXt cf a) (evSs cf ss lk) ρ = .bad
  · rw [hbad] at q; exact q.elim
  · obtain ⟨n, hn⟩ := whlW_ex hbad
    refine ⟨fun m σ' H' => ∃ ρ' F' G', RS X.K G' H' σ' ρ' F' ∧ OKf X.K XR lk σ' F' G' H' (whlN (evXt cf a) (evSs cf ss lk) m ρ') D E, ⟨n, ρ, F, G, st, by rw [hn]; exact q⟩, ?_⟩
    rintro m σ' H' ⟨ρ', F', G', st', q'⟩
    cases m with
    | zero => rw [whlN] at q'; exact q'.elim
    | succ m =>
      rw [whlN] at q'
      refine oneXt (D := D) (lk := lk) (f := fun ρ1 => (match evSs cf ss lk ρ1 with
        | .next ρ2 => whlN (evXt cf a) (evSs cf ss lk) m ρ2
        | .brk ρ2 => .next ρ2
        | .ret v ρ2 => .ret v ρ2
        | .exn c fs ρ2 => .exn c fs ρ2
        | .bad => .bad)) (g := fun ρ1 => .next ρ1) ga st' q' fun b ρ1 z G1 H1 F1 e1 st1 s1 => ?_
      have g1 : Goes X.K lk σ' F' G' H' σ' ρ1 F1 G1 H1 := .of e1 st1 s1
      cases b with
      | false => exact iteF (z σ' F1 G1 H1 g1)
      | true =>
        refine iteT ⟨fun σ2 H2 => ∃ ρ2 F2 G2, RS X.K G2 H2 σ2 ρ2 F2 ∧ OKf X.K XR lk σ2 F2 G2 H2 (whlN (evXt cf a) (evSs cf ss lk) m ρ2) D E, fun σ2 H2 h2 => ⟨m, Nat.lt_succ_self m, h2⟩, ?_⟩
        rw [if_pos rfl] at z
        refine gb lk σ' ρ1 F1 G1 H1 _ st1 ?_
        cases hbd : evSs cf ss lk ρ1 with
        | bad => simp only [hbd] at z; exact z
        | ret v ρ2 => simp only [hbd] at z; exact OKf.later z g1
        | exn cc fs ρ2 => simp only [hbd] at z; exact OKf.later z g1
        | brk ρ2 => simp only [hbd] at z; exact fun σ2 F2 G2 H2 g2 => z σ2 F2 G2 H2 (g1.trans g2)
        | next ρ2 => simp only [hbd] at z; exact fun σ2 F2 G2 H2 g2 => ⟨ρ2, F2, G2, g2.st, z.later (g1.trans g2)⟩
end
end LC
end

section
set_option Elab.async false
set_option linter.all false
set_option maxRecDepth 100000
set_option maxHeartbeats 2000000
namespace LC
open PySem PySem.Spec L2
section
variable {c : CK} {XR : XRT} {E : XK} {cf : CF} {X : Cx}
theorem rps2d {K : PySem.W.Frag} {G H : Hp} {vs : List V} {p q : PV} {F : List Addr} (h : Rps K G H vs [p, q] F) : ∃ v w F1 F2, vs = [v, w] ∧ Rps K G H [v] [p] F1 ∧ Rps K G H [w] [q] F2 ∧ (∀ a, a ∈ F ↔ a ∈ F1 ∨ a ∈ F2) ∧ ∀ a ∈ F1, a ∉ F2 := by
  cases vs with
  | nil => exact absurd h.len (by simp)
  | cons v vs =>
    obtain ⟨F1, F2, h1, h2, d, m⟩ := h.uncons
    obtain ⟨w, rfl, h3⟩ := rps1 h2
    exact ⟨v, w, F1, F2, rfl, h1, h3, m, d⟩
/-! ### a, b = x, y -/
theorem gxs {as : Exs} {ta : TA} {lk : List Nat} {σ : Sl} {ρ : Env} {F : List Addr} {G H : Hp} {D : Ends} {R : List V → Hp → Prop} {f : PV → Env → Fl} (gs : GEs X.K XR E cf ta as) (st : RS X.K G H σ ρ F)
    (q : OKf X.K XR lk σ F G H (match evX cf (.tup as) ρ with | .ok v ρ1 => f v ρ1 | .exn c fs ρ1 => .exn c fs ρ1 | .bad => .bad) D E)
    (k : ∀ ps ρ1, OKf X.K XR lk σ F G H (f (.tup ps) ρ1) D E → ∀ vs G1 H1 F1 Fv, Ext F G H G1 H1 → RS X.K G1 H1 σ ρ1 F1 → (∀ a ∈ F1, a ∈ F) → Rps X.K G1 H1 vs ps Fv → (∀ a ∈ Fv, a ∉ F1 ∧ (a ∈ F ∨ H a = none)) → R vs H1) : ta σ H R := by
  unfold evX at q
  by_cases hcl : (clean ρ && (Ex.tup as).ks.isEmpty) = true
  · rw [if_pos hcl] at q
    refine gs σ ρ F G H R st ?_
    simp only [evE] at q
    cases h : evEs cf as ρ with
    | bad => rw [h] at q; exact q
    | exn cc fs ρ1 => rw [h] at q; exact fun cls d G1 H1 F1 e1 st1 s1 x1 => q cls d σ F1 G1 H1 (.of e1 st1 s1) x1
    | ok ps ρ1 =>
      rw [h] at q
      simp only [Res.bind_ok] at q
      by_cases hl : ps.length ≤ SL
      · rw [if_pos hl] at q
        exact fun vs G1 H1 F1 Fv e1 st1 s1 r1 d1 => k ps _ q vs G1 H1 F1 Fv e1 st1 s1 r1 d1
      · rw [if_neg hl] at q
        exact q.elim
  · rw [if_neg hcl] at q
    obtain ⟨Fk, Fv, Fo, p⟩ := parts st.so (Ex.tup as).vr (Ex.tup as).ks
    obtain ⟨Fm, stm, sm, ef⟩ := p.msk st.gh
    refine gs σ _ Fm _ H R stm ?_
    simp only [evE] at q
    cases h : evEs cf as (mskS (Ex.tup as).vr (Ex.tup as).ks ρ) with
    | bad => rw [h] at q; exact q
    | exn cc fs ρ1 =>
      rw [h] at q
      simp only [Res.bind] at q
      by_cases hk : ksOk (Ex.tup as).ks ρ1 = true
      · rw [if_pos hk] at q
        intro cls d G1 H1 F1 e1 st1 s1 x1
        have th := p.thaw st.gh sm e1 st1 s1 hk
        obtain ⟨F2, st2, s2, _⟩ := p.all sm s1 th
        exact q cls d σ F2 _ H1 (.of th.ext st2 s2) x1
      · rw [if_neg hk] at q; exact q.elim
    | ok ps ρ1 =>
      rw [h] at q
      simp only [Res.bind_ok] at q
      by_cases hl : ps.length ≤ SL
      · rw [if_pos hl] at q
        simp only at q
        by_cases hk : ksOk (Ex.tup as).ks ρ1 = true
        · rw [if_pos hk] at q
          intro vs G1 H1 F1 Fw e1 st1 s1 r1 d1
          cases hn : nfz (.tup ps) with
          | true =>
            rw [hn] at q
            have th := p.thaw st.gh sm e1 st1 s1 hk
            obtain ⟨F2, st2, s2, m2⟩ := p.all sm s1 th
            refine k ps _ q vs _ H1 F2 Fw th.ext st2 s2 (th.val _ _ _ r1 (by simpa [nfz] using hn)) fun b hb => ⟨nofv m2 d1 b hb, ?_⟩
            rcases (d1 b hb).2 with y | y
            · exact .inl ((p.m b).mpr (.inl (sm b y)))
            · exact .inr y
          | false =>
            rw [hn] at q
            obtain ⟨ex, F2, st2, s2, m2⟩ := p.back st.gh sm e1 st1 s1
            refine k ps _ q vs _ H1 F2 Fw ex st2 s2 r1 fun b hb => ⟨nofv m2 d1 b hb, ?_⟩
            rcases (d1 b hb).2 with y | y
            · exact .inl ((p.m b).mpr (.inl (sm b y)))
            · exact .inr y
        · rw [if_neg hk] at q; exact q.elim
      · rw [if_neg hl] at q; exact q.elim
theorem ss_par {a b : Ex} {i j : Nat} {x y : Str} {ea eb : Expr} {px py pt : Pos} {kt k2 : Nat} {pt2 pos : Pos} (k : SOk c XR E cf X) (hi : X.N[i]? = some x) (hj : X.N[j]? = some y) (hij : i ≠ j)
    (hx : X.env.scope.names.lookup x = some .local) (hy : X.env.scope.names.lookup y = some .local) (hs : SEs XR E cf X (.cons a (.cons b .nil)) [ea, eb])
    (hw : swappedStores [.Tuple [.Name x px, .Name y py] kt pt] (.Tuple [ea, eb] k2 pt2) X.env = pure (some [x, y])) :
    SS XR E cf X (.par i j a b) (.Assign [.Tuple [.Name x px, .Name y py] kt pt] (.Tuple [ea, eb] k2 pt2) pos) := by
  obtain ⟨ts, ps, gs⟩ := hs
  refine ⟨_, ps_par k.x.calm k.x.nd hi hj hij hx hy ps hw (by rfl), fun lk σ ρ F G H D st q => ?_⟩
  simp only [evS] at q
  refine gxs (lk := lk) (D := D) (f := fun v ρ1 => (match v with
    | .tup [v, w] => if okS lk ρ1 i && okS lk ρ1 j && (i != j) then .next ((ρ1.set i (some v)).set j (some w)) else .bad
    | _ => .bad)) gs st ?_ ?_
  · cases h : evX cf (.tup (.cons a (.cons b .nil))) ρ with
    | bad => rw [h] at q; exact q
    | exn cc fs ρ1 => rw [h] at q; exact q
    | ok v ρ1 =>
      rw [h] at q
      simp only at q ⊢
      split
      · exact q
      · rename_i hne
        split at q
        · rename_i e; cases e; exact absurd rfl (hne _ _)
        · exact q
        · rename_i e; cases e
        · exact q
  · intro qs ρ1 z vs G1 H1 F1 Fv e1 st1 s1 r1 d1
    split at z
    · rename_i v w ez
      cases ez
      split at z
      · rename_i hok
        simp only [Bool.and_eq_true, bne_iff_ne] at hok
        obtain ⟨⟨o1, o2⟩, o3⟩ := hok
        obtain ⟨x1, x2, Fa, Fb, ev, ra, rb, mab, dab⟩ := rps2d r1
        subst ev
        refine ⟨x1, x2, rfl, ?_⟩
        obtain ⟨F2, h2, m2⟩ := st1.so.set (by unfold okS at o1; simp only [Bool.and_eq_true, decide_eq_true_eq] at o1; exact o1.1) ra fun a ha => (d1 a ((mab a).mpr (.inl ha))).1
        obtain ⟨F3, h3, m3⟩ := h2.set (i := j) (by unfold okS at o2; simp only [Bool.and_eq_true, decide_eq_true_eq] at o2; simpa using o2.1) rb fun a ha z => by
          rcases m2 a z with y | y
          · exact (d1 a ((mab a).mpr (.inr ha))).1 y
          · exact dab a y ha
        refine z _ F3 G1 H1 ⟨e1, ⟨st1.gh, h3⟩, fun a ha => ?_, by simp, fun jj hj => ?_⟩
        · rcases m3 a ha with y | y
          · rcases m2 a y with w | w
            · exact .inl (s1 a w)
            · exact (d1 a ((mab a).mpr (.inl w))).2
          · exact (d1 a ((mab a).mpr (.inr y))).2
        · rw [List.getElem?_set_ne, List.getElem?_set_ne]
          · intro e; subst e
            unfold okS at o1
            simp [hj] at o1
          · intro e; subst e
            unfold okS at o2
            simp [hj] at o2
      · exact z.elim
    · exact z.elim
end
end LC
end

section
set_option Elab.async false
set_option linter.all false
set_option maxRecDepth 100000
set_option maxHeartbeats 2000000
namespace LC
open PySem PySem.Spec L2
section
variable {c : CK} {XR : XRT} {E : XK} {cf : CF} {X : Cx}
/-! ### xs.append(e) -/
theorem ss_app {a : Ex} {i : Nat} {x : Str} {e : Expr} {p apos cpos pos : Pos} (k : SOk c XR E cf X) (hN : X.N[i]? = some x) (hv : Vis X.env.scope x) (hd : (x == ("__debug__" : Str)) = false) (hcd : (x == ("__classdict__" : Str)) = false) (hline : (apos.endLine == cpos.line) = true) (he : notStar e = true) (ha : SE XR E cf X a e) :
    SS XR E cf X (.app i a) (.Expr (.Call (.Attribute (.Name x p) "append" apos) [e] [] cpos) pos) := by
  obtain ⟨ta, pa, ga⟩ := ha
  have pe : PE X (.Call (.Attribute (.Name x p) "append" apos) [e] [] cpos) (tBM X.K "list" rAppend (tVar i) (tCons ta tNil)) := pe_bm F.plainAttrs_list F.slot_list_append F.type_list_append mt_append (pe_var hN hv hd hcd) (pa_cons pa pa_nil (star_cons he)) (by rfl) (by rw [star_cons he]; simp [starEach, backTo, backToKw, keywordEach]) hline (star_cons he) (by rfl)
  refine ⟨_, ps_expr pe (noswap rfl), fun lk σ ρ F G H D st q => ?_⟩
  simp only [evS] at q
  split at q
  · rename_i xs0 h0
    obtain ⟨v0, F0, ev0, r0, _⟩ := st.so.get h0
    obtain ⟨l, ws0, _, rfl, hl0, _, _, _, _⟩ := r0.inv_lstT
    refine ⟨.ref l, ev0, .inl ⟨rfl, ws0, .of hl0⟩, ?_⟩
    refine oneX (lk := lk) (D := D) (f := fun v ρ1 => (match getS ρ1 i with
        | some (.lst true xs) => if xs.length < SL then .next (ρ1.set i (some (.lst true (xs ++ [v])))) else .bad
        | _ => .bad)) ga st q fun pv ρ1 z v G1 H1 F1 Fv e1 st1 s1 r1 d1 => ?_
    split at z
    · rename_i xs h1
      split at z
      · rename_i hlen
        obtain ⟨v1, Fi, F2, ev1, ri, so2, di, mi⟩ := st1.so.out h1
        rw [ev0] at ev1
        cases ev1
        obtain ⟨l', ws, Fw, el, hl, hg, rw', hn, rfl⟩ := ri.inv_lstT
        cases el
        refine ⟨l, ws, v, rfl, rfl, hl, by rw [rw'.len, ← sl_eq]; exact hlen, ?_⟩
        have lF1 : l ∈ F1 := (mi l).mpr (.inl (by simp))
        have eL : Ext [l] G1 H1 G1 (upd H1 l (.lst (ws ++ [v]))) := ⟨Same.refl _, fun b o e n => by rw [upd_ne (fun z => n (by simp [z]))]; exact e, fun b e => by
          by_cases z : b = l
          · subst z; rw [upd_same]; simp
          · rw [upd_ne z]; exact e, fun b e => .inl e⟩
        have ghL : Same G1 (upd H1 l (.lst (ws ++ [v]))) := fun b o e => by
          have : b ≠ l := fun z => by rw [z, hg] at e; cases e
          rw [upd_ne this]; exact st1.gh b o e
        have FvFw : ∀ a ∈ Fw, a ∉ Fv := fun a ha z => (d1 a z).1 ((mi a).mpr (.inl (by simp [ha])))
        have lFv : l ∉ Fv := fun z => (d1 l z).1 lF1
        obtain ⟨Fz, rz, mz⟩ := rw'.append r1 FvFw
        have rz' : Rps X.K G1 (upd H1 l (.lst (ws ++ [v]))) (ws ++ [v]) (xs ++ [pv]) Fz := rz.ext eL fun a ha z => by
          have : a = l := by simpa using z
          subst this
          rcases (mz a).mp ha with y | y
          · exact hn y
          · exact lFv y
        have lFz : l ∉ Fz := fun z => by
          rcases (mz l).mp z with y | y
          · exact hn y
          · exact lFv y
        have so2' : Rso X.K G1 (upd H1 l (.lst (ws ++ [v]))) σ (ρ1.set i none) F2 := so2.ext eL fun a ha z => by
          have : a = l := by simpa using z
          subst this
          exact di a (by simp) ha
        have hil : i < ρ1.length := by
          by_cases hh : i < ρ1.length
          · exact hh
          · unfold getS at h1
            rw [List.getElem?_eq_none (by omega)] at h1
            simp at h1
        obtain ⟨F3, so3, m3⟩ := so2'.back hil ev0 (.mk_lstT upd_same hg rz' lFz) (fun a ha z => by
          rcases List.mem_cons.mp ha with y | y
          · subst y; exact di a (by simp) z
          · rcases (mz a).mp y with w | w
            · exact di a (by simp [w]) z
            · exact (d1 a w).1 ((mi a).mpr (.inr z)))
        refine z σ F3 G1 _ ⟨e1.trans eL (fun a ha => by
          have : a = l := by simpa using ha
          subst this
          exact .inl (s1 a lF1)), ⟨ghL, so3⟩, fun a ha => ?_, rfl, fun _ _ => rfl⟩
        rcases m3 a ha with y | y
        · rcases List.mem_cons.mp y with w | w
          · subst w; exact .inl (s1 a lF1)
          · rcases (mz a).mp w with u | u
            · exact .inl (s1 a ((mi a).mpr (.inl (by simp [u]))))
            · exact (d1 a u).2
        · exact .inl (s1 a ((mi a).mpr (.inr y)))
      · exact z.elim
    · exact z.elim
  · exact q.elim
end
end LC
end

section
set_option Elab.async false
set_option linter.all false
set_option maxRecDepth 100000
set_option maxHeartbeats 2000000
namespace LC
open PySem PySem.Spec L2
section
variable {c : CK} {XR : XRT} {E : XK} {cf : CF} {X : Cx}
theorem Rps.out {K : PySem.W.Frag} {G H : Hp} : ∀ {vs : List V} {ps : List PV} {F : List Addr} {j : Nat} {p : PV}, Rps K G H vs ps F → ps[j]? = some p →
    ∃ (v : V) (F1 F2 : List Addr), vs[j]? = some v ∧ Rps K G H [v] [p] F1 ∧ (∀ a ∈ F1, a ∉ F2) ∧ (∀ a, a ∈ F ↔ a ∈ F1 ∨ a ∈ F2) ∧
      ∀ (p' : PV) (F1' : List Addr) (G' H' : Hp), Same G G' → (∀ a ∈ F2, H' a = H a ∧ G' a = Option.none) → Rps K G' H' [v] [p'] F1' → (∀ a ∈ F1', a ∉ F2) → ∃ F', Rps K G' H' vs (ps.set j p') F' ∧ ∀ a ∈ F', a ∈ F1' ∨ a ∈ F2
  | [], ps, F, j, p, h, e => by cases h; simp at e
  | v :: vs, [], F, j, p, h, e => by simp at e
  | v :: vs, q :: ps, F, 0, p, h, e => by
    obtain ⟨F1, F2, h1, h2, d, m⟩ := h.uncons
    simp at e
    subst e
    refine ⟨v, F1, F2, rfl, h1, d, m, fun p' F1' G' H' sg kp r dd => ?_⟩
    obtain ⟨F', r', m'⟩ := r.mkcons (h2.mono sg kp) dd
    exact ⟨F', r', fun a ha => (m' a).mp ha⟩
  | v :: vs, q :: ps, F, j + 1, p, h, e => by
    obtain ⟨F1, F2, h1, h2, d, m⟩ := h.uncons
    obtain ⟨w, Fa, Fb, ew, rw', dd, mm, put⟩ := Rps.out (j := j) (p := p) h2 (by simpa using e)
    obtain ⟨Fc, mc⟩ : ∃ Fc : List Addr, ∀ a, a ∈ Fc ↔ a ∈ F1 ∨ a ∈ Fb := ⟨F1 ++ Fb, fun a => List.mem_append⟩
    refine ⟨w, Fa, Fc, by simpa using ew, rw', fun a ha z => ?_, fun a => ?_, fun p' F1' G' H' sg kp r de => ?_⟩
    · rcases (mc a).mp z with y | y
      · exact d a y ((mm a).mpr (.inl ha))
      · exact dd a ha y
    · rw [m, mm, mc]
      constructor
      · rintro (h | h | h)
        · exact .inr (.inl h)
        · exact .inl h
        · exact .inr (.inr h)
      · rintro (h | h | h)
        · exact .inr (.inl h)
        · exact .inl h
        · exact .inr (.inr h)
    · obtain ⟨F', r', m'⟩ := put p' F1' G' H' sg (fun a ha => kp a ((mc a).mpr (.inr ha))) r (fun a ha z => de a ha ((mc a).mpr (.inr z)))
      have h1' : Rps K G' H' [v] [q] F1 := h1.mono sg fun a ha => kp a ((mc a).mpr (.inl ha))
      obtain ⟨F'', r'', m''⟩ := h1'.mkcons r' (fun a ha z => by
        rcases m' a z with y | y
        · exact de a y ((mc a).mpr (.inl ha))
        · exact d a ha ((mm a).mpr (.inr y)))
      refine ⟨F'', r'', fun a ha => ?_⟩
      rcases (m'' a).mp ha with y | y
      · exact .inr ((mc a).mpr (.inl y))
      · rcases m' a y with w | w
        · exact .inl w
        · exact .inr ((mc a).mpr (.inr w))
/-! ### xs[i] = e -/
theorem ext_at {G H : Hp} {l : Addr} {o : HO} : Ext [l] G H G (upd H l o) := ⟨Same.refl _, fun b o e n => by rw [upd_ne (fun z => n (by simp [z]))]; exact e, fun b e => by
  by_cases z : b = l
  · subst z; rw [upd_same]; simp
  · rw [upd_ne z]; exact e, fun b e => .inl e⟩
theorem same_at {G H : Hp} {l : Addr} {o : HO} (gh : Same G H) (hg : G l = none) : Same G (upd H l o) := fun b o e => by
  have : b ≠ l := fun z => by rw [z, hg] at e; cases e
  rw [upd_ne this]; exact gh b o e
theorem getS_lt {ρ : Env} {i : Nat} {p : PV} (h : getS ρ i = some p) : i < ρ.length := by
  by_cases hh : i < ρ.length
  · exact hh
  · unfold getS at h
    rw [List.getElem?_eq_none (by omega)] at h
    simp at h
/-- the list in slot i exchanged for one with other items -/
theorem list_put {σ : Sl} {ρ1 : Env} {F F1 : List Addr} {G H G1 H1 : Hp} {i : Nat} {l : Addr} {ws2 : List V} {xs xs2 : List PV} {lk : List Nat} {Fn : List Addr} (e1 : Ext F G H G1 H1) (st1 : RS X.K G1 H1 σ ρ1 F1) (s1 : ∀ a ∈ F1, a ∈ F) (h1 : getS ρ1 i = some (.lst true xs)) (ev : σ[i]? = some (some (.ref l)))
    (rn : Rps X.K G1 H1 ws2 xs2 Fn) (hn : ∀ a ∈ Fn, a ≠ l) (F2 : List Addr) (so2 : Rso X.K G1 H1 σ (ρ1.set i none) F2) (hl2 : l ∉ F2) (dn : ∀ a ∈ Fn, a ∉ F2) (hg : G1 l = none) (hlF : l ∈ F) (sub2 : ∀ a ∈ F2, a ∈ F) (sn : ∀ a ∈ Fn, a ∈ F ∨ H a = none) :
    ∃ F3, Goes X.K lk σ F G H σ (ρ1.set i (some (.lst true xs2))) F3 G1 (upd H1 l (.lst ws2)) := by
  have eL : Ext [l] G1 H1 G1 (upd H1 l (.lst ws2)) := ext_at
  have rn' : Rps X.K G1 (upd H1 l (.lst ws2)) ws2 xs2 Fn := rn.ext eL fun a ha z => hn a ha (by simpa using z)
  have so2' : Rso X.K G1 (upd H1 l (.lst ws2)) σ (ρ1.set i none) F2 := so2.ext eL fun a ha z => by
    have : a = l := by simpa using z
    subst this
    exact hl2 ha
  obtain ⟨F3, so3, m3⟩ := so2'.back (getS_lt h1) ev (.mk_lstT upd_same hg rn' (fun z => hn l z rfl)) (fun a ha z => by
    rcases List.mem_cons.mp ha with y | y
    · subst y; exact hl2 z
    · exact dn a y z)
  refine ⟨F3, e1.trans eL (fun a ha => by
    have : a = l := by simpa using ha
    subst this
    exact .inl hlF), ⟨same_at st1.gh hg, so3⟩, fun a ha => ?_, rfl, fun _ _ => rfl⟩
  rcases m3 a ha with y | y
  · rcases List.mem_cons.mp y with w | w
    · subst w; exact .inl hlF
    · exact sn a w
  · exact .inl (sub2 a y)
theorem sub_assign {o i : Expr} {pos : Pos} {env : PySem.Env} (h : notSlice i = true) : ∀ v, assign (.Subscript o i pos) env v = (do
      let ov ← holding [v] (eval o env)
      let iv ← holding [v, ov] (eval i env)
      standAt pos
      holding [v, ov, iv] (setItem ov iv v)
      release [v, ov, iv] []) := by
  intro v
  cases i <;> first | rfl | (cases h)
theorem sub_noswap {o i : Expr} {p : Pos} {e : Expr} {l : Nat} {env : PySem.Env} : swapsWithSole [.Subscript o i p] e l env = pure false := by
  cases e <;> first | rfl
theorem ss_setAt {a ix : Ex} {i : Nat} {x : Str} {e iy : Expr} {p spos pos : Pos} (k : SOk c XR E cf X) (hN : X.N[i]? = some x) (hv : Vis X.env.scope x) (hd : (x == ("__debug__" : Str)) = false) (hcd : (x == ("__classdict__" : Str)) = false) (hsl : notSlice iy = true) (ha : SE XR E cf X a e) (hix : SE XR E cf X ix iy) :
    SS XR E cf X (.setAt i ix a) (.Assign [.Subscript (.Name x p) iy spos] e pos) := by
  obtain ⟨ta, pa, ga⟩ := ha
  obtain ⟨ti, pi, gi⟩ := hix
  refine ⟨_, ps_asg pa (pg_sub (pe_var hN hv hd hcd) pi set_list (sub_assign hsl)) sub_noswap (by rfl) (by rfl), fun lk σ ρ F G H D st q => ?_⟩
  simp only [evS] at q
  refine oneX (lk := lk) (D := D) (f := fun v ρ1 => (match getS ρ1 i with
      | some _ => (match evX cf ix ρ1 with
        | .ok (.int k) ρ2 => (match getS ρ2 i with
          | some (.lst true xs) => (match ixN xs.length k with
            | some j => .next (ρ2.set i (some (.lst true (xs.set j v))))
            | none => .bad)
          | _ => .bad)
        | _ => .bad)
      | none => .bad)) ga st q fun pv ρ1 z v G1 H1 F1 Fv e1 st1 s1 r1 d1 => ?_
  split at z
  · rename_i p0 h0
    obtain ⟨v0, F0, ev0, _, _⟩ := st1.so.get h0
    refine ⟨v0, ev0, ?_⟩
    refine gx gi st1 ?_
    cases hx : evX cf ix ρ1 with
    | bad => rw [hx] at z; exact z
    | exn cc fs ρ2 => rw [hx] at z; exact z.elim
    | ok pk ρ2 =>
      rw [hx] at z
      intro vk G2 H2 F2 Fk e2 st2 s2 r2 d2
      cases pk with
      | int kk =>
        simp only at z
        obtain ⟨rfl, _⟩ := r2.inv_int
        split at z
        · rename_i xs h1
          split at z
          · rename_i j hj
            obtain ⟨v1, Fi, F3, ev1, ri, so3, di, mi⟩ := st2.so.out h1
            rw [ev0] at ev1
            cases ev1
            obtain ⟨l, ws, Fw, rfl, hl, hg, rw', hn, rfl⟩ := ri.inv_lstT
            have rv : Rps X.K G2 H2 [v] [pv] Fv := r1.ext e2 fun a ha => (d1 a ha).1
            have vF2 : ∀ a ∈ Fv, a ∉ F2 := fun a ha z => (d1 a ha).1 (s2 a z)
            obtain ⟨Fn, rn, mn⟩ := rw'.set rv (fun a ha z => vF2 a ha ((mi a).mpr (.inl (by simp [z])))) j
            have lF2 : l ∈ F2 := (mi l).mpr (.inl (by simp))
            obtain ⟨F4, g⟩ := list_put (X := X) (lk := lk) (e1.trans e2 fun a ha => .inl (s1 a ha)) st2 (fun a ha => s1 a (s2 a ha)) h1 ev0 rn (fun a ha z => by
              subst z
              rcases mn a ha with y | y
              · exact hn y
              · exact vF2 a y lF2) F3 so3 (di l (by simp)) (fun a ha z => by
              rcases mn a ha with y | y
              · exact di a (by simp [y]) z
              · exact vF2 a y ((mi a).mpr (.inr z))) hg (s1 l (s2 l lF2)) (fun a ha => s1 a (s2 a ((mi a).mpr (.inr ha)))) (fun a ha => by
              rcases mn a ha with y | y
              · exact .inl (s1 a (s2 a ((mi a).mpr (.inl (by simp [y])))))
              · exact (d1 a y).2)
            exact ⟨l, ws, kk, j, rfl, rfl, hl, by rw [rw'.len]; exact hj, z σ F4 G2 _ g⟩
          · exact z.elim
        · exact z.elim
      | _ => exact z.elim
  · exact z.elim
/-! ### xs[i][j] = e -/
theorem gz {a : Ex} {t : TE} {σ : Sl} {ρ : Env} {F : List Addr} {G H : Hp} {Q : VK} {m : Int} (ga : GE X.K XR E cf t a) (st : RS X.K G H σ ρ F) (h : evZ cf a ρ = some m) (q : ∀ G' H', Ext [] G H G' H' → Same G' H' → Q (.int m) H') : t σ H Q := by
  unfold evZ at h
  split at h
  · rename_i hc
    simp only [Bool.and_eq_true] at hc
    obtain ⟨Fa, Fb, h1, h2, d1, m1⟩ := st.so.split (fun i => a.vr.contains i) 0
    have fa : Fa = [] := h1.lfE fun i v e => by
      have hall := List.all_eq_true.mp hc.2
      have hm : some v ∈ selS (fun i => a.vr.contains i) 0 ρ := by
        unfold getS at e
        cases z : (selS (fun i => a.vr.contains i) 0 ρ)[i]? with
        | none => rw [z] at e; cases e
        | some o =>
          rw [z] at e
          cases o with
          | none => cases e
          | some w =>
            cases e
            exact List.mem_of_getElem? z
      exact hall _ hm
    subst fa
    refine ga σ _ [] G H Q ⟨st.gh, h1⟩ ?_
    split at h
    · rename_i he
      cases h
      rw [he]
      intro v G1 H1 F1 Fv e1 st1 s1 r1 d1
      obtain ⟨rfl, _⟩ := r1.inv_int
      exact q G1 H1 e1 st1.gh
    · cases h
  · cases h
theorem ss_setAt2 {a ix jx : Ex} {i : Nat} {x : Str} {e iy jy : Expr} {p p2 spos pos : Pos} (k : SOk c XR E cf X) (hN : X.N[i]? = some x) (hv : Vis X.env.scope x) (hd : (x == ("__debug__" : Str)) = false) (hcd : (x == ("__classdict__" : Str)) = false) (hsl : notSlice iy = true) (hsj : notSlice jy = true) (ha : SE XR E cf X a e) (hix : SE XR E cf X ix iy) (hjx : SE XR E cf X jx jy) :
    SS XR E cf X (.setAt2 i ix jx a) (.Assign [.Subscript (.Subscript (.Name x p) iy p2) jy spos] e pos) := by
  obtain ⟨ta, pa, ga⟩ := ha
  obtain ⟨ti, pi, gi⟩ := hix
  obtain ⟨tj, pj, gj⟩ := hjx
  refine ⟨_, ps_asg pa (pg_sub (pe_ix ix_seq (pe_var hN hv hd hcd) pi (by intro o i; cases iy <;> first | rfl | (simp [notSlice] at hsl))) pj set_list (sub_assign hsj)) sub_noswap (by rfl) (by rfl), fun lk σ ρ F G H D st q => ?_⟩
  simp only [evS] at q
  refine oneX (lk := lk) (D := D) (f := fun v ρ1 => (match evZ cf ix ρ1, evZ cf jx ρ1 with
      | some k, some m => (match getS ρ1 i with
        | some (.lst true xs) => (match ixN xs.length k with
          | some j => (match xs[j]? with
            | some (.lst true ys) => (match ixN ys.length m with
              | some l => .next (ρ1.set i (some (.lst true (xs.set j (.lst true (ys.set l v))))))
              | none => .bad)
            | _ => .bad)
          | none => .bad)
        | _ => .bad)
      | _, _ => .bad)) ga st q fun pv ρ1 z v G1 H1 F1 Fv e1 st1 s1 r1 d1 => ?_
  split at z
  · rename_i kk mm hk hm
    split at z
    · rename_i xs h1
      split at z
      · rename_i j hj
        split at z
        · rename_i ys hys
          split at z
          · rename_i l2 hl2
            obtain ⟨v0, Fi0, F30, ev0, _, _, _, _⟩ := st1.so.out h1
            refine ⟨v0, ev0, gz gi st1 hk fun G2 H2 e2 gh2 => ?_⟩
            have st2 : RS X.K G2 H2 σ ρ1 F1 := st1.ext0 e2 gh2
            obtain ⟨v0', Fi0', F30', ev0', ri0, _, _, _⟩ := st2.so.out h1
            rw [ev0] at ev0'
            cases ev0'
            obtain ⟨l, ws, Fw, rfl, hl, hg, rw', hn, rfl⟩ := ri0.inv_lstT
            obtain ⟨vb, Fb, eb, rb, mb⟩ := rw'.get hys
            have hjl : ixN ws.length kk = some j := by rw [rw'.len]; exact hj
            refine .inl ⟨l, ws, kk, vb, rfl, rfl, .of hl, ?_, ?_⟩
            · show LC.atI ws kk = some vb
              unfold LC.atI
              rw [hjl]; exact eb
            refine gz gj st2 hm fun G3 H3 e3 gh3 => ?_
            have st3 : RS X.K G3 H3 σ ρ1 F1 := st2.ext0 e3 gh3
            obtain ⟨v0'', Fi, F3, ev0'', ri, so3, di, mi⟩ := st3.so.out h1
            rw [ev0] at ev0''
            cases ev0''
            obtain ⟨l', ws', Fw', el, hl', hg', rw3, hn', rfl⟩ := ri.inv_lstT
            cases el
            have ews : ws' = ws := by
              have := e3.fr l _ hl (by simp)
              rw [hl'] at this; cases this; rfl
            subst ews
            obtain ⟨vb2, Fb2, Fr, eb2, rb2, dbr, mbr, put⟩ := rw3.out hys
            rw [eb] at eb2
            cases eb2
            obtain ⟨b, us, Fu, rfl, hb, hgb, ru, hnb, rfl⟩ := rb2.inv_lstT
            have rv : Rps X.K G3 H3 [v] [pv] Fv := (r1.ext e2 (by simp)).ext e3 (by simp)
            have bF : b ∈ Fw' := (mbr b).mpr (.inl (by simp))
            have wF1 : ∀ a ∈ Fw', a ∈ F1 := fun a ha => (mi a).mpr (.inl (by simp [ha]))
            have vF1 : ∀ a ∈ Fv, a ∉ F1 := fun a ha => (d1 a ha).1
            obtain ⟨Fn, rn, mn⟩ := ru.set rv (fun a ha z => vF1 a ha (wF1 a ((mbr a).mpr (.inl (by simp [z]))))) l2
            have eB : Ext [b] G3 H3 G3 (upd H3 b (.lst (us.set l2 v))) := ext_at
            have nb : b ∉ Fn := fun z => by
              rcases mn b z with y | y
              · exact hnb y
              · exact vF1 b y (wF1 b bF)
            have rn' : Rps X.K G3 (upd H3 b (.lst (us.set l2 v))) [.ref b] [.lst true (ys.set l2 pv)] (b :: Fn) := .mk_lstT upd_same hgb (rn.ext eB fun a ha z => by
              have : a = b := by simpa using z
              subst this; exact nb ha) nb
            have lb : l ≠ b := fun z => by subst z; exact hn' bF
            obtain ⟨Fo, ro, mo⟩ := put (.lst true (ys.set l2 pv)) (b :: Fn) G3 (upd H3 b (.lst (us.set l2 v))) (Same.refl _) (fun a ha => by
              have na : a ≠ b := fun z => by subst z; exact dbr a (by simp) ha
              exact ⟨upd_ne na, (rw3.inH a ((mbr a).mpr (.inr ha))).2⟩) rn' (fun a ha z => by
              rcases List.mem_cons.mp ha with y | y
              · subst y; exact dbr a (by simp) z
              · rcases mn a y with w | w
                · exact dbr a (by simp [w]) z
                · exact vF1 a w (wF1 a ((mbr a).mpr (.inr z))))
            have so3' : Rso X.K G3 (upd H3 b (.lst (us.set l2 v))) σ (ρ1.set i none) F3 := so3.ext eB fun a ha z => by
              have : a = b := by simpa using z
              subst this
              exact di a (by simp [bF]) ha
            have oF : ∀ a ∈ Fo, a ∈ Fw' ∨ a ∈ Fv := fun a ha => by
              rcases mo a ha with y | y
              · rcases List.mem_cons.mp y with w | w
                · subst w; exact .inl bF
                · rcases mn a w with u | u
                  · exact .inl ((mbr a).mpr (.inl (by simp [u])))
                  · exact .inr u
              · exact .inl ((mbr a).mpr (.inr y))
            have lF1 : l ∈ F1 := (mi l).mpr (.inl (by simp))
            obtain ⟨F4, so4, m4⟩ := so3'.back (getS_lt h1) ev0 (.mk_lstT (by rw [upd_ne lb]; exact hl') hg' ro (fun z => by
              rcases oF l z with y | y
              · exact hn' y
              · exact vF1 l y lF1)) (fun a ha z => by
              rcases List.mem_cons.mp ha with y | y
              · subst y; exact di a (by simp) z
              · rcases oF a y with w | w
                · exact di a (by simp [w]) z
                · exact vF1 a w ((mi a).mpr (.inr z)))
            have e13 : Ext F G H G3 H3 := (e1.trans e2 (by simp)).trans e3 (by simp)
            refine ⟨b, us, mm, l2, rfl, rfl, hb, by rw [ru.len]; exact hl2, z σ F4 G3 _ ⟨e13.trans eB (fun a ha => by
              have : a = b := by simpa using ha
              subst this
              exact .inl (s1 a (wF1 a bF))), ⟨same_at gh3 hgb, so4⟩, fun a ha => ?_, rfl, fun _ _ => rfl⟩⟩
            rcases m4 a ha with y | y
            · rcases List.mem_cons.mp y with w | w
              · subst w; exact .inl (s1 a lF1)
              · rcases oF a w with u | u
                · exact .inl (s1 a (wF1 a u))
                · exact (d1 a u).2
            · exact .inl (s1 a ((mi a).mpr (.inr y)))
          · exact z.elim
        · exact z.elim
      · exact z.elim
    · exact z.elim
  · exact z.elim
end
end LC
end

section
set_option Elab.async false
set_option linter.all false
set_option maxRecDepth 100000
set_option maxHeartbeats 2000000
namespace LC
open PySem PySem.Spec L2
section
variable {c : CK} {XR : XRT} {E : XK} {cf : CF} {X : Cx}
/-! ### for -/
theorem for_core {J : L2.It} {items : List PV} {Gd : Hp → Prop} {Y : Nat → Hp → V → Hp → Prop} {g : TG} {tb : TS} {D : Ends} {tg : Tg} {b : Stms} {σ : Sl} {ρs ρh : Env} {Fs F : List Addr} {Gs Hs G H : Hp} {lk lk2 : List Nat}
    (walk : Walk J items.length Gd Y) (kg : ∀ (lk : List Nat) (σ : Sl) (ρ ρ' : Env) (F Fv : List Addr) (G H : Hp) (v : V) (p : PV) (Q : Sl → Hp → Prop), Same G H → Rso X.K G H σ ρ F → Rps X.K G H [v] [p] Fv → (∀ a ∈ Fv, a ∉ F) →
      bindT lk tg p ρ = some ρ' → (∀ σ' F', Rso X.K G H σ' ρ' F' → (∀ a ∈ F', a ∈ F ∨ a ∈ Fv) → (∀ j, j ∉ tg.slots → σ'[j]? = σ[j]?) → σ'.length = σ.length → (∀ j ∈ lk, σ'[j]? = σ[j]?) → Q σ' H) → g v σ H Q)
    (gb : ∀ (lk : List Nat) (σ : Sl) (ρ : Env) (F : List Addr) (G H : Hp) (D : Ends), RS X.K G H σ ρ F → OKf X.K XR lk σ F G H (evSs cf b lk ρ) D E → tb D σ H)
    (st : RS X.K Gs Hs σ ρs Fs)
    (fin : ∀ σi ρi Fi Gi Hi, Goes X.K lk2 σ Fs Gs Hs σi ρi Fi Gi Hi → ∃ F', Goes X.K lk σ F G H σi (orS ρi ρh) F' Gi Hi ∧ ∀ a, a ∉ Fi → (a ∈ Fs ∨ Hs a = none) → a ∉ F' ∧ (a ∈ F ∨ H a = none))
    (gd : ∀ σi ρi Fi Gi Hi, Goes X.K lk2 σ Fs Gs Hs σi ρi Fi Gi Hi → Gd Hi)
    (item : ∀ σi ρi Fi Gi Hi, Goes X.K lk2 σ Fs Gs Hs σi ρi Fi Gi Hi → ∀ i p x H', items[i]? = some p → Y i Hi x H' → ∃ G', Ext [] Gi Hi G' H' ∧ Same G' H' ∧ Rps X.K G' H' [x] [p] [])
    (q : OKf X.K XR lk σ F G H ((forL (bindT lk2 tg) (evSs cf b lk2) items ρs).put ρh) D E) :
    ∃ W : Nat → Nat → L2.St → Hp → Prop, (∃ m, W 0 m σ Hs) ∧ ∀ i m σ H, W i m σ H →
      (J.stop i H ∧ D.nx σ H) ∨ (J.go i H ∧ ∃ N : L2.St → Hp → Prop, (∀ σ' H', N σ' H' → ∃ m', m' < m ∧ W (i + 1) m' σ' H') ∧ ∀ x H', J.yld i H x H' → g x σ H' fun σ2 H2 => tb { D with nx := N, ct := N, bk := D.nx } σ2 H2) := by
  refine for_it walk (fun i σi Hi => ∃ Gi ρi Fi, Goes X.K lk2 σ Fs Gs Hs σi ρi Fi Gi Hi ∧ OKf X.K XR lk σ F G H ((forL (bindT lk2 tg) (evSs cf b lk2) (items.drop i) ρi).put ρh) D E) ⟨Gs, ρs, Fs, Goes.refl st, by simpa using q⟩ ?_ ?_ ?_
  · rintro i σi Hi _ ⟨Gi, ρi, Fi, gi, _⟩
    exact gd _ _ _ _ _ gi
  · rintro i x σi Hi H' hi ⟨Gi, ρi, Fi, gi, qi⟩ y
    have hitem : items[i]? = some items[i] := by simp [hi]
    obtain ⟨G', e', gh', r'⟩ := item _ _ _ _ _ gi i _ x H' hitem y
    have hdrop : items.drop i = items[i] :: items.drop (i + 1) := List.drop_eq_getElem_cons hi
    rw [hdrop] at qi
    simp only [forL] at qi
    have so' : Rso X.K G' H' σi ρi Fi := gi.st.so.ext e' (by simp)
    have g1 : Goes X.K lk2 σ Fs Gs Hs σi ρi Fi G' H' := gi.trans ⟨e'.weak (by simp), ⟨gh', so'⟩, fun a ha => .inl ha, rfl, fun _ _ => rfl⟩
    cases hb : bindT lk2 tg items[i] ρi with
    | none => rw [hb] at qi; exact qi.elim
    | some ρa =>
      rw [hb] at qi
      simp only at qi
      refine kg lk2 σi ρi ρa Fi [] G' H' x items[i] _ gh' so' r' (by simp) hb fun σ2 F2 so2 m2 _ l2 k2 => ?_
      have g2 : Goes X.K lk2 σ Fs Gs Hs σ2 ρa F2 G' H' := g1.trans ⟨Ext.refl, ⟨gh', so2⟩, fun a ha => by
        rcases m2 a ha with z | z
        · exact .inl z
        · simp at z, l2, k2⟩
      refine gb lk2 σ2 ρa F2 G' H' _ ⟨gh', so2⟩ ?_
      cases hbd : evSs cf b lk2 ρa with
      | bad => rw [hbd] at qi; exact qi
      | next ρ2 =>
        rw [hbd] at qi
        exact fun σ3 F3 G3 H3 g3 => ⟨G3, ρ2, F3, g2.trans g3, qi⟩
      | brk ρ2 =>
        rw [hbd] at qi
        intro σ3 F3 G3 H3 g3
        obtain ⟨F', gf, _⟩ := fin _ _ _ _ _ (g2.trans g3)
        exact qi σ3 F' G3 H3 gf
      | exn cc fs ρ2 =>
        rw [hbd] at qi
        intro cls d σ3 F3 G3 H3 g3 x3
        obtain ⟨F', gf, _⟩ := fin _ _ _ _ _ (g2.trans g3)
        exact qi cls d σ3 F' G3 H3 gf x3
      | ret pv ρ2 =>
        rw [hbd] at qi
        intro v Fv σ3 F3 G3 H3 g3 r3 d3
        obtain ⟨F', gf, nf⟩ := fin _ _ _ _ _ (g2.trans g3)
        have d3' := g2.back d3
        exact qi v Fv σ3 F' G3 H3 gf r3 fun a ha => nf a (d3' a ha).1 (d3' a ha).2
  · rintro σi Hi ⟨Gi, ρi, Fi, gi, qi⟩
    rw [List.drop_length] at qi
    simp only [forL] at qi
    obtain ⟨F', gf, _⟩ := fin _ _ _ _ _ gi
    exact qi σi F' Gi Hi gf
theorem ss_for {fz : Bool} {tg : Tg} {it : It} {b : Stms} {te ie : Expr} {body : List Stmt} {pos : Pos} (k : SOk c XR E cf X) (hset : notSet ie = true) (hrg : it.rng = false) (hi : SI XR E cf X it te ie) (hg : SG X tg te) (hb : SSs XR E cf X b body) : SS XR E cf X (.for_ fz tg it b) (.For te ie body [] pos) := by
  obtain ⟨wi, pi, gi⟩ := hi
  obtain ⟨g, pg, kg⟩ := hg
  obtain ⟨tb, pb, gb⟩ := hb
  refine ⟨_, ps_for k.own k.x.calm pi pg pb (notSet_fold hset), fun lk σ ρ F G H D st q => ?_⟩
  simp only [evS] at q
  unfold evXi at q
  simp only [hrg, Bool.false_eq_true, if_false] at q
  obtain ⟨Fk, Fv, Fo, p⟩ := parts st.so it.vr it.ks
  obtain ⟨Fm, stm, sm, ef⟩ := p.msk st.gh
  refine gi σ _ Fm _ H _ stm ?_
  cases h : evIt cf it (mskS it.vr it.ks ρ) with
  | bad => rw [h] at q; exact q
  | exn cc fs ρ1 =>
    rw [h] at q
    simp only at q
    by_cases hk : ksOk it.ks ρ1 = true
    · rw [if_pos hk] at q
      intro cls d G1 H1 F1 e1 st1 s1 x1
      have th := p.thaw st.gh sm e1 st1 s1 hk
      obtain ⟨F2, st2, s2, _⟩ := p.all sm s1 th
      exact q cls d σ F2 _ H1 (.of th.ext st2 s2) x1
    · rw [if_neg hk] at q; exact q.elim
  | ok items ρ1 =>
    rw [h] at q
    simp only at q
    by_cases hk : ksOk it.ks ρ1 = true
    · rw [if_pos hk] at q
      intro J Gd Y G1 H1 F1 e1 st1 s1 walk hGd hY
      by_cases hlz : (!fz && lfs items) = true
      · have hlf : lfs items = true := (Bool.and_eq_true_iff.mp hlz).2
        rw [if_pos hlz] at q
        simp only at q
        have th := p.thaw st.gh sm e1 st1 s1 hk
        have v1 : Rso X.K (cutH Fv G1) H1 σ _ Fv := p.v.mono th.ext.sg fun a ha => th.kp a (.inl ha)
        have o1 : Rso X.K (cutH Fv G1) H1 σ _ Fo := p.o.mono th.ext.sg fun a ha => th.kp a (.inr ha)
        obtain ⟨Fa, ka, sa⟩ := th.k
        obtain ⟨Fh, Fl, vh, vl, dhl, mhl⟩ := v1.split (nlf ρ) 0
        have fl : Fl = [] := vl.clE fun i v e => by
          rw [getS_sel, Nat.zero_add] at e
          split at e
          · rename_i hnl
            rw [getS_sel, Nat.zero_add] at e
            split at e
            · rw [getS_sel, Nat.zero_add] at e
              split at e
              · unfold nlf at hnl
                rw [e] at hnl
                simpa using hnl
              · cases e
            · cases e
          · cases e
        subst fl
        have hv : ∀ a, a ∈ Fv ↔ a ∈ Fh := fun a => by rw [mhl]; simp
        obtain ⟨F3, j3, m3⟩ := vl.join o1 (by simp)
        obtain ⟨Fs, js, ms⟩ := ka.join j3 fun a ha z => by
          rcases m3 a z with y | y
          · simp at y
          · exact p.ko a (sm a (s1 a (sa a ha))) y
        rw [sel_sel, sel_sel, sel_sel, sel_or] at js
        have ep : (fun j => !it.ks.contains j && (it.vr.contains j && !nlf ρ j) || !it.ks.contains j && !it.vr.contains j) = fun i => !it.ks.contains i && !(it.vr.contains i && nlf ρ i) := by
          funext i; cases it.ks.contains i <;> cases it.vr.contains i <;> cases nlf ρ i <;> rfl
        rw [ep] at js
        have sF : ∀ a ∈ Fs, a ∈ F ∧ a ∉ Fv := fun a ha => by
          rcases ms a ha with y | y
          · have hk := sm a (s1 a (sa a y))
            exact ⟨(p.m a).mpr (.inl hk), p.kv a hk⟩
          · rcases m3 a y with w | w
            · simp at w
            · exact ⟨(p.m a).mpr (.inr (.inr w)), fun z => p.vo a z w⟩
        have hL : ∀ a ∈ Fv, ∃ ws, H1 a = some (.lst ws) := fun a ha => (v1.inH a ha).1
        -- what a state of the loop holds of the lists that were read
        have lookV : ∀ {σi ρi Fi Gi Hi}, Goes X.K (it.vr ++ lk) σ Fs (cutH Fv G1) H1 σi ρi Fi Gi Hi → (∀ a ∈ Fv, Hi a = H1 a ∧ Gi a = none) := fun {σi ρi Fi Gi Hi} gi a ha => by
          obtain ⟨ws, w⟩ := hL a ha
          have nS : a ∉ Fs := fun z => (sF a z).2 ha
          refine ⟨by rw [w]; exact gi.ext.fr a _ w nS, ?_⟩
          cases z : Gi a with
          | none => rfl
          | some o =>
            rcases gi.ext.nw a (by rw [z]; simp) with y | y | y
            · rw [cutH_in ha] at y; exact absurd rfl y
            · rw [w] at y; cases y
            · exact absurd y nS
        have frS : ∀ {σi ρi Fi Gi Hi}, Goes X.K (it.vr ++ lk) σ Fs (cutH Fv G1) H1 σi ρi Fi Gi Hi → Same G1 (frzH Fv H1 Gi) ∧ Same (frzH Fv H1 Gi) Hi := fun {σi ρi Fi Gi Hi} gi => by
          refine ⟨fun b o e => ?_, fun b o e => ?_⟩
          · by_cases hb : b ∈ Fv
            · rw [frzH_in hb]; exact st1.gh b o e
            · rw [frzH_out hb]; exact gi.ext.sg b o (by rw [cutH_out hb]; exact e)
          · by_cases hb : b ∈ Fv
            · rw [frzH_in hb] at e; rw [(lookV gi b hb).1]; exact e
            · rw [frzH_out hb] at e; exact gi.st.gh b o e
        refine for_core (lk := lk) (lk2 := it.vr ++ lk) walk kg gb (st := ⟨th.gh, js⟩) (ρh := selS (nlf ρ) 0 (selS (fun i => it.vr.contains i) 0 (selS (fun i => !it.ks.contains i) 0 ρ))) ?_ ?_ ?_ q
        · intro σi ρi Fi Gi Hi gi
          have h1 : Rso X.K Gi Hi σ _ Fh := vh.ext gi.ext fun a ha z => (sF a z).2 ((hv a).mpr ha)
          have h2 : Rso X.K Gi Hi σi _ Fh := h1.congr gi.len fun i hne => by
            refine gi.lock i (List.mem_append_left _ ?_)
            rw [getS_sel, Nat.zero_add] at hne
            split at hne
            · rw [getS_sel, Nat.zero_add] at hne
              split at hne
              · rename_i hc; simpa using hc
              · exact absurd rfl hne
            · exact absurd rfl hne
          have dis : ∀ a ∈ Fi, a ∉ Fh := fun a ha z => by
            obtain ⟨ws, w⟩ := hL a ((hv a).mpr z)
            rcases gi.sub a ha with y | y
            · exact (sF a y).2 ((hv a).mpr z)
            · rw [w] at y; cases y
          obtain ⟨F', jj, mj⟩ := gi.st.so.join h2 dis
          refine ⟨F', ⟨th.ext.trans gi.ext fun a ha => .inl (sF a ha).1, ⟨gi.st.gh, jj⟩, fun a ha => ?_, gi.len, fun j hj => gi.lock j (List.mem_append_right _ hj)⟩, fun a na hs => ⟨fun z => ?_, ?_⟩⟩
          · rcases mj a ha with y | y
            · rcases gi.sub a y with w | w
              · exact .inl (sF a w).1
              · exact .inr (th.ext.none w)
            · exact .inl ((p.m a).mpr (.inr (.inl ((hv a).mpr y))))
          · rcases mj a z with y | y
            · exact na y
            · obtain ⟨ws, w⟩ := hL a ((hv a).mpr y)
              rcases hs with u | u
              · exact (sF a u).2 ((hv a).mpr y)
              · rw [w] at u; cases u
          · rcases hs with u | u
            · exact .inl (sF a u).1
            · exact .inr (th.ext.none u)
        · intro σi ρi Fi Gi Hi gi
          exact hGd _ Hi (frS gi).1 (frS gi).2
        · intro σi ρi Fi Gi Hi gi i pv x H' hpv y
          obtain ⟨G3, e3, gh3, r3⟩ := hY i _ Hi x H' pv hpv (frS gi).1 (frS gi).2 y
          have hlp : lf pv = true := by
            rw [lfs_all] at hlf
            exact List.all_eq_true.mp hlf pv (List.mem_of_getElem? hpv)
          refine ⟨cutH Fv G3, ⟨fun b o e => ?_, fun b o e n => e3.fr b o e n, fun b e => e3.dm b e, fun b e => ?_⟩, fun b o e => gh3 b o (cutH_some e).2, r3.thaw gh3 (fun a ha => ?_) (by simp [nfzs, lf_nfz pv hlp])⟩
          · have hb : b ∉ Fv := fun z => by rw [(lookV gi b z).2] at e; cases e
            rw [cutH_out hb]
            exact e3.sg b o (by rw [frzH_out hb]; exact e)
          · by_cases hb : b ∈ Fv
            · rw [cutH_in hb] at e; exact absurd rfl e
            · rw [cutH_out hb] at e
              rcases e3.nw b e with z | z | z
              · rw [frzH_out hb] at z; exact .inl z
              · exact .inr (.inl z)
              · exact .inr (.inr z)
          · obtain ⟨ws, w⟩ := hL a ha
            exact ⟨ws, e3.fr a _ (by rw [(lookV gi a ha).1]; exact w) (by simp)⟩
      · rw [if_neg hlz] at q
        simp only at q
        obtain ⟨ex, F2, st2, s2, m2⟩ := p.back st.gh sm e1 st1 s1
        have o0 : ∀ r : Env, orS r [] = r := fun r => by cases r <;> rfl
        refine for_core (lk := lk) (lk2 := it.vr ++ lk) walk kg gb (st := st2) (ρh := []) ?_ ?_ ?_ q
        · intro σi ρi Fi Gi Hi gi
          rw [o0]
          refine ⟨Fi, ⟨ex.trans gi.ext fun a ha => .inl (s2 a ha), gi.st, fun a ha => ?_, gi.len, fun j hj => gi.lock j (List.mem_append_right _ hj)⟩, fun a na hs => ⟨na, ?_⟩⟩
          · rcases gi.sub a ha with w | w
            · exact .inl (s2 a w)
            · exact .inr (ex.none w)
          · rcases hs with u | u
            · exact .inl (s2 a u)
            · exact .inr (ex.none u)
        · intro σi ρi Fi Gi Hi gi
          exact hGd Gi Hi gi.ext.sg gi.st.gh
        · intro σi ρi Fi Gi Hi gi i pv x H' hpv y
          exact hY i Gi Hi x H' pv hpv gi.ext.sg gi.st.gh y
    · rw [if_neg hk] at q; exact q.elim
theorem ss_forR {fz : Bool} {tg : Tg} {it : It} {b : Stms} {te ie : Expr} {body : List Stmt} {pos : Pos} (k : SOk c XR E cf X) (hset : notSet ie = true) (hrg : it.rng = true) (hi : SIr XR E cf X it te ie) (hg : SG X tg te) (hb : SSs XR E cf X b body) : SS XR E cf X (.for_ fz tg it b) (.For te ie body [] pos) := by
  obtain ⟨wi, pi, gi⟩ := hi
  obtain ⟨g, pg, kg⟩ := hg
  obtain ⟨tb, pb, gb⟩ := hb
  refine ⟨_, ps_for k.own k.x.calm pi pg pb (notSet_fold hset), fun lk σ ρ F G H D st q => ?_⟩
  simp only [evS] at q
  unfold evXi at q
  simp only [hrg, if_true, List.nil_append] at q
  obtain ⟨Fk, Fv, Fo, p⟩ := parts st.so it.vr it.ks
  obtain ⟨Fm, stm, sm, ef⟩ := p.msk st.gh
  refine gi σ _ Fm _ H _ stm ?_
  cases h : evIt cf it (mskS it.vr it.ks ρ) with
  | bad => rw [h] at q; exact q
  | exn cc fs ρ1 =>
    rw [h] at q
    simp only at q
    by_cases hk : ksOk it.ks ρ1 = true
    · rw [if_pos hk] at q
      intro cls d G1 H1 F1 e1 st1 s1 x1
      have th := p.thaw st.gh sm e1 st1 s1 hk
      obtain ⟨F2, st2, s2, _⟩ := p.all sm s1 th
      exact q cls d σ F2 _ H1 (.of th.ext st2 s2) x1
    · rw [if_neg hk] at q; exact q.elim
  | ok items ρ1 =>
    rw [h] at q
    simp only at q
    by_cases hk : ksOk it.ks ρ1 = true
    · rw [if_pos hk] at q
      intro J Gd Y G1 H1 F1 e1 st1 s1 walk hGd hY
      have th := p.thaw st.gh sm e1 st1 s1 hk
      obtain ⟨F2, st2, s2, _⟩ := p.all sm s1 th
      have o0 : ∀ r : Env, orS r [] = r := fun r => by cases r <;> rfl
      refine for_core (lk := lk) (lk2 := lk) walk kg gb (st := st2) (ρh := []) ?_ ?_ ?_ q
      · intro σi ρi Fi Gi Hi gi
        rw [o0]
        refine ⟨Fi, ⟨th.ext.trans gi.ext fun a ha => .inl (s2 a ha), gi.st, fun a ha => ?_, gi.len, gi.lock⟩, fun a na hs => ⟨na, ?_⟩⟩
        · rcases gi.sub a ha with w | w
          · exact .inl (s2 a w)
          · exact .inr (th.ext.none w)
        · rcases hs with u | u
          · exact .inl (s2 a u)
          · exact .inr (th.ext.none u)
      · intro σi ρi Fi Gi Hi gi
        exact hGd Hi
      · intro σi ρi Fi Gi Hi gi i pv x H' hpv y
        exact hY i Gi Hi x H' pv hpv gi.st.gh y
    · rw [if_neg hk] at q; exact q.elim
end
end LC
end

section
set_option Elab.async false
set_option linter.all false
set_option maxRecDepth 100000
set_option maxHeartbeats 2000000
namespace LC
open PySem PySem.Spec L2
section
variable {c : CK} {XR : XRT} {E : XK} {cf : CF} {X : Cx}
theorem blk_fn {env : PySem.Env} (hk : env.scope.kind = .function) : env.blockKind = .function := by
  unfold Env.blockKind; rw [hk]; rfl
theorem sw_false {elt : Expr} {gs : List Comprehension} {scope : Scope} {pos py : Pos} {y : Str} {l : Nat} {env : PySem.Env} (h : ((env.scope.names.lookup y == some .local) && (py.line == pos.line) && !(scope.names.any fun (n, k) => n == y && (k == .local || k == .cell))) = false) :
    swapsWith (.ListComp elt gs scope pos) (some (.Name y py)) l env = pure false := by
  have ky : env.kindOf y = env.scope.names.lookup y := rfl
  unfold swapsWith
  simp only [ky, Expr.pos]
  have e : (env.blockKind == ScopeKind.function && List.lookup y env.scope.names == some NameKind.local && py.line == pos.line && !(scope.names.any fun x => match x with | (n, k) => n == y && (k == .local || k == .cell))) = false := by
    rw [Bool.and_assoc, Bool.and_assoc]
    rw [Bool.and_assoc] at h
    rw [h, Bool.and_false]
  rw [e]
theorem sw_par {x y : Str} {ea eb : Expr} {px py pt : Pos} {kt k2 : Nat} {pt2 : Pos} {env : PySem.Env} (hk : env.scope.kind = .function) (hx : env.scope.names.lookup x = some .local) (hy : env.scope.names.lookup y = some .local) (hl : (py.line == px.line) = true) (hxy : (y == x) = false) (sa : notStar ea = true) (sb : notStar eb = true)
    (hf : (foldedForSure 8 ea && foldedForSure 8 eb) = false) (hc : (constantsAlone 8 ea && constantsAlone 8 eb) = false) :
    swappedStores [.Tuple [.Name x px, .Name y py] kt pt] (.Tuple [ea, eb] k2 pt2) env = pure (some [x, y]) := by
  have kx : (env.kindOf x == some .local) = true := by show (env.scope.names.lookup x == some .local) = true; rw [hx]; rfl
  have ky : (env.kindOf y == some .local) = true := by show (env.scope.names.lookup y == some .local) = true; rw [hy]; rfl
  unfold swappedStores
  simp only [blk_fn hk, List.length_cons, List.length_nil, List.any_cons, List.any_nil, List.head?_cons, Option.map_some, Option.getD_some, Expr.pos, List.filterMap_cons, List.filterMap_nil, kx, ky, hl, beq_self_eq_true, Bool.and_self, if_true, List.all_cons, List.all_nil, Bool.and_true, hf, hc]
  have ed : ([x, y] : List Str).eraseDups = [x, y] := by
    simp [List.eraseDups_cons, hxy]
  simp only [ed, List.length_cons, List.length_nil]
  simp
  intro h
  exfalso
  rcases h with h | h
  · cases ea <;> first | (cases sa; done) | (cases h; done)
  · cases eb <;> first | (cases sb; done) | (cases h; done)
end
/-! ### the look at statements -/
def isTup : Expr → Bool
  | .Tuple _ _ _ => true
  | _ => false
/-- a tuple of targets whose stores are not exchanged -/
def noSw (sc : Scope) (te e : Expr) : Bool := match te with
  | .Tuple ts _ _ => (match e with
    | .Tuple vs _ _ => ts.any fun t => match t with
      | .Name x _ => !(sc.names.lookup x == some .local)
      | _ => true
    | _ => notComp e)
  | _ => false
section
variable (c : CK)
mutual
def ckS (sc : Scope) : Stm → Stmt → Bool
  | .expr a, s => (match s with
    | .Expr e _ => notComp e && ckE c a sc e
    | _ => false)
  | .set i a, s => (match s with
    | .Assign [.Name x py] e _ => okTg c (fun _ => true) sc i x && ckE c a sc e && (match e with
      | .ListComp _ _ scope pos => (match a with | .comp _ _ _ _ => true | _ => false) || !((sc.names.lookup x == some .local) && (py.line == pos.line) && !(scope.names.any fun (n, k) => n == x && (k == .local || k == .cell)))
      | .SetComp _ _ _ _ => false
      | .DictComp _ _ _ _ _ => false
      | _ => true)
    | _ => false)
  | .par i j a b, s => (match s with
    | .Assign [.Tuple [.Name x px, .Name y py] _ _] (.Tuple [ea, eb] _ _) _ => decide (c.N[i]? = some x) && decide (c.N[j]? = some y) && (i != j) && (sc.names.lookup x == some .local) && (sc.names.lookup y == some .local) && (py.line == px.line) && !(y == x) &&
      notStar ea && notStar eb && !(foldedForSure 8 ea && foldedForSure 8 eb) && !(constantsAlone 8 ea && constantsAlone 8 eb) && ckE c a sc ea && ckE c b sc eb
    | _ => false)
  | .asg tg a, s => (match s with
    | .Assign [te] e _ => noSw sc te e && ckTg c (fun _ => true) sc tg te && ckE c a sc e
    | _ => false)
  | .app i a, s => (match s with
    | .Expr (.Call (.Attribute (.Name x _) m apos) [e] [] cpos) _ => decide (m = "append") && okVar c sc i x && (apos.endLine == cpos.line) && notStar e && ckE c a sc e
    | _ => false)
  | .setAt i ix a, s => (match s with
    | .Assign [.Subscript (.Name x _) iy _] e _ => okVar c sc i x && notSlice iy && ckE c a sc e && ckE c ix sc iy
    | _ => false)
  | .setAt2 i ix jx a, s => (match s with
    | .Assign [.Subscript (.Subscript (.Name x _) iy _) jy _] e _ => okVar c sc i x && notSlice iy && notSlice jy && ckE c a sc e && ckE c ix sc iy && ckE c jx sc jy
    | _ => false)
  | .ret a, s => (match s with
    | .Return (some e) _ => ckE c a sc e
    | _ => false)
  | .raise _ _, s => false
  | .iff a s1 s2, s => (match s with
    | .If e b1 b2 _ => a.tOk && ckE c a sc e && ckSs sc s1 b1 && ckSs sc s2 b2
    | _ => false)
  | .whl a b, s => (match s with
    | .While e body [] _ => a.tOk && ckE c a sc e && ckSs sc b body
    | _ => false)
  | .for_ _ tg it b, s => (match s with
    | .For te ie body [] _ => notSet ie && ckIt c it sc te ie && ckTg c (fun _ => true) sc tg te && ckSs sc b body
    | _ => false)
  | .brk, s => (match s with
    | .Break _ => true
    | _ => false)
  | .stk, s => true
  | .pass, s => (match s with
    | .Pass _ => true
    | _ => false)
def ckSs (sc : Scope) : Stms → List Stmt → Bool
  | .nil, es => (match es with
    | [] => true
    | _ => false)
  | .cons s ss, es => (match es with
    | e :: r => ckS sc s e && ckSs sc ss r
    | [] => false)
end
end
end LC
end

section
set_option Elab.async false
set_option linter.all false
set_option maxRecDepth 100000
set_option maxHeartbeats 2000000
namespace LC
open PySem PySem.Spec L2
section
variable {c : CK} {XR : XRT} {E : XK} {cf : CF} {X : Cx}
theorem fm_short {α β : Type} {f : α → Option β} : ∀ {l : List α}, (∃ t ∈ l, f t = none) → (l.filterMap f).length < l.length
  | [], ⟨t, h, _⟩ => by simp at h
  | a :: l, ⟨t, h, e⟩ => by
    rcases List.mem_cons.mp h with z | z
    · subst z
      rw [List.filterMap_cons, e]
      simp only [List.length_cons]
      exact Nat.lt_succ_of_le (List.length_filterMap_le f l)
    · have ih := fm_short (f := f) ⟨t, z, e⟩
      rw [List.filterMap_cons]
      split
      · simp only [List.length_cons]; omega
      · simp only [List.length_cons]; omega
theorem sw_none {ts vs : List Expr} {k k2 : Nat} {p p2 : Pos} {env : PySem.Env} (h : (ts.any fun t => match t with
      | .Name x _ => !(env.scope.names.lookup x == some .local)
      | _ => true) = true) : swappedStores [.Tuple ts k p] (.Tuple vs k2 p2) env = pure none := by
  unfold swappedStores
  simp only
  split
  · rfl
  · split
    · rfl
    · rename_i h1 h2
      have hs : ∀ line : Nat, (ts.filterMap fun e => match e with
          | .Name id pos => if (env.kindOf id == some .local && pos.line == line) = true then some id else none
          | _ => none).length < ts.length := fun line => by
        apply fm_short
        obtain ⟨t, ht, hh⟩ := List.any_eq_true.mp h
        refine ⟨t, ht, ?_⟩
        cases t with
        | Name x pos =>
          simp only [Bool.not_eq_true'] at hh
          have : (env.kindOf x == some NameKind.local) = false := hh
          simp [this]
        | _ => rfl
      have hs' := hs ((ts.head?.map (·.pos.line)).getD 0)
      rw [if_pos]
      rw [Bool.or_eq_true]
      left
      rw [bne_iff_ne]
      exact Nat.ne_of_lt hs'
theorem nosw_of {te e : Expr} {l : Nat} {env : PySem.Env} (h : noSw env.scope te e = true) : swapsWithSole [te] e l env = pure false ∧ swappedStores [te] e env = pure none ∧ (assignEach [te] env).map (·.2) = [assign te env] := by
  unfold noSw at h
  split at h
  · split at h
    · exact ⟨rfl, sw_none h, rfl⟩
    · rename_i ts _ _ _ hne
      refine ⟨?_, ?_, rfl⟩
      · unfold swapsWithSole
        exact noswap h
      · cases e <;> first | rfl | (exact absurd rfl (hne _ _ _))
  · cases h
variable (c)
mutual
theorem ckS_ok {XR : XRT} {E : XK} {cf : CF} {X : Cx} (k : SOk c XR E cf X) : ∀ (s : Stm) (e : Stmt), ckS c X.env.scope s e = true → SS XR E cf X s e
  | .expr a, e, h => by
    unfold ckS at h; split at h
    · rw [Bool.and_eq_true] at h
      exact ss_expr h.1 (ck_ok c a XR E cf X _ k.x h.2).1
    · cases h
  | .set i a, e, h => by
    unfold ckS at h; split at h
    · rename_i x py ev pos
      simp only [Bool.and_eq_true] at h
      obtain ⟨⟨h1, h2⟩, h3⟩ := h
      obtain ⟨t1, t2, t3⟩ := okTg_of (X := X) (fun _ _ => k.fnT _) k.x.hN h1
      by_cases hc : notComp ev = true
      · exact ss_set k t1 t2 (noswap hc) (ck_ok c a XR E cf X _ k.x h2).1
      · cases ev with
        | ListComp ee gs scope pos2 =>
          by_cases hs : ((X.env.scope.names.lookup x == some .local) && (py.line == pos2.line) && !(scope.names.any fun (n, k) => n == x && (k == .local || k == .cell))) = true
          · have h3' : (match (generalizing := false) a with | .comp _ _ _ _ => true | _ => false) = true := by
              simp only [hs, Bool.not_true, Bool.or_false] at h3
              exact h3
            simp only [Bool.and_eq_true, Bool.not_eq_true'] at hs
            cases a with
            | comp elt tg it cond =>
              unfold ckE at h2; split at h2
              · rename_i te ie ifs _ _ heq
                cases heq
                simp only [Bool.and_eq_true] at h2
                obtain ⟨⟨⟨⟨⟨b1, b2⟩, b3⟩, b4⟩, b5⟩, b6⟩ := h2
                refine ss_setLc k t1 (by have := hs.1.1; exact eq_of_beq this) hs.1.2 hs.2 (ckit_ok c it XR E cf X _ _ k.x b3) (own := ownOf c.N tg.slots) (by rw [k.x.hN]; exact blkOk_by b1) (by unfold ownOf; rw [List.map_map]; exact List.map_id' _) b2 (fun b => ?_) (fun b => ?_) (fun b => ?_)
                · exact ckTg_ok (c := c) (X := blkX X _ b) (fun x h => h) k.x.hN k.x.nd k.x.calm tg _ b4
                · exact ckc_ok c cond XR E0 cf _ _ (xok_blk k.x) b5
                · exact (ck_ok c elt XR E0 cf _ _ (xok_blk k.x) b6).1
              · cases h2
            | _ => cases h3'
          · exact ss_set k t1 t2 (sw_false (Bool.eq_false_iff.mpr hs)) (ck_ok c a XR E cf X _ k.x h2).1
        | SetComp _ _ _ _ => cases h3
        | DictComp _ _ _ _ _ => cases h3
        | _ => exact absurd rfl hc
    · cases h
  | .par i j a b, e, h => by
    unfold ckS at h; split at h
    · simp only [Bool.and_eq_true, decide_eq_true_eq, Bool.not_eq_true', bne_iff_ne] at h
      obtain ⟨⟨⟨⟨⟨⟨⟨⟨⟨⟨⟨⟨a1, a2⟩, a3⟩, a4⟩, a5⟩, a6⟩, a7⟩, a8⟩, a9⟩, a10⟩, a11⟩, a12⟩, a13⟩ := h
      exact ss_par k (by rw [k.x.hN]; exact a1) (by rw [k.x.hN]; exact a2) a3 (eq_of_beq a4) (eq_of_beq a5) (ses_cons a8 (ck_ok c a XR E cf X _ k.x a12).1 (ses_cons a9 (ck_ok c b XR E cf X _ k.x a13).1 ses_nil))
        (sw_par k.kind (eq_of_beq a4) (eq_of_beq a5) a6 a7 a8 a9 a10 a11)
    · cases h
  | .asg tg a, e, h => by
    unfold ckS at h; split at h
    · simp only [Bool.and_eq_true] at h
      obtain ⟨s1, s2, s3⟩ := nosw_of (env := X.env) h.1.1
      exact ss_asg k s1 s2 s3 (ck_ok c a XR E cf X _ k.x h.2).1 (ckTg_ok (X := X) (fun _ _ => k.fnT _) k.x.hN k.x.nd k.x.calm tg _ h.1.2)
    · cases h
  | .app i a, e, h => by
    unfold ckS at h; split at h
    · simp only [Bool.and_eq_true, decide_eq_true_eq] at h
      obtain ⟨⟨⟨⟨h1, h2⟩, h3⟩, h4⟩, h5⟩ := h
      subst h1
      obtain ⟨v1, v2, v3, v4⟩ := okVar_of k.x h2
      exact ss_app k v1 v2 v3 v4 h3 h4 (ck_ok c a XR E cf X _ k.x h5).1
    · cases h
  | .setAt i ix a, e, h => by
    unfold ckS at h; split at h
    · simp only [Bool.and_eq_true] at h
      obtain ⟨⟨⟨h1, h2⟩, h3⟩, h4⟩ := h
      obtain ⟨v1, v2, v3, v4⟩ := okVar_of k.x h1
      exact ss_setAt k v1 v2 v3 v4 h2 (ck_ok c a XR E cf X _ k.x h3).1 (ck_ok c ix XR E cf X _ k.x h4).1
    · cases h
  | .setAt2 i ix jx a, e, h => by
    unfold ckS at h; split at h
    · simp only [Bool.and_eq_true] at h
      obtain ⟨⟨⟨⟨⟨h1, h2⟩, h3⟩, h4⟩, h5⟩, h6⟩ := h
      obtain ⟨v1, v2, v3, v4⟩ := okVar_of k.x h1
      exact ss_setAt2 k v1 v2 v3 v4 h2 h3 (ck_ok c a XR E cf X _ k.x h4).1 (ck_ok c ix XR E cf X _ k.x h5).1 (ck_ok c jx XR E cf X _ k.x h6).1
    · cases h
  | .ret a, e, h => by
    unfold ckS at h; split at h
    · exact ss_ret (ck_ok c a XR E cf X _ k.x h).1
    · cases h
  | .raise _ _, e, h => by
    unfold ckS at h; cases h
  | .iff a s1 s2, e, h => by
    unfold ckS at h; split at h
    · simp only [Bool.and_eq_true] at h
      exact ss_if ((ck_ok c a XR E cf X _ k.x h.1.1.2).2.1 h.1.1.1) (ckSs_ok k s1 _ h.1.2) (ckSs_ok k s2 _ h.2)
    · cases h
  | .whl a b, e, h => by
    unfold ckS at h; split at h
    · simp only [Bool.and_eq_true] at h
      exact ss_while k ((ck_ok c a XR E cf X _ k.x h.1.2).2.1 h.1.1) (ckSs_ok k b _ h.2)
    · cases h
  | .for_ fz tg it b, e, h => by
    unfold ckS at h; split at h
    · simp only [Bool.and_eq_true] at h
      cases hr : it.rng with
      | true => exact ss_forR k h.1.1.1 hr (ckitr_ok c it XR E cf X _ _ k.x hr h.1.1.2) (ckTg_ok (X := X) (fun _ _ => k.fnT _) k.x.hN k.x.nd k.x.calm tg _ h.1.2) (ckSs_ok k b _ h.2)
      | false => exact ss_for k h.1.1.1 hr (ckit_ok c it XR E cf X _ _ k.x h.1.1.2) (ckTg_ok (X := X) (fun _ _ => k.fnT _) k.x.hN k.x.nd k.x.calm tg _ h.1.2) (ckSs_ok k b _ h.2)
    · cases h
  | .brk, e, h => by
    unfold ckS at h; split at h
    · exact ss_brk
    · cases h
  | .stk, e, h => ss_stk
  | .pass, e, h => by
    unfold ckS at h; split at h
    · exact ss_pass
    · cases h
theorem ckSs_ok {XR : XRT} {E : XK} {cf : CF} {X : Cx} (k : SOk c XR E cf X) : ∀ (s : Stms) (es : List Stmt), ckSs c X.env.scope s es = true → SSs XR E cf X s es
  | .nil, es, h => by
    unfold ckSs at h; split at h
    · exact ss_nil
    · cases h
  | .cons s ss, es, h => by
    unfold ckSs at h; split at h
    · rw [Bool.and_eq_true] at h
      exact ss_cons (ckS_ok k s _ h.1) (ckSs_ok k ss _ h.2)
    · cases h
end
end
end LC
end

section
set_option Elab.async false
set_option linter.all false
set_option maxRecDepth 100000
set_option maxHeartbeats 2000000
namespace LC
open PySem PySem.Spec L2
/-! ### defs -/
structure Def where
  name : Str
  args : Arguments
  body : List Stmt
  scope : Scope
  ir : Fn
  N : List Str
def Def.ps (d : Def) : List Str := d.args.args.map (·.arg)
def plainArgs (a : Arguments) : Bool := a.posonlyargs.isEmpty && a.vararg.isNone && a.kwonlyargs.isEmpty && a.kw_defaults.isEmpty && a.kwarg.isNone && a.defaults.isEmpty
def nodupB : List Str → Bool
  | [] => true
  | x :: xs => !xs.contains x && nodupB xs
theorem nodupB_ok : ∀ {l : List Str}, nodupB l = true → l.Nodup
  | [], _ => List.nodup_nil
  | x :: xs, h => by
    simp only [nodupB, Bool.and_eq_true, Bool.not_eq_true'] at h
    refine List.nodup_cons.mpr ⟨fun z => ?_, nodupB_ok h.2⟩
    have := h.1
    simp [z] at this
def scOk (N ps : List Str) (sc : Scope) : Bool := (match sc.kind with | .function => true | _ => false) && !sc.isCoroutine && !sc.isGenerator && nodupB N && decide (N.take ps.length = ps) &&
  ps.all (fun x => match sc.names.lookup x with | some .local => true | some .cell => true | _ => false) && sc.names.all (fun y => match y.2 with | .free => false | _ => true)
theorem scOk_of {N ps : List Str} {sc : Scope} (h : scOk N ps sc = true) : FnScope N ps sc := by
  unfold scOk at h
  simp only [Bool.and_eq_true, Bool.not_eq_true', decide_eq_true_eq] at h
  obtain ⟨⟨⟨⟨⟨⟨h1, h2⟩, h3⟩, h4⟩, h5⟩, h6⟩, h7⟩ := h
  refine ⟨?_, h2, h3, nodupB_ok h4, h5, fun x hx => ?_, fun y hy e => ?_⟩
  · split at h1
    · assumption
    · cases h1
  · have := List.all_eq_true.mp h6 x hx
    split at this
    · exact .inl (by assumption)
    · exact .inr (by assumption)
    · cases this
  · have := List.all_eq_true.mp h7 y hy
    rw [e] at this
    cases this
def okDef (gl : List (Str × PV)) (fs : List (Str × Bool)) (d : Def) : Bool :=
  ckSs ⟨d.N, gl, fs⟩ d.scope d.ir.body d.body && decide (d.ir.slots = d.N.length) && decide (d.ir.params = d.ps.length) && plainArgs d.args && scOk d.N d.ps d.scope && decide (0 < d.ps.length)
theorem zip_look {α : Type} : ∀ (l : List Str) (us : List α), l.Nodup → us.length = l.length → (∀ n ∈ l, ∃ v, (l.zip us).lookup n = some v) ∧ l.filterMap (fun n => ((l.zip us).lookup n).map (n, ·)) = l.zip us
  | [], us, _, _ => ⟨by simp, by simp⟩
  | x :: l, [], _, h => by simp at h
  | x :: l, u :: us, nd, h => by
    obtain ⟨h1, h2⟩ := List.nodup_cons.mp nd
    obtain ⟨i1, i2⟩ := zip_look l us h2 (by simpa using h)
    have e : ∀ n ∈ l, ((x :: l).zip (u :: us)).lookup n = (l.zip us).lookup n := fun n hn => by
      have : (n == x) = false := by
        rw [beq_eq_false_iff_ne]; intro z; subst z; exact h1 hn
      simp [List.zip_cons_cons, List.lookup_cons, this]
    refine ⟨fun n hn => ?_, ?_⟩
    · rcases List.mem_cons.mp hn with z | z
      · subst z; exact ⟨u, by simp [List.lookup_cons]⟩
      · rw [e n z]; exact i1 n z
    · rw [List.filterMap_cons]
      have e0 : ((x :: l).zip (u :: us)).lookup x = some u := by simp [List.lookup_cons]
      rw [e0]
      simp only [Option.map_some, List.zip_cons_cons]
      congr 1
      rw [← i2]
      have cg : ∀ (m : List Str), (∀ n ∈ m, n ∈ l) → m.filterMap (fun n => (((x, u) :: l.zip us).lookup n).map (n, ·)) = m.filterMap (fun n => ((l.zip us).lookup n).map (n, ·)) := by
        intro m
        induction m with
        | nil => intro _; rfl
        | cons a m ih =>
          intro hm
          rw [List.filterMap_cons, List.filterMap_cons, ih fun n hn => hm n (by simp [hn])]
          have := e a (hm a (by simp))
          rw [List.zip_cons_cons] at this
          rw [this]
      rw [i2, cg l fun _ h => h, i2]
theorem binds_plain {x qual : Str} {params : Arguments} {body : List Stmt} {scope : Scope} {kV doc pm : Value} {an : Option Addr} {cdv ct : Value} {us : List Value} (h : plainArgs params = true) (nd : (params.args.map (·.arg)).Nodup) (hl : us.length = (params.args.map (·.arg)).length) :
    bindArgs (PySem.W.fnOf x qual params body scope .none kV doc pm an cdv ct) ⟨us, []⟩ = pure ((params.args.map (·.arg)).zip us) := by
  obtain ⟨po, ar, va, ko, kd, ka, df⟩ := params
  simp only [plainArgs, Bool.and_eq_true, List.isEmpty_iff, Option.isNone_iff_eq_none] at h
  obtain ⟨⟨⟨⟨⟨rfl, rfl⟩, rfl⟩, rfl⟩, rfl⟩, rfl⟩ := h
  obtain ⟨z1, z2⟩ := zip_look _ us nd hl
  simp only at hl z1 z2
  have mis : ((ar.map (·.arg)).filter fun n => (((ar.map (·.arg)).zip us).lookup n).isNone) = [] := by
    rw [List.filter_eq_nil_iff]
    intro n hn
    obtain ⟨v, e⟩ := z1 n hn
    rw [e]; simp
  have sq : seqItems? Value.none = (pure none : Sem (Option (Array Value))) := rfl
  unfold bindArgs
  simp only [PySem.W.fnOf, List.map_nil, List.nil_append, sq, pure_bind, List.forIn_nil]
  have tk : ∀ (k : Nat), List.take ((ar.map (·.arg)).length - (List.drop k ([] : List Value)).length) (ar.map (·.arg)) = ar.map (·.arg) := by
    intro k
    apply List.take_of_length_le
    simp
  simp [hl, -List.length_map]
  rw [if_neg (by rw [tk, mis]; simp), ← List.filterMap_map, z2]
section
variable {K : PySem.W.Frag} {G H : Hp}
theorem rso_nones (G H : Hp) : ∀ n : Nat, Rso K G H (List.replicate n none) (List.replicate n none) []
  | 0 => .nil
  | n + 1 => by rw [List.replicate_succ, List.replicate_succ]; exact .hid (rso_nones G H n)
theorem rso_start : ∀ {vs : List V} {ps : List PV} {F : List Addr} (n : Nat), Rps K G H vs ps F → ∃ F', Rso K G H (vs.map some ++ List.replicate n none) (ps.map some ++ List.replicate n none) F' ∧ ∀ a, a ∈ F' ↔ a ∈ F
  | [], ps, F, n, h => by
    cases h
    exact ⟨[], by simpa using rso_nones G H n, by simp⟩
  | v :: vs, [], F, n, h => absurd h.len (by simp)
  | v :: vs, p :: ps, F, n, h => by
    obtain ⟨F1, F2, h1, h2, d, m⟩ := h.uncons
    obtain ⟨F3, h3, m3⟩ := rso_start n h2
    exact ⟨F1 ++ F3, .val h1 h3 fun a ha z => d a ha ((m3 a).mp z), fun a => by rw [List.mem_append, m, m3]⟩
end
section
variable {P : Program} {w : World} {K : PySem.W.Frag} {mg : Str → Option Value} {base : Heap} {XR : XRT}
def tabT (tab : List Def) (f : Str) : Option Fn := (tab.find? fun d => decide (d.name = f)).map (·.ir)
def tabF (tab : List Def) : List (Str × Bool) := tab.map fun d => (d.name, d.ir.io)
theorem len_ok {T : Str → Option Fn} {f : Str} {fn : Fn} (ht : T f = some fn) : ∀ (n : Nat) (as : List PV), callN T n f as ≠ .bad → as.length = fn.params
  | 0, as, h => absurd rfl h
  | n + 1, as, h => by
    rw [callN] at h
    simp only [ht] at h
    unfold runFn at h
    split at h
    · assumption
    · exact absurd rfl h
/-- a call, of what the body does -/
theorem call_ok {cf : CF} {fn : Fn} {ps : List PV} {Fa F : List Addr} {G H : Hp} {vs : List V} {Q : VK} {E : XK} {n : Nat} (gh : Same G H) (r : Rps K G H vs ps Fa) (ao : ArgOk fn.io ps Fa) (hl : vs.length = fn.params) (hF : ∀ a, a ∈ F ↔ a ∈ Fa)
    (hm : match runFn cf fn ps with
      | .ok p iov => ∀ v G' H' Fv, Ext Fa G H G' H' → Same G' H' → Rps K G' H' [v] [p] Fv → (∀ a ∈ Fv, H a = none) → (fn.io = true → ∃ a ms, vs.head? = some (.ref a) ∧ iov = .lst true ms ∧ lfs ms = true ∧ Fa = [a] ∧ Rps K G' H' [.ref a] [.lst true ms] [a]) → Q v H'
      | .exn c fs => ∀ cls d G' H', Ext Fa G H G' H' → Same G' H' → XR c fs cls d H' → E cls d H'
      | .bad => False) :
    OKf K XR (if fn.io then [0] else []) (vs.map some ++ List.replicate n none) F G H (evSs cf fn.body (if fn.io then [0] else []) (ps.map some ++ List.replicate (fn.slots - fn.params) none)) { nx := fun _ H' => Q .non H', rt := Q } E := by
  have hpl : ps.length = fn.params := by rw [← r.len]; exact hl
  unfold runFn at hm
  rw [if_pos hpl] at hm
  -- the end by a value
  have fin : ∀ (p : PV) (ρ' : Env) (v : V) (Fv : List Addr) (σ' : Sl) (F' : List Addr) (G' H' : Hp), Goes K (if fn.io then [0] else []) (vs.map some ++ List.replicate n none) F G H σ' ρ' F' G' H' → Rps K G' H' [v] [p] Fv → (∀ a ∈ Fv, a ∉ F' ∧ (a ∈ F ∨ H a = none)) →
      (match (if fn.io then (match getS ρ' 0 with
      | some (.lst true ms) => if lfs ms then CRs.ok p (.lst true ms) else .bad
      | _ => .bad) else .ok p .none) with
      | .ok p iov => ∀ v G' H' Fv, Ext Fa G H G' H' → Same G' H' → Rps K G' H' [v] [p] Fv → (∀ a ∈ Fv, H a = none) → (fn.io = true → ∃ a ms, vs.head? = some (.ref a) ∧ iov = .lst true ms ∧ lfs ms = true ∧ Fa = [a] ∧ Rps K G' H' [.ref a] [.lst true ms] [a]) → Q v H'
      | .exn c fs => ∀ cls d G' H', Ext Fa G H G' H' → Same G' H' → XR c fs cls d H' → E cls d H'
      | .bad => False) → Q v H' := by
    intro p ρ' v Fv σ' F' G' H' g rv dv hq
    have ex : Ext Fa G H G' H' := g.ext.weak fun a ha => (hF a).mp ha
    cases hio : fn.io with
    | false =>
      rw [hio] at hq
      simp only [Bool.false_eq_true, if_false] at hq
      have f0 : Fa = [] := by unfold ArgOk at ao; rw [hio] at ao; simpa using ao
      refine hq v G' H' Fv ex g.st.gh rv (fun a ha => ?_) (fun z => by cases z)
      rcases (dv a ha).2 with y | y
      · have := (hF a).mp y
        rw [f0] at this; simp at this
      · exact y
    | true =>
      rw [hio] at hq
      simp only [if_true] at hq
      have g' := g
      rw [hio] at g'
      simp only [if_true] at g'
      unfold ArgOk at ao
      rw [hio, if_pos rfl] at ao
      obtain ⟨a0, ns, rest, rfl, hns, rfl⟩ := ao
      cases vs with
      | nil => exact absurd r.len (by simp)
      | cons v0 vs =>
        obtain ⟨F1, F2, r1, r2, d12, m12⟩ := r.uncons
        obtain ⟨a1, ws, Fw, rfl, hl1, hg1, rw1, hn1, rfl⟩ := r1.inv_lstT
        have ea : a1 = a0 := by
          have := (m12 a1).mpr (.inl (by simp))
          simpa using this
        subst ea
        cases hg : getS ρ' 0 with
        | none => rw [hg] at hq; exact hq.elim
        | some p0 =>
          obtain ⟨v0, F0, e0, r0, s0⟩ := g'.st.so.get hg
          have e0' : v0 = .ref a1 := by
            have := g'.lock 0 (by simp)
            rw [e0] at this
            simpa using this
          subst e0'
          rw [hg] at hq
          cases p0 with
          | lst u ms =>
            cases u with
            | true =>
              simp only at hq
              by_cases hms : lfs ms = true
              · rw [if_pos hms] at hq
                obtain ⟨a2, ws2, Fw2, e2, hl2, hg2, rw2, hn2, rfl⟩ := r0.inv_lstT
                cases e2
                have := rw2.lf hms
                subst this
                refine hq v G' H' Fv ex g.st.gh rv (fun a ha => ?_) (fun _ => ⟨a1, ms, rfl, rfl, hms, rfl, r0⟩)
                rcases (dv a ha).2 with y | y
                · have y := (hF a).mp y
                  have : a = a1 := by simpa using y
                  subst this
                  exact absurd (s0 a (by simp)) (dv a ha).1
                · exact y
              · rw [if_neg hms] at hq; exact hq.elim
            | false => exact hq.elim
          | _ => exact hq.elim
  cases hr : evSs cf fn.body (if fn.io then [0] else []) (ps.map some ++ List.replicate (fn.slots - fn.params) none) with
  | bad => rw [hr] at hm; exact hm
  | brk ρ' => rw [hr] at hm; exact hm.elim
  | ret p ρ' =>
    rw [hr] at hm
    exact fun v Fv σ' F' G' H' g rv dv => fin p ρ' v Fv σ' F' G' H' g rv dv hm
  | next ρ' =>
    rw [hr] at hm
    exact fun σ' F' G' H' g => fin .none ρ' .non [] σ' F' G' H' g (.none .nil) (by simp) hm
  | exn c fs ρ' =>
    rw [hr] at hm
    simp only at hm
    intro cls d σ' F' G' H' g x
    cases hio : fn.io with
    | true => rw [hio] at hm; exact hm.elim
    | false =>
      rw [hio] at hm
      exact hm cls d G' H' (g.ext.weak fun a ha => (hF a).mp ha) g.st.gh x
end
end LC
end

section
set_option Elab.async false
set_option linter.all false
set_option maxRecDepth 100000
set_option maxHeartbeats 2000000
namespace LC
open PySem PySem.Spec L2
section
variable {P : Program} {w : World} {K : PySem.W.Frag} {mg : Str → Option Value} {base : Heap} {XR : XRT}
theorem tabT_of {tab : List Def} (hnd : nodupB (tab.map (·.name)) = true) : ∀ {d : Def}, d ∈ tab → tabT tab d.name = some d.ir := by
  induction tab with
  | nil => intro d h; simp at h
  | cons a tab ih =>
    intro d hd
    simp only [List.map_cons, nodupB, Bool.and_eq_true, Bool.not_eq_true'] at hnd
    unfold tabT
    rcases List.mem_cons.mp hd with z | z
    · subst z; simp
    · have ne : a.name ≠ d.name := fun e => by
        have := hnd.1
        rw [e] at this
        have h2 : d.name ∈ tab.map (·.name) := List.mem_map.mpr ⟨d, z, rfl⟩
        simp [List.contains_iff_mem] at this
        exact this d z rfl
      have := ih hnd.2 z
      unfold tabT at this
      rw [List.find?_cons]
      simp only [ne, decide_false]
      exact this
theorem spF_bad {cf : CF} {f : Str} {io : Bool} {k : Nat} (h : ∀ as, cf f as = .bad) {vs : List V} {H : Hp} {Q : VK} {E : XK} (s : spF K XR cf f io k vs H Q E) : False := by
  obtain ⟨G, ps, Fa, _, _, _, _, m⟩ := s
  rw [h] at m
  exact m
theorem defs_ok (tab : List Def) (gl : List (Str × PV)) (hck : ∀ d ∈ tab, okDef gl (tabF tab) d = true) (hnd : nodupB (tab.map (·.name)) = true)
    (hfun : ∀ d ∈ tab, ∃ fa fd, mg d.name = some (.ref fa) ∧ FunD K d.name d.name d.args d.body d.scope [] [] fa fd) (hblt : ∀ b ∈ bnames, mg b = none)
    (hgl : ∀ q ∈ gl, ∃ v u, mg q.1 = some u ∧ RelV v u ∧ ∀ G H, Same G H → Rps K G H [v] [q.2] []) :
    ∀ n, ∀ d ∈ tab, ∀ fa fd, FunD K d.name d.name d.args d.body d.scope [] [] fa fd → FnOk P w K mg base (L2.CX P w) n fa fd d.ps (spF K XR (callN (tabT tab) n) d.name d.ir.io d.ir.params) := by
  have lenP : ∀ n (d : Def), d ∈ tab → d.ir.params = d.ps.length → ∀ vs H Q E, spF K XR (callN (tabT tab) n) d.name d.ir.io d.ir.params vs H Q E → vs.length = d.ps.length := fun n d hd hp vs H Q E s => by
    obtain ⟨G, ps, Fa, _, _, _, hl, _⟩ := s
    rw [hl, hp]
  have parts : ∀ d ∈ tab, ckSs ⟨d.N, gl, tabF tab⟩ d.scope d.ir.body d.body = true ∧ d.ir.slots = d.N.length ∧ d.ir.params = d.ps.length ∧ plainArgs d.args = true ∧ FnScope d.N d.ps d.scope := fun d hd => by
    have h := hck d hd
    unfold okDef at h
    simp only [Bool.and_eq_true, decide_eq_true_eq] at h
    exact ⟨h.1.1.1.1.1, h.1.1.1.1.2, h.1.1.1.2, h.1.1.2, scOk_of h.1.2⟩
  have bnd : ∀ d ∈ tab, ∀ fa fd, FunD K d.name d.name d.args d.body d.scope [] [] fa fd → Binds K fd d.ps [] := fun d hd fa fd F => by
    obtain ⟨_, _, _, h4, h5⟩ := parts d hd
    refine F.bindsN fun kV doc pm an cdv ct us hl => binds_plain h4 ?_ hl
    have e : d.ps = d.N.take d.ps.length := h5.pre.symm
    show d.ps.Nodup
    rw [e]
    exact (List.take_sublist _ _).nodup h5.nd
  intro n
  induction n with
  | zero =>
    intro d hd fa fd F
    exact (⟨fun vs H Q E s => (spF_bad (fun _ => rfl) s).elim, fun A outer s H args us vs Q E _ _ _ _ sp => (spF_bad (fun _ => rfl) sp).elim⟩)
  | succ n ih =>
    intro d hd fa fd F
    obtain ⟨h1, h2, h3, h4, h5⟩ := parts d hd
    refine F.ok h5 (lenP (n + 1) d hd h3) fun cdv A outer s H vs Q E hr sp => ?_
    obtain ⟨G, ps, Fa, gh, r, ao, hl, m⟩ := sp
    have hT : tabT tab d.name = some d.ir := tabT_of hnd hd
    rw [callN] at m
    simp only [hT] at m
    have xk : XOk ⟨d.N, gl, tabF tab⟩ XR E (callN (tabT tab) n) (cxOf (L2.CX P w) P w K mg base d.N d.name d.scope fa cdv A outer s H E) := by
      refine ⟨rfl, h5.nd, rfl, ?_, hblt, hgl, fun q hq => ?_, ?_⟩
      · have := hr.un
        show (A.deeper _).units + 65 < cLine
        omega
      · obtain ⟨d', hd', rfl⟩ := List.mem_map.mp hq
        obtain ⟨fa', fd', e1, F'⟩ := hfun d' hd'
        exact ⟨d'.ir.params, fa', fd', d'.ps, n, e1, F'.kp, bnd d' hd' fa' fd' F', ih d' hd' fa' fd' F', hr, fun as h => len_ok (tabT_of hnd hd') n as h⟩
      · exact passes_call (takes_of rfl rfl rfl rfl) fun _ _ _ _ h => h
    have sk : SOk ⟨d.N, gl, tabF tab⟩ XR E (callN (tabT tab) n) (cxOf (L2.CX P w) P w K mg base d.N d.name d.scope fa cdv A outer s H E) := ⟨xk, passes_of rfl, fun _ => rfl, h5.kind⟩
    obtain ⟨t, p, g⟩ := ckSs_ok ⟨d.N, gl, tabF tab⟩ sk d.ir.body d.body h1
    obtain ⟨F', so, mF⟩ := rso_start (d.N.length - vs.length) r
    have el : d.ir.slots - d.ir.params = d.N.length - vs.length := by rw [h2, ← hl]
    refine ⟨t, p, g (if d.ir.io then [0] else []) (start d.N vs) (ps.map some ++ List.replicate (d.N.length - vs.length) none) F' G H _ ⟨gh, so⟩ ?_⟩
    have hc := call_ok (cf := callN (tabT tab) n) (fn := d.ir) (F := F') (n := d.N.length - vs.length) gh r ao hl mF m
    rw [el] at hc
    exact hc
end
end LC
end

section
set_option Elab.async false
set_option linter.all false
set_option maxRecDepth 100000
set_option maxHeartbeats 2000000
namespace LC
open PySem PySem.Spec L2
/-! ### the head: what stands behind the top -/
def Def.toD (d : Def) : He.DefD := ⟨(d.name, none), d.name, d.name, d.args, d.body, d.scope, [], []⟩
/-- constants of the module -/
inductive Gc where
  | int (x : Str) (i : Int)
  | str (x z : Str)
def Gc.fa : Gc → He.Fa
  | .int x i => .int x i
  | .str x z => .str x z
def Gc.gl : Gc → Str × PV
  | .int x i => (x, .int i)
  | .str x z => (x, .str z)
def faOf (tab : List Def) (gs : List Gc) : List He.Fa := (tab.map fun d => .glo d.name) ++ (bnames.map .free ++ gs.map Gc.fa)
def noX : XRT := fun _ _ _ _ _ => False
section
variable {P : Program} {w : World} {K : PySem.W.Frag} {mg : Str → Option Value} {base h : Heap} {CX : CXT}
theorem says_fact {fa : List He.Fa} {fn : List He.DefD} (c : He.SaysD fa fn K) {f : He.Fa} (hf : f ∈ fa) : f.ok K = true := by
  obtain ⟨i, hi⟩ := List.getElem?_of_mem hf
  exact c.fact i hi
theorem says_def {fa : List He.Fa} {fn : List He.DefD} (c : He.SaysD fa fn K) {d : He.DefD} (hd : d ∈ fn) : ∃ fd, FunD K d.name d.qual d.params d.body d.scope (d.dvs K) (d.kws K) (He.fAd K d.at_) fd := by
  obtain ⟨i, hi⟩ := List.getElem?_of_mem hd
  exact c.def_ i hi
/-- a def that lets nothing out, told so -/
theorem fn_calm {k : Nat} {f : Addr} {fd : FuncData} {ps : List Str} {sp : Sp} (F : FnOk P w K mg base (L2.CX P w) k f fd ps sp) : FnOk P w K mg base CX0 k f fd ps (fun vs H Q _ => sp vs H Q E0) :=
  ⟨fun vs H Q E s => F.len vs H Q E0 s, fun A outer s H args us vs Q E hr he hb hv hs => codeAny_mono (F.run A outer s H args us vs Q E0 hr he hb hv hs) fun r s' q => by
    cases r with
    | ok v => cases v <;> exact q
    | error e => obtain ⟨_, _, _, _, _, _, _, _, _, _, _, _, z⟩ := q; exact z.elim⟩
theorem law_fn {tab : List Def} {gs : List Gc} (hck : tab.all (okDef (gs.map Gc.gl) (tabF tab)) = true) (hnd : nodupB (tab.map (·.name)) = true) {d : Def} {x : Str} (hd : d ∈ tab) (hn : d.name = "law") (hps : d.ps = [x]) (hpar : d.ir.params = 1) (hio : d.ir.io = false) {f : Addr}
    (X : K.In h) (G : h.Ns mainGlobals mg) (hfa : mg ("law" : Str) = some (.ref f)) (c : He.SaysD (faOf tab gs) (tab.map Def.toD) K) (k : Nat) (hlaw : ∀ ns : List Int, ns.length ≤ 63 → callN (tabT tab) k "law" [.scr ns] = .ok (.bool true) .none) :
    ∃ (fd : FuncData) (sp : Sp), (∀ (s : Shared) (v : Value), BindsTo s fd ⟨[v], []⟩ [(x, v)]) ∧ (∀ (H : Hp) (a : Addr) (ns : List Int), ns.length ≤ 63 → Only H → SqL K H a (ns.map V.int) → sp [.ref a] H (fun v _ => v = .bl true) fun _ _ _ => False) ∧
      ∀ base : Heap, K.In base → base.Ns mainGlobals mg → FnOk P w K mg base CX0 k f fd [x] sp := by
  have hfun : ∀ d ∈ tab, ∃ fa fd, mg d.name = some (.ref fa) ∧ FunD K d.name d.name d.args d.body d.scope [] [] fa fd := fun d hd => by
    obtain ⟨fd, F⟩ := says_def c (List.mem_map.mpr ⟨d, hd, rfl⟩)
    exact ⟨_, fd, He.glo_ok X G (says_fact c (List.mem_append_left _ (List.mem_map.mpr ⟨d, hd, rfl⟩))), F⟩
  have hblt : ∀ b ∈ bnames, mg b = none := fun b hb => He.free_ok X G (says_fact c (List.mem_append_right _ (List.mem_append_left _ (List.mem_map.mpr ⟨b, hb, rfl⟩))))
  have hgl : ∀ q ∈ gs.map Gc.gl, ∃ v u, mg q.1 = some u ∧ RelV v u ∧ ∀ G H, Same G H → Rps K G H [v] [q.2] [] := fun q hq => by
    obtain ⟨g, hg, rfl⟩ := List.mem_map.mp hq
    have hf := says_fact c (List.mem_append_right _ (List.mem_append_right _ (List.mem_map.mpr ⟨g, hg, rfl⟩)))
    cases g with
    | int x i =>
      obtain ⟨t, e⟩ := He.int_ok X G hf
      exact ⟨.int i, _, e, ⟨t, rfl⟩, fun _ _ _ => .int .nil⟩
    | str x z =>
      obtain ⟨t, e⟩ := He.str_ok X G hf
      exact ⟨.str z, _, e, ⟨t, rfl⟩, fun _ _ _ => .str .nil⟩
  have hck' : ∀ d ∈ tab, okDef (gs.map Gc.gl) (tabF tab) d = true := List.all_eq_true.mp hck
  obtain ⟨fd, F⟩ := says_def c (List.mem_map.mpr ⟨d, hd, rfl⟩)
  have hm : mg d.name = some (.ref (He.fAd K d.toD.at_)) := He.glo_ok X G (says_fact c (List.mem_append_left _ (List.mem_map.mpr ⟨d, hd, rfl⟩)))
  have ef : f = He.fAd K d.toD.at_ := by
    rw [hn, hfa] at hm
    cases hm; rfl
  subst ef
  have hpl : plainArgs d.args = true ∧ FnScope d.N d.ps d.scope := by
    have h := hck' d hd
    unfold okDef at h
    simp only [Bool.and_eq_true, decide_eq_true_eq] at h
    exact ⟨h.1.1.2, scOk_of h.1.2⟩
  have bA : ∀ (s : Shared) (us : List Value), us.length = d.ps.length → BindsTo s fd ⟨us, []⟩ (d.ps.zip us) := FunD.bindsA F fun kV doc pm an cdv ct us hl => binds_plain hpl.1 (by
    have e : d.ps = d.N.take d.ps.length := hpl.2.pre.symm
    show d.ps.Nodup
    rw [e]
    exact (List.take_sublist _ _).nodup hpl.2.nd) hl
  refine ⟨fd, fun vs H Q _ => spF K noX (callN (tabT tab) k) d.name d.ir.io d.ir.params vs H Q E0, fun s v => ?_, fun H a ns hl hO hS => ?_, fun base KB GB => ?_⟩
  · have := bA s [v] (by rw [hps]; rfl)
    rw [hps] at this
    exact this
  · refine ⟨H, [.scr ns], [], Same.refl _, .scr hS .nil, by unfold ArgOk; rw [hio]; rfl, by rw [hpar]; rfl, ?_⟩
    rw [hn, hlaw ns hl]
    intro v G' H' Fv e g r _ _
    exact r.inv_bool.1
  · have e4 := defs_ok (P := P) (w := w) (base := base) (XR := noX) tab (gs.map Gc.gl) hck' hnd hfun hblt hgl k d hd _ fd F
    rw [hps] at e4
    exact fn_calm e4
end
end LC
end

section
set_option Elab.async false
set_option linter.all false
set_option maxRecDepth 100000
set_option maxHeartbeats 2000000
namespace LC
open PySem
/-! ### plain values: expressions that change no slot -/
inductive RV (α : Type) where
  | ok (a : α)
  | exn (c : Str) (fs : List PV)
  | bad
def RV.bind {α β : Type} (r : RV α) (f : α → RV β) : RV β := match r with
  | .ok a => f a
  | .exn c fs => .exn c fs
  | .bad => .bad
def RV.of {α : Type} : Option α → RV α
  | some a => .ok a
  | none => .bad
def RV.at {α : Type} (r : RV α) (ρ : Env) : Res α := match r with
  | .ok a => .ok a ρ
  | .exn c fs => .exn c fs ρ
  | .bad => .bad
@[simp] theorem RV.bind_ok {α β : Type} (a : α) (f : α → RV β) : (RV.ok a).bind f = f a := rfl
@[simp] theorem RV.bind_exn {α β : Type} (c : Str) (fs : List PV) (f : α → RV β) : (RV.exn c fs : RV α).bind f = .exn c fs := rfl
@[simp] theorem RV.bind_bad {α β : Type} (f : α → RV β) : (RV.bad : RV α).bind f = .bad := rfl
@[simp] theorem RV.of_some {α : Type} (a : α) : RV.of (some a) = .ok a := rfl
@[simp] theorem RV.of_none {α : Type} : RV.of (none : Option α) = .bad := rfl
theorem RV.at_bind {α β : Type} (r : RV α) (f : α → RV β) (g : α → Env → Res β) (ρ : Env) (h : ∀ a, g a ρ = (f a).at ρ) : (r.at ρ).bind g = (r.bind f).at ρ := by
  cases r with
  | ok a => exact h a
  | exn _ _ => rfl
  | bad => rfl
theorem RV.at_of {α : Type} (o : Option α) (ρ : Env) : (RV.of o).at ρ = Res.of o ρ := by cases o <;> rfl
/-- the loop of a comprehension -/
def compV (bd : PV → Option Env) (cond : Env → RV Bool) (elt : Env → RV PV) : List PV → List PV → RV (List PV)
  | [], acc => .ok acc
  | x :: xs, acc => (match bd x with
    | none => .bad
    | some r => (match cond r with
      | .ok true => (match elt r with
        | .ok y => if acc.length < SL then compV bd cond elt xs (acc ++ [y]) else .bad
        | _ => .bad)
      | .ok false => compV bd cond elt xs acc
      | _ => .bad))
section
variable (cf : CF)
mutual
def vE : Ex → Env → RV PV
  | .var i, ρ => (match getS ρ i with
    | some v => if cl v then .ok v else .bad
    | none => .bad)
  | .mv i, ρ => .bad
  | .cint i, ρ => .ok (.int i)
  | .cbool b, ρ => .ok (.bool b)
  | .cnone, ρ => .ok .none
  | .cstr s, ρ => .ok (.str s)
  | .glob _ v, ρ => .ok v
  | .bin o a b, ρ => (vE a ρ).bind fun x => (vE b ρ).bind fun y => RV.of (binV o x y)
  | .neg a, ρ => (vE a ρ).bind fun x => (match x with
    | .int i => .ok (.int (-i))
    | _ => .bad)
  | .not a, ρ => (vE a ρ).bind fun x => RV.of ((truV x).map fun b => .bool (!b))
  | .and a b, ρ => (vE a ρ).bind fun x => (match truV x with
    | some true => vE b ρ
    | some false => .ok x
    | none => .bad)
  | .or a b, ρ => (vE a ρ).bind fun x => (match truV x with
    | some true => .ok x
    | some false => vE b ρ
    | none => .bad)
  | .one a, ρ => vE a ρ
  | .cmp o a b, ρ => (vE a ρ).bind fun x => (vE b ρ).bind fun y => RV.of ((cmpV o x y).map .bool)
  | .chain o p a b c, ρ => (vE a ρ).bind fun x => (vE b ρ).bind fun y => (match cmpV o x y with
    | some true => (vE c ρ).bind fun z => RV.of ((cmpV p y z).map .bool)
    | some false => .ok (.bool false)
    | none => .bad)
  | .isN a, ρ => (vE a ρ).bind fun x => .ok (.bool (isNoneV x))
  | .notN a, ρ => (vE a ρ).bind fun x => .ok (.bool (!isNoneV x))
  | .inR ng a lo hi, ρ => (vE a ρ).bind fun x => (vE lo ρ).bind fun y => (vE hi ρ).bind fun z => (match x, y, z with
    | .int k, .int i, .int j => .ok (.bool (if ng then !(decide (i ≤ k) && decide (k < j)) else (decide (i ≤ k) && decide (k < j))))
    | _, _, _ => .bad)
  | .ite c a b, ρ => (vE c ρ).bind fun x => (match truV x with
    | some true => vE a ρ
    | some false => vE b ρ
    | none => .bad)
  | .tup es, ρ => (vEs es ρ).bind fun xs => if xs.length ≤ SL then .ok (.tup xs) else .bad
  | .lst es, ρ => (vEs es ρ).bind fun xs => if xs.length ≤ SL then .ok (.lst true xs) else .bad
  | .dic es vs, ρ => (vEs es ρ).bind fun ks => (vEs vs ρ).bind fun xs => .ok (.dic false ks xs)
  | .sub a i, ρ => (vE a ρ).bind fun x => (vE i ρ).bind fun y => RV.of (subV x y)
  | .sli a lo hi, ρ => (vE a ρ).bind fun x => (vO lo ρ).bind fun l => (vO hi ρ).bind fun h => RV.of (sliV x l h)
  | .rev a, ρ => (vE a ρ).bind fun x => (match x with
    | .tup xs => .ok (.tup xs.reverse)
    | _ => .bad)
  | .call f es, ρ => (vEs es ρ).bind fun xs => (match cf f (fzs xs) with
    | .ok v _ => .ok v
    | .exn c fs => .exn c fs
    | .bad => .bad)
  | .callIo f i es, ρ => .bad
  | .blt f es, ρ => (vEs es ρ).bind fun xs => RV.of (bltV f xs)
  | .isi a t, ρ => (vE a ρ).bind fun x => RV.of ((isiV x t).map .bool)
  | .comp e tg it c, ρ => (vIt it ρ).bind fun xs =>
    (compV (fun x => bindT [] tg x (wipeS ρ tg.slots)) (fun r => vC c r) (fun r => vE e r) xs []).bind fun ys => .ok (.lst true ys)
def vEs : Exs → Env → RV (List PV)
  | .nil, ρ => .ok []
  | .cons e es, ρ => (vE e ρ).bind fun x => (vEs es ρ).bind fun xs => .ok (x :: xs)
def vO : Exs → Env → RV (Option Int)
  | .nil, ρ => .ok none
  | .cons e _, ρ => (vE e ρ).bind fun x => (match x with
    | .int i => .ok (some i)
    | _ => .bad)
def vC : Exs → Env → RV Bool
  | .nil, ρ => .ok true
  | .cons e _, ρ => (vE e ρ).bind fun x => RV.of (truV x)
def vIt : It → Env → RV (List PV)
  | .seq e, ρ => (vE e ρ).bind fun x => RV.of (seqOf x)
  | .range1 b, ρ => (vE b ρ).bind fun y => RV.of (range1V y)
  | .range2 a b, ρ => (vE a ρ).bind fun x => (vE b ρ).bind fun y => RV.of (range2V x y)
  | .range3 a b c, ρ => (vE a ρ).bind fun x => (vE b ρ).bind fun y => (vE c ρ).bind fun z => RV.of (range3V x y z)
  | .zip a b, ρ => (vE a ρ).bind fun x => (vE b ρ).bind fun y => RV.of (zipV x y)
  | .enum a, ρ => (vE a ρ).bind fun x => RV.of (enumV x)
end
end
theorem compV_noexn {bd : PV → Option Env} {cond : Env → RV Bool} {elt : Env → RV PV} : ∀ (xs acc : List PV) (c : Str) (fs : List PV), compV bd cond elt xs acc ≠ .exn c fs
  | [], acc, c, fs => by simp [compV]
  | x :: xs, acc, c, fs => by
    simp only [compV]
    split
    · simp
    · split
      · split
        · split
          · exact compV_noexn xs _ c fs
          · simp
        · simp
      · exact compV_noexn xs _ c fs
      · simp
theorem sel_set {p : Nat → Bool} {v : Option PV} : ∀ (ρ : Env) (z i : Nat), p (z + i) = false → selS p z (ρ.set i v) = selS p z ρ
  | [], _, _, _ => rfl
  | x :: ρ, z, 0, h => by
    simp only [List.set_cons_zero, selS]
    rw [Nat.add_zero] at h
    simp [h]
  | x :: ρ, z, i + 1, h => by
    simp only [List.set_cons_succ, selS]
    rw [sel_set ρ (z + 1) i (by rw [← h]; congr 1; omega)]
theorem wipe_set {ρ : Env} {s : List Nat} {i : Nat} {v : Option PV} (h : i ∈ s) : wipeS (ρ.set i v) s = wipeS ρ s := by
  unfold wipeS
  exact sel_set ρ 0 i (by simp [h])
mutual
theorem bindT_wipe {lk s : List Nat} : ∀ (tg : Tg) (x : PV) (ρ ρ' : Env), (∀ i ∈ tg.slots, i ∈ s) → bindT lk tg x ρ = some ρ' → wipeS ρ' s = wipeS ρ s
  | .nm i, x, ρ, ρ', hs, h => by
    simp only [bindT] at h
    split at h
    · cases h
      exact wipe_set (hs i (by simp [Tg.slots]))
    · cases h
  | .tp ts, x, ρ, ρ', hs, h => by
    simp only [bindT] at h
    split at h
    · exact bindTs_wipe ts _ ρ ρ' (by simpa [Tg.slots] using hs) h
    · cases h
theorem bindTs_wipe {lk s : List Nat} : ∀ (ts : List Tg) (xs : List PV) (ρ ρ' : Env), (∀ i ∈ slotsAll ts, i ∈ s) → bindTs lk ts xs ρ = some ρ' → wipeS ρ' s = wipeS ρ s
  | [], xs, ρ, ρ', hs, h => by
    simp only [bindTs] at h
    split at h
    · cases h; rfl
    · cases h
  | t :: ts, xs, ρ, ρ', hs, h => by
    simp only [bindTs] at h
    split at h
    · rename_i x xs'
      cases hb : bindT lk t x ρ with
      | none => rw [hb] at h; cases h
      | some ρ1 =>
        rw [hb] at h
        simp only [Option.bind_some] at h
        simp only [slotsAll, List.mem_append] at hs
        rw [bindTs_wipe ts _ ρ1 ρ' (fun i hi => hs i (.inr hi)) h, bindT_wipe t x ρ ρ1 (fun i hi => hs i (.inl hi)) hb]
    · cases h
end
theorem sel_all : ∀ (ρ : Env) (z : Nat), selS (fun _ => true) z ρ = ρ
  | [], _ => rfl
  | x :: ρ, z => by simp [selS, sel_all ρ]
theorem back_same (ρ : Env) (s : List Nat) : backS ρ (wipeS ρ s) s = ρ := by
  unfold backS
  rw [wipe_idem]
  unfold wipeS
  rw [sel_or]
  have e : (fun j => s.contains j || !s.contains j) = fun _ => true := by funext j; cases s.contains j <;> rfl
  rw [e, sel_all]
theorem compL_v {tg : Tg} {cond : Env → Res Bool} {elt : Env → Res PV} {vcond : Env → RV Bool} {velt : Env → RV PV} (ρ : Env) (hc : ∀ r, cond r = (vcond r).at r) (he : ∀ r, elt r = (velt r).at r) :
    ∀ (xs acc : List PV), compL (bindT [] tg) (fun r => wipeS r tg.slots) cond elt xs (wipeS ρ tg.slots) acc = (compV (fun x => bindT [] tg x (wipeS ρ tg.slots)) vcond velt xs acc).at (wipeS ρ tg.slots)
  | [], acc => rfl
  | x :: xs, acc => by
    simp only [compL, compV, wipe_idem]
    cases hb : bindT [] tg x (wipeS ρ tg.slots) with
    | none => rfl
    | some r =>
      have hw : wipeS r tg.slots = wipeS ρ tg.slots := by rw [bindT_wipe tg x _ r (fun i h => h) hb, wipe_idem]
      simp only [hc]
      cases vcond r with
      | bad => rfl
      | exn _ _ => rfl
      | ok t =>
        cases t with
        | true =>
          simp only [RV.at, he]
          cases velt r with
          | bad => rfl
          | exn _ _ => rfl
          | ok y =>
            simp only [RV.at]
            split
            · rw [hw]; exact compL_v ρ hc he xs _
            · rfl
        | false =>
          simp only [RV.at]
          rw [hw]; exact compL_v ρ hc he xs _
section
variable (cf : CF)
theorem app_nil {α : Type} {a b : List α} (h : a ++ b = []) : a = [] ∧ b = [] := by simpa using h
mutual
theorem evE_v : ∀ (e : Ex) (ρ : Env), e.ks = [] → evE cf e ρ = (vE cf e ρ).at ρ
  | .var i, ρ, h => by
    simp only [evE, vE]
    cases getS ρ i with
    | none => rfl
    | some v =>
      simp only
      by_cases hc : cl v = true
      · rw [if_pos hc, if_pos hc]; rfl
      · rw [if_neg hc, if_neg hc]; rfl
  | .mv i, ρ, h => by simp [Ex.ks] at h
  | .cint i, ρ, h => rfl
  | .cbool b, ρ, h => rfl
  | .cnone, ρ, h => rfl
  | .cstr s, ρ, h => rfl
  | .glob _ v, ρ, h => rfl
  | .bin o a b, ρ, h => by
    obtain ⟨h1, h2⟩ := app_nil (by simpa [Ex.ks] using h : a.ks ++ b.ks = [])
    simp only [evE, vE]
    rw [evE_v a ρ h1]
    exact RV.at_bind _ _ _ _ fun x => by rw [evE_v b ρ h2]; exact RV.at_bind _ _ _ _ fun y => (RV.at_of _ _).symm
  | .neg a, ρ, h => by
    simp only [evE, vE]
    rw [evE_v a ρ (by simpa [Ex.ks] using h)]
    exact RV.at_bind _ _ _ _ fun x => by cases x <;> rfl
  | .not a, ρ, h => by
    simp only [evE, vE]
    rw [evE_v a ρ (by simpa [Ex.ks] using h)]
    exact RV.at_bind _ _ _ _ fun x => (RV.at_of _ _).symm
  | .and a b, ρ, h => by
    obtain ⟨h1, h2⟩ := app_nil (by simpa [Ex.ks] using h : a.ks ++ b.ks = [])
    simp only [evE, vE]
    rw [evE_v a ρ h1]
    exact RV.at_bind _ _ _ _ fun x => by
      cases truV x with
      | none => rfl
      | some t => cases t <;> first | rfl | exact evE_v b ρ h2
  | .or a b, ρ, h => by
    obtain ⟨h1, h2⟩ := app_nil (by simpa [Ex.ks] using h : a.ks ++ b.ks = [])
    simp only [evE, vE]
    rw [evE_v a ρ h1]
    exact RV.at_bind _ _ _ _ fun x => by
      cases truV x with
      | none => rfl
      | some t => cases t <;> first | rfl | exact evE_v b ρ h2
  | .one a, ρ, h => by
    simp only [evE, vE]
    exact evE_v a ρ (by simpa [Ex.ks] using h)
  | .cmp o a b, ρ, h => by
    obtain ⟨h1, h2⟩ := app_nil (by simpa [Ex.ks] using h : a.ks ++ b.ks = [])
    simp only [evE, vE]
    rw [evE_v a ρ h1]
    exact RV.at_bind _ _ _ _ fun x => by rw [evE_v b ρ h2]; exact RV.at_bind _ _ _ _ fun y => (RV.at_of _ _).symm
  | .chain o p a b d, ρ, h => by
    obtain ⟨h12, h3⟩ := app_nil (by simpa [Ex.ks] using h : (a.ks ++ b.ks) ++ d.ks = [])
    obtain ⟨h1, h2⟩ := app_nil h12
    simp only [evE, vE]
    rw [evE_v a ρ h1]
    exact RV.at_bind _ _ _ _ fun x => by
      rw [evE_v b ρ h2]
      exact RV.at_bind _ _ _ _ fun y => by
        cases cmpV o x y with
        | none => rfl
        | some t =>
          cases t
          · rfl
          · simp only
            rw [evE_v d ρ h3]
            exact RV.at_bind _ _ _ _ fun z => (RV.at_of _ _).symm
  | .isN a, ρ, h => by
    simp only [evE, vE]
    rw [evE_v a ρ (by simpa [Ex.ks] using h)]
    exact RV.at_bind _ _ _ _ fun x => rfl
  | .notN a, ρ, h => by
    simp only [evE, vE]
    rw [evE_v a ρ (by simpa [Ex.ks] using h)]
    exact RV.at_bind _ _ _ _ fun x => rfl
  | .inR ng a lo hi, ρ, h => by
    obtain ⟨h12, h3⟩ := app_nil (by simpa [Ex.ks] using h : (a.ks ++ lo.ks) ++ hi.ks = [])
    obtain ⟨h1, h2⟩ := app_nil h12
    simp only [evE, vE]
    rw [evE_v a ρ h1]
    exact RV.at_bind _ _ _ _ fun x => by
      rw [evE_v lo ρ h2]
      exact RV.at_bind _ _ _ _ fun y => by
        rw [evE_v hi ρ h3]
        exact RV.at_bind _ _ _ _ fun z => by cases x <;> cases y <;> cases z <;> rfl
  | .ite k a b, ρ, h => by
    obtain ⟨h12, h3⟩ := app_nil (by simpa [Ex.ks] using h : (k.ks ++ a.ks) ++ b.ks = [])
    obtain ⟨h1, h2⟩ := app_nil h12
    simp only [evE, vE]
    rw [evE_v k ρ h1]
    exact RV.at_bind _ _ _ _ fun x => by
      cases truV x with
      | none => rfl
      | some t => cases t <;> first | exact evE_v b ρ h3 | exact evE_v a ρ h2
  | .tup es, ρ, h => by
    simp only [evE, vE]
    rw [evEs_v es ρ (by simpa [Ex.ks] using h)]
    exact RV.at_bind _ _ _ _ fun x => by split <;> rfl
  | .lst es, ρ, h => by
    simp only [evE, vE]
    rw [evEs_v es ρ (by simpa [Ex.ks] using h)]
    exact RV.at_bind _ _ _ _ fun x => by split <;> rfl
  | .dic es vs, ρ, h => by
    obtain ⟨h1, h2⟩ := app_nil (by simpa [Ex.ks] using h : es.ks ++ vs.ks = [])
    simp only [evE, vE]
    rw [evEs_v es ρ h1]
    exact RV.at_bind _ _ _ _ fun x => by rw [evEs_v vs ρ h2]; exact RV.at_bind _ _ _ _ fun y => rfl
  | .sub a i, ρ, h => by
    obtain ⟨h1, h2⟩ := app_nil (by simpa [Ex.ks] using h : a.ks ++ i.ks = [])
    simp only [evE, vE]
    rw [evE_v a ρ h1]
    exact RV.at_bind _ _ _ _ fun x => by rw [evE_v i ρ h2]; exact RV.at_bind _ _ _ _ fun y => (RV.at_of _ _).symm
  | .sli a lo hi, ρ, h => by
    obtain ⟨h12, h3⟩ := app_nil (by simpa [Ex.ks] using h : (a.ks ++ lo.ks) ++ hi.ks = [])
    obtain ⟨h1, h2⟩ := app_nil h12
    simp only [evE, vE]
    rw [evE_v a ρ h1]
    exact RV.at_bind _ _ _ _ fun x => by
      rw [evO_v lo ρ h2]
      exact RV.at_bind _ _ _ _ fun y => by
        rw [evO_v hi ρ h3]
        exact RV.at_bind _ _ _ _ fun z => (RV.at_of _ _).symm
  | .rev a, ρ, h => by
    simp only [evE, vE]
    rw [evE_v a ρ (by simpa [Ex.ks] using h)]
    exact RV.at_bind _ _ _ _ fun x => by cases x <;> rfl
  | .call f es, ρ, h => by
    simp only [evE, vE]
    rw [evEs_v es ρ (by simpa [Ex.ks] using h)]
    exact RV.at_bind _ _ _ _ fun x => by
      cases cf f (fzs x) <;> rfl
  | .callIo f i es, ρ, h => by simp [Ex.ks] at h
  | .blt f es, ρ, h => by
    simp only [evE, vE]
    rw [evEs_v es ρ (by simpa [Ex.ks] using h)]
    exact RV.at_bind _ _ _ _ fun x => (RV.at_of _ _).symm
  | .isi a t, ρ, h => by
    simp only [evE, vE]
    rw [evE_v a ρ (by simpa [Ex.ks] using h)]
    exact RV.at_bind _ _ _ _ fun x => (RV.at_of _ _).symm
  | .comp e tg it c, ρ, h => by
    obtain ⟨h12, h3⟩ := app_nil (by simpa [Ex.ks] using h : (e.ks ++ it.ks) ++ c.ks = [])
    obtain ⟨h1, h2⟩ := app_nil h12
    simp only [evE, vE]
    rw [evIt_v it ρ h2]
    exact RV.at_bind _ _ _ _ fun xs => by
      rw [compL_v ρ (vcond := fun r => vC cf c r) (velt := fun r => vE cf e r) (fun r => evC_v c r h3) (fun r => evE_v e r h1) xs []]
      cases hcv : compV (fun x => bindT [] tg x (wipeS ρ tg.slots)) (fun r => vC cf c r) (fun r => vE cf e r) xs [] with
      | ok ys =>
        show Res.ok (PV.lst true ys) (backS ρ (wipeS ρ tg.slots) tg.slots) = _
        rw [back_same]; rfl
      | exn _ _ => exact absurd hcv (compV_noexn _ _ _ _)
      | bad => rfl
theorem evEs_v : ∀ (es : Exs) (ρ : Env), es.ks = [] → evEs cf es ρ = (vEs cf es ρ).at ρ
  | .nil, ρ, h => rfl
  | .cons e es, ρ, h => by
    obtain ⟨h1, h2⟩ := app_nil (by simpa [Exs.ks] using h : e.ks ++ es.ks = [])
    simp only [evEs, vEs]
    rw [evE_v e ρ h1]
    exact RV.at_bind _ _ _ _ fun x => by rw [evEs_v es ρ h2]; exact RV.at_bind _ _ _ _ fun y => rfl
theorem evO_v : ∀ (es : Exs) (ρ : Env), es.ks = [] → evO cf es ρ = (vO cf es ρ).at ρ
  | .nil, ρ, h => rfl
  | .cons e es, ρ, h => by
    obtain ⟨h1, h2⟩ := app_nil (by simpa [Exs.ks] using h : e.ks ++ es.ks = [])
    simp only [evO, vO]
    rw [evE_v e ρ h1]
    exact RV.at_bind _ _ _ _ fun x => by cases x <;> rfl
theorem evC_v : ∀ (es : Exs) (ρ : Env), es.ks = [] → evC cf es ρ = (vC cf es ρ).at ρ
  | .nil, ρ, h => rfl
  | .cons e es, ρ, h => by
    obtain ⟨h1, h2⟩ := app_nil (by simpa [Exs.ks] using h : e.ks ++ es.ks = [])
    simp only [evC, vC]
    rw [evE_v e ρ h1]
    exact RV.at_bind _ _ _ _ fun x => (RV.at_of _ _).symm
theorem evIt_v : ∀ (it : It) (ρ : Env), it.ks = [] → evIt cf it ρ = (vIt cf it ρ).at ρ
  | .seq a, ρ, h => by
    simp only [evIt, vIt]
    rw [evE_v a ρ (by simpa [It.ks] using h)]
    exact RV.at_bind _ _ _ _ fun x => (RV.at_of _ _).symm
  | .range1 a, ρ, h => by
    simp only [evIt, vIt]
    rw [evE_v a ρ (by simpa [It.ks] using h)]
    exact RV.at_bind _ _ _ _ fun x => (RV.at_of _ _).symm
  | .range2 a b, ρ, h => by
    obtain ⟨h1, h2⟩ := app_nil (by simpa [It.ks] using h : a.ks ++ b.ks = [])
    simp only [evIt, vIt]
    rw [evE_v a ρ h1]
    exact RV.at_bind _ _ _ _ fun x => by rw [evE_v b ρ h2]; exact RV.at_bind _ _ _ _ fun y => (RV.at_of _ _).symm
  | .range3 a b d, ρ, h => by
    obtain ⟨h12, h3⟩ := app_nil (by simpa [It.ks] using h : (a.ks ++ b.ks) ++ d.ks = [])
    obtain ⟨h1, h2⟩ := app_nil h12
    simp only [evIt, vIt]
    rw [evE_v a ρ h1]
    exact RV.at_bind _ _ _ _ fun x => by
      rw [evE_v b ρ h2]
      exact RV.at_bind _ _ _ _ fun y => by rw [evE_v d ρ h3]; exact RV.at_bind _ _ _ _ fun z => (RV.at_of _ _).symm
  | .zip a b, ρ, h => by
    obtain ⟨h1, h2⟩ := app_nil (by simpa [It.ks] using h : a.ks ++ b.ks = [])
    simp only [evIt, vIt]
    rw [evE_v a ρ h1]
    exact RV.at_bind _ _ _ _ fun x => by rw [evE_v b ρ h2]; exact RV.at_bind _ _ _ _ fun y => (RV.at_of _ _).symm
  | .enum a, ρ, h => by
    simp only [evIt, vIt]
    rw [evE_v a ρ (by simpa [It.ks] using h)]
    exact RV.at_bind _ _ _ _ fun x => (RV.at_of _ _).symm
end
end
end LC
end

section
set_option Elab.async false
set_option linter.all false
set_option maxRecDepth 100000
set_option maxHeartbeats 2000000
namespace LC
open PySem
/-! ### only the slots that are read matter -/
structure Agr (S : List Nat) (ρ ρ' : Env) : Prop where
  len : ρ.length = ρ'.length
  at_ : ∀ i ∈ S, getS ρ i = getS ρ' i
theorem Agr.sub {S S' : List Nat} {ρ ρ' : Env} (h : Agr S ρ ρ') (s : ∀ i ∈ S', i ∈ S) : Agr S' ρ ρ' := ⟨h.len, fun i hi => h.at_ i (s i hi)⟩
theorem Agr.wipe {S : List Nat} {ρ ρ' : Env} (h : Agr S ρ ρ') (s : List Nat) : Agr (S ++ s) (wipeS ρ s) (wipeS ρ' s) := by
  refine ⟨by unfold wipeS; rw [selS_len, selS_len]; exact h.len, fun i hi => ?_⟩
  unfold wipeS
  rw [getS_sel, getS_sel, Nat.zero_add]
  by_cases hs : i ∈ s
  · simp [hs]
  · have : i ∈ S := by
      rcases List.mem_append.mp hi with z | z
      · exact z
      · exact absurd z hs
    simp [hs, h.at_ i this]
theorem getS_set {ρ : Env} {i j : Nat} {v : Option PV} : getS (ρ.set i v) j = if i = j ∧ i < ρ.length then v else getS ρ j := by
  unfold getS
  rw [List.getElem?_set]
  by_cases h : i = j
  · subst h
    by_cases hl : i < ρ.length
    · simp [hl]
    · simp [hl]
  · simp [h]
theorem Agr.set {S : List Nat} {ρ ρ' : Env} (h : Agr S ρ ρ') (i : Nat) (v : Option PV) : Agr S (ρ.set i v) (ρ'.set i v) :=
  ⟨by simp [h.len], fun j hj => by rw [getS_set, getS_set, h.len, h.at_ j hj]⟩
theorem okS_agr {lk : List Nat} {S : List Nat} {ρ ρ' : Env} (h : Agr S ρ ρ') (i : Nat) : okS lk ρ i = okS lk ρ' i := by
  unfold okS; rw [h.len]
mutual
theorem bindT_agr {lk S : List Nat} : ∀ (tg : Tg) (x : PV) (ρ ρ' : Env), Agr S ρ ρ' → (bindT lk tg x ρ = none ∧ bindT lk tg x ρ' = none) ∨ ∃ r r', bindT lk tg x ρ = some r ∧ bindT lk tg x ρ' = some r' ∧ Agr S r r'
  | .nm i, x, ρ, ρ', h => by
    simp only [bindT, okS_agr h i]
    by_cases hk : okS lk ρ' i = true
    · simp only [hk, if_true]; exact .inr ⟨_, _, rfl, rfl, h.set i _⟩
    · simp only [hk]; exact .inl ⟨rfl, rfl⟩
  | .tp ts, x, ρ, ρ', h => by
    cases x with
    | tup xs => simpa only [bindT] using bindTs_agr ts xs ρ ρ' h
    | _ => exact .inl ⟨rfl, rfl⟩
theorem bindTs_agr {lk S : List Nat} : ∀ (ts : List Tg) (xs : List PV) (ρ ρ' : Env), Agr S ρ ρ' → (bindTs lk ts xs ρ = none ∧ bindTs lk ts xs ρ' = none) ∨ ∃ r r', bindTs lk ts xs ρ = some r ∧ bindTs lk ts xs ρ' = some r' ∧ Agr S r r'
  | [], xs, ρ, ρ', h => by
    cases xs with
    | nil => exact .inr ⟨ρ, ρ', rfl, rfl, h⟩
    | cons _ _ => exact .inl ⟨rfl, rfl⟩
  | t :: ts, xs, ρ, ρ', h => by
    cases xs with
    | nil => exact .inl ⟨rfl, rfl⟩
    | cons x xs =>
      simp only [bindTs]
      rcases bindT_agr t x ρ ρ' h with ⟨e1, e2⟩ | ⟨r, r', e1, e2, h2⟩
      · rw [e1, e2]; exact .inl ⟨rfl, rfl⟩
      · rw [e1, e2]; simpa only [Option.bind_some] using bindTs_agr ts xs r r' h2
end
theorem compV_agr {bd bd' : PV → Option Env} {cond cond' : Env → RV Bool} {elt elt' : Env → RV PV} {S : List Nat} (hb : ∀ x, (bd x = none ∧ bd' x = none) ∨ ∃ r r', bd x = some r ∧ bd' x = some r' ∧ Agr S r r') (hc : ∀ r r', Agr S r r' → cond r = cond' r') (he : ∀ r r', Agr S r r' → elt r = elt' r') :
    ∀ xs acc, compV bd cond elt xs acc = compV bd' cond' elt' xs acc
  | [], acc => rfl
  | x :: xs, acc => by
    simp only [compV]
    rcases hb x with ⟨e1, e2⟩ | ⟨r, r', e1, e2, h⟩
    · rw [e1, e2]
    · rw [e1, e2]
      simp only [hc r r' h, he r r' h, compV_agr hb hc he xs]
section
variable (cf : CF)
mutual
theorem vE_agr : ∀ (e : Ex) (ρ ρ' : Env), Agr e.vr ρ ρ' → vE cf e ρ = vE cf e ρ'
  | .var i, ρ, ρ', h => by simp only [vE, h.at_ i (by simp [Ex.vr])]
  | .mv i, ρ, ρ', h => rfl
  | .cint i, ρ, ρ', h => rfl
  | .cbool b, ρ, ρ', h => rfl
  | .cnone, ρ, ρ', h => rfl
  | .cstr s, ρ, ρ', h => rfl
  | .glob _ v, ρ, ρ', h => rfl
  | .bin o a b, ρ, ρ', h => by
    simp only [vE]; rw [vE_agr a ρ ρ' (h.sub fun i hi => by simp [Ex.vr, hi]), vE_agr b ρ ρ' (h.sub fun i hi => by simp [Ex.vr, hi])]
  | .neg a, ρ, ρ', h => by simp only [vE]; rw [vE_agr a ρ ρ' (h.sub fun i hi => by simp [Ex.vr, hi])]
  | .not a, ρ, ρ', h => by simp only [vE]; rw [vE_agr a ρ ρ' (h.sub fun i hi => by simp [Ex.vr, hi])]
  | .and a b, ρ, ρ', h => by
    simp only [vE]; rw [vE_agr a ρ ρ' (h.sub fun i hi => by simp [Ex.vr, hi]), vE_agr b ρ ρ' (h.sub fun i hi => by simp [Ex.vr, hi])]
  | .or a b, ρ, ρ', h => by
    simp only [vE]; rw [vE_agr a ρ ρ' (h.sub fun i hi => by simp [Ex.vr, hi]), vE_agr b ρ ρ' (h.sub fun i hi => by simp [Ex.vr, hi])]
  | .one a, ρ, ρ', h => by simp only [vE]; rw [vE_agr a ρ ρ' (h.sub fun i hi => by simp [Ex.vr, hi])]
  | .cmp o a b, ρ, ρ', h => by
    simp only [vE]; rw [vE_agr a ρ ρ' (h.sub fun i hi => by simp [Ex.vr, hi]), vE_agr b ρ ρ' (h.sub fun i hi => by simp [Ex.vr, hi])]
  | .chain o p a b d, ρ, ρ', h => by
    simp only [vE]; rw [vE_agr a ρ ρ' (h.sub fun i hi => by simp [Ex.vr, hi]), vE_agr b ρ ρ' (h.sub fun i hi => by simp [Ex.vr, hi]), vE_agr d ρ ρ' (h.sub fun i hi => by simp [Ex.vr, hi])]
  | .isN a, ρ, ρ', h => by simp only [vE]; rw [vE_agr a ρ ρ' (h.sub fun i hi => by simp [Ex.vr, hi])]
  | .notN a, ρ, ρ', h => by simp only [vE]; rw [vE_agr a ρ ρ' (h.sub fun i hi => by simp [Ex.vr, hi])]
  | .inR ng a b d, ρ, ρ', h => by
    simp only [vE]; rw [vE_agr a ρ ρ' (h.sub fun i hi => by simp [Ex.vr, hi]), vE_agr b ρ ρ' (h.sub fun i hi => by simp [Ex.vr, hi]), vE_agr d ρ ρ' (h.sub fun i hi => by simp [Ex.vr, hi])]
  | .ite a b d, ρ, ρ', h => by
    simp only [vE]; rw [vE_agr a ρ ρ' (h.sub fun i hi => by simp [Ex.vr, hi]), vE_agr b ρ ρ' (h.sub fun i hi => by simp [Ex.vr, hi]), vE_agr d ρ ρ' (h.sub fun i hi => by simp [Ex.vr, hi])]
  | .tup es, ρ, ρ', h => by simp only [vE]; rw [vEs_agr es ρ ρ' (h.sub fun i hi => by simp [Ex.vr, hi])]
  | .lst es, ρ, ρ', h => by simp only [vE]; rw [vEs_agr es ρ ρ' (h.sub fun i hi => by simp [Ex.vr, hi])]
  | .dic es vs, ρ, ρ', h => by simp only [vE]; rw [vEs_agr es ρ ρ' (h.sub fun i hi => by simp [Ex.vr, hi]), vEs_agr vs ρ ρ' (h.sub fun i hi => by simp [Ex.vr, hi])]
  | .sub a b, ρ, ρ', h => by
    simp only [vE]; rw [vE_agr a ρ ρ' (h.sub fun i hi => by simp [Ex.vr, hi]), vE_agr b ρ ρ' (h.sub fun i hi => by simp [Ex.vr, hi])]
  | .sli a lo hi', ρ, ρ', h => by
    simp only [vE]; rw [vE_agr a ρ ρ' (h.sub fun i hi => by simp [Ex.vr, hi]), vO_agr lo ρ ρ' (h.sub fun i hi => by simp [Ex.vr, hi]), vO_agr hi' ρ ρ' (h.sub fun i hi => by simp [Ex.vr, hi])]
  | .rev a, ρ, ρ', h => by simp only [vE]; rw [vE_agr a ρ ρ' (h.sub fun i hi => by simp [Ex.vr, hi])]
  | .call f es, ρ, ρ', h => by simp only [vE]; rw [vEs_agr es ρ ρ' (h.sub fun i hi => by simp [Ex.vr, hi])]
  | .callIo f i es, ρ, ρ', h => rfl
  | .blt f es, ρ, ρ', h => by simp only [vE]; rw [vEs_agr es ρ ρ' (h.sub fun i hi => by simp [Ex.vr, hi])]
  | .isi a t, ρ, ρ', h => by simp only [vE]; rw [vE_agr a ρ ρ' (h.sub fun i hi => by simp [Ex.vr, hi])]
  | .comp e tg it c, ρ, ρ', h => by
    simp only [vE]
    rw [vIt_agr it ρ ρ' (h.sub fun i hi => by simp [Ex.vr, hi])]
    have hw := (h.wipe tg.slots)
    have hh : ∀ xs, compV (fun x => bindT [] tg x (wipeS ρ tg.slots)) (fun r => vC cf c r) (fun r => vE cf e r) xs [] = compV (fun x => bindT [] tg x (wipeS ρ' tg.slots)) (fun r => vC cf c r) (fun r => vE cf e r) xs [] := fun xs =>
      compV_agr (S := (Ex.comp e tg it c).vr ++ tg.slots) (fun x => bindT_agr tg x _ _ hw) (fun r r' hr => vC_agr c r r' (hr.sub fun i hi => by simp [Ex.vr, hi])) (fun r r' hr => vE_agr e r r' (hr.sub fun i hi => by simp [Ex.vr, hi])) xs []
    simp only [hh]
theorem vEs_agr : ∀ (e : Exs) (ρ ρ' : Env), Agr e.vr ρ ρ' → vEs cf e ρ = vEs cf e ρ'
  | .nil, ρ, ρ', h => rfl
  | .cons a as, ρ, ρ', h => by
    simp only [vEs]; rw [vE_agr a ρ ρ' (h.sub fun i hi => by simp [Exs.vr, hi]), vEs_agr as ρ ρ' (h.sub fun i hi => by simp [Exs.vr, hi])]
theorem vO_agr : ∀ (e : Exs) (ρ ρ' : Env), Agr e.vr ρ ρ' → vO cf e ρ = vO cf e ρ'
  | .nil, ρ, ρ', h => rfl
  | .cons a as, ρ, ρ', h => by
    simp only [vO]; rw [vE_agr a ρ ρ' (h.sub fun i hi => by simp [Exs.vr, hi])]
theorem vC_agr : ∀ (e : Exs) (ρ ρ' : Env), Agr e.vr ρ ρ' → vC cf e ρ = vC cf e ρ'
  | .nil, ρ, ρ', h => rfl
  | .cons a as, ρ, ρ', h => by
    simp only [vC]; rw [vE_agr a ρ ρ' (h.sub fun i hi => by simp [Exs.vr, hi])]
theorem vIt_agr : ∀ (e : It) (ρ ρ' : Env), Agr e.vr ρ ρ' → vIt cf e ρ = vIt cf e ρ'
  | .seq a, ρ, ρ', h => by simp only [vIt]; rw [vE_agr a ρ ρ' (h.sub fun i hi => by simp [It.vr, hi])]
  | .range1 a, ρ, ρ', h => by simp only [vIt]; rw [vE_agr a ρ ρ' (h.sub fun i hi => by simp [It.vr, hi])]
  | .range2 a b, ρ, ρ', h => by
    simp only [vIt]; rw [vE_agr a ρ ρ' (h.sub fun i hi => by simp [It.vr, hi]), vE_agr b ρ ρ' (h.sub fun i hi => by simp [It.vr, hi])]
  | .range3 a b d, ρ, ρ', h => by
    simp only [vIt]; rw [vE_agr a ρ ρ' (h.sub fun i hi => by simp [It.vr, hi]), vE_agr b ρ ρ' (h.sub fun i hi => by simp [It.vr, hi]), vE_agr d ρ ρ' (h.sub fun i hi => by simp [It.vr, hi])]
  | .zip a b, ρ, ρ', h => by
    simp only [vIt]; rw [vE_agr a ρ ρ' (h.sub fun i hi => by simp [It.vr, hi]), vE_agr b ρ ρ' (h.sub fun i hi => by simp [It.vr, hi])]
  | .enum a, ρ, ρ', h => by simp only [vIt]; rw [vE_agr a ρ ρ' (h.sub fun i hi => by simp [It.vr, hi])]
end
end
end LC
end

section
set_option Elab.async false
set_option linter.all false
set_option maxRecDepth 100000
set_option maxHeartbeats 2000000
namespace LC
open PySem
/-! ### the statement's expression, plainly -/
/-- the slots vr frozen -/
def frzV (vr : List Nat) : Nat → Env → Env
  | _, [] => []
  | z, x :: xs => (if vr.contains z then x.map fz else x) :: frzV vr (z + 1) xs
theorem or_none {p : Nat → Bool} (hp : ∀ i, p i = false) : ∀ (ρ ρ' : Env) (z : Nat), ρ.length = ρ'.length → orS (selS p z ρ) ρ' = ρ'
  | [], [], _, _ => rfl
  | [], _ :: _, _, h => by simp at h
  | _ :: _, [], _, h => by simp at h
  | x :: ρ, y :: ρ', z, h => by
    simp only [selS, hp, Bool.false_eq_true, if_false, orS]
    rw [or_none hp ρ ρ' (z + 1) (by simpa using h)]
theorem frz_len (ρ : Env) : (frzS ρ).length = ρ.length := by simp [frzS]
theorem msk_nil (vr : List Nat) (ρ : Env) : mskS vr [] ρ = frzS (selS (fun i => vr.contains i) 0 ρ) := by
  unfold mskS
  have e : (fun i => vr.contains i && !([] : List Nat).contains i) = fun i => vr.contains i := by funext i; simp
  rw [e]
  exact or_none (fun i => by simp) _ _ 0 (by rw [frz_len, selS_len])
theorem mrg_t (vr : List Nat) (ρ ρ1 : Env) (h : ρ1.length = ρ.length) : mrgS true vr [] ρ ρ1 = ρ := by
  unfold mrgS
  rw [if_pos rfl]
  have e : (fun i => !([] : List Nat).contains i) = fun _ => true := by funext i; simp
  rw [e, sel_all]
  exact or_none (fun i => by simp) _ _ 0 h
theorem frzV_or (vr : List Nat) : ∀ (ρ : Env) (z : Nat), orS (frzS (selS (fun i => vr.contains i) z ρ)) (selS (fun i => !vr.contains i) z ρ) = frzV vr z ρ
  | [], z => rfl
  | x :: ρ, z => by
    simp only [selS, frzS, List.map_cons, orS, frzV]
    have := frzV_or vr ρ (z + 1)
    unfold frzS at this
    rw [this]
    by_cases h : z ∈ vr
    · cases x <;> simp [h]
    · cases x <;> simp [h]
theorem mrg_f (vr : List Nat) (ρ ρ1 : Env) (h : ρ1.length = ρ.length) : mrgS false vr [] ρ ρ1 = frzV vr 0 ρ := by
  unfold mrgS
  rw [if_neg (by simp)]
  have e : (fun i => vr.contains i && !([] : List Nat).contains i) = fun i => vr.contains i := by funext i; simp
  have e' : (fun i => !(vr.contains i) && !([] : List Nat).contains i) = fun i => !vr.contains i := by funext i; simp
  rw [e, e', frzV_or]
  refine or_none (fun i => by simp) _ _ 0 ?_
  rw [← frzV_or, orS_len, frz_len, selS_len, h]
theorem clean_frz : ∀ {ρ : Env}, clean ρ = true → frzS ρ = ρ
  | [], _ => rfl
  | none :: ρ, h => by
    have := clean_frz (ρ := ρ) (by simpa [clean] using h)
    unfold frzS at *
    simp [this]
  | some v :: ρ, h => by
    simp only [clean, Bool.and_eq_true] at h
    have := clean_frz (ρ := ρ) h.2
    unfold frzS at *
    simp [this, cl_fz v h.1]
theorem clean_frzV {vr : List Nat} : ∀ {ρ : Env} (z : Nat), clean ρ = true → frzV vr z ρ = ρ
  | [], _, _ => rfl
  | none :: ρ, z, h => by
    have := clean_frzV (vr := vr) (ρ := ρ) (z + 1) (by simpa [clean] using h)
    simp only [frzV, this]
    split <;> rfl
  | some v :: ρ, z, h => by
    simp only [clean, Bool.and_eq_true] at h
    simp only [frzV, clean_frzV (ρ := ρ) (z + 1) h.2, Option.map_some, cl_fz v h.1]
    split <;> rfl
theorem getS_frz (ρ : Env) (i : Nat) : getS (frzS ρ) i = (getS ρ i).map fz := by
  unfold getS frzS
  rw [List.getElem?_map]
  cases ρ[i]? with
  | none => rfl
  | some o => cases o <;> rfl
theorem agr_msk (vr : List Nat) (ρ : Env) : Agr vr (mskS vr [] ρ) (frzS ρ) := by
  rw [msk_nil]
  refine ⟨by rw [frz_len, frz_len, selS_len], fun i hi => ?_⟩
  rw [getS_frz, getS_frz, getS_sel, Nat.zero_add]
  simp [hi]
section
variable (cf : CF)
/-- behind an expression that gave v -/
def aft (vr : List Nat) (v : PV) (ρ : Env) : Env := if nfz v then ρ else frzV vr 0 ρ
theorem evX_v {e : Ex} {ρ : Env} (h : e.ks = []) : evX cf e ρ = match vE cf e (frzS ρ) with
    | .ok v => .ok v (aft e.vr v ρ)
    | .exn c fs => .exn c fs ρ
    | .bad => .bad := by
  unfold evX
  rw [h]
  by_cases hc : clean ρ = true
  · have hc' : (clean ρ && ([] : List Nat).isEmpty) = true := by simp [hc]
    rw [if_pos hc', evE_v cf e ρ h, clean_frz hc]
    cases vE cf e ρ with
    | ok v =>
      simp only [RV.at, aft]
      split
      · rfl
      · rw [clean_frzV 0 hc]
    | exn _ _ => rfl
    | bad => rfl
  · have hc' : ¬ (clean ρ && ([] : List Nat).isEmpty) = true := by simp [hc]
    rw [if_neg hc', evE_v cf e _ h, vE_agr cf e _ _ (agr_msk e.vr ρ)]
    have hl : (mskS e.vr [] ρ).length = ρ.length := by rw [msk_nil, frz_len, selS_len]
    have hk : ∀ r, ksOk [] r = true := fun r => by
      unfold ksOk
      rw [List.all_eq_true]
      intro o ho
      have : ∀ (r : Env) (z : Nat), o ∈ selS (fun i => ([] : List Nat).contains i) z r → o = none := by
        intro r
        induction r with
        | nil => intro z hz; simp [selS] at hz
        | cons x r ih =>
          intro z hz
          simp only [selS, List.mem_cons] at hz
          rcases hz with y | y
          · simpa using y
          · exact ih (z + 1) y
      rw [this r 0 ho]; rfl
    cases vE cf e (frzS ρ) with
    | ok v =>
      simp only [RV.at, hk, if_true, aft]
      cases hn : nfz v with
      | true => rw [mrg_t _ _ _ hl]; rfl
      | false => rw [mrg_f _ _ _ hl]; rfl
    | exn c fs => simp only [RV.at, hk, if_true]; rw [mrg_t _ _ _ hl]
    | bad => rfl
end
end LC
end

section
set_option Elab.async false
set_option linter.all false
set_option maxRecDepth 100000
set_option maxHeartbeats 1000000
namespace LC
open PySem
/-! ### laws of plain values -/
theorem compV_flt {bd : PV → Option Env} {cond : Env → RV Bool} {elt : Env → RV PV} (g : PV → Bool) (f : PV → PV) : ∀ (xs acc : List PV), (∀ x ∈ xs, ∃ r, bd x = some r ∧ cond r = .ok (g x) ∧ (g x = true → elt r = .ok (f x))) → acc.length + xs.length ≤ SL →
    compV bd cond elt xs acc = .ok (acc ++ (xs.filter g).map f)
  | [], acc, _, _ => by simp [compV]
  | x :: xs, acc, h, hl => by
    obtain ⟨r, e1, e2, e3⟩ := h x (by simp)
    simp only [compV, e1, e2]
    simp only [List.length_cons] at hl
    cases hg : g x with
    | true =>
      simp only [e3 hg]
      rw [if_pos (by omega), compV_flt g f xs _ (fun y hy => h y (by simp [hy])) (by simp; omega)]
      simp [hg]
    | false =>
      simp only
      rw [compV_flt g f xs _ (fun y hy => h y (by simp [hy])) (by omega)]
      simp [hg]
theorem compV_map {bd : PV → Option Env} {cond : Env → RV Bool} {elt : Env → RV PV} (f : PV → PV) (xs : List PV) (h : ∀ x ∈ xs, ∃ r, bd x = some r ∧ cond r = .ok true ∧ elt r = .ok (f x)) (hl : xs.length ≤ SL) :
    compV bd cond elt xs [] = .ok (xs.map f) := by
  rw [compV_flt (fun _ => true) f xs [] (fun x hx => by obtain ⟨r, a, b, c⟩ := h x hx; exact ⟨r, a, b, fun _ => c⟩) (by simpa using hl)]
  have e : xs.filter (fun _ => true) = xs := List.filter_eq_self.mpr (by simp)
  rw [e]; rfl
theorem bools_map {α : Type} (g : α → Bool) : ∀ xs : List α, bools (xs.map fun x => .bool (g x)) = some (xs.map g)
  | [] => rfl
  | x :: xs => by simp [bools, bools_map g xs]
theorem ints_map {α : Type} (g : α → Int) : ∀ xs : List α, LC.intsL (xs.map fun x => .int (g x)) = some (xs.map g)
  | [] => rfl
  | x :: xs => by simp [LC.intsL, ints_map g xs]
/- things that a law may hand in: no owned list, no exception, not long -/
mutual
def thg : PV → Bool
  | .tup xs => decide (xs.length ≤ 1000) && thgs xs
  | .lst u xs => !u && decide (xs.length ≤ 1000) && thgs xs
  | .dic u ks vs => !u && thgs ks && thgs vs
  | .none => true
  | .bool _ => true
  | .int _ => true
  | .str s => decide (s.length ≤ 1000)
  | .exc _ _ => false
  | .scr _ => false
def thgs : List PV → Bool
  | [] => true
  | x :: xs => thg x && thgs xs
end
mutual
theorem thg_cl : ∀ p : PV, thg p = true → cl p = true
  | .tup xs, h => by simp only [thg, cl, Bool.and_eq_true] at *; exact thgs_cls xs h.2
  | .lst u xs, h => by simp only [thg, cl, Bool.and_eq_true] at *; exact ⟨h.1.1, thgs_cls xs h.2⟩
  | .dic u ks vs, h => by simp only [thg, cl, Bool.and_eq_true] at *; exact ⟨⟨h.1.1, thgs_cls ks h.1.2⟩, thgs_cls vs h.2⟩
  | .none, _ => rfl
  | .bool _, _ => rfl
  | .int _, _ => rfl
  | .str _, _ => rfl
  | .exc _ _, h => rfl
  | .scr _, h => rfl
theorem thgs_cls : ∀ ps : List PV, thgs ps = true → cls ps = true
  | [], _ => rfl
  | x :: xs, h => by simp only [thgs, cls, Bool.and_eq_true] at *; exact ⟨thg_cl x h.1, thgs_cls xs h.2⟩
end
theorem thgs_mem : ∀ {ps : List PV}, thgs ps = true → ∀ p ∈ ps, thg p = true
  | [], _, p, h => by simp at h
  | x :: xs, hd, p, h => by
    simp only [thgs, Bool.and_eq_true] at hd
    rcases List.mem_cons.mp h with z | z
    · rw [z]; exact hd.1
    · exact thgs_mem hd.2 p z
theorem thg_fz {p : PV} (h : thg p = true) : fz p = p := cl_fz p (thg_cl p h)
theorem thgs_fzs {ps : List PV} (h : thgs ps = true) : fzs ps = ps := cls_fzs ps (thgs_cls ps h)
@[simp] theorem cl_int (i : Int) : cl (.int i) = true := rfl
@[simp] theorem cl_bool (b : Bool) : cl (.bool b) = true := rfl
@[simp] theorem cl_none : cl .none = true := rfl
@[simp] theorem cl_str (s : Str) : cl (.str s) = true := rfl
@[simp] theorem dat_int (n : Nat) (i : Int) : dat n (.int i) = true := by simp [dat, dok, dep]
@[simp] theorem dat_bool (n : Nat) (b : Bool) : dat n (.bool b) = true := by simp [dat, dok, dep]
@[simp] theorem eqv_int (i j : Int) : eqv (.int i) (.int j) = decide (i = j) := by simp only [eqv]; cases h : decide (i = j) <;> simp_all
@[simp] theorem eqv_bool (a b : Bool) : eqv (.bool a) (.bool b) = (a == b) := by simp only [eqv]
end LC
end

section
set_option Elab.async false
set_option linter.all false
set_option maxRecDepth 100000
set_option maxHeartbeats 1000000
namespace LC
open PySem
/-! ### steps of statements -/
section
variable {cf : CF} {lk : List Nat} {ρ ρ1 : Env} {e : Ex} {v : PV}
theorem s_next {s : Stm} {ss : Stms} {r : Fl} (h : evS cf s lk ρ = .next ρ1) (k : evSs cf ss lk ρ1 = r) : evSs cf (.cons s ss) lk ρ = r := by rw [evSs, h]; exact k
theorem s_ret {s : Stm} {ss : Stms} (h : evS cf s lk ρ = .ret v ρ1) : evSs cf (.cons s ss) lk ρ = .ret v ρ1 := by rw [evSs, h]
theorem s_brk {s : Stm} {ss : Stms} (h : evS cf s lk ρ = .brk ρ1) : evSs cf (.cons s ss) lk ρ = .brk ρ1 := by rw [evSs, h]
theorem x_v (hk : e.ks = []) (h : vE cf e (frzS ρ) = .ok v) : evX cf e ρ = .ok v (aft e.vr v ρ) := by rw [evX_v cf hk, h]
theorem x_vp (hk : e.ks = []) (h : vE cf e (frzS ρ) = .ok v) (hn : nfz v = true) : evX cf e ρ = .ok v ρ := by rw [x_v hk h, aft, if_pos hn]
theorem s_retX (h : evX cf e ρ = .ok v ρ1) : evS cf (.ret e) lk ρ = .ret v ρ1 := by rw [evS, h]
theorem s_set {i : Nat} (h : evX cf e ρ = .ok v ρ1) (hi : okS lk ρ1 i = true) : evS cf (.set i e) lk ρ = .next (ρ1.set i (some v)) := by rw [evS, h]; simp only [hi, if_true]
theorem s_ifT {a b : Stms} {r : Fl} (h : evX cf e ρ = .ok v ρ1) (ht : truV v = some true) (k : evSs cf a lk ρ1 = r) : evS cf (.iff e a b) lk ρ = r := by rw [evS, evXt, h]; simp only [Res.bind_ok, ht]; exact k
theorem s_ifF {a b : Stms} {r : Fl} (h : evX cf e ρ = .ok v ρ1) (ht : truV v = some false) (k : evSs cf b lk ρ1 = r) : evS cf (.iff e a b) lk ρ = r := by rw [evS, evXt, h]; simp only [Res.bind_ok, ht]; exact k
/-- a call of a def that is not in-out -/
theorem call_v {T : Str → Option Fn} {f : Str} {fn : Fn} {n : Nat} {as : List PV} (ρ0 : Env) (ht : T f = some fn) (hio : fn.io = false) (hl : as.length = fn.params) (h0 : as.map some ++ List.replicate (fn.slots - fn.params) none = ρ0) (h : evSs (callN T n) fn.body [] ρ0 = .ret v ρ1) :
    callN T (n + 1) f as = .ok v .none := by
  rw [callN]
  simp only [ht]
  unfold runFn
  rw [if_pos hl]
  simp only [hio, Bool.false_eq_true, if_false, h0, h]
end
end LC
end

section
set_option Elab.async false
set_option linter.all false
set_option maxRecDepth 100000
set_option maxHeartbeats 1000000
namespace LC
open PySem
/-! ### loops -/
/-- a for that runs to its end -/
theorem forL_inv {bd : PV → Env → Option Env} {body : Env → Fl} (I : Nat → Env → Prop) : ∀ (xs : List PV) (k : Nat) (ρ : Env), I k ρ →
    (∀ i x ρ, xs[i]? = some x → I (k + i) ρ → ∃ ρ1 ρ2, bd x ρ = some ρ1 ∧ body ρ1 = .next ρ2 ∧ I (k + i + 1) ρ2) → ∃ ρ', forL bd body xs ρ = .next ρ' ∧ I (k + xs.length) ρ'
  | [], k, ρ, h0, _ => ⟨ρ, rfl, h0⟩
  | x :: xs, k, ρ, h0, st => by
    obtain ⟨ρ1, ρ2, e1, e2, h2⟩ := st 0 x ρ rfl h0
    obtain ⟨ρ', e, h'⟩ := forL_inv I xs (k + 1) ρ2 (by simpa using h2) fun i y r hy hI => by
      have := st (i + 1) y r (by simpa using hy) (by rw [show k + (i + 1) = k + 1 + i by omega]; exact hI)
      rw [show k + (i + 1) + 1 = k + 1 + i + 1 by omega] at this
      exact this
    refine ⟨ρ', by simp only [forL, e1, e2]; exact e, ?_⟩
    rw [List.length_cons, show k + (xs.length + 1) = k + 1 + xs.length by omega]
    exact h'
/-- a for that may end by a return: each turn goes on or returns as wanted -/
theorem forL_or {bd : PV → Env → Option Env} {body : Env → Fl} (I : Nat → Env → Prop) (R : PV → Env → Prop) : ∀ (xs : List PV) (k : Nat) (ρ : Env), I k ρ →
    (∀ i x ρ, xs[i]? = some x → I (k + i) ρ → ∃ ρ1, bd x ρ = some ρ1 ∧ ((∃ ρ2, body ρ1 = .next ρ2 ∧ I (k + i + 1) ρ2) ∨ ∃ v ρ2, body ρ1 = .ret v ρ2 ∧ R v ρ2)) →
    (∃ ρ', forL bd body xs ρ = .next ρ' ∧ I (k + xs.length) ρ') ∨ ∃ v ρ', forL bd body xs ρ = .ret v ρ' ∧ R v ρ'
  | [], k, ρ, h0, _ => .inl ⟨ρ, rfl, h0⟩
  | x :: xs, k, ρ, h0, st => by
    obtain ⟨ρ1, e1, ⟨ρ2, e2, h2⟩ | ⟨v, ρ2, e2, h2⟩⟩ := st 0 x ρ rfl h0
    · rcases forL_or I R xs (k + 1) ρ2 (by simpa using h2) (fun i y r hy hI => by
        have := st (i + 1) y r (by simpa using hy) (by rw [show k + (i + 1) = k + 1 + i by omega]; exact hI)
        rw [show k + (i + 1) + 1 = k + 1 + i + 1 by omega] at this
        exact this) with ⟨ρ', e, h'⟩ | ⟨v, ρ', e, h'⟩
      · refine .inl ⟨ρ', by simp only [forL, e1, e2]; exact e, ?_⟩
        rw [List.length_cons, show k + (xs.length + 1) = k + 1 + xs.length by omega]
        exact h'
      · exact .inr ⟨v, ρ', by simp only [forL, e1, e2]; exact e, h'⟩
    · exact .inr ⟨v, ρ2, by simp only [forL, e1, e2], h2⟩
end LC
end

section
set_option Elab.async false
set_option linter.all false
set_option maxRecDepth 100000
set_option maxHeartbeats 1000000
namespace LC
open PySem
theorem or_nones {p : Nat → Bool} : ∀ (ρ' ρ : Env) (z : Nat), (∀ i, getS (selS p z ρ) i = none) → orS ρ' (selS p z ρ) = ρ'
  | [], [], _, _ => rfl
  | [], _ :: _, _, _ => rfl
  | x :: ρ', [], _, _ => rfl
  | x :: ρ', y :: ρ, z, h => by
    have h0 := h 0
    simp only [selS] at h0 ⊢
    simp only [orS]
    rw [or_nones ρ' ρ (z + 1) fun i => by have := h (i + 1); simpa [getS, selS] using this]
    have h1 : (if p z = true then y else none) = none := by simpa [getS] using h0
    rw [h1]
    cases x <;> rfl
theorem put_nones {ρh : Env} (h : ∀ r, orS r ρh = r) (f : Fl) : f.put ρh = f := by
  cases f <;> simp [Fl.put, h]
section
variable {cf : CF} {lk : List Nat}
theorem xi_v {fz : Bool} {it : It} {ρ : Env} (h : it.ks = []) : evXi cf fz it ρ = match vIt cf it (frzS ρ) with
    | .ok xs => if it.rng then .ok (xs, []) ρ else if !fz && lfs xs then .ok (xs, selS (nlf ρ) 0 (selS (fun i => it.vr.contains i) 0 ρ)) (selS (fun i => !(it.vr.contains i && nlf ρ i)) 0 ρ) else .ok (xs, []) (frzV it.vr 0 ρ)
    | .exn c fs => .exn c fs ρ
    | .bad => .bad := by
  unfold evXi
  rw [h, evIt_v cf it _ h, vIt_agr cf it _ _ (agr_msk it.vr ρ)]
  have hl : (mskS it.vr [] ρ).length = ρ.length := by rw [msk_nil, frz_len, selS_len]
  have hk : ∀ r, ksOk [] r = true := fun r => by
    unfold ksOk
    rw [List.all_eq_true]
    intro o ho
    have : ∀ (r : Env) (z : Nat), o ∈ selS (fun i => ([] : List Nat).contains i) z r → o = none := by
      intro r
      induction r with
      | nil => intro z hz; simp [selS] at hz
      | cons x r ih =>
        intro z hz
        simp only [selS, List.mem_cons] at hz
        rcases hz with y | y
        · simpa using y
        · exact ih (z + 1) y
    rw [this r 0 ho]; rfl
  have e1 : (fun i => !([] : List Nat).contains i) = fun _ => true := by funext i; simp
  have e2 : (fun i => !([] : List Nat).contains i && !(it.vr.contains i && nlf ρ i)) = fun i => !(it.vr.contains i && nlf ρ i) := by funext i; simp
  cases vIt cf it (frzS ρ) with
  | bad => rfl
  | exn c fs => simp only [RV.at, hk, if_true]; rw [mrg_t _ _ _ hl]
  | ok xs =>
    simp only [RV.at, hk, if_true]
    rw [mrg_t _ _ _ hl, mrg_f _ _ _ hl, e1, sel_all, e2, or_none (fun i => by simp) _ _ 0 (by rw [selS_len, hl])]
/-- a for whose source holds no owned list -/
theorem s_for {fz : Bool} {tg : Tg} {it : It} {b : Stms} {ρ : Env} {xs : List PV} (hk : it.ks = []) (hr : it.rng = false) (hc : clean ρ = true) (h : vIt cf it ρ = .ok xs) :
    evS cf (.for_ fz tg it b) lk ρ = forL (bindT (it.vr ++ lk) tg) (evSs cf b (it.vr ++ lk)) xs ρ := by
  have hn : ∀ (ρ : Env), clean ρ = true → ∀ i, nlf ρ i = false := by
    intro ρ
    induction ρ with
    | nil => intro _ i; simp [nlf, getS]
    | cons x ρ ih =>
      intro hc i
      cases i with
      | zero =>
        cases x with
        | none => rfl
        | some v =>
          simp only [clean, Bool.and_eq_true] at hc
          simp [nlf, getS, hc.1]
      | succ i =>
        have : clean ρ = true := by
          cases x with
          | none => simpa [clean] using hc
          | some v => simp only [clean, Bool.and_eq_true] at hc; exact hc.2
        have := ih this i
        simpa [nlf, getS] using this
  rw [evS, xi_v hk, clean_frz hc, h]
  simp only [hr, Bool.false_eq_true, if_false]
  have e1 : (fun i => !(it.vr.contains i && nlf ρ i)) = fun _ => true := by funext i; simp [hn ρ hc]
  have e2 : ∀ r, orS r (selS (nlf ρ) 0 (selS (fun i => it.vr.contains i) 0 ρ)) = r := fun r => or_nones r _ 0 fun i => by
    rw [getS_sel, Nat.zero_add, hn ρ hc]; rfl
  have e3 : ∀ r : Env, orS r [] = r := fun r => by cases r <;> rfl
  by_cases hz : (!fz && lfs xs) = true
  · rw [if_pos hz, e1, sel_all]
    simp only
    exact put_nones e2 _
  · rw [if_neg hz, clean_frzV 0 hc]
    simp only
    exact put_nones e3 _
theorem s_forR {fz : Bool} {tg : Tg} {it : It} {b : Stms} {ρ : Env} {xs : List PV} (hk : it.ks = []) (hr : it.rng = true) (h : vIt cf it (frzS ρ) = .ok xs) :
    evS cf (.for_ fz tg it b) lk ρ = forL (bindT lk tg) (evSs cf b lk) xs ρ := by
  have e3 : ∀ r : Env, orS r [] = r := fun r => by cases r <;> rfl
  rw [evS, xi_v hk, h]
  simp only [hr, if_true, List.nil_append]
  exact put_nones e3 _
end
end LC
end

section
set_option Elab.async false
set_option linter.all false
set_option maxRecDepth 100000
set_option maxHeartbeats 1000000
namespace SX
open PySem LC
/-! ### polynomials -/
/-- a key (for order and quick unlikeness alone) and the variables -/
abbrev Mon := Nat × List Nat
abbrev Poly := List (Mon × Int)
abbrev Val := Nat → Int
def lev (σ : Val) : List Nat → Int
  | [] => 1
  | x :: m => σ x * lev σ m
def mev (σ : Val) (m : Mon) : Int := lev σ m.2
def pev (σ : Val) : Poly → Int
  | [] => 0
  | q :: p => q.2 * mev σ q.1 + pev σ p
def leq : List Nat → List Nat → Bool
  | [], k => (match k with | [] => true | _ :: _ => false)
  | x :: m, k => (match k with | [] => false | y :: k => Nat.beq x y && leq m k)
theorem leq_eq : ∀ (m k : List Nat), leq m k = true → m = k
  | [], [], _ => rfl
  | [], _ :: _, h => by simp [leq] at h
  | _ :: _, [], h => by simp [leq] at h
  | x :: m, y :: k, h => by
    simp only [leq, Bool.and_eq_true] at h
    rw [Nat.eq_of_beq_eq_true h.1, leq_eq m k h.2]
def meq (m k : Mon) : Bool := Nat.beq m.1 k.1 && leq m.2 k.2
def mlt (m k : Mon) : Bool := Nat.blt m.1 k.1
theorem meq_eq (m k : Mon) (h : meq m k = true) : m = k := by
  unfold meq at h
  rw [Bool.and_eq_true] at h
  exact Prod.ext (Nat.eq_of_beq_eq_true h.1) (leq_eq _ _ h.2)
def pins (m : Mon) (c : Int) : Poly → Poly
  | [] => if c = 0 then [] else [(m, c)]
  | q :: p => if meq m q.1 then (if c + q.2 = 0 then p else (m, c + q.2) :: p) else if mlt m q.1 then (if c = 0 then q :: p else (m, c) :: q :: p) else q :: pins m c p
def padd : Poly → Poly → Poly
  | [], r => r
  | q :: p, r => pins q.1 q.2 (padd p r)
def lins (x : Nat) : List Nat → List Nat
  | [] => [x]
  | y :: m => if Nat.ble x y then x :: y :: m else y :: lins x m
def lmul : List Nat → List Nat → List Nat
  | [], k => k
  | x :: m, k => lins x (lmul m k)
def mmul (m k : Mon) : Mon := (m.1 + k.1, lmul m.2 k.2)
def ptm (m : Mon) (c : Int) : Poly → Poly
  | [] => []
  | q :: p => pins (mmul m q.1) (c * q.2) (ptm m c p)
def pmul : Poly → Poly → Poly
  | [], _ => []
  | q :: p, r => padd (ptm q.1 q.2 r) (pmul p r)
def mone : Mon := (0, [])
def mvar (x : Nat) : Mon := (16 ^ x, [x])
def pcon (c : Int) : Poly := if c = 0 then [] else [(mone, c)]
def pvar (x : Nat) : Poly := [(mvar x, 1)]
def pneg : Poly → Poly
  | [] => []
  | q :: p => (q.1, -q.2) :: pneg p
def psub (p r : Poly) : Poly := padd p (pneg r)
theorem pins_ev (σ : Val) (m : Mon) (c : Int) : ∀ p : Poly, pev σ (pins m c p) = c * mev σ m + pev σ p
  | [] => by
    simp only [pins]
    split
    · rename_i h; simp [pev, h]
    · simp [pev]
  | q :: p => by
    simp only [pins]
    split
    · rename_i h
      have e := meq_eq _ _ h
      split
      · rename_i h2
        simp only [pev, ← e]
        have : c * mev σ m + (q.2 * mev σ m + pev σ p) = (c + q.2) * mev σ m + pev σ p := by grind
        rw [this, h2]; simp
      · simp only [pev, ← e]; grind
    · split
      · split
        · rename_i h; simp [pev, h]
        · simp only [pev]
      · simp only [pev, pins_ev σ m c p]; grind
theorem padd_ev (σ : Val) : ∀ p r : Poly, pev σ (padd p r) = pev σ p + pev σ r
  | [], r => by simp [padd, pev]
  | q :: p, r => by simp only [padd, pins_ev, padd_ev σ p r, pev]; grind
theorem lins_ev (σ : Val) (x : Nat) : ∀ m : List Nat, lev σ (lins x m) = σ x * lev σ m
  | [] => rfl
  | y :: m => by
    simp only [lins]
    split
    · rfl
    · simp only [lev, lins_ev σ x m]; grind
theorem lmul_ev (σ : Val) : ∀ m k : List Nat, lev σ (lmul m k) = lev σ m * lev σ k
  | [], k => by simp [lmul, lev]
  | x :: m, k => by simp only [lmul, lins_ev, lmul_ev σ m k, lev]; grind
theorem mmul_ev (σ : Val) (m k : Mon) : mev σ (mmul m k) = mev σ m * mev σ k := lmul_ev σ m.2 k.2
theorem ptm_ev (σ : Val) (m : Mon) (c : Int) : ∀ p : Poly, pev σ (ptm m c p) = c * mev σ m * pev σ p
  | [] => by simp [ptm, pev]
  | q :: p => by simp only [ptm, pins_ev, mmul_ev, ptm_ev σ m c p, pev]; grind
theorem pmul_ev (σ : Val) : ∀ p r : Poly, pev σ (pmul p r) = pev σ p * pev σ r
  | [], r => by simp [pmul, pev]
  | q :: p, r => by simp only [pmul, padd_ev, ptm_ev, pmul_ev σ p r, pev]; grind
theorem pcon_ev (σ : Val) (c : Int) : pev σ (pcon c) = c := by
  unfold pcon
  split
  · rename_i h; simp [pev, h]
  · simp [pev, mev, mone, lev]
theorem pvar_ev (σ : Val) (x : Nat) : pev σ (pvar x) = σ x := by simp [pvar, pev, mev, mvar, lev]
theorem pneg_ev (σ : Val) : ∀ p : Poly, pev σ (pneg p) = - pev σ p
  | [] => rfl
  | q :: p => by simp only [pneg, pev, pneg_ev σ p]; grind
theorem psub_ev (σ : Val) (p r : Poly) : pev σ (psub p r) = pev σ p - pev σ r := by rw [psub, padd_ev, pneg_ev]; omega
/-- a constant -/
def pk : Poly → Option Int
  | [] => some 0
  | q :: p => (match q.1.2, p with
    | [], [] => some q.2
    | _, _ => none)
theorem pk_ev {σ : Val} {p : Poly} {c : Int} (h : pk p = some c) : pev σ p = c := by
  unfold pk at h
  split at h
  · cases h; rfl
  · rename_i q p
    split at h
    · rename_i h1; cases h; simp [pev, h1, mev, lev]
    · cases h
/-! ### bounds of the variables; a variable may be told by others -/
structure Bd where
  lo : Int
  hi : Int
  al : Option Poly
def Bd.ok (σ : Val) (i : Nat) (b : Bd) : Prop := b.lo ≤ σ i ∧ σ i ≤ b.hi ∧ ∀ p, b.al = some p → σ i = pev σ p
def BOk (σ : Val) (z : Nat) : List Bd → Prop
  | [] => True
  | b :: B => b.ok σ z ∧ BOk σ (z + 1) B
theorem BOk_get {σ : Val} : ∀ {B : List Bd} {z i : Nat} {b : Bd}, BOk σ z B → B[i]? = some b → b.ok σ (z + i)
  | [], _, _, _, _, h => by simp at h
  | b :: B, z, 0, b', h, e => by simp at e; subst e; exact h.1
  | b :: B, z, i + 1, b', h, e => by
    have := BOk_get (z := z + 1) (i := i) h.2 (by simpa using e)
    rw [show z + (i + 1) = z + 1 + i by omega]; exact this
theorem BOk_app {σ : Val} : ∀ {B : List Bd} {z : Nat} {b : Bd}, BOk σ z B → b.ok σ (z + B.length) → BOk σ z (B ++ [b])
  | [], z, b, _, h => ⟨by simpa using h, trivial⟩
  | c :: B, z, b, h, h' => ⟨h.1, BOk_app h.2 (by rw [show z + 1 + B.length = z + (c :: B).length by simp; omega]; exact h')⟩
theorem BOk_set {σ : Val} : ∀ {B : List Bd} {z i : Nat} {b : Bd}, BOk σ z B → b.ok σ (z + i) → BOk σ z (B.set i b)
  | [], _, _, _, _, _ => trivial
  | c :: B, z, 0, b, h, h' => ⟨h', h.2⟩
  | c :: B, z, i + 1, b, h, h' => ⟨h.1, BOk_set h.2 (by rw [show z + 1 + i = z + (i + 1) by omega]; exact h')⟩
/-- a variable, as told -/
def xred (B : List Bd) (x : Nat) : Poly := match B[x]? with
  | some b => (match b.al with
    | some p => p
    | none => pvar x)
  | none => pvar x
theorem xred_ev {σ : Val} {B : List Bd} (h : BOk σ 0 B) (x : Nat) : pev σ (xred B x) = σ x := by
  unfold xred
  split
  · rename_i b hb
    have := BOk_get h hb
    rw [Nat.zero_add] at this
    split
    · rename_i p hp; exact (this.2.2 p hp).symm
    · exact pvar_ev σ x
  · exact pvar_ev σ x
def isAl (B : List Bd) (x : Nat) : Bool := match B[x]? with
  | some b => b.al.isSome
  | none => false
def mred (B : List Bd) : List Nat → Poly
  | [] => pcon 1
  | x :: m => pmul (xred B x) (mred B m)
theorem mred_ev {σ : Val} {B : List Bd} (h : BOk σ 0 B) : ∀ m : List Nat, pev σ (mred B m) = lev σ m
  | [] => pcon_ev σ 1
  | x :: m => by rw [mred, pmul_ev, xred_ev h, mred_ev h m, lev]
def pred1 (B : List Bd) : Poly → Poly
  | [] => []
  | q :: p => if q.1.2.any (isAl B) then padd (pmul (pcon q.2) (mred B q.1.2)) (pred1 B p) else pins q.1 q.2 (pred1 B p)
theorem pred1_ev {σ : Val} {B : List Bd} (h : BOk σ 0 B) : ∀ p : Poly, pev σ (pred1 B p) = pev σ p
  | [] => rfl
  | q :: p => by
    simp only [pred1]
    split
    · rw [padd_ev, pmul_ev, pcon_ev, mred_ev h, pred1_ev h p, pev, mev]
    · rw [pins_ev, pred1_ev h p, pev]
def pany (B : List Bd) (p : Poly) : Bool := p.any fun q => q.1.2.any (isAl B)
/-- reduced, by what is told -/
def pred (B : List Bd) (p : Poly) : Poly := if pany B p then (let r := pred1 B p; if pany B r then pred1 B (pred1 B r) else r) else p
theorem pred_ev {σ : Val} {B : List Bd} (h : BOk σ 0 B) (p : Poly) : pev σ (pred B p) = pev σ p := by
  unfold pred
  split
  · simp only
    split
    · rw [pred1_ev h, pred1_ev h, pred1_ev h]
    · rw [pred1_ev h]
  · rfl
/-- how great at most, without sign -/
def mabs (B : List Bd) : List Nat → Option Nat
  | [] => some 1
  | x :: m => (match B[x]?, mabs B m with
    | some b, some k => some (max b.lo.natAbs b.hi.natAbs * k)
    | _, _ => none)
theorem mabs_ev {σ : Val} {B : List Bd} (h : BOk σ 0 B) : ∀ {m : List Nat} {k : Nat}, mabs B m = some k → (lev σ m).natAbs ≤ k
  | [], k, e => by simp only [mabs, Option.some.injEq] at e; subst e; simp [lev]
  | x :: m, k, e => by
    simp only [mabs] at e
    split at e
    · rename_i b k' hb hk
      cases e
      have hx := BOk_get h hb
      rw [Nat.zero_add] at hx
      rw [lev, Int.natAbs_mul]
      refine Nat.mul_le_mul ?_ (mabs_ev h hk)
      obtain ⟨h1, h2, _⟩ := hx
      omega
    · cases e
/-- least and greatest, of one row -/
def trng (B : List Bd) (m : List Nat) (c : Int) : Option (Int × Int) := match m with
  | [] => some (c, c)
  | [x] => (match B[x]? with
    | some b => if 0 ≤ c then some (c * b.lo, c * b.hi) else some (c * b.hi, c * b.lo)
    | none => none)
  | _ => (mabs B m).map fun k => (-((c.natAbs * k : Nat) : Int), ((c.natAbs * k : Nat) : Int))
theorem trng_ev {σ : Val} {B : List Bd} (h : BOk σ 0 B) {m : List Nat} {c : Int} {r : Int × Int} (e : trng B m c = some r) : r.1 ≤ c * lev σ m ∧ c * lev σ m ≤ r.2 := by
  unfold trng at e
  split at e
  · cases e; simp [lev]
  · rename_i x
    split at e
    · rename_i b hb
      have hx := BOk_get h hb
      rw [Nat.zero_add] at hx
      obtain ⟨h1, h2, _⟩ := hx
      simp only [lev, Int.mul_one]
      split at e
      · rename_i hc
        cases e
        exact ⟨Int.mul_le_mul_of_nonneg_left h1 hc, Int.mul_le_mul_of_nonneg_left h2 hc⟩
      · rename_i hc
        cases e
        have hc' : c ≤ 0 := by omega
        exact ⟨Int.mul_le_mul_of_nonpos_left hc' h2, Int.mul_le_mul_of_nonpos_left hc' h1⟩
    · cases e
  · cases hk : mabs B m with
    | none => simp only [hk] at e; simp at e
    | some k =>
      simp only [hk] at e
      simp only [Option.map_some, Option.some.injEq] at e
      subst e
      have := mabs_ev h hk
      have h2 : (c * lev σ m).natAbs ≤ c.natAbs * k := by rw [Int.natAbs_mul]; exact Nat.mul_le_mul_left _ this
      simp only
      omega
def prng (B : List Bd) : Poly → Option (Int × Int)
  | [] => some (0, 0)
  | q :: p => (match trng B q.1.2 q.2, prng B p with
    | some a, some b => some (a.1 + b.1, a.2 + b.2)
    | _, _ => none)
theorem prng_ev {σ : Val} {B : List Bd} (h : BOk σ 0 B) : ∀ {p : Poly} {r : Int × Int}, prng B p = some r → r.1 ≤ pev σ p ∧ pev σ p ≤ r.2
  | [], r, e => by simp only [prng, Option.some.injEq] at e; subst e; simp [pev]
  | q :: p, r, e => by
    simp only [prng] at e
    split at e
    · rename_i a b ha hb
      cases e
      have h1 := trng_ev h ha
      have h2 := prng_ev h hb
      simp only [pev, mev]
      omega
    · cases e
/-! ### where variables lie below n -/
def mwf (n : Nat) (m : List Nat) : Bool := m.all fun x => Nat.blt x n
def pwf (n : Nat) (p : Poly) : Bool := p.all fun q => mwf n q.1.2
def Ext (n n' : Nat) (σ σ' : Val) : Prop := n ≤ n' ∧ (∀ i, i < n → σ' i = σ i) ∧ (n = n' → σ' = σ)
theorem Ext.refl (n : Nat) (σ : Val) : Ext n n σ σ := ⟨Nat.le_refl _, fun _ _ => rfl, fun _ => rfl⟩
theorem Ext.trans {a b c : Nat} {σ σ' σ'' : Val} (h : Ext a b σ σ') (k : Ext b c σ' σ'') : Ext a c σ σ'' :=
  ⟨Nat.le_trans h.1 k.1, fun i hi => by rw [k.2.1 i (Nat.lt_of_lt_of_le hi h.1), h.2.1 i hi], fun e => by
    have h1 := h.1
    have h2 := k.1
    rw [k.2.2 (by omega), h.2.2 (by omega)]⟩
theorem mwf_ev {n n' : Nat} {σ σ' : Val} (x : Ext n n' σ σ') : ∀ {m : List Nat}, mwf n m = true → lev σ' m = lev σ m
  | [], _ => rfl
  | y :: m, h => by
    simp only [mwf, List.all_cons, Bool.and_eq_true] at h
    rw [lev, lev, x.2.1 y (by simpa [Nat.blt_eq] using h.1), mwf_ev x (m := m) h.2]
theorem pwf_ev {n n' : Nat} {σ σ' : Val} (x : Ext n n' σ σ') : ∀ {p : Poly}, pwf n p = true → pev σ' p = pev σ p
  | [], _ => rfl
  | q :: p, h => by
    simp only [pwf, List.all_cons, Bool.and_eq_true] at h
    rw [pev, pev, mev, mev, mwf_ev x h.1, pwf_ev x (p := p) h.2]
def Bd.wf (n : Nat) (b : Bd) : Bool := match b.al with
  | some p => pwf n p
  | none => true
theorem BOk_ext {n n' : Nat} {σ σ' : Val} (x : Ext n n' σ σ') : ∀ {B : List Bd} {z : Nat}, B.all (Bd.wf n) = true → z + B.length ≤ n → BOk σ z B → BOk σ' z B
  | [], _, _, _, _ => trivial
  | b :: B, z, h, hl, hb => by
    simp only [List.all_cons, Bool.and_eq_true] at h
    simp only [List.length_cons] at hl
    obtain ⟨⟨h1, h2, h3⟩, h4⟩ := hb
    have e := x.2.1 z (by omega)
    refine ⟨⟨by rw [e]; exact h1, by rw [e]; exact h2, fun p hp => ?_⟩, BOk_ext x h.2 (by omega) h4⟩
    have hw := h.1
    unfold Bd.wf at hw
    rw [hp] at hw
    rw [e, pwf_ev x hw]
    exact h3 p hp
end SX
end

section
set_option Elab.async false
set_option linter.all false
set_option maxRecDepth 100000
set_option maxHeartbeats 1000000
namespace SX
open PySem LC
/-! ### values with unknowns -/
inductive Kin where
  | ntp (d : Nat) (dc : Bool)
  | nin (d : Nat)
  | tpl (d : Nat) (p : Poly)
inductive SV where
  | none
  | bool (b : Bool)
  | tf
  | int (p : Poly)
  | str (s : Str)
  | tup (xs : List SV)
  | lst (u : Bool) (xs : List SV)
  | any (d : Nat) (dc : Bool)
  | cell
  | cells (m : Nat)
  | scr
  | pen
  | kin (k : Kin)
instance : Inhabited SV := ⟨.none⟩
def IB : Nat := 2 ^ 160
/- data of at most that depth: no owned list, no dict, numbers not great -/
mutual
def dt : Nat → PV → Bool
  | d, .tup xs => (match d with
    | 0 => false
    | d + 1 => decide (xs.length ≤ 1000) && dts d xs)
  | d, .lst u xs => (match d with
    | 0 => false
    | d + 1 => !u && decide (xs.length ≤ 1000) && dts d xs)
  | _, .dic _ _ _ => false
  | _, .none => true
  | _, .bool _ => true
  | _, .int i => decide (i.natAbs ≤ IB)
  | _, .str s => decide (s.length ≤ 1000) && s.cps.all fun c => decide (c < 0x110000)
  | _, .exc _ _ => false
  | _, .scr _ => false
def dts : Nat → List PV → Bool
  | _, [] => true
  | d, x :: xs => dt d x && dts d xs
end
def isDic : PV → Bool
  | .dic u ks vs => !u && cls ks && cls vs
  | _ => false
def isTup : PV → Bool
  | .tup _ => true
  | _ => false
def isNum : PV → Bool
  | .int _ => true
  | .bool _ => true
  | _ => false
/-- things of which a little is known -/
def GK (σ : Val) : Kin → PV → Prop
  | .ntp d dc, v => (dt d v = true ∨ (dc = true ∧ isDic v = true)) ∧ isTup v = false
  | .nin d, v => dt d v = true ∧ isNum v = false
  | .tpl d p, v => dt d v = true ∧ ∃ ys, v = .tup ys ∧ (ys.length : Int) = pev σ p
def Kin.wf (n : Nat) : Kin → Bool
  | .tpl _ p => pwf n p
  | _ => true
mutual
def G (σ : Val) : SV → PV → Prop
  | .none, v => v = .none
  | .bool b, v => v = .bool b
  | .tf, v => ∃ b, v = .bool b
  | .int p, v => v = .int (pev σ p)
  | .str s, v => v = .str s
  | .tup xs, v => ∃ ys, v = .tup ys ∧ Gs σ xs ys
  | .lst u xs, v => ∃ ys, v = .lst u ys ∧ Gs σ xs ys
  | .any d dc, v => dt d v = true ∨ (dc = true ∧ isDic v = true)
  | .cell, v => ∃ i, v = .int i
  | .cells m, v => ∃ (u : Bool) (ns : List Int), v = .lst u (ns.map .int) ∧ ns.length ≤ m
  | .scr, v => ∃ ns, v = .scr ns ∧ ns.length ≤ 63
  | .pen, v => ∃ a b, v = .lst true [.int a, .int b] ∧ 0 ≤ a
  | .kin k, v => GK σ k v
def Gs (σ : Val) : List SV → List PV → Prop
  | [], ys => ys = []
  | x :: xs, ys => ∃ y zs, ys = y :: zs ∧ G σ x y ∧ Gs σ xs zs
end
theorem Gs_len {σ : Val} : ∀ {xs : List SV} {ys : List PV}, Gs σ xs ys → ys.length = xs.length
  | [], _, h => by simp only [Gs] at h; subst h; rfl
  | x :: xs, _, h => by
    simp only [Gs] at h
    obtain ⟨y, zs, rfl, _, h2⟩ := h
    simp [Gs_len h2]
theorem Gs_cons {σ : Val} {x : SV} {xs : List SV} {y : PV} {ys : List PV} : Gs σ (x :: xs) (y :: ys) ↔ G σ x y ∧ Gs σ xs ys := by
  simp only [Gs]
  constructor
  · rintro ⟨a, b, e, h⟩; cases e; exact h
  · intro h; exact ⟨_, _, rfl, h⟩
theorem Gs_nil {σ : Val} : Gs σ [] [] := by simp [Gs]
theorem Gs_get {σ : Val} : ∀ {xs : List SV} {ys : List PV} {i : Nat} {t : SV}, Gs σ xs ys → xs[i]? = some t → ∃ v, ys[i]? = some v ∧ G σ t v
  | [], _, _, _, _, h => by simp at h
  | x :: xs, ys, i, t, h, e => by
    simp only [Gs] at h
    obtain ⟨y, zs, rfl, h1, h2⟩ := h
    cases i with
    | zero => simp at e; subst e; exact ⟨y, rfl, h1⟩
    | succ i => obtain ⟨v, hv, g⟩ := Gs_get (i := i) h2 (by simpa using e); exact ⟨v, by simpa using hv, g⟩
theorem Gs_app {σ : Val} : ∀ {xs xs' : List SV} {ys ys' : List PV}, Gs σ xs ys → Gs σ xs' ys' → Gs σ (xs ++ xs') (ys ++ ys')
  | [], _, _, _, h, h' => by simp only [Gs] at h; subst h; exact h'
  | x :: xs, _, _, _, h, h' => by
    simp only [Gs] at h
    obtain ⟨y, zs, rfl, h1, h2⟩ := h
    simp only [List.cons_append]
    exact Gs_cons.mpr ⟨h1, Gs_app h2 h'⟩
theorem Gs_drop {σ : Val} : ∀ (n : Nat) {xs : List SV} {ys : List PV}, Gs σ xs ys → Gs σ (xs.drop n) (ys.drop n)
  | 0, _, _, h => h
  | n + 1, [], _, h => by simp only [Gs] at h; subst h; exact Gs_nil
  | n + 1, x :: xs, _, h => by
    simp only [Gs] at h
    obtain ⟨y, zs, rfl, h1, h2⟩ := h
    exact Gs_drop n h2
theorem Gs_take {σ : Val} : ∀ (n : Nat) {xs : List SV} {ys : List PV}, Gs σ xs ys → Gs σ (xs.take n) (ys.take n)
  | 0, _, _, h => by simpa using Gs_nil
  | n + 1, [], _, h => by simp only [Gs] at h; subst h; exact Gs_nil
  | n + 1, x :: xs, _, h => by
    simp only [Gs] at h
    obtain ⟨y, zs, rfl, h1, h2⟩ := h
    exact Gs_cons.mpr ⟨h1, Gs_take n h2⟩
theorem Gs_set {σ : Val} : ∀ {n : Nat} {xs : List SV} {ys : List PV} {t : SV} {v : PV}, Gs σ xs ys → G σ t v → Gs σ (xs.set n t) (ys.set n v)
  | _, [], _, _, _, h, _ => by simp only [Gs] at h; subst h; simpa using Gs_nil
  | 0, x :: xs, _, _, _, h, g => by
    simp only [Gs] at h
    obtain ⟨y, zs, rfl, h1, h2⟩ := h
    exact Gs_cons.mpr ⟨g, h2⟩
  | n + 1, x :: xs, _, _, _, h, g => by
    simp only [Gs] at h
    obtain ⟨y, zs, rfl, h1, h2⟩ := h
    exact Gs_cons.mpr ⟨h1, Gs_set h2 g⟩
theorem Gs_rev {σ : Val} : ∀ {xs : List SV} {ys : List PV}, Gs σ xs ys → Gs σ xs.reverse ys.reverse
  | [], _, h => by simp only [Gs] at h; subst h; simpa using Gs_nil
  | x :: xs, _, h => by
    simp only [Gs] at h
    obtain ⟨y, zs, rfl, h1, h2⟩ := h
    simp only [List.reverse_cons]
    exact Gs_app (Gs_rev h2) (Gs_cons.mpr ⟨h1, Gs_nil⟩)
/-! ### variables of a value lie below n -/
mutual
def wfV (n : Nat) : SV → Bool
  | .int p => pwf n p
  | .tup xs => wfVs n xs
  | .lst _ xs => wfVs n xs
  | .kin k => k.wf n
  | _ => true
def wfVs (n : Nat) : List SV → Bool
  | [] => true
  | x :: xs => wfV n x && wfVs n xs
end
theorem GK_ext {n n' : Nat} {σ σ' : Val} (e : Ext n n' σ σ') {k : Kin} {v : PV} (h : k.wf n = true) (g : GK σ k v) : GK σ' k v := by
  cases k with
  | ntp d dc => exact g
  | nin d => exact g
  | tpl d p =>
    simp only [GK, Kin.wf] at *
    rw [pwf_ev e h]; exact g
mutual
theorem G_ext {n n' : Nat} {σ σ' : Val} (e : Ext n n' σ σ') : ∀ {t : SV} {v : PV}, wfV n t = true → G σ t v → G σ' t v
  | .none, v, h, g => by simp only [G] at *; exact g
  | .bool b, v, h, g => by simp only [G] at *; exact g
  | .tf, v, h, g => by simp only [G] at *; exact g
  | .int p, v, h, g => by simp only [G, wfV] at *; rw [pwf_ev e h]; exact g
  | .str s, v, h, g => by simp only [G] at *; exact g
  | .tup xs, v, h, g => by
    simp only [G, wfV] at *
    obtain ⟨ys, rfl, g⟩ := g
    exact ⟨ys, rfl, Gs_ext e h g⟩
  | .lst u xs, v, h, g => by
    simp only [G, wfV] at *
    obtain ⟨ys, rfl, g⟩ := g
    exact ⟨ys, rfl, Gs_ext e h g⟩
  | .any _ _, v, h, g => by simp only [G] at *; exact g
  | .cell, v, h, g => by simp only [G] at *; exact g
  | .cells _, v, h, g => by simp only [G] at *; exact g
  | .scr, v, h, g => by simp only [G] at *; exact g
  | .pen, v, h, g => by simp only [G] at *; exact g
  | .kin k, v, h, g => by simp only [G, wfV] at *; exact GK_ext e h g
theorem Gs_ext {n n' : Nat} {σ σ' : Val} (e : Ext n n' σ σ') : ∀ {t : List SV} {v : List PV}, wfVs n t = true → Gs σ t v → Gs σ' t v
  | [], v, h, g => by simp only [Gs] at *; exact g
  | x :: xs, v, h, g => by
    simp only [wfVs, Bool.and_eq_true] at h
    simp only [Gs] at g
    obtain ⟨y, zs, rfl, h1, h2⟩ := g
    exact Gs_cons.mpr ⟨G_ext e h.1 h1, Gs_ext e h.2 h2⟩
end
/-- may be kept from n on to n' -/
def keep (n n' : Nat) (t : SV) : Bool := Nat.beq n n' || wfV n t
def keeps (n n' : Nat) (t : List SV) : Bool := Nat.beq n n' || wfVs n t
theorem keep_G {n n' : Nat} {σ σ' : Val} (e : Ext n n' σ σ') {t : SV} {v : PV} (h : keep n n' t = true) (g : G σ t v) : G σ' t v := by
  unfold keep at h
  rw [Bool.or_eq_true] at h
  rcases h with h | h
  · rw [e.2.2 (Nat.eq_of_beq_eq_true h)]; exact g
  · exact G_ext e h g
theorem keeps_G {n n' : Nat} {σ σ' : Val} (e : Ext n n' σ σ') {t : List SV} {v : List PV} (h : keeps n n' t = true) (g : Gs σ t v) : Gs σ' t v := by
  unfold keeps at h
  rw [Bool.or_eq_true] at h
  rcases h with h | h
  · rw [e.2.2 (Nat.eq_of_beq_eq_true h)]; exact g
  · exact Gs_ext e h g
/-! ### frozen; without owned lists; without lists -/
mutual
def fzV : SV → SV
  | .tup xs => .tup (fzVs xs)
  | .lst _ xs => .lst false (fzVs xs)
  | .pen => .lst false [.cell, .cell]
  | t => t
def fzVs : List SV → List SV
  | [] => []
  | x :: xs => fzV x :: fzVs xs
end
mutual
def clV : SV → Bool
  | .tup xs => clVs xs
  | .lst u xs => !u && clVs xs
  | .pen => false
  | .cells _ => false
  | _ => true
def clVs : List SV → Bool
  | [] => true
  | x :: xs => clV x && clVs xs
end
mutual
def lfV : SV → Bool
  | .tup xs => lfVs xs
  | .lst _ _ => false
  | .pen => false
  | .cells _ => false
  | .any _ _ => false
  | .scr => false
  | .kin _ => false
  | _ => true
def lfVs : List SV → Bool
  | [] => true
  | x :: xs => lfV x && lfVs xs
end
/- surely no frozen list within -/
mutual
def nfV : SV → Bool
  | .tup xs => nfVs xs
  | .lst u xs => u && nfVs xs
  | .pen => true
  | .cells _ => false
  | .any _ _ => false
  | .scr => false
  | .kin _ => false
  | _ => true
def nfVs : List SV → Bool
  | [] => true
  | x :: xs => nfV x && nfVs xs
end
mutual
theorem dt_cl : ∀ {d : Nat} {v : PV}, dt d v = true → cl v = true
  | d, .tup xs, h => by
    cases d with
    | zero => simp [dt] at h
    | succ d => simp only [dt, Bool.and_eq_true] at h; simp only [cl]; exact dts_cl h.2
  | d, .lst u xs, h => by
    cases d with
    | zero => simp [dt] at h
    | succ d => simp only [dt, Bool.and_eq_true] at h; simp only [cl, Bool.and_eq_true]; exact ⟨h.1.1, dts_cl h.2⟩
  | _, .dic _ _ _, h => by simp [dt] at h
  | _, .none, _ => rfl
  | _, .bool _, _ => rfl
  | _, .int _, _ => rfl
  | _, .str _, _ => rfl
  | _, .exc _ _, h => rfl
  | _, .scr _, h => rfl
theorem dts_cl : ∀ {d : Nat} {v : List PV}, dts d v = true → cls v = true
  | _, [], _ => rfl
  | d, x :: xs, h => by simp only [dts, Bool.and_eq_true] at h; simp only [cls, Bool.and_eq_true]; exact ⟨dt_cl h.1, dts_cl h.2⟩
end
theorem any_cl {d : Nat} {dc : Bool} {v : PV} (h : dt d v = true ∨ (dc = true ∧ isDic v = true)) : cl v = true := by
  rcases h with h | ⟨_, h⟩
  · exact dt_cl h
  · unfold isDic at h
    split at h
    · simpa [cl, Bool.and_assoc] using h
    · cases h
theorem kin_cl {σ : Val} {k : Kin} {v : PV} (g : GK σ k v) : cl v = true := by
  cases k with
  | ntp d dc => exact any_cl g.1
  | nin d => exact dt_cl g.1
  | tpl d p => exact dt_cl g.1
mutual
theorem G_fz {σ : Val} : ∀ {t : SV} {v : PV}, G σ t v → G σ (fzV t) (fz v)
  | .none, v, g => by simp only [G, fzV] at *; subst g; rfl
  | .bool b, v, g => by simp only [G, fzV] at *; subst g; rfl
  | .tf, v, g => by simp only [G, fzV] at *; obtain ⟨b, rfl⟩ := g; exact ⟨b, rfl⟩
  | .int p, v, g => by simp only [G, fzV] at *; subst g; rfl
  | .str s, v, g => by simp only [G, fzV] at *; subst g; rfl
  | .tup xs, v, g => by
    simp only [G, fzV] at *
    obtain ⟨ys, rfl, g⟩ := g
    exact ⟨_, rfl, Gs_fz g⟩
  | .lst u xs, v, g => by
    simp only [G, fzV] at *
    obtain ⟨ys, rfl, g⟩ := g
    exact ⟨_, rfl, Gs_fz g⟩
  | .any _ _, v, g => by simp only [G, fzV] at *; rw [cl_fz v (any_cl g)]; exact g
  | .cell, v, g => by simp only [G, fzV] at *; obtain ⟨b, rfl⟩ := g; exact ⟨b, rfl⟩
  | .cells _, v, g => by
    simp only [G, fzV] at *
    obtain ⟨u, ns, rfl, h⟩ := g
    refine ⟨false, ns, ?_, h⟩
    simp only [fz, fzs_map, List.map_map]
    congr 1
  | .scr, v, g => by simp only [G, fzV] at *; obtain ⟨b, rfl, h⟩ := g; exact ⟨b, rfl, h⟩
  | .pen, v, g => by
    simp only [G, fzV] at *
    obtain ⟨a, b, rfl, h⟩ := g
    exact ⟨[.int a, .int b], rfl, Gs_cons.mpr ⟨⟨a, rfl⟩, Gs_cons.mpr ⟨⟨b, rfl⟩, Gs_nil⟩⟩⟩
  | .kin k, v, g => by simp only [G, fzV] at *; rw [cl_fz v (kin_cl g)]; exact g
theorem Gs_fz {σ : Val} : ∀ {t : List SV} {v : List PV}, Gs σ t v → Gs σ (fzVs t) (fzs v)
  | [], v, g => by simp only [Gs] at g; subst g; exact Gs_nil
  | x :: xs, v, g => by
    simp only [Gs] at g
    obtain ⟨y, zs, rfl, h1, h2⟩ := g
    simp only [fzVs, fzs]
    exact Gs_cons.mpr ⟨G_fz h1, Gs_fz h2⟩
end
mutual
theorem clV_cl {σ : Val} : ∀ {t : SV} {v : PV}, clV t = true → G σ t v → cl v = true
  | .none, v, h, g => by simp only [G] at g; subst g; rfl
  | .bool b, v, h, g => by simp only [G] at g; subst g; rfl
  | .tf, v, h, g => by simp only [G] at g; obtain ⟨b, rfl⟩ := g; rfl
  | .int p, v, h, g => by simp only [G] at g; subst g; rfl
  | .str s, v, h, g => by simp only [G] at g; subst g; rfl
  | .tup xs, v, h, g => by
    simp only [G, clV] at *
    obtain ⟨ys, rfl, g⟩ := g
    simp only [cl]; exact clVs_cl h g
  | .lst u xs, v, h, g => by
    simp only [G, clV, Bool.and_eq_true] at *
    obtain ⟨ys, rfl, g⟩ := g
    simp only [cl, Bool.and_eq_true]; exact ⟨h.1, clVs_cl h.2 g⟩
  | .any _ _, v, h, g => by simp only [G] at g; exact any_cl g
  | .cell, v, h, g => by simp only [G] at g; obtain ⟨b, rfl⟩ := g; rfl
  | .cells _, v, h, g => by simp [clV] at h
  | .scr, v, h, g => by simp only [G] at g; obtain ⟨b, rfl, _⟩ := g; rfl
  | .pen, v, h, g => by simp [clV] at h
  | .kin k, v, h, g => by simp only [G] at g; exact kin_cl g
theorem clVs_cl {σ : Val} : ∀ {t : List SV} {v : List PV}, clVs t = true → Gs σ t v → cls v = true
  | [], v, h, g => by simp only [Gs] at g; subst g; rfl
  | x :: xs, v, h, g => by
    simp only [clVs, Bool.and_eq_true] at h
    simp only [Gs] at g
    obtain ⟨y, zs, rfl, h1, h2⟩ := g
    simp only [cls, Bool.and_eq_true]; exact ⟨clV_cl h.1 h1, clVs_cl h.2 h2⟩
end
mutual
theorem lfV_lf {σ : Val} : ∀ {t : SV} {v : PV}, lfV t = true → G σ t v → lf v = true
  | .none, v, h, g => by simp only [G] at g; subst g; rfl
  | .bool b, v, h, g => by simp only [G] at g; subst g; rfl
  | .tf, v, h, g => by simp only [G] at g; obtain ⟨b, rfl⟩ := g; rfl
  | .int p, v, h, g => by simp only [G] at g; subst g; rfl
  | .str s, v, h, g => by simp only [G] at g; subst g; rfl
  | .tup xs, v, h, g => by
    simp only [G, lfV] at *
    obtain ⟨ys, rfl, g⟩ := g
    simp only [lf]; exact lfVs_lf h g
  | .lst u xs, v, h, g => by simp [lfV] at h
  | .any _ _, v, h, g => by simp [lfV] at h
  | .cell, v, h, g => by simp only [G] at g; obtain ⟨b, rfl⟩ := g; rfl
  | .cells _, v, h, g => by simp [lfV] at h
  | .scr, v, h, g => by simp [lfV] at h
  | .pen, v, h, g => by simp [lfV] at h
  | .kin _, v, h, g => by simp [lfV] at h
theorem lfVs_lf {σ : Val} : ∀ {t : List SV} {v : List PV}, lfVs t = true → Gs σ t v → lfs v = true
  | [], v, h, g => by simp only [Gs] at g; subst g; rfl
  | x :: xs, v, h, g => by
    simp only [lfVs, Bool.and_eq_true] at h
    simp only [Gs] at g
    obtain ⟨y, zs, rfl, h1, h2⟩ := g
    simp only [lfs, Bool.and_eq_true]; exact ⟨lfV_lf h.1 h1, lfVs_lf h.2 h2⟩
end
mutual
theorem nfV_nf {σ : Val} : ∀ {t : SV} {v : PV}, nfV t = true → G σ t v → nfz v = true
  | .none, v, h, g => by simp only [G] at g; subst g; rfl
  | .bool b, v, h, g => by simp only [G] at g; subst g; rfl
  | .tf, v, h, g => by simp only [G] at g; obtain ⟨b, rfl⟩ := g; rfl
  | .int p, v, h, g => by simp only [G] at g; subst g; rfl
  | .str s, v, h, g => by simp only [G] at g; subst g; rfl
  | .tup xs, v, h, g => by
    simp only [G, nfV] at *
    obtain ⟨ys, rfl, g⟩ := g
    simp only [nfz]; exact nfVs_nf h g
  | .lst u xs, v, h, g => by
    simp only [G, nfV, Bool.and_eq_true] at *
    obtain ⟨ys, rfl, g⟩ := g
    simp only [nfz, Bool.and_eq_true]; exact ⟨h.1, nfVs_nf h.2 g⟩
  | .any _ _, v, h, g => by simp [nfV] at h
  | .cell, v, h, g => by simp only [G] at g; obtain ⟨b, rfl⟩ := g; rfl
  | .cells _, v, h, g => by simp [nfV] at h
  | .scr, v, h, g => by simp [nfV] at h
  | .pen, v, h, g => by simp only [G] at g; obtain ⟨a, b, rfl, _⟩ := g; rfl
  | .kin _, v, h, g => by simp [nfV] at h
theorem nfVs_nf {σ : Val} : ∀ {t : List SV} {v : List PV}, nfVs t = true → Gs σ t v → nfzs v = true
  | [], v, h, g => by simp only [Gs] at g; subst g; rfl
  | x :: xs, v, h, g => by
    simp only [nfVs, Bool.and_eq_true] at h
    simp only [Gs] at g
    obtain ⟨y, zs, rfl, h1, h2⟩ := g
    simp only [nfzs, Bool.and_eq_true]; exact ⟨nfV_nf h.1 h1, nfVs_nf h.2 h2⟩
end
end SX
end

section
set_option Elab.async false
set_option linter.all false
set_option maxRecDepth 100000
set_option maxHeartbeats 1000000
namespace SX
open PySem hiding Env
open LC
/-! ### states -/
inductive Cd where
  | le (p : Poly)
  | eq (p : Poly)
  | ne (p : Poly)
def Cd.den (σ : Val) : Cd → Bool
  | .le p => decide (pev σ p ≤ 0)
  | .eq p => decide (pev σ p = 0)
  | .ne p => decide (pev σ p ≠ 0)
def Cd.wf (n : Nat) : Cd → Bool
  | .le p => pwf n p
  | .eq p => pwf n p
  | .ne p => pwf n p
abbrev SEnv := List (Option SV)
structure St where
  n : Nat
  B : List Bd
  F : List Cd
  A : SEnv
def getA (A : SEnv) (i : Nat) : Option SV := (A[i]?).join
def AR (σ : Val) (A : SEnv) (ρ : Env) : Prop := A.length = ρ.length ∧ ∀ i t, getA A i = some t → ∃ v, getS ρ i = some v ∧ G σ t v
structure GB (σ : Val) (S : St) : Prop where
  b : BOk σ 0 S.B
  f : ∀ c ∈ S.F, c.den σ = true
structure GS (σ : Val) (S : St) (ρ : Env) : Prop extends GB σ S where
  a : AR σ S.A ρ
def wfO (n : Nat) : Option SV → Bool
  | some t => wfV n t
  | none => true
def wfA (n : Nat) (A : SEnv) : Bool := A.all (wfO n)
def keepA (n n' : Nat) (A : SEnv) : Bool := Nat.beq n n' || wfA n A
theorem getA_mem {A : SEnv} {i : Nat} {t : SV} (h : getA A i = some t) : some t ∈ A := by
  unfold getA at h
  cases e : A[i]? with
  | none => rw [e] at h; cases h
  | some o =>
    rw [e] at h
    simp only [Option.join_some] at h
    subst h
    exact List.mem_of_getElem? e
theorem AR_ext {n n' : Nat} {σ σ' : Val} (e : Ext n n' σ σ') {A : SEnv} {ρ : Env} (h : keepA n n' A = true) (g : AR σ A ρ) : AR σ' A ρ := by
  unfold keepA at h
  rw [Bool.or_eq_true] at h
  rcases h with h | h
  · rw [e.2.2 (Nat.eq_of_beq_eq_true h)]; exact g
  · refine ⟨g.1, fun i t ht => ?_⟩
    obtain ⟨v, hv, gv⟩ := g.2 i t ht
    exact ⟨v, hv, G_ext e (List.all_eq_true.mp h _ (getA_mem ht)) gv⟩
def wfF (n : Nat) (F : List Cd) : Bool := F.all (Cd.wf n)
theorem den_ext {n n' : Nat} {σ σ' : Val} (e : Ext n n' σ σ') {c : Cd} (h : c.wf n = true) : c.den σ' = c.den σ := by
  cases c <;> simp only [Cd.wf, Cd.den] at * <;> rw [pwf_ev e h]
/-- a new variable -/
def fresh (lo hi : Int) (S : St) : Option (Nat × St) :=
  if S.B.all (Bd.wf S.n) && wfF S.n S.F && wfA S.n S.A && decide (lo ≤ hi) && Nat.beq S.n S.B.length then some (S.n, { S with n := S.n + 1, B := S.B ++ [⟨lo, hi, none⟩] }) else none
def upd (σ : Val) (n : Nat) (x : Int) : Val := fun i => if i = n then x else σ i
theorem fresh_GB {σ : Val} {S S' : St} {lo hi : Int} {n : Nat} (h : fresh lo hi S = some (n, S')) {x : Int} (h1 : lo ≤ x) (h2 : x ≤ hi) (g : GB σ S) :
    ∃ σ', Ext S.n S'.n σ σ' ∧ GB σ' S' ∧ σ' n = x ∧ S'.A = S.A ∧ wfA S.n S.A = true := by
  unfold fresh at h
  split at h
  · rename_i hw
    simp only [Bool.and_eq_true] at hw
    cases h
    have hl : S.n = S.B.length := Nat.eq_of_beq_eq_true hw.2
    have e : Ext S.n (S.n + 1) σ (upd σ S.n x) := by
      refine ⟨by omega, fun i hi => ?_, fun q => by omega⟩
      unfold upd; rw [if_neg (by omega)]
    have hx : upd σ S.n x S.n = x := by simp [upd]
    refine ⟨_, e, ⟨?_, fun c hc => ?_⟩, hx, rfl, hw.1.1.2⟩
    · refine BOk_app (BOk_ext e hw.1.1.1.1 (by omega) g.b) ?_
      rw [Nat.zero_add, ← hl]
      refine ⟨?_, ?_, fun p hp => by cases hp⟩
      · show lo ≤ upd σ S.n x S.n
        rw [hx]; exact h1
      · show upd σ S.n x S.n ≤ hi
        rw [hx]; exact h2
    · rw [den_ext e (List.all_eq_true.mp hw.1.1.1.2 c hc)]; exact g.f c hc
  · cases h
/-! ### outcomes -/
inductive Out (α : Type) where
  | ok (a : α)
  | exn (c : Str) (fs : List SV)
abbrev M (α : Type) := Option (List (Out α × St))
def ret {α : Type} (a : α) (S : St) : M α := some [(.ok a, S)]
def bindL {α β : Type} (k : α → St → M β) : List (Out α × St) → M β
  | [] => some []
  | q :: L => (match q.1 with
    | .ok a => (match L with
      | [] => k a q.2
      | _ :: _ => (match k a q.2 with
        | some x => (match bindL k L with
          | some y => some (x ++ y)
          | none => none)
        | none => none))
    | .exn c fs => (match bindL k L with
      | some y => some ((.exn c fs, q.2) :: y)
      | none => none))
def bindM {α β : Type} (m : M α) (k : α → St → M β) : M β := match m with
  | some L => bindL k L
  | none => none
def Good {α β : Type} (g : Val → β → α → Prop) (n : Nat) (σ : Val) (R : Res α) (q : Out β × St) : Prop :=
  ∃ σ', Ext n q.2.n σ σ' ∧ (match q.1 with
    | .ok b => ∃ a ρ, R = .ok a ρ ∧ g σ' b a ∧ GS σ' q.2 ρ
    | .exn c fs => ∃ fs' ρ, R = .exn c fs' ρ ∧ Gs σ' fs fs' ∧ GS σ' q.2 ρ)
def Hd {α β : Type} (g : Val → β → α → Prop) (n : Nat) (σ : Val) (R : Res α) (L : List (Out β × St)) : Prop := ∃ q ∈ L, Good g n σ R q
theorem Hd.of_ret {α β : Type} {g : Val → β → α → Prop} {σ : Val} {b : β} {S : St} {a : α} {ρ : Env} {L : List (Out β × St)} (h : ret b S = some L) (h1 : g σ b a) (h2 : GS σ S ρ) : Hd g S.n σ (.ok a ρ) L := by
  cases h
  exact ⟨_, List.mem_singleton.mpr rfl, σ, Ext.refl _ _, a, ρ, rfl, h1, h2⟩
theorem bindL_mem {α β : Type} {k : α → St → M β} : ∀ {L : List (Out α × St)} {L' : List (Out β × St)}, bindL k L = some L' → ∀ q ∈ L, (match q.1 with
    | .ok a => ∃ x, k a q.2 = some x ∧ ∀ y ∈ x, y ∈ L'
    | .exn c fs => (.exn c fs, q.2) ∈ L')
  | [], _, _, q, hq => by simp at hq
  | p :: L, L', h, q, hq => by
    simp only [bindL] at h
    cases hp : p.1 with
    | ok a =>
      simp only [hp] at h
      have h : (match k a p.2 with
        | some x => (match bindL k L with
          | some y => some (x ++ y)
          | none => none)
        | none => none) = some L' := by
        cases L with
        | nil =>
          simp only at h
          rw [h]
          simp [bindL]
        | cons _ _ => exact h
      cases hk : k a p.2 with
      | none => simp only [hk] at h; cases h
      | some x =>
        simp only [hk] at h
        cases hb : bindL k L with
        | none => simp only [hb] at h; cases h
        | some y =>
          simp only [hb] at h
          cases h
          rcases List.mem_cons.mp hq with e | e
          · subst e
            simp only [hp]
            exact ⟨x, hk, fun z hz => List.mem_append_left _ hz⟩
          · have := bindL_mem hb q e
            cases hq1 : q.1 with
            | ok a' =>
              simp only [hq1] at this ⊢
              obtain ⟨x', h1, h2⟩ := this
              exact ⟨x', h1, fun z hz => List.mem_append_right _ (h2 z hz)⟩
            | exn c fs =>
              simp only [hq1] at this ⊢
              exact List.mem_append_right _ this
    | exn c fs =>
      simp only [hp] at h
      cases hb : bindL k L with
      | none => simp only [hb] at h; cases h
      | some y =>
        simp only [hb] at h
        cases h
        rcases List.mem_cons.mp hq with e | e
        · subst e
          simp only [hp]
          exact List.mem_cons_self
        · have := bindL_mem hb q e
          cases hq1 : q.1 with
          | ok a' =>
            simp only [hq1] at this ⊢
            obtain ⟨x', h1, h2⟩ := this
            exact ⟨x', h1, fun z hz => List.mem_cons_of_mem _ (h2 z hz)⟩
          | exn c' fs' =>
            simp only [hq1] at this ⊢
            exact List.mem_cons_of_mem _ this
theorem Good.of_ext {α β : Type} {g : Val → β → α → Prop} {n n' : Nat} {σ σ' : Val} {R : Res α} {q : Out β × St} (e : Ext n n' σ σ') (h : Good g n' σ' R q) : Good g n σ R q := by
  obtain ⟨σ'', e', h'⟩ := h
  exact ⟨σ'', e.trans e', h'⟩
theorem Hd.bind {α β γ δ : Type} {g : Val → β → α → Prop} {g' : Val → δ → γ → Prop} {n : Nat} {σ : Val} {R : Res α} {f : α → Env → Res γ} {m : M β} {k : β → St → M δ} {L' : List (Out δ × St)} (h : bindM m k = some L')
    (h1 : ∀ L, m = some L → Hd g n σ R L)
    (h2 : ∀ b S σ' a ρ L1, k b S = some L1 → Ext n S.n σ σ' → g σ' b a → GS σ' S ρ → Hd g' S.n σ' (f a ρ) L1) : Hd g' n σ (R.bind f) L' := by
  unfold bindM at h
  split at h
  · rename_i L
    obtain ⟨q, hq, σ', e, hg⟩ := h1 L rfl
    have hm := bindL_mem h q hq
    cases hq1 : q.1 with
    | ok b =>
      simp only [hq1] at hm hg
      obtain ⟨x, hk, hx⟩ := hm
      obtain ⟨a, ρ, rfl, ga, gs⟩ := hg
      obtain ⟨q', hq', good⟩ := h2 b q.2 σ' a ρ x hk e ga gs
      exact ⟨q', hx q' hq', good.of_ext e⟩
    | exn c fs =>
      simp only [hq1] at hm hg
      obtain ⟨fs', ρ, rfl, ga, gs⟩ := hg
      exact ⟨_, hm, σ', e, fs', ρ, rfl, ga, gs⟩
  · cases h
theorem Hd.imp {α β : Type} {g g' : Val → β → α → Prop} {n : Nat} {σ : Val} {R : Res α} {L : List (Out β × St)} (h : Hd g n σ R L) (i : ∀ σ b a, g σ b a → g' σ b a) : Hd g' n σ R L := by
  obtain ⟨q, hq, σ', e, hg⟩ := h
  refine ⟨q, hq, σ', e, ?_⟩
  cases hq1 : q.1 with
  | ok b =>
    simp only [hq1] at hg ⊢
    obtain ⟨a, ρ, r, ga, gs⟩ := hg
    exact ⟨a, ρ, r, i _ _ _ ga, gs⟩
  | exn c fs => simp only [hq1] at hg ⊢; exact hg
theorem Hd.of_ext {α β : Type} {g : Val → β → α → Prop} {n n' : Nat} {σ σ' : Val} {R : Res α} {L : List (Out β × St)} (e : Ext n n' σ σ') (h : Hd g n' σ' R L) : Hd g n σ R L := by
  obtain ⟨q, hq, h⟩ := h
  exact ⟨q, hq, h.of_ext e⟩
end SX
end

section
set_option Elab.async false
set_option linter.all false
set_option maxRecDepth 100000
set_option maxHeartbeats 1000000
namespace SX
open PySem hiding Env
open LC
/-! ### what is known of a number -/
structure Kn where
  lo : Option Int
  hi : Option Int
  nz : Bool
def Kn.ok (k : Kn) (i : Int) : Prop := (∀ a, k.lo = some a → a ≤ i) ∧ (∀ a, k.hi = some a → i ≤ a) ∧ (k.nz = true → i ≠ 0)
def kmx : Option Int → Option Int → Option Int
  | some a, some b => some (if a ≤ b then b else a)
  | some a, none => some a
  | none, b => b
def kmn : Option Int → Option Int → Option Int
  | some a, some b => some (if a ≤ b then a else b)
  | some a, none => some a
  | none, b => b
def Kn.and (k l : Kn) : Kn := ⟨kmx k.lo l.lo, kmn k.hi l.hi, k.nz || l.nz⟩
theorem Kn.and_ok {k l : Kn} {i : Int} (h : k.ok i) (h' : l.ok i) : (k.and l).ok i := by
  obtain ⟨a1, a2, a3⟩ := h
  obtain ⟨b1, b2, b3⟩ := h'
  refine ⟨fun a ha => ?_, fun a ha => ?_, fun hz => ?_⟩
  · simp only [Kn.and] at ha
    cases e : k.lo <;> cases e' : l.lo <;> rw [e, e'] at ha <;> simp only [kmx, Option.some.injEq] at ha
    · cases ha
    · subst ha; exact b1 _ e'
    · subst ha; exact a1 _ e
    · subst ha
      split
      · exact b1 _ e'
      · exact a1 _ e
  · simp only [Kn.and] at ha
    cases e : k.hi <;> cases e' : l.hi <;> rw [e, e'] at ha <;> simp only [kmn, Option.some.injEq] at ha
    · cases ha
    · subst ha; exact b2 _ e'
    · subst ha; exact a2 _ e
    · subst ha
      split
      · exact a2 _ e
      · exact b2 _ e'
  · simp only [Kn.and, Bool.or_eq_true] at hz
    rcases hz with z | z
    · exact a3 z
    · exact b3 z
def kn0 : Kn := ⟨none, none, false⟩
theorem kn0_ok (i : Int) : kn0.ok i := ⟨fun _ h => (nomatch h), fun _ h => (nomatch h), fun h => (nomatch h)⟩
def knF (B : List Bd) (p : Poly) : Cd → Kn
  | .le q => let q := pred B q; ⟨pk (padd p q), pk (psub p q), false⟩
  | .eq q => let q := pred B q; (match pk (psub p q) with
    | some d => ⟨some d, some d, false⟩
    | none => ⟨pk (padd p q), pk (padd p q), false⟩)
  | .ne q => let q := pred B q; ⟨none, none, (match pk (psub p q) with
    | some d => decide (d = 0)
    | none => (match pk (padd p q) with
      | some d => decide (d = 0)
      | none => false))⟩
theorem knF_ok {σ : Val} {B : List Bd} (hb : BOk σ 0 B) {p : Poly} {c : Cd} (hc : c.den σ = true) : (knF B p c).ok (pev σ p) := by
  cases c with
  | le q =>
    simp only [Cd.den, decide_eq_true_eq] at hc
    have e := pred_ev hb q
    refine ⟨fun a ha => ?_, fun a ha => ?_, fun h => by cases h⟩
    · have := pk_ev (σ := σ) ha
      rw [padd_ev, e] at this; omega
    · have := pk_ev (σ := σ) ha
      rw [psub_ev, e] at this; omega
  | eq q =>
    simp only [Cd.den, decide_eq_true_eq] at hc
    have e := pred_ev hb q
    simp only [knF]
    split
    · rename_i d hd
      have := pk_ev (σ := σ) hd
      rw [psub_ev, e] at this
      refine ⟨fun a ha => ?_, fun a ha => ?_, fun h => by cases h⟩ <;> (simp only [Option.some.injEq] at ha; omega)
    · refine ⟨fun a ha => ?_, fun a ha => ?_, fun h => by cases h⟩ <;> (have := pk_ev (σ := σ) ha; rw [padd_ev, e] at this; omega)
  | ne q =>
    simp only [Cd.den, decide_eq_true_eq] at hc
    have e := pred_ev hb q
    refine ⟨fun a ha => (nomatch ha), fun a ha => (nomatch ha), fun h => ?_⟩
    simp only [knF] at h
    split at h
    · rename_i d hd
      have := pk_ev (σ := σ) hd
      rw [psub_ev, e] at this
      simp only [decide_eq_true_eq] at h
      omega
    · split at h
      · rename_i d hd
        have := pk_ev (σ := σ) hd
        rw [padd_ev, e] at this
        simp only [decide_eq_true_eq] at h
        omega
      · cases h
def knFs (B : List Bd) (p : Poly) : List Cd → Kn
  | [] => kn0
  | c :: F => (knF B p c).and (knFs B p F)
theorem knFs_ok {σ : Val} {B : List Bd} (hb : BOk σ 0 B) {p : Poly} : ∀ {F : List Cd}, (∀ c ∈ F, c.den σ = true) → (knFs B p F).ok (pev σ p)
  | [], _ => kn0_ok _
  | c :: F, h => Kn.and_ok (knF_ok hb (h c (by simp))) (knFs_ok hb fun d hd => h d (by simp [hd]))
def know (S : St) (p : Poly) : Kn := (match prng S.B p with
  | some r => ⟨some r.1, some r.2, false⟩
  | none => kn0)
theorem know_ok {σ : Val} {S : St} (g : GB σ S) (p : Poly) : (know S p).ok (pev σ p) := by
  unfold know
  split
  · rename_i r hr
    have := prng_ev g.b hr
    exact ⟨fun a ha => by simp only [Option.some.injEq] at ha; omega, fun a ha => by simp only [Option.some.injEq] at ha; omega, fun h => by cases h⟩
  · exact kn0_ok _
def Cd.poly : Cd → Poly
  | .le p => p
  | .eq p => p
  | .ne p => p
def Cd.with (p : Poly) : Cd → Cd
  | .le _ => .le p
  | .eq _ => .eq p
  | .ne _ => .ne p
theorem with_den {σ : Val} {c : Cd} {p : Poly} (h : pev σ p = pev σ c.poly) : (c.with p).den σ = c.den σ := by
  cases c <;> simp only [Cd.with, Cd.den, Cd.poly] at * <;> rw [h]
def isZ : Option Int → Bool
  | some a => decide (a = 0)
  | none => false
def isPos : Option Int → Bool
  | some a => decide (0 < a)
  | none => false
def isNeg : Option Int → Bool
  | some a => decide (a < 0)
  | none => false
def isNp : Option Int → Bool
  | some a => decide (a ≤ 0)
  | none => false
def decEq0 (k : Kn) : Option Bool := if isZ k.lo && isZ k.hi then some true else if isPos k.lo || isNeg k.hi || k.nz then some false else none
def decC (k : Kn) : Cd → Option Bool
  | .le _ => if isNp k.hi then some true else if isPos k.lo then some false else none
  | .eq _ => decEq0 k
  | .ne _ => (decEq0 k).map not
theorem decEq0_ok {k : Kn} {i : Int} (h : k.ok i) {b : Bool} (e : decEq0 k = some b) : decide (i = 0) = b := by
  obtain ⟨h1, h2, h3⟩ := h
  unfold decEq0 at e
  split at e
  · rename_i hz
    cases e
    simp only [Bool.and_eq_true] at hz
    obtain ⟨z1, z2⟩ := hz
    unfold isZ at z1 z2
    split at z1
    · rename_i a ha
      split at z2
      · rename_i a' ha'
        have := h1 _ ha
        have := h2 _ ha'
        simp only [decide_eq_true_eq] at z1 z2 ⊢
        omega
      · cases z2
    · cases z1
  · split at e
    · rename_i hz
      cases e
      simp only [Bool.or_eq_true] at hz
      simp only [decide_eq_false_iff_not]
      rcases hz with (z | z) | z
      · unfold isPos at z
        split at z
        · rename_i a ha; have := h1 _ ha; simp only [decide_eq_true_eq] at z; omega
        · cases z
      · unfold isNeg at z
        split at z
        · rename_i a ha; have := h2 _ ha; simp only [decide_eq_true_eq] at z; omega
        · cases z
      · exact h3 z
    · cases e
theorem decC_ok {k : Kn} {σ : Val} {c : Cd} (h : k.ok (pev σ c.poly)) {b : Bool} (e : decC k c = some b) : c.den σ = b := by
  cases c with
  | le p =>
    obtain ⟨h1, h2, h3⟩ := h
    simp only [Cd.poly] at h1 h2
    simp only [decC] at e
    simp only [Cd.den]
    split at e
    · rename_i z
      cases e
      unfold isNp at z
      split at z
      · rename_i a ha; have := h2 _ ha; simp only [decide_eq_true_eq] at z ⊢; omega
      · cases z
    · split at e
      · rename_i z
        cases e
        unfold isPos at z
        split at z
        · rename_i a ha; have := h1 _ ha; simp only [decide_eq_true_eq, decide_eq_false_iff_not] at z ⊢; omega
        · cases z
      · cases e
  | eq p => exact decEq0_ok h e
  | ne p =>
    simp only [decC] at e
    cases q : decEq0 k with
    | none => rw [q] at e; cases e
    | some b' =>
      rw [q] at e
      simp only [Option.map_some, Option.some.injEq] at e
      have := decEq0_ok h q
      simp only [Cd.poly] at this
      simp only [Cd.den]
      rw [← e, ← this]
      by_cases z : pev σ p = 0 <;> simp [z]
/-! ### taking a thing as true -/
/-- a row x with the factor 1 or -1, x nowhere else -/
def solv : Poly → Poly → Option (Nat × Int)
  | _, [] => none
  | p, q :: r => (match q.1.2 with
    | [x] => if (decide (q.2 = 1) || decide (q.2 = -1)) && p.all (fun t => leq t.1.2 [x] || !t.1.2.contains x) then some (x, q.2) else solv p r
    | _ => solv p r)
theorem solv_c : ∀ {r p : Poly} {x : Nat} {c : Int}, solv p r = some (x, c) → c = 1 ∨ c = -1
  | [], _, _, _, h => by simp [solv] at h
  | q :: r, p, x, c, h => by
    simp only [solv] at h
    split at h
    · split at h
      · rename_i hq
        cases h
        simp only [Bool.and_eq_true, Bool.or_eq_true, decide_eq_true_eq] at hq
        exact hq.1
      · exact solv_c h
    · exact solv_c h
def addF (c : Cd) (S : St) : St := { S with F := c :: S.F }
theorem addF_GS {σ : Val} {S : St} {ρ : Env} {c : Cd} (g : GS σ S ρ) (h : c.den σ = true) : GS σ (addF c S) ρ :=
  ⟨⟨g.b, fun d hd => by
    rcases List.mem_cons.mp hd with e | e
    · rw [e]; exact h
    · exact g.f d e⟩, g.a⟩
/-- one variable with the factor 1 or -1 and a constant -/
def lin1 : Poly → Option (Nat × Int × Int)
  | [q] => (match q.1.2 with
    | [x] => some (x, q.2, 0)
    | _ => none)
  | [q, r] => (match q.1.2, r.1.2 with
    | [], [x] => some (x, r.2, q.2)
    | _, _ => none)
  | _ => none
theorem lin1_ev {σ : Val} {p : Poly} {x : Nat} {c k : Int} (h : lin1 p = some (x, c, k)) : pev σ p = c * σ x + k := by
  unfold lin1 at h
  split at h
  · rename_i q
    split at h
    · rename_i y hq; cases h; simp [pev, hq, mev, lev]
    · cases h
  · rename_i q r
    split at h
    · rename_i y hq hr; cases h; simp [pev, hq, hr, mev, lev]; omega
    · cases h
  · cases h
/-- p ≤ 0 -/
def asLe (p : Poly) (S : St) : St := match lin1 p with
  | some (x, c, k) => (match S.B[x]? with
    | some b => if c = 1 then { S with B := S.B.set x ⟨b.lo, if b.hi ≤ -k then b.hi else -k, b.al⟩ } else if c = -1 then { S with B := S.B.set x ⟨if b.lo ≤ k then k else b.lo, b.hi, b.al⟩ } else addF (.le p) S
    | none => addF (.le p) S)
  | none => addF (.le p) S
theorem asLe_n (p : Poly) (S : St) : (asLe p S).n = S.n := by
  unfold asLe
  split
  · split
    · split
      · rfl
      · split
        · rfl
        · rfl
    · rfl
  · rfl
theorem asLe_GS {σ : Val} {S : St} {ρ : Env} {p : Poly} (g : GS σ S ρ) (h : pev σ p ≤ 0) : GS σ (asLe p S) ρ := by
  have hf : GS σ (addF (.le p) S) ρ := addF_GS g (by simp [Cd.den, h])
  unfold asLe
  split
  · rename_i x c k hl
    have e := lin1_ev (σ := σ) hl
    split
    · rename_i b hb
      have hx := BOk_get g.b hb
      rw [Nat.zero_add] at hx
      obtain ⟨x1, x2, x3⟩ := hx
      split
      · rename_i hc
        subst hc
        refine ⟨⟨BOk_set g.b ?_, g.f⟩, g.a⟩
        rw [Nat.zero_add]
        refine ⟨x1, ?_, x3⟩
        simp only
        split <;> omega
      · split
        · rename_i hc
          subst hc
          refine ⟨⟨BOk_set g.b ?_, g.f⟩, g.a⟩
          rw [Nat.zero_add]
          refine ⟨?_, x2, x3⟩
          simp only
          split <;> omega
        · exact hf
    · exact hf
  · exact hf
/-- p = 0 -/
def asEq (p : Poly) (S : St) : St := match solv p p with
  | some (x, c) => (match S.B[x]? with
    | some b => (match b.al with
      | none =>
        let q := pmul (pcon (-c)) (psub p [(mvar x, c)])
        let S1 : St := { S with B := S.B.set x (match pk q with
          | some k => ⟨k, k, some q⟩
          | none => ⟨b.lo, b.hi, some q⟩) }
        (match lin1 q with
        | some _ => asLe (psub q (pcon b.hi)) (asLe (psub (pcon b.lo) q) S1)
        | none => S1)
      | some _ => addF (.eq p) S)
    | none => addF (.eq p) S)
  | none => addF (.eq p) S
theorem asEq_n (p : Poly) (S : St) : (asEq p S).n = S.n := by
  unfold asEq
  split
  · split
    · split
      · simp only
        split
        · rw [asLe_n, asLe_n]
        · rfl
      · rfl
    · rfl
  · rfl
theorem asEq_GS {σ : Val} {S : St} {ρ : Env} {p : Poly} (g : GS σ S ρ) (h : pev σ p = 0) : GS σ (asEq p S) ρ := by
  have hf : GS σ (addF (.eq p) S) ρ := addF_GS g (by simp [Cd.den, h])
  unfold asEq
  split
  · rename_i x c hs
    split
    · rename_i b hb
      split
      · have hx := BOk_get g.b hb
        rw [Nat.zero_add] at hx
        have hq : pev σ (pmul (pcon (-c)) (psub p [(mvar x, c)])) = σ x := by
          rw [pmul_ev, pcon_ev, psub_ev, h]
          simp only [pev, mev, mvar, lev]
          rcases solv_c hs with z | z <;> subst z <;> simp
        have g1 : GS σ { S with B := S.B.set x (match pk (pmul (pcon (-c)) (psub p [(mvar x, c)])) with
          | some k => ⟨k, k, some (pmul (pcon (-c)) (psub p [(mvar x, c)]))⟩
          | none => ⟨b.lo, b.hi, some (pmul (pcon (-c)) (psub p [(mvar x, c)]))⟩) } ρ := by
          refine ⟨⟨BOk_set g.b ?_, g.f⟩, g.a⟩
          rw [Nat.zero_add]
          split
          · rename_i k hk
            have := pk_ev (σ := σ) hk
            rw [hq] at this
            exact ⟨by simp only; omega, by simp only; omega, fun p' hp' => by cases hp'; exact hq.symm⟩
          · exact ⟨hx.1, hx.2.1, fun p' hp' => by cases hp'; exact hq.symm⟩
        simp only
        split
        · refine asLe_GS (asLe_GS g1 ?_) ?_
          · rw [psub_ev, pcon_ev, hq]; have := hx.1; omega
          · rw [psub_ev, pcon_ev, hq]; have := hx.2.1; omega
        · exact g1
      · exact hf
    · exact hf
  · exact hf
def assume (c : Cd) (b : Bool) (S : St) : St := match c, b with
  | .le p, true => asLe p S
  | .le p, false => asLe (psub (pcon 1) p) S
  | .eq p, true => asEq p S
  | .eq p, false => addF (.ne p) S
  | .ne p, true => addF (.ne p) S
  | .ne p, false => asEq p S
theorem assume_n (c : Cd) (b : Bool) (S : St) : (assume c b S).n = S.n := by
  cases c <;> cases b <;> simp only [assume, asLe_n, asEq_n] <;> rfl
theorem assume_GS {σ : Val} {S : St} {ρ : Env} {c : Cd} {b : Bool} (g : GS σ S ρ) (h : c.den σ = b) : GS σ (assume c b S) ρ := by
  cases c <;> cases b <;> simp only [assume, Cd.den, decide_eq_true_eq, decide_eq_false_iff_not, Classical.not_not] at *
  · exact asLe_GS g (by rw [psub_ev, pcon_ev]; omega)
  · exact asLe_GS g h
  · exact addF_GS g (by simp [Cd.den, h])
  · exact asEq_GS g h
  · exact asEq_GS g h
  · exact addF_GS g (by simp [Cd.den, h])
def branch (c : Cd) (S : St) : M Bool :=
  let c := c.with (pred S.B c.poly)
  match decC (know S c.poly) c with
  | some b => ret b S
  | none => (match decC ((know S c.poly).and (knFs S.B c.poly S.F)) c with
    | some b => ret b S
    | none => some [(.ok true, assume c true S), (.ok false, assume c false S)])
theorem branch_ok {σ : Val} {S : St} {ρ : Env} {c : Cd} {L : List (Out Bool × St)} (h : branch c S = some L) (g : GS σ S ρ) : Hd (fun _ b a => b = a) S.n σ (.ok (c.den σ) ρ) L := by
  unfold branch at h
  have e : (c.with (pred S.B c.poly)).den σ = c.den σ := with_den (pred_ev g.b _)
  simp only at h
  rw [← e]
  generalize c.with (pred S.B c.poly) = c' at h
  split at h
  · rename_i b hb
    exact Hd.of_ret h (decC_ok (know_ok g.toGB _) hb).symm g
  · split at h
    · rename_i b hb
      exact Hd.of_ret h (decC_ok (Kn.and_ok (know_ok g.toGB _) (knFs_ok g.b g.f)) hb).symm g
    · cases h
      cases hb : c'.den σ with
      | true => exact ⟨_, List.mem_cons_self, σ, by rw [show (Prod.snd (Out.ok true, assume c' true S)).n = S.n from assume_n _ _ _]; exact Ext.refl _ _, true, ρ, rfl, rfl, assume_GS g hb⟩
      | false => exact ⟨_, List.mem_cons_of_mem _ List.mem_cons_self, σ, by rw [show (Prod.snd (Out.ok false, assume c' false S)).n = S.n from assume_n _ _ _]; exact Ext.refl _ _, false, ρ, rfl, rfl, assume_GS g hb⟩
/-! ### a number, one by one -/
def setX (x : Nat) (c : Int) (S : St) : St := { S with B := S.B.set x ⟨c, c, some (pcon c)⟩ }
def deadC (B : List Bd) (c : Cd) : Bool := match pk (pred B c.poly), c with
  | some d, .le _ => decide (0 < d)
  | some d, .eq _ => decide (d ≠ 0)
  | some d, .ne _ => decide (d = 0)
  | none, _ => false
def dead (S : St) : Bool := S.F.any (deadC S.B)
theorem dead_no {σ : Val} {S : St} (g : GB σ S) : dead S = false := by
  cases h : dead S with
  | false => rfl
  | true =>
    unfold dead at h
    obtain ⟨c, hc, hd⟩ := List.any_eq_true.mp h
    have h1 := g.f c hc
    unfold deadC at hd
    split at hd
    · rename_i d p hk; have := pk_ev (σ := σ) hk; rw [pred_ev g.b] at this; simp only [Cd.poly] at this; simp only [Cd.den, decide_eq_true_eq] at *; omega
    · rename_i d p hk; have := pk_ev (σ := σ) hk; rw [pred_ev g.b] at this; simp only [Cd.poly] at this; simp only [Cd.den, decide_eq_true_eq] at *; omega
    · rename_i d p hk; have := pk_ev (σ := σ) hk; rw [pred_ev g.b] at this; simp only [Cd.poly] at this; simp only [Cd.den, decide_eq_true_eq] at *; omega
    · cases hd
/-- x one by one from c on, k of them -/
def each {α : Type} (f : St → M α) (x : Nat) (S : St) : Nat → Int → M α
  | 0, _ => some []
  | k + 1, c => (let S' := setX x c S
    if dead S' then each f x S k (c + 1) else match f S' with
    | some a => (match each f x S k (c + 1) with
      | some b => some (a ++ b)
      | none => none)
    | none => none)
theorem each_ok {α β : Type} {g : Val → β → α → Prop} {f : St → M β} {x : Nat} {S : St} {σ : Val} {ρ : Env} {R : Res α} {b : Bd} (hb : S.B[x]? = some b) (gs : GS σ S ρ) (hf : ∀ c L, f (setX x c S) = some L → GS σ (setX x c S) ρ → Hd g (setX x c S).n σ R L) :
    ∀ (k : Nat) (c : Int) (L : List (Out β × St)), each f x S k c = some L → c ≤ σ x → σ x < c + k → Hd g S.n σ R L
  | 0, c, L, _, h1, h2 => by omega
  | k + 1, c, L, h, h1, h2 => by
    simp only [each] at h
    have hn : (setX x c S).n = S.n := rfl
    by_cases hx : σ x = c
    · have g' : GS σ (setX x c S) ρ := ⟨⟨BOk_set gs.b (by
        rw [Nat.zero_add]
        exact ⟨by simp only; omega, by simp only; omega, fun p hp => by cases hp; rw [pcon_ev]; exact hx⟩), gs.f⟩, gs.a⟩
      rw [dead_no g'.toGB] at h
      simp only [Bool.false_eq_true, if_false] at h
      cases ha : f (setX x c S) with
      | none => rw [ha] at h; cases h
      | some a =>
        rw [ha] at h
        simp only at h
        cases he : each f x S k (c + 1) with
        | none => rw [he] at h; cases h
        | some b =>
          rw [he] at h
          cases h
          obtain ⟨q, hq, z⟩ := hf c a ha g'
          rw [hn] at z
          exact ⟨q, List.mem_append_left _ hq, z⟩
    · split at h
      · exact each_ok hb gs hf k (c + 1) L h (by omega) (by omega)
      · split at h
        · rename_i a ha
          split at h
          · rename_i b' he
            cases h
            obtain ⟨q, hq, z⟩ := each_ok hb gs hf k (c + 1) b' he (by omega) (by omega)
            exact ⟨q, List.mem_append_right _ hq, z⟩
          · cases h
        · cases h
def firstX : Poly → Option Nat
  | [] => none
  | q :: p => (match q.1.2 with
    | x :: _ => some x
    | [] => firstX p)
def conc : Nat → Poly → St → M Int
  | 0, _, _ => none
  | n + 1, p, S => (let p := pred S.B p
    match pk p with
    | some c => ret c S
    | none => (match firstX p with
      | some x => (match S.B[x]? with
        | some b => if b.hi - b.lo ≤ 200 then each (conc n p) x S (b.hi - b.lo + 1).toNat b.lo else none
        | none => none)
      | none => none))
theorem conc_ok : ∀ {n : Nat} {σ : Val} {S : St} {ρ : Env} {p : Poly} {L : List (Out Int × St)}, conc n p S = some L → GS σ S ρ → Hd (fun _ b a => b = a) S.n σ (.ok (pev σ p) ρ) L
  | 0, _, _, _, _, _, h, _ => by simp [conc] at h
  | n + 1, σ, S, ρ, p, L, h, g => by
    simp only [conc] at h
    rw [← pred_ev g.b p]
    generalize pred S.B p = p at h
    split at h
    · rename_i c hc
      exact Hd.of_ret h (pk_ev hc).symm g
    · split at h
      · rename_i x hx
        split at h
        · rename_i b hb
          split at h
          · have hxb := BOk_get g.b hb
            rw [Nat.zero_add] at hxb
            obtain ⟨x1, x2, _⟩ := hxb
            exact each_ok hb g (fun c L hL g' => conc_ok hL g') _ _ _ h x1 (by omega)
          · cases h
        · cases h
      · cases h
end SX
end

section
set_option Elab.async false
set_option linter.all false
set_option maxRecDepth 100000
set_option maxHeartbeats 1000000
namespace SX
open PySem hiding Env
open LC
/-! ### operations -/
structure Cfg where
  lim : Nat
  join : Bool
  loose : Bool := false
theorem Hd.fresh {α : Type} {σ : Val} {S S' : St} {ρ : Env} {lo hi : Int} {n : Nat} {β : Type} {g : Val → β → α → Prop} (h : fresh lo hi S = some (n, S')) {x : Int} (h1 : lo ≤ x) (h2 : x ≤ hi) (gs : GS σ S ρ) {b : β} {a : α} {L : List (Out β × St)} (hL : ret b S' = some L) (hg : ∀ σ', Ext S.n S'.n σ σ' → σ' n = x → g σ' b a) : Hd g S.n σ (.ok a ρ) L := by
  obtain ⟨σ', e, gb, hx, ha, hw⟩ := fresh_GB h h1 h2 gs.toGB
  cases hL
  refine ⟨_, List.mem_singleton.mpr rfl, σ', e, a, ρ, rfl, hg σ' e hx, ⟨gb, ?_⟩⟩
  show AR σ' S'.A ρ
  rw [ha]
  exact AR_ext e (by unfold keepA; rw [hw, Bool.or_true]) gs.a
/-- a new number with these bounds -/
def newI (lo hi : Int) (S : St) : M SV := match fresh lo hi S with
  | some (n, S') => ret (.int (pvar n)) S'
  | none => none
theorem newI_ok {σ : Val} {S : St} {ρ : Env} {lo hi i : Int} {L : List (Out SV × St)} (h : newI lo hi S = some L) (h1 : lo ≤ i) (h2 : i ≤ hi) (g : GS σ S ρ) : Hd G S.n σ (.ok (.int i) ρ) L := by
  unfold newI at h
  split at h
  · rename_i n S' hf
    exact Hd.fresh hf h1 h2 g h fun σ' _ hx => by simp only [G]; rw [pvar_ev, hx]
  · cases h
def mkInt (cfg : Cfg) (p : Poly) (S : St) : M SV :=
  let p := pred S.B p
  if p.length ≤ cfg.lim then ret (.int p) S else match pk p with
  | some _ => ret (.int p) S
  | none => (match prng S.B p with
    | some r => newI r.1 r.2 S
    | none => none)
theorem mkInt_ok {cfg : Cfg} {σ : Val} {S : St} {ρ : Env} {p : Poly} {L : List (Out SV × St)} (h : mkInt cfg p S = some L) (g : GS σ S ρ) : Hd G S.n σ (.ok (.int (pev σ p)) ρ) L := by
  unfold mkInt at h
  simp only at h
  rw [← pred_ev g.b p]
  generalize pred S.B p = p at h
  split at h
  · exact Hd.of_ret h (by simp only [G]) g
  · split at h
    · exact Hd.of_ret h (by simp only [G]) g
    · split at h
      · rename_i r hr
        have := prng_ev g.b hr
        exact newI_ok h this.1 this.2 g
      · cases h
def MB : Nat := 2 ^ 2000
def smallP (S : St) (p : Poly) : Bool := match prng S.B p with
  | some r => decide (r.1.natAbs ≤ MB) && decide (r.2.natAbs ≤ MB)
  | none => false
theorem MB_BIG : MB < BIG := by
  unfold MB BIG
  exact Nat.pow_lt_pow_right (by decide) (by decide)
theorem smallP_ok {σ : Val} {S : St} {p : Poly} (h : smallP S p = true) (g : GB σ S) : (pev σ p).natAbs < BIG := by
  unfold smallP at h
  split at h
  · rename_i r hr
    have := prng_ev g.b hr
    simp only [Bool.and_eq_true, decide_eq_true_eq] at h
    have := MB_BIG
    omega
  · cases h
def rep {α : Type} (xs : List α) : Nat → List α
  | 0 => []
  | k + 1 => xs ++ rep xs k
theorem rep_eq {α : Type} (xs : List α) : ∀ k, rep xs k = (List.replicate k xs).flatten
  | 0 => rfl
  | k + 1 => by rw [rep, rep_eq xs k, List.replicate_succ, List.flatten_cons]
theorem Gs_rep {σ : Val} {xs : List SV} {ys : List PV} (h : Gs σ xs ys) : ∀ k, Gs σ (rep xs k) (rep ys k)
  | 0 => Gs_nil
  | k + 1 => Gs_app h (Gs_rep h k)
def aAdd (cfg : Cfg) (x y : SV) (S : St) : M SV := match x, y with
  | .int p, .int q => mkInt cfg (padd p q) S
  | .str a, .str b => if a.length + b.length ≤ SL then ret (.str (a ++ b)) S else none
  | .tup xs, .tup ys => if xs.length + ys.length ≤ SL then ret (.tup (xs ++ ys)) S else none
  | .lst _ xs, .lst _ ys => if xs.length + ys.length ≤ SL then ret (.lst true (xs ++ ys)) S else none
  | .lst _ [.cell], .cells m => if m ≤ 1000 then ret (.cells (m + 1)) S else none
  | _, _ => none
theorem aAdd_ok {cfg : Cfg} {σ : Val} {S : St} {ρ : Env} {x y : SV} {v w : PV} {L : List (Out SV × St)} (h : aAdd cfg x y S = some L) (gx : G σ x v) (gy : G σ y w) (g : GS σ S ρ) : Hd G S.n σ (Res.of (addV v w) ρ) L := by
  unfold aAdd at h
  split at h
  · simp only [G] at gx gy; subst gx; subst gy
    have := mkInt_ok h g
    rw [padd_ev] at this
    exact this
  · simp only [G] at gx gy; subst gx; subst gy
    split at h
    · rename_i hl
      simp only [addV, if_pos hl, Res.of_some]
      exact Hd.of_ret h (by simp only [G]) g
    · cases h
  · simp only [G] at gx gy
    obtain ⟨vs, rfl, gx⟩ := gx
    obtain ⟨ws, rfl, gy⟩ := gy
    split at h
    · rename_i hl
      rw [← Gs_len gx, ← Gs_len gy] at hl
      simp only [addV, if_pos hl, Res.of_some]
      exact Hd.of_ret h (by simp only [G]; exact ⟨_, rfl, Gs_app gx gy⟩) g
    · cases h
  · simp only [G] at gx gy
    obtain ⟨vs, rfl, gx⟩ := gx
    obtain ⟨ws, rfl, gy⟩ := gy
    split at h
    · rename_i hl
      rw [← Gs_len gx, ← Gs_len gy] at hl
      simp only [addV, if_pos hl, Res.of_some]
      exact Hd.of_ret h (by simp only [G]; exact ⟨_, rfl, Gs_app gx gy⟩) g
    · cases h
  · simp only [G] at gx gy
    obtain ⟨vs, rfl, gx⟩ := gx
    obtain ⟨u, ns, rfl, hm⟩ := gy
    simp only [Gs, G] at gx
    obtain ⟨_, _, rfl, ⟨i, rfl⟩, rfl⟩ := gx
    split at h
    · rename_i hl
      have : [PV.int i].length + (ns.map PV.int).length ≤ SL := by simp [SL]; omega
      simp only [addV, if_pos this, Res.of_some]
      exact Hd.of_ret h (by simp only [G]; exact ⟨true, i :: ns, rfl, by simp; omega⟩) g
    · cases h
  · cases h
def aMul (cfg : Cfg) (x y : SV) (S : St) : M SV := match x, y with
  | .int p, .int q => if smallP S p && smallP S q then mkInt cfg (pmul p q) S else none
  | .lst _ xs, .int p => bindM (conc 3 p S) fun k S1 => if xs.length * k.toNat ≤ SL ∧ k < 1000000000 ∧ -1000000000 < k ∧ lfVs xs = true ∧ keeps S.n S1.n xs = true then ret (.lst true (rep xs k.toNat)) S1 else none
  | .tup xs, .int p => bindM (conc 3 p S) fun k S1 => if xs.length ≤ 1000 ∧ k ≤ 1000 ∧ 1 ≤ k ∧ xs ≠ [] ∧ lfVs xs = true ∧ keeps S.n S1.n xs = true then ret (.tup (rep xs k.toNat)) S1 else none
  | _, _ => none
instance (xs : List SV) : Decidable (xs ≠ []) := match xs with
  | [] => .isFalse (by simp)
  | _ :: _ => .isTrue (by simp)
theorem Gs_ne {σ : Val} {xs : List SV} {ys : List PV} (h : Gs σ xs ys) (n : xs ≠ []) : ys ≠ [] := by
  intro e; subst e
  cases xs with
  | nil => exact n rfl
  | cons x xs => simp [Gs] at h
theorem aMul_ok {cfg : Cfg} {σ : Val} {S : St} {ρ : Env} {x y : SV} {v w : PV} {L : List (Out SV × St)} (h : aMul cfg x y S = some L) (gx : G σ x v) (gy : G σ y w) (g : GS σ S ρ) : Hd G S.n σ (Res.of (mulV v w) ρ) L := by
  unfold aMul at h
  split at h
  · simp only [G] at gx gy; subst gx; subst gy
    split at h
    · rename_i hs
      simp only [Bool.and_eq_true] at hs
      have e1 := smallP_ok hs.1 g.toGB
      have e2 := smallP_ok hs.2 g.toGB
      have := mkInt_ok h g
      rw [pmul_ev] at this
      simp only [mulV, mulOk, e1, e2, decide_true, Bool.and_self, if_true, Res.of_some]
      exact this
    · cases h
  · simp only [G] at gx gy; subst gy
    obtain ⟨vs, rfl, gx⟩ := gx
    have hb : Hd G S.n σ ((Res.ok (pev σ ‹Poly›) ρ).bind fun k ρ => Res.of (mulV (.lst ‹Bool› vs) (.int k)) ρ) L := Hd.bind h (fun L hL => conc_ok hL g) fun b S1 σ1 a ρ1 L1 hk e hab g1 => by
      subst hab
      split at hk
      · rename_i hc
        obtain ⟨c1, c2, c3, c4, c5⟩ := hc
        have gx' := keeps_G e c5 gx
        have hl := lfVs_lf c4 gx
        rw [← Gs_len gx] at c1
        have : mulV (.lst ‹Bool› vs) (.int b) = some (.lst true (rep vs b.toNat)) := by
          simp only [mulV]
          rw [if_pos ⟨c1, c2, c3, hl⟩, rep_eq]
        rw [this]
        exact Hd.of_ret hk (by simp only [G]; exact ⟨_, rfl, Gs_rep gx' _⟩) g1
      · cases hk
    exact hb
  · simp only [G] at gx gy; subst gy
    obtain ⟨vs, rfl, gx⟩ := gx
    have hb : Hd G S.n σ ((Res.ok (pev σ ‹Poly›) ρ).bind fun k ρ => Res.of (mulV (.tup vs) (.int k)) ρ) L := Hd.bind h (fun L hL => conc_ok hL g) fun b S1 σ1 a ρ1 L1 hk e hab g1 => by
      subst hab
      split at hk
      · rename_i hc
        obtain ⟨c1, c2, c3, c4, c5, c6⟩ := hc
        have gx' := keeps_G e c6 gx
        have hl := lfVs_lf c5 gx
        rw [← Gs_len gx] at c1
        have : mulV (.tup vs) (.int b) = some (.tup (rep vs b.toNat)) := by
          simp only [mulV]
          rw [if_pos ⟨c1, c2, c3, Gs_ne gx c4, hl⟩, rep_eq]
        rw [this]
        exact Hd.of_ret hk (by simp only [G]; exact ⟨_, rfl, Gs_rep gx' _⟩) g1
      · cases hk
    exact hb
  · cases h
def aMinus (cfg : Cfg) (x y : SV) (S : St) : M SV := match x, y with
  | .int p, .int q => mkInt cfg (psub p q) S
  | _, _ => none
theorem aMinus_ok {cfg : Cfg} {σ : Val} {S : St} {ρ : Env} {x y : SV} {v w : PV} {L : List (Out SV × St)} (h : aMinus cfg x y S = some L) (gx : G σ x v) (gy : G σ y w) (g : GS σ S ρ) : Hd G S.n σ (Res.of (binV .sub v w) ρ) L := by
  unfold aMinus at h
  split at h
  · simp only [G] at gx gy; subst gx; subst gy
    have := mkInt_ok h g
    rw [psub_ev] at this
    exact this
  · cases h
def aDiv (x y : SV) (S : St) : M SV := match x, y with
  | .int p, .int q => (match pk (pred S.B q) with
    | some j => if j ≠ 0 ∧ j.natAbs < 1073741824 then (match pk (pred S.B p) with
      | some i => ret (.int (pcon (i.fdiv j))) S
      | none => if 0 < j then (match prng S.B p with
        | some r => newI (r.1 / j) (r.2 / j) S
        | none => none) else none) else none
    | none => none)
  | _, _ => none
theorem aDiv_ok {σ : Val} {S : St} {ρ : Env} {x y : SV} {v w : PV} {L : List (Out SV × St)} (h : aDiv x y S = some L) (gx : G σ x v) (gy : G σ y w) (g : GS σ S ρ) : Hd G S.n σ (Res.of (binV .fdiv v w) ρ) L := by
  unfold aDiv at h
  split at h
  · simp only [G] at gx gy; subst gx; subst gy
    split at h
    · rename_i p q _ j hj
      have ej := pk_ev (σ := σ) hj
      rw [pred_ev g.b] at ej
      split at h
      · rename_i hc
        have hd : divOk j = true := by
          unfold divOk
          simp [hc.1, hc.2]
        have e : binV .fdiv (.int (pev σ p)) (.int (pev σ q)) = some (.int ((pev σ p).fdiv j)) := by
          simp only [binV, intV, ej, hd, if_true, Option.map_some]
        rw [e, Res.of_some]
        split at h
        · rename_i i hi
          have ei := pk_ev (σ := σ) hi
          rw [pred_ev g.b] at ei
          rw [ei]
          exact Hd.of_ret h (by simp only [G]; rw [pcon_ev]) g
        · split at h
          · rename_i hp
            split at h
            · rename_i r hr
              have := prng_ev g.b hr
              rw [Int.fdiv_eq_ediv_of_nonneg _ (by omega)]
              exact newI_ok h (Int.ediv_le_ediv hp this.1) (Int.ediv_le_ediv hp this.2) g
            · cases h
          · cases h
      · cases h
    · cases h
  · cases h
def aMod (x y : SV) (S : St) : M SV := match x, y with
  | .int p, .int q => (match pk (pred S.B q) with
    | some j => if j ≠ 0 then (match pk (pred S.B p) with
      | some i => ret (.int (pcon (i.fmod j))) S
      | none => if 0 < j then newI 0 (j - 1) S else none) else none
    | none => none)
  | _, _ => none
theorem aMod_ok {σ : Val} {S : St} {ρ : Env} {x y : SV} {v w : PV} {L : List (Out SV × St)} (h : aMod x y S = some L) (gx : G σ x v) (gy : G σ y w) (g : GS σ S ρ) : Hd G S.n σ (Res.of (binV .mod v w) ρ) L := by
  unfold aMod at h
  split at h
  · simp only [G] at gx gy; subst gx; subst gy
    split at h
    · rename_i p q _ j hj
      have ej := pk_ev (σ := σ) hj
      rw [pred_ev g.b] at ej
      split at h
      · rename_i hc
        have e : binV .mod (.int (pev σ p)) (.int (pev σ q)) = some (.int ((pev σ p).fmod j)) := by
          simp only [binV, intV, ej, if_pos hc, Option.map_some]
        rw [e, Res.of_some]
        split at h
        · rename_i i hi
          have ei := pk_ev (σ := σ) hi
          rw [pred_ev g.b] at ei
          rw [ei]
          exact Hd.of_ret h (by simp only [G]; rw [pcon_ev]) g
        · split at h
          · rename_i hp
            rw [Int.fmod_eq_emod_of_nonneg _ (by omega)]
            have h1 := Int.emod_nonneg (pev σ p) hc
            have h2 := Int.emod_lt_of_pos (pev σ p) hp
            exact newI_ok h h1 (by omega) g
          · cases h
      · cases h
    · cases h
  · cases h
def aPow (x y : SV) (S : St) : M SV := match x, y with
  | .int p, .int q => (match pk (pred S.B p), pk (pred S.B q) with
    | some i, some j => if 0 ≤ j ∧ j ≤ 1000 ∧ i.natAbs < 1000 then ret (.int (pcon (i ^ j.toNat))) S else none
    | _, _ => none)
  | _, _ => none
theorem aPow_ok {σ : Val} {S : St} {ρ : Env} {x y : SV} {v w : PV} {L : List (Out SV × St)} (h : aPow x y S = some L) (gx : G σ x v) (gy : G σ y w) (g : GS σ S ρ) : Hd G S.n σ (Res.of (binV .pow v w) ρ) L := by
  unfold aPow at h
  split at h
  · simp only [G] at gx gy; subst gx; subst gy
    split at h
    · rename_i p q _ _ i j hi hj
      have ei := pk_ev (σ := σ) hi
      rw [pred_ev g.b] at ei
      have ej := pk_ev (σ := σ) hj
      rw [pred_ev g.b] at ej
      split at h
      · rename_i hc
        have e : binV .pow (.int (pev σ p)) (.int (pev σ q)) = some (.int (i ^ j.toNat)) := by
          simp only [binV, intV, ei, ej, if_pos hc, Option.map_some]
        rw [e, Res.of_some]
        exact Hd.of_ret h (by simp only [G]; rw [pcon_ev]) g
      · cases h
    · cases h
  · cases h
def aBin (cfg : Cfg) : Bop → SV → SV → St → M SV
  | .add => aAdd cfg
  | .sub => aMinus cfg
  | .mul => aMul cfg
  | .fdiv => aDiv
  | .mod => aMod
  | .pow => aPow
theorem aBin_ok {cfg : Cfg} {o : Bop} {σ : Val} {S : St} {ρ : Env} {x y : SV} {v w : PV} {L : List (Out SV × St)} (h : aBin cfg o x y S = some L) (gx : G σ x v) (gy : G σ y w) (g : GS σ S ρ) : Hd G S.n σ (Res.of (binV o v w) ρ) L := by
  cases o
  · exact aAdd_ok h gx gy g
  · exact aMinus_ok h gx gy g
  · exact aMul_ok h gx gy g
  · exact aDiv_ok h gx gy g
  · exact aMod_ok h gx gy g
  · exact aPow_ok h gx gy g
/-! ### equal or not -/
def both (S : St) : M Bool := some [(.ok true, S), (.ok false, S)]
theorem both_ok {σ : Val} {S : St} {ρ : Env} {L : List (Out Bool × St)} (h : both S = some L) (g : GS σ S ρ) (b : Bool) : Hd (fun _ b a => b = a) S.n σ (.ok b ρ) L := by
  cases h
  cases b
  · exact ⟨_, List.mem_cons_of_mem _ List.mem_cons_self, σ, Ext.refl _ _, false, ρ, rfl, rfl, g⟩
  · exact ⟨_, List.mem_cons_self, σ, Ext.refl _ _, true, ρ, rfl, rfl, g⟩
/-- kinds: unlike kinds are never equal -/
def kd : SV → Nat
  | .none => 1
  | .bool _ => 2
  | .tf => 2
  | .int _ => 2
  | .cell => 2
  | .str _ => 3
  | .tup _ => 4
  | .lst _ _ => 5
  | .cells _ => 5
  | .pen => 5
  | .scr => 0
  | .any _ _ => 0
  | .kin _ => 0
def kdP : PV → Nat
  | .none => 1
  | .bool _ => 2
  | .int _ => 2
  | .str _ => 3
  | .tup _ => 4
  | .lst _ _ => 5
  | _ => 6
theorem kd_P {σ : Val} {t : SV} {v : PV} (h : kd t ≠ 0) (g : G σ t v) : kdP v = kd t := by
  cases t <;> simp only [G, kd] at * <;> first
    | (subst g; rfl)
    | (obtain ⟨_, rfl⟩ := g; rfl)
    | (obtain ⟨_, rfl, _⟩ := g; rfl)
    | (obtain ⟨_, _, rfl, _⟩ := g; rfl)
    | exact absurd rfl h
theorem kd_ne {v w : PV} (h : kdP v ≠ kdP w) : eqv v w = false := by
  cases v <;> cases w <;> simp_all [kdP, eqv]
mutual
def eqA : SV → SV → St → M Bool
  | .int p, y, S => (match y with
    | .int q => branch (.eq (psub p q)) S
    | .bool b => branch (.eq (psub p (pcon (b2i b)))) S
    | y => if kd y ≠ 0 ∧ kd y ≠ 2 then ret false S else both S)
  | .bool a, y, S => (match y with
    | .bool b => ret (a == b) S
    | .int q => branch (.eq (psub (pcon (b2i a)) q)) S
    | y => if kd y ≠ 0 ∧ kd y ≠ 2 then ret false S else both S)
  | .str a, y, S => (match y with
    | .str b => ret (a == b) S
    | y => if kd y ≠ 0 ∧ kd y ≠ 3 then ret false S else both S)
  | .none, y, S => (match y with
    | .none => ret true S
    | y => if kd y ≠ 0 ∧ kd y ≠ 1 then ret false S else both S)
  | .tup xs, y, S => (match y with
    | .tup ys => eqAs xs ys S
    | y => if kd y ≠ 0 ∧ kd y ≠ 4 then ret false S else both S)
  | .lst _ xs, y, S => (match y with
    | .lst _ ys => eqAs xs ys S
    | y => if kd y ≠ 0 ∧ kd y ≠ 5 then ret false S else both S)
  | _, _, S => both S
def eqAs : List SV → List SV → St → M Bool
  | [], ys, S => (match ys with
    | [] => ret true S
    | _ :: _ => ret false S)
  | x :: xs, ys, S => (match ys with
    | [] => ret false S
    | y :: ys => bindM (eqA x y S) fun b S1 => if b then (if keeps S.n S1.n xs && keeps S.n S1.n ys then eqAs xs ys S1 else none) else ret false S1)
end
mutual
theorem eqA_ok {σ : Val} {S : St} {ρ : Env} {v w : PV} {L : List (Out Bool × St)} : ∀ {x y : SV}, eqA x y S = some L → G σ x v → G σ y w → GS σ S ρ → Hd (fun _ b a => b = a) S.n σ (.ok (eqv v w) ρ) L
  | .int p, y, h, gx, gy, g => by
    have hk : kdP v = 2 := kd_P (t := .int p) (by simp [kd]) gx
    simp only [G] at gx; subst gx
    cases y with
    | int q =>
      simp only [eqA] at h
      simp only [G] at gy; subst gy
      have := branch_ok h g
      simp only [Cd.den, psub_ev] at this
      rw [eqv_int, show decide (pev σ p = pev σ q) = decide (pev σ p - pev σ q = 0) by by_cases z : pev σ p = pev σ q <;> simp <;> omega]
      exact this
    | bool b =>
      simp only [eqA] at h
      simp only [G] at gy; subst gy
      have := branch_ok h g
      simp only [Cd.den, psub_ev, pcon_ev] at this
      rw [show eqv (.int (pev σ p)) (.bool b) = decide (pev σ p - b2i b = 0) by
        show (pev σ p == b2i b) = _
        rw [Bool.eq_iff_iff]
        simp only [beq_iff_eq, decide_eq_true_eq]
        omega]
      exact this
    | _ =>
      simp only [eqA] at h
      split at h
      · rename_i hc
        exact Hd.of_ret h (kd_ne (by rw [hk, kd_P hc.1 gy]; exact fun q => hc.2 q.symm)).symm g
      · exact both_ok h g _
  | .bool a, y, h, gx, gy, g => by
    have hk : kdP v = 2 := kd_P (t := .bool a) (by simp [kd]) gx
    simp only [G] at gx; subst gx
    cases y with
    | bool b =>
      simp only [eqA] at h
      simp only [G] at gy; subst gy
      exact Hd.of_ret h (by simp) g
    | int q =>
      simp only [eqA] at h
      simp only [G] at gy; subst gy
      have := branch_ok h g
      simp only [Cd.den, psub_ev, pcon_ev] at this
      rw [show eqv (.bool a) (.int (pev σ q)) = decide (b2i a - pev σ q = 0) by
        show (b2i a == pev σ q) = _
        rw [Bool.eq_iff_iff]
        simp only [beq_iff_eq, decide_eq_true_eq]
        omega]
      exact this
    | _ =>
      simp only [eqA] at h
      split at h
      · rename_i hc
        exact Hd.of_ret h (kd_ne (by rw [hk, kd_P hc.1 gy]; exact fun q => hc.2 q.symm)).symm g
      · exact both_ok h g _
  | .str a, y, h, gx, gy, g => by
    have hk : kdP v = 3 := kd_P (t := .str a) (by simp [kd]) gx
    simp only [G] at gx; subst gx
    cases y with
    | str b =>
      simp only [eqA] at h
      simp only [G] at gy; subst gy
      exact Hd.of_ret h (by simp [eqv]) g
    | _ =>
      simp only [eqA] at h
      split at h
      · rename_i hc
        exact Hd.of_ret h (kd_ne (by rw [hk, kd_P hc.1 gy]; exact fun q => hc.2 q.symm)).symm g
      · exact both_ok h g _
  | .none, y, h, gx, gy, g => by
    have hk : kdP v = 1 := kd_P (t := .none) (by simp [kd]) gx
    simp only [G] at gx; subst gx
    cases y with
    | none =>
      simp only [eqA] at h
      simp only [G] at gy; subst gy
      exact Hd.of_ret h (by simp [eqv]) g
    | _ =>
      simp only [eqA] at h
      split at h
      · rename_i hc
        exact Hd.of_ret h (kd_ne (by rw [hk, kd_P hc.1 gy]; exact fun q => hc.2 q.symm)).symm g
      · exact both_ok h g _
  | .tup xs, y, h, gx, gy, g => by
    have hk : kdP v = 4 := kd_P (t := .tup xs) (by simp [kd]) gx
    cases y with
    | tup ys =>
      simp only [eqA] at h
      simp only [G] at gx gy
      obtain ⟨vs, rfl, gx⟩ := gx
      obtain ⟨ws, rfl, gy⟩ := gy
      have := eqAs_ok h gx gy g
      simpa only [eqv] using this
    | _ =>
      simp only [eqA] at h
      split at h
      · rename_i hc
        exact Hd.of_ret h (kd_ne (by rw [hk, kd_P hc.1 gy]; exact fun q => hc.2 q.symm)).symm g
      · exact both_ok h g _
  | .lst u xs, y, h, gx, gy, g => by
    have hk : kdP v = 5 := kd_P (t := .lst u xs) (by simp [kd]) gx
    cases y with
    | lst u' ys =>
      simp only [eqA] at h
      simp only [G] at gx gy
      obtain ⟨vs, rfl, gx⟩ := gx
      obtain ⟨ws, rfl, gy⟩ := gy
      have := eqAs_ok h gx gy g
      simpa only [eqv] using this
    | _ =>
      simp only [eqA] at h
      split at h
      · rename_i hc
        exact Hd.of_ret h (kd_ne (by rw [hk, kd_P hc.1 gy]; exact fun q => hc.2 q.symm)).symm g
      · exact both_ok h g _
  | .tf, y, h, gx, gy, g => by simp only [eqA] at h; exact both_ok h g _
  | .any _ _, y, h, gx, gy, g => by simp only [eqA] at h; exact both_ok h g _
  | .cell, y, h, gx, gy, g => by simp only [eqA] at h; exact both_ok h g _
  | .cells _, y, h, gx, gy, g => by simp only [eqA] at h; exact both_ok h g _
  | .scr, y, h, gx, gy, g => by simp only [eqA] at h; exact both_ok h g _
  | .pen, y, h, gx, gy, g => by simp only [eqA] at h; exact both_ok h g _
  | .kin _, y, h, gx, gy, g => by simp only [eqA] at h; exact both_ok h g _
theorem eqAs_ok {σ : Val} {S : St} {ρ : Env} : ∀ {xs ys : List SV} {v w : List PV} {L : List (Out Bool × St)}, eqAs xs ys S = some L → Gs σ xs v → Gs σ ys w → GS σ S ρ → Hd (fun _ b a => b = a) S.n σ (.ok (eqvs v w) ρ) L
  | [], ys, v, w, L, h, gx, gy, g => by
    simp only [Gs] at gx; subst gx
    cases ys with
    | nil => simp only [Gs] at gy; subst gy; simp only [eqAs] at h; exact Hd.of_ret h (by simp [eqvs]) g
    | cons y ys =>
      simp only [Gs] at gy
      obtain ⟨b, bs, rfl, _, _⟩ := gy
      simp only [eqAs] at h; exact Hd.of_ret h (by simp [eqvs]) g
  | x :: xs, ys, v, w, L, h, gx, gy, g => by
    simp only [Gs] at gx
    obtain ⟨a, as, rfl, ga, gas⟩ := gx
    cases ys with
    | nil => simp only [Gs] at gy; subst gy; simp only [eqAs] at h; exact Hd.of_ret h (by simp [eqvs]) g
    | cons y ys =>
      simp only [Gs] at gy
      obtain ⟨b, bs, rfl, gb, gbs⟩ := gy
      simp only [eqAs] at h
      have hb : Hd (fun _ b a => b = a) S.n σ ((Res.ok (eqv a b) ρ).bind fun t ρ => .ok (t && eqvs as bs) ρ) L := Hd.bind h (fun L hL => eqA_ok hL ga gb g) fun t S1 σ1 t' ρ1 L1 hk e hab g1 => by
        subst hab
        cases t with
        | true =>
          simp only [if_true] at hk
          split at hk
          · rename_i hc
            simp only [Bool.and_eq_true] at hc
            exact eqAs_ok hk (keeps_G e hc.1 gas) (keeps_G e hc.2 gbs) g1
          · cases hk
        | false =>
          simp only [Bool.false_eq_true, if_false] at hk
          exact Hd.of_ret hk rfl g1
      simp only [eqvs]
      exact hb
end
end SX
end

section
set_option Elab.async false
set_option linter.all false
set_option maxRecDepth 100000
set_option maxHeartbeats 1000000
namespace SX
open PySem hiding Env
open LC
/-! ### depth -/
def cpOk (s : Str) : Bool := s.cps.all fun c => decide (c < 0x110000)
mutual
def depV : SV → Option Nat
  | .none => some 0
  | .bool _ => some 0
  | .tf => some 0
  | .int _ => some 0
  | .cell => some 0
  | .str s => if cpOk s then some 0 else none
  | .tup xs => (depVs xs).map (· + 1)
  | .lst _ xs => (depVs xs).map (· + 1)
  | .any d dc => if dc then none else some d
  | .cells _ => some 1
  | .scr => none
  | .pen => none
  | .kin k => (match k with
    | .ntp d dc => if dc then none else some d
    | .nin d => some d
    | .tpl d _ => some d)
def depVs : List SV → Option Nat
  | [] => some 0
  | x :: xs => (match depV x, depVs xs with
    | some a, some b => some (Nat.max a b)
    | _, _ => none)
end
mutual
theorem dt_dok : ∀ {d : Nat} {v : PV}, dt d v = true → dok v = true ∧ dep v ≤ d
  | d, .tup xs, h => by
    cases d with
    | zero => simp [dt] at h
    | succ d =>
      simp only [dt, Bool.and_eq_true] at h
      have := dts_dok h.2
      simp only [dok, dep]
      exact ⟨this.1, by omega⟩
  | d, .lst u xs, h => by
    cases d with
    | zero => simp [dt] at h
    | succ d =>
      simp only [dt, Bool.and_eq_true] at h
      have := dts_dok h.2
      simp only [dok, dep]
      exact ⟨this.1, by omega⟩
  | _, .dic _ _ _, h => by simp [dt] at h
  | _, .none, _ => by simp [dok, dep]
  | _, .bool _, _ => by simp [dok, dep]
  | _, .int _, _ => by simp [dok, dep]
  | _, .str _, h => by simp only [dt, Bool.and_eq_true] at h; simp only [dok, dep]; exact ⟨h.2, by omega⟩
  | _, .exc _ _, h => by simp [dt] at h
  | _, .scr _, h => by simp [dt] at h
theorem dts_dok : ∀ {d : Nat} {v : List PV}, dts d v = true → doks v = true ∧ deps v ≤ d
  | _, [], _ => by simp [doks, deps]
  | d, x :: xs, h => by
    simp only [dts, Bool.and_eq_true] at h
    have h1 := dt_dok h.1
    have h2 := dts_dok h.2
    simp only [doks, deps, Bool.and_eq_true]
    exact ⟨⟨h1.1, h2.1⟩, by omega⟩
end
theorem ints_dok : ∀ ns : List Int, doks (ns.map .int) = true ∧ deps (ns.map .int) = 0
  | [] => by simp [doks, deps]
  | n :: ns => by have := ints_dok ns; simp [doks, deps, dok, dep, this.1, this.2]
mutual
theorem depV_ok {σ : Val} : ∀ {t : SV} {v : PV} {d : Nat}, depV t = some d → G σ t v → dok v = true ∧ dep v ≤ d
  | .none, v, d, h, g => by simp only [G] at g; subst g; simp [dok, dep]
  | .bool b, v, d, h, g => by simp only [G] at g; subst g; simp [dok, dep]
  | .tf, v, d, h, g => by simp only [G] at g; obtain ⟨b, rfl⟩ := g; simp [dok, dep]
  | .int p, v, d, h, g => by simp only [G] at g; subst g; simp [dok, dep]
  | .cell, v, d, h, g => by simp only [G] at g; obtain ⟨b, rfl⟩ := g; simp [dok, dep]
  | .str s, v, d, h, g => by
    simp only [G] at g; subst g
    simp only [depV] at h
    split at h
    · rename_i hc; simp only [dok, dep]; exact ⟨hc, by omega⟩
    · cases h
  | .tup xs, v, d, h, g => by
    simp only [G] at g
    obtain ⟨ys, rfl, g⟩ := g
    simp only [depV, Option.map_eq_some_iff] at h
    obtain ⟨a, ha, rfl⟩ := h
    have := depVs_ok ha g
    simp only [dok, dep]; exact ⟨this.1, by omega⟩
  | .lst u xs, v, d, h, g => by
    simp only [G] at g
    obtain ⟨ys, rfl, g⟩ := g
    simp only [depV, Option.map_eq_some_iff] at h
    obtain ⟨a, ha, rfl⟩ := h
    have := depVs_ok ha g
    simp only [dok, dep]; exact ⟨this.1, by omega⟩
  | .any d' dc, v, d, h, g => by
    simp only [G] at g
    simp only [depV] at h
    split at h
    · cases h
    · rename_i hc
      cases h
      rcases g with g | g
      · exact dt_dok g
      · exact absurd g.1 hc
  | .cells _, v, d, h, g => by
    simp only [G] at g
    obtain ⟨u, ns, rfl, _⟩ := g
    simp only [depV, Option.some.injEq] at h
    have := ints_dok ns
    simp only [dok, dep]; exact ⟨this.1, by omega⟩
  | .scr, v, d, h, g => by simp [depV] at h
  | .pen, v, d, h, g => by simp [depV] at h
  | .kin k, v, d, h, g => by
    simp only [G] at g
    cases k with
    | ntp d' dc =>
      simp only [depV] at h
      split at h
      · cases h
      · rename_i hc
        cases h
        rcases g.1 with g | g
        · exact dt_dok g
        · exact absurd g.1 hc
    | nin d' => simp only [depV, Option.some.injEq] at h; subst h; exact dt_dok g.1
    | tpl d' p => simp only [depV, Option.some.injEq] at h; subst h; exact dt_dok g.1
theorem depVs_ok {σ : Val} : ∀ {t : List SV} {v : List PV} {d : Nat}, depVs t = some d → Gs σ t v → doks v = true ∧ deps v ≤ d
  | [], v, d, h, g => by simp only [Gs] at g; subst g; simp [doks, deps]
  | x :: xs, v, d, h, g => by
    simp only [Gs] at g
    obtain ⟨y, zs, rfl, h1, h2⟩ := g
    simp only [depVs] at h
    split at h
    · rename_i a b ha hb
      cases h
      have e1 := depV_ok ha h1
      have e2 := depVs_ok hb h2
      simp only [doks, deps, Bool.and_eq_true]
      refine ⟨⟨e1.1, e2.1⟩, ?_⟩
      have : Nat.max a b = max a b := rfl
      omega
    · cases h
end
def dle (n : Nat) : Option Nat → Bool
  | some d => Nat.ble d n
  | none => false
theorem dle_dat {σ : Val} {n : Nat} {t : SV} {v : PV} (h : dle n (depV t) = true) (g : G σ t v) : dat n v = true := by
  unfold dle at h
  split at h
  · rename_i d hd
    have := depV_ok hd g
    have := Nat.le_of_ble_eq_true h
    unfold dat
    simp only [Bool.and_eq_true, decide_eq_true_eq]
    exact ⟨by simp_all, by omega⟩
  · cases h
theorem dle_dats {σ : Val} {n : Nat} {t : List SV} {v : List PV} (h : dle n (depVs t) = true) (g : Gs σ t v) : dats n v = true := by
  unfold dle at h
  split at h
  · rename_i d hd
    have := depVs_ok hd g
    have := Nat.le_of_ble_eq_true h
    unfold dats
    simp only [Bool.and_eq_true, decide_eq_true_eq]
    exact ⟨by simp_all, by omega⟩
  · cases h
/-! ### data -/
mutual
/-- the depth, if the value is data (no owned list) -/
def wdV (S : St) : SV → Option Nat
  | .none => some 0
  | .bool _ => some 0
  | .tf => some 0
  | .int p => (match prng S.B p with
    | some r => if r.1.natAbs ≤ IB ∧ r.2.natAbs ≤ IB then some 0 else none
    | none => none)
  | .cell => none
  | .str s => if cpOk s && decide (s.length ≤ 1000) then some 0 else none
  | .tup xs => if xs.length ≤ 1000 then (wdVs S xs).map (· + 1) else none
  | .lst u xs => if xs.length ≤ 1000 ∧ u = false then (wdVs S xs).map (· + 1) else none
  | .any d dc => if dc then none else some d
  | .cells _ => none
  | .scr => none
  | .pen => none
  | .kin k => (match k with
    | .ntp d dc => if dc then none else some d
    | .nin d => some d
    | .tpl d _ => some d)
def wdVs (S : St) : List SV → Option Nat
  | [] => some 0
  | x :: xs => (match wdV S x, wdVs S xs with
    | some a, some b => some (Nat.max a b)
    | _, _ => none)
end
mutual
theorem dt_mono : ∀ {d d' : Nat} {v : PV}, d ≤ d' → dt d v = true → dt d' v = true
  | d, d', .tup xs, hd, h => by
    cases d with
    | zero => simp [dt] at h
    | succ d =>
      cases d' with
      | zero => omega
      | succ d' =>
        simp only [dt, Bool.and_eq_true] at *
        exact ⟨h.1, dts_mono (by omega) h.2⟩
  | d, d', .lst u xs, hd, h => by
    cases d with
    | zero => simp [dt] at h
    | succ d =>
      cases d' with
      | zero => omega
      | succ d' =>
        simp only [dt, Bool.and_eq_true] at *
        exact ⟨h.1, dts_mono (by omega) h.2⟩
  | _, _, .dic _ _ _, _, h => by simp [dt] at h
  | _, _, .none, _, _ => by simp [dt]
  | _, _, .bool _, _, _ => by simp [dt]
  | _, _, .int _, _, h => by simp only [dt] at *; exact h
  | _, _, .str _, _, h => by simp only [dt] at *; exact h
  | _, _, .exc _ _, _, h => by simp [dt] at h
  | _, _, .scr _, _, h => by simp [dt] at h
theorem dts_mono : ∀ {d d' : Nat} {v : List PV}, d ≤ d' → dts d v = true → dts d' v = true
  | _, _, [], _, _ => by simp [dts]
  | d, d', x :: xs, hd, h => by
    simp only [dts, Bool.and_eq_true] at *
    exact ⟨dt_mono hd h.1, dts_mono hd h.2⟩
end
mutual
theorem wdV_ok {σ : Val} {S : St} (gb : GB σ S) : ∀ {t : SV} {v : PV} {d : Nat}, wdV S t = some d → G σ t v → dt d v = true
  | .none, v, d, h, g => by simp only [G] at g; subst g; simp [dt]
  | .bool b, v, d, h, g => by simp only [G] at g; subst g; simp [dt]
  | .tf, v, d, h, g => by simp only [G] at g; obtain ⟨b, rfl⟩ := g; simp [dt]
  | .int p, v, d, h, g => by
    simp only [G] at g; subst g
    simp only [wdV] at h
    split at h
    · rename_i r hr
      have := prng_ev gb.b hr
      split at h
      · rename_i hc
        simp only [dt, decide_eq_true_eq]
        omega
      · cases h
    · cases h
  | .cell, v, d, h, g => by simp [wdV] at h
  | .str s, v, d, h, g => by
    simp only [G] at g; subst g
    simp only [wdV] at h
    split at h
    · rename_i hc
      simp only [Bool.and_eq_true] at hc
      simp only [dt, Bool.and_eq_true]; exact ⟨hc.2, hc.1⟩
    · cases h
  | .tup xs, v, d, h, g => by
    simp only [G] at g
    obtain ⟨ys, rfl, g⟩ := g
    simp only [wdV] at h
    split at h
    · rename_i hc
      simp only [Option.map_eq_some_iff] at h
      obtain ⟨a, ha, rfl⟩ := h
      have := wdVs_ok gb ha g
      rw [← Gs_len g] at hc
      simp only [dt, Bool.and_eq_true, decide_eq_true_eq]; exact ⟨hc, this⟩
    · cases h
  | .lst u xs, v, d, h, g => by
    simp only [G] at g
    obtain ⟨ys, rfl, g⟩ := g
    simp only [wdV] at h
    split at h
    · rename_i hc
      simp only [Option.map_eq_some_iff] at h
      obtain ⟨a, ha, rfl⟩ := h
      have := wdVs_ok gb ha g
      rw [← Gs_len g] at hc
      simp only [dt, Bool.and_eq_true, decide_eq_true_eq]; exact ⟨⟨by simp [hc.2], hc.1⟩, this⟩
    · cases h
  | .any d' dc, v, d, h, g => by
    simp only [G] at g
    simp only [wdV] at h
    split at h
    · cases h
    · rename_i hc
      cases h
      rcases g with g | g
      · exact g
      · exact absurd g.1 hc
  | .cells _, v, d, h, g => by simp [wdV] at h
  | .scr, v, d, h, g => by simp [wdV] at h
  | .pen, v, d, h, g => by simp [wdV] at h
  | .kin k, v, d, h, g => by
    simp only [G] at g
    cases k with
    | ntp d' dc =>
      simp only [wdV] at h
      split at h
      · cases h
      · rename_i hc
        cases h
        rcases g.1 with g | g
        · exact g
        · exact absurd g.1 hc
    | nin d' => simp only [wdV, Option.some.injEq] at h; subst h; exact g.1
    | tpl d' p => simp only [wdV, Option.some.injEq] at h; subst h; exact g.1
theorem wdVs_ok {σ : Val} {S : St} (gb : GB σ S) : ∀ {t : List SV} {v : List PV} {d : Nat}, wdVs S t = some d → Gs σ t v → dts d v = true
  | [], v, d, h, g => by simp only [Gs] at g; subst g; simp [dts]
  | x :: xs, v, d, h, g => by
    simp only [Gs] at g
    obtain ⟨y, zs, rfl, h1, h2⟩ := g
    simp only [wdVs] at h
    split at h
    · rename_i a b ha hb
      cases h
      have e1 := wdV_ok gb ha h1
      have e2 := wdVs_ok gb hb h2
      have : Nat.max a b = max a b := rfl
      simp only [dts, Bool.and_eq_true]
      exact ⟨dt_mono (by omega) e1, dts_mono (by omega) e2⟩
    · cases h
end
/-- made a thing of no known form -/
def widen (S : St) : SV → Option SV
  | .any d dc => some (.any d dc)
  | t => (wdV S t).map fun d => .any d false
theorem widen_ok {σ : Val} {S : St} (gb : GB σ S) {t t' : SV} {v : PV} (h : widen S t = some t') (g : G σ t v) : G σ t' v := by
  unfold widen at h
  split at h
  · cases h; exact g
  · simp only [Option.map_eq_some_iff] at h
    obtain ⟨d, hd, rfl⟩ := h
    simp only [G]
    exact .inl (wdV_ok gb hd g)
/-! ### comparisons, truths -/
def mapB (m : M Bool) : M SV := bindM m fun b S => ret (.bool b) S
theorem mapB_ok {σ : Val} {n : Nat} {ρ : Env} {m : M Bool} {b : Bool} {L : List (Out SV × St)} (h : mapB m = some L) (h1 : ∀ L, m = some L → Hd (fun _ b a => b = a) n σ (.ok b ρ) L) : Hd G n σ (.ok (.bool b) ρ) L := by
  have := Hd.bind (g' := G) (f := fun b ρ => .ok (.bool b) ρ) h h1 fun b S σ' a ρ L1 hk e hab g => by subst hab; exact Hd.of_ret hk (by simp only [G]) g
  exact this
def notB (m : M Bool) : M Bool := bindM m fun b S => ret (!b) S
theorem notB_ok {σ : Val} {n : Nat} {ρ : Env} {m : M Bool} {b : Bool} {L : List (Out Bool × St)} (h : notB m = some L) (h1 : ∀ L, m = some L → Hd (fun _ b a => b = a) n σ (.ok b ρ) L) : Hd (fun _ b a => b = a) n σ (.ok (!b) ρ) L := by
  have := Hd.bind (g' := fun _ b a => b = a) (f := fun b ρ => .ok (!b) ρ) h h1 fun b S σ' a ρ L1 hk e hab g => by subst hab; exact Hd.of_ret hk rfl g
  exact this
def anyEq (a : SV) : List SV → St → M Bool
  | [], S => ret false S
  | z :: zs, S => bindM (eqA z a S) fun b S1 => if b then ret true S1 else if keeps S.n S1.n zs && keep S.n S1.n a then anyEq a zs S1 else none
theorem anyEq_ok {a : SV} : ∀ {zs : List SV} {σ : Val} {S : St} {ρ : Env} {v : PV} {ws : List PV} {L : List (Out Bool × St)}, anyEq a zs S = some L → G σ a v → Gs σ zs ws → GS σ S ρ → Hd (fun _ b a => b = a) S.n σ (.ok (ws.any fun z => eqv z v) ρ) L
  | [], σ, S, ρ, v, ws, L, h, ga, gz, g => by simp only [Gs] at gz; subst gz; exact Hd.of_ret h (by simp) g
  | z :: zs, σ, S, ρ, v, ws, L, h, ga, gz, g => by
    simp only [Gs] at gz
    obtain ⟨w, ws, rfl, gw, gws⟩ := gz
    simp only [anyEq] at h
    have := Hd.bind (g' := fun _ b a => b = a) (f := fun b ρ => .ok (b || ws.any fun z => eqv z v) ρ) h (fun L hL => eqA_ok hL gw ga g) fun b S1 σ1 a1 ρ1 L1 hk e hab g1 => by
      subst hab
      cases b with
      | true => simp only [if_true] at hk; exact Hd.of_ret hk rfl g1
      | false =>
        simp only [Bool.false_eq_true, if_false] at hk
        split at hk
        · rename_i hc
          simp only [Bool.and_eq_true] at hc
          exact anyEq_ok hk (keep_G e hc.2 ga) (keeps_G e hc.1 gws) g1
        · cases hk
    exact this
def flatV : SV → Bool
  | .none => true
  | .bool _ => true
  | .tf => true
  | .int _ => true
  | .cell => true
  | .str _ => true
  | _ => false
theorem flatV_ok {σ : Val} {t : SV} {v : PV} (h : flatV t = true) (g : G σ t v) : flatP v = true := by
  cases t <;> simp only [flatV, G] at * <;> first
    | (subst g; rfl)
    | (obtain ⟨_, rfl⟩ := g; rfl)
    | cases h
theorem flatVs_ok {σ : Val} : ∀ {t : List SV} {v : List PV}, t.all flatV = true → Gs σ t v → v.all flatP = true
  | [], _, _, g => by simp only [Gs] at g; subst g; rfl
  | x :: xs, _, h, g => by
    simp only [Gs] at g
    obtain ⟨w, ws, rfl, gw, gws⟩ := g
    simp only [List.all_cons, Bool.and_eq_true] at *
    exact ⟨flatV_ok h.1 gw, flatVs_ok h.2 gws⟩
def aIn (a b : SV) (S : St) : M Bool := match b with
  | .lst _ xs => if dle 60 (depV a) && dle 59 (depVs xs) then anyEq a xs S else none
  | .tup xs => if flatV a && xs.all flatV then anyEq a xs S else none
  | _ => none
theorem aIn_ok {σ : Val} {S : St} {ρ : Env} {x y : SV} {v w : PV} {L : List (Out Bool × St)} (h : aIn x y S = some L) (gx : G σ x v) (gy : G σ y w) (g : GS σ S ρ) : ∃ b : Bool, (∀ ng, inV ng v w = some (if ng then !b else b)) ∧ Hd (fun _ b a => b = a) S.n σ (.ok b ρ) L := by
  unfold aIn at h
  split at h
  · simp only [G] at gy
    obtain ⟨ws, rfl, gy⟩ := gy
    split at h
    · rename_i hc
      simp only [Bool.and_eq_true] at hc
      refine ⟨ws.any fun z => eqv z v, fun ng => ?_, anyEq_ok h gx gy g⟩
      simp only [inV, dle_dat hc.1 gx, dle_dats hc.2 gy, Bool.and_self, if_true]
    · cases h
  · simp only [G] at gy
    obtain ⟨ws, rfl, gy⟩ := gy
    split at h
    · rename_i hc
      simp only [Bool.and_eq_true] at hc
      refine ⟨ws.any fun z => eqv z v, fun ng => ?_, anyEq_ok h gx gy g⟩
      simp only [inV, flatV_ok hc.1 gx, flatVs_ok hc.2 gy, Bool.and_self, if_true]
    · cases h
  · cases h
def ltA (x y : SV) (S : St) : M Bool := match x, y with
  | .int p, .int q => branch (.le (padd (psub p q) (pcon 1))) S
  | _, _ => none
def leA (x y : SV) (S : St) : M Bool := match x, y with
  | .int p, .int q => branch (.le (psub p q)) S
  | _, _ => none
theorem ltA_ok {σ : Val} {S : St} {ρ : Env} {x y : SV} {v w : PV} {L : List (Out Bool × St)} (h : ltA x y S = some L) (gx : G σ x v) (gy : G σ y w) (g : GS σ S ρ) : ∃ i j, v = .int i ∧ w = .int j ∧ Hd (fun _ b a => b = a) S.n σ (.ok (decide (i < j)) ρ) L := by
  unfold ltA at h
  split at h
  · simp only [G] at gx gy; subst gx; subst gy
    rename_i p q
    refine ⟨_, _, rfl, rfl, ?_⟩
    have := branch_ok h g
    simp only [Cd.den, padd_ev, psub_ev, pcon_ev] at this
    rw [show decide (pev σ p < pev σ q) = decide (pev σ p - pev σ q + 1 ≤ 0) by rw [Bool.eq_iff_iff]; simp only [decide_eq_true_eq]; omega]
    exact this
  · cases h
theorem leA_ok {σ : Val} {S : St} {ρ : Env} {x y : SV} {v w : PV} {L : List (Out Bool × St)} (h : leA x y S = some L) (gx : G σ x v) (gy : G σ y w) (g : GS σ S ρ) : ∃ i j, v = .int i ∧ w = .int j ∧ Hd (fun _ b a => b = a) S.n σ (.ok (decide (i ≤ j)) ρ) L := by
  unfold leA at h
  split at h
  · simp only [G] at gx gy; subst gx; subst gy
    rename_i p q
    refine ⟨_, _, rfl, rfl, ?_⟩
    have := branch_ok h g
    simp only [Cd.den, psub_ev] at this
    rw [show decide (pev σ p ≤ pev σ q) = decide (pev σ p - pev σ q ≤ 0) by rw [Bool.eq_iff_iff]; simp only [decide_eq_true_eq]; omega]
    exact this
  · cases h
def aCmp : Cop → SV → SV → St → M Bool
  | .eq, x, y, S => if dle 60 (depV x) && dle 60 (depV y) then eqA x y S else none
  | .ne, x, y, S => if dle 60 (depV x) && dle 60 (depV y) then notB (eqA x y S) else none
  | .lt, x, y, S => ltA x y S
  | .le, x, y, S => leA x y S
  | .gt, x, y, S => ltA y x S
  | .ge, x, y, S => leA y x S
  | .inn, x, y, S => aIn x y S
  | .nin, x, y, S => notB (aIn x y S)
theorem aCmp_ok {o : Cop} {σ : Val} {S : St} {ρ : Env} {x y : SV} {v w : PV} {L : List (Out Bool × St)} (h : aCmp o x y S = some L) (gx : G σ x v) (gy : G σ y w) (g : GS σ S ρ) : ∃ b, cmpV o v w = some b ∧ Hd (fun _ b a => b = a) S.n σ (.ok b ρ) L := by
  cases o
  · simp only [aCmp] at h
    split at h
    · rename_i hc
      simp only [Bool.and_eq_true] at hc
      exact ⟨_, by simp only [cmpV, dle_dat hc.1 gx, dle_dat hc.2 gy, Bool.and_self, if_true], eqA_ok h gx gy g⟩
    · cases h
  · simp only [aCmp] at h
    split at h
    · rename_i hc
      simp only [Bool.and_eq_true] at hc
      exact ⟨_, by simp only [cmpV, dle_dat hc.1 gx, dle_dat hc.2 gy, Bool.and_self, if_true], notB_ok h fun L hL => eqA_ok hL gx gy g⟩
    · cases h
  · obtain ⟨i, j, rfl, rfl, z⟩ := ltA_ok h gx gy g
    exact ⟨_, rfl, z⟩
  · obtain ⟨i, j, rfl, rfl, z⟩ := leA_ok h gx gy g
    exact ⟨_, rfl, z⟩
  · obtain ⟨i, j, rfl, rfl, z⟩ := ltA_ok h gy gx g
    exact ⟨_, rfl, z⟩
  · obtain ⟨i, j, rfl, rfl, z⟩ := leA_ok h gy gx g
    exact ⟨_, rfl, z⟩
  · obtain ⟨b, e, z⟩ := aIn_ok h gx gy g
    exact ⟨b, by simp only [cmpV]; exact e false, z⟩
  · simp only [aCmp] at h
    have hm : ∃ L', aIn x y S = some L' := by
      unfold notB bindM at h
      split at h
      · rename_i L' hL; exact ⟨L', hL⟩
      · cases h
    obtain ⟨L', hL'⟩ := hm
    obtain ⟨b, e, z⟩ := aIn_ok hL' gx gy g
    refine ⟨!b, by simp only [cmpV]; exact e true, notB_ok h fun L hL => ?_⟩
    rw [hL'] at hL; cases hL; exact z
/-- known, or not -/
def decide1 (c : Cd) (S : St) : Option Bool :=
  let c := c.with (pred S.B c.poly)
  match decC (know S c.poly) c with
  | some b => some b
  | none => decC ((know S c.poly).and (knFs S.B c.poly S.F)) c
theorem decide1_ok {σ : Val} {S : St} {c : Cd} {b : Bool} (h : decide1 c S = some b) (g : GB σ S) : c.den σ = b := by
  unfold decide1 at h
  have e : (c.with (pred S.B c.poly)).den σ = c.den σ := with_den (pred_ev g.b _)
  simp only at h
  rw [← e]
  generalize c.with (pred S.B c.poly) = c' at h
  split at h
  · rename_i b' hb
    cases h
    exact decC_ok (know_ok g _) hb
  · exact decC_ok (Kn.and_ok (know_ok g _) (knFs_ok g.b g.f)) h
def tfOf (c : Cd) (S : St) : SV := match decide1 c S with
  | some b => .bool b
  | none => .tf
theorem tfOf_ok {σ : Val} {S : St} {c : Cd} (g : GB σ S) : G σ (tfOf c S) (.bool (c.den σ)) := by
  unfold tfOf
  split
  · rename_i b hb
    simp only [G]
    rw [decide1_ok hb g]
  · simp only [G]; exact ⟨_, rfl⟩
/-- an order, not looked into where it is not known -/
def looseC (o : Cop) (x y : SV) (S : St) : Option SV := match o, x, y with
  | .lt, .int p, .int q => some (tfOf (.le (padd (psub p q) (pcon 1))) S)
  | .le, .int p, .int q => some (tfOf (.le (psub p q)) S)
  | .gt, .int p, .int q => some (tfOf (.le (padd (psub q p) (pcon 1))) S)
  | .ge, .int p, .int q => some (tfOf (.le (psub q p)) S)
  | _, _, _ => none
theorem looseC_ok {o : Cop} {σ : Val} {S : St} {x y r : SV} {v w : PV} (h : looseC o x y S = some r) (gx : G σ x v) (gy : G σ y w) (g : GB σ S) : ∃ b, cmpV o v w = some b ∧ G σ r (.bool b) := by
  unfold looseC at h
  split at h <;> first
    | (cases h; done)
    | (simp only [Option.some.injEq] at h
       subst h
       simp only [G] at gx gy; subst gx; subst gy
       refine ⟨_, rfl, ?_⟩
       rename_i p q
       dsimp only
       first
         | (have := tfOf_ok (c := .le (padd (psub p q) (pcon 1))) g
            simp only [Cd.den, padd_ev, psub_ev, pcon_ev] at this
            rw [show decide (pev σ p < pev σ q) = decide (pev σ p - pev σ q + 1 ≤ 0) by rw [Bool.eq_iff_iff]; simp only [decide_eq_true_eq]; omega]
            exact this)
         | (have := tfOf_ok (c := .le (psub p q)) g
            simp only [Cd.den, psub_ev] at this
            rw [show decide (pev σ p ≤ pev σ q) = decide (pev σ p - pev σ q ≤ 0) by rw [Bool.eq_iff_iff]; simp only [decide_eq_true_eq]; omega]
            exact this)
         | (have := tfOf_ok (c := .le (padd (psub q p) (pcon 1))) g
            simp only [Cd.den, padd_ev, psub_ev, pcon_ev] at this
            rw [show decide (pev σ q < pev σ p) = decide (pev σ q - pev σ p + 1 ≤ 0) by rw [Bool.eq_iff_iff]; simp only [decide_eq_true_eq]; omega]
            exact this)
         | (have := tfOf_ok (c := .le (psub q p)) g
            simp only [Cd.den, psub_ev] at this
            rw [show decide (pev σ q ≤ pev σ p) = decide (pev σ q - pev σ p ≤ 0) by rw [Bool.eq_iff_iff]; simp only [decide_eq_true_eq]; omega]
            exact this))
def truA (t : SV) (S : St) : M Bool := match t with
  | .none => ret false S
  | .bool b => ret b S
  | .tf => both S
  | .int p => branch (.ne p) S
  | .str s => if s.length ≤ SL then ret (s.length != 0) S else none
  | .tup xs => ret (!xs.isEmpty) S
  | .lst _ xs => ret (!xs.isEmpty) S
  | _ => none
theorem Gs_emp {σ : Val} {xs : List SV} {ys : List PV} (h : Gs σ xs ys) : ys.isEmpty = xs.isEmpty := by
  have := Gs_len h
  cases xs <;> cases ys <;> simp_all
theorem truA_ok {σ : Val} {S : St} {ρ : Env} {t : SV} {v : PV} {L : List (Out Bool × St)} (h : truA t S = some L) (gt : G σ t v) (g : GS σ S ρ) : ∃ b, truV v = some b ∧ Hd (fun _ b a => b = a) S.n σ (.ok b ρ) L := by
  unfold truA at h
  split at h
  · simp only [G] at gt; subst gt; exact ⟨false, rfl, Hd.of_ret h rfl g⟩
  · simp only [G] at gt; subst gt; exact ⟨_, rfl, Hd.of_ret h rfl g⟩
  · simp only [G] at gt; obtain ⟨b, rfl⟩ := gt; exact ⟨_, rfl, both_ok h g b⟩
  · simp only [G] at gt; subst gt
    refine ⟨_, rfl, ?_⟩
    have := branch_ok h g
    simp only [Cd.den] at this
    rename_i p
    rw [show (pev σ p != 0) = decide (pev σ p ≠ 0) by rw [Bool.eq_iff_iff]; simp]
    exact this
  · simp only [G] at gt; subst gt
    split at h
    · rename_i hl
      exact ⟨_, by simp only [truV, if_pos hl], Hd.of_ret h rfl g⟩
    · cases h
  · simp only [G] at gt
    obtain ⟨ys, rfl, gy⟩ := gt
    exact ⟨_, rfl, Hd.of_ret h (by rw [Gs_emp gy]) g⟩
  · simp only [G] at gt
    obtain ⟨ys, rfl, gy⟩ := gt
    exact ⟨_, rfl, Hd.of_ret h (by rw [Gs_emp gy]) g⟩
  · cases h
def tyOwn : Ty → Bool
  | .own _ => true
  | _ => false
def isiA (t : SV) (ty : Ty) : Option SV := match t, ty with
  | _, .own _ => none
  | .none, _ => some (.bool false)
  | .bool _, .int => some (.bool true)
  | .bool _, .bool => some (.bool true)
  | .bool _, _ => some (.bool false)
  | .tf, .int => some (.bool true)
  | .tf, .bool => some (.bool true)
  | .tf, _ => some (.bool false)
  | .int _, .int => some (.bool true)
  | .int _, _ => some (.bool false)
  | .cell, .int => some (.bool true)
  | .cell, _ => some (.bool false)
  | .str _, .str => some (.bool true)
  | .str _, _ => some (.bool false)
  | .tup _, .tuple => some (.bool true)
  | .tup _, _ => some (.bool false)
  | .lst _ _, .list => some (.bool true)
  | .lst _ _, _ => some (.bool false)
  | .any _ _, _ => some .tf
  | .kin k, ty => (match k, ty with
    | .ntp _ _, .tuple => some (.bool false)
    | .ntp _ _, _ => some .tf
    | .nin _, .int => some (.bool false)
    | .nin _, .bool => some (.bool false)
    | .nin _, _ => some .tf
    | .tpl _ _, .tuple => some (.bool true)
    | .tpl _ _, _ => some (.bool false))
  | _, _ => none
theorem any_isi {d : Nat} {dc : Bool} {v : PV} (g : dt d v = true ∨ (dc = true ∧ isDic v = true)) (ty : Ty) (h : tyOwn ty = false) : ∃ b, isiV v ty = some b := by
  rcases g with g | ⟨_, g⟩
  · cases v <;> cases ty <;> simp_all [dt, isiV, tyOwn]
  · cases v <;> cases ty <;> simp_all [isDic, isiV, tyOwn]
theorem any_tf {σ : Val} {d : Nat} {dc : Bool} {v : PV} (g : dt d v = true ∨ (dc = true ∧ isDic v = true)) (ty : Ty) (h : tyOwn ty = false) : ∃ b, isiV v ty = some b ∧ G σ .tf (.bool b) := by
  obtain ⟨b, hb⟩ := any_isi g ty h
  exact ⟨b, hb, by simp only [G]; exact ⟨b, rfl⟩⟩
theorem kin_isi {σ : Val} {k : Kin} {r : SV} {ty : Ty} {v : PV} (h : isiA (.kin k) ty = some r) (g : GK σ k v) : ∃ b, isiV v ty = some b ∧ G σ r (.bool b) := by
  cases k with
  | ntp d dc =>
    cases ty with
    | tuple =>
      simp only [isiA, Option.some.injEq] at h; subst h
      obtain ⟨g1, g2⟩ := g
      refine ⟨false, ?_, by simp only [G]⟩
      rcases g1 with g1 | ⟨_, g1⟩
      · cases v <;> simp_all [dt, isiV, isTup]
      · cases v <;> simp_all [isDic, isiV, isTup]
    | own c => simp [isiA] at h
    | _ => simp only [isiA, Option.some.injEq] at h; subst h; exact any_tf g.1 _ rfl
  | nin d =>
    obtain ⟨g1, g2⟩ := g
    cases ty with
    | int => simp only [isiA, Option.some.injEq] at h; subst h; refine ⟨false, ?_, by simp only [G]⟩; cases v <;> simp_all [dt, isiV, isNum]
    | bool => simp only [isiA, Option.some.injEq] at h; subst h; refine ⟨false, ?_, by simp only [G]⟩; cases v <;> simp_all [dt, isiV, isNum]
    | own c => simp [isiA] at h
    | _ => simp only [isiA, Option.some.injEq] at h; subst h; exact any_tf (dc := false) (.inl g1) _ rfl
  | tpl d p =>
    obtain ⟨g1, ys, rfl, _⟩ := g
    cases ty with
    | own c => simp [isiA] at h
    | _ => simp only [isiA, Option.some.injEq] at h; subst h; exact ⟨_, rfl, by simp only [G]⟩
theorem isiA_ok {σ : Val} {t r : SV} {ty : Ty} {v : PV} (h : isiA t ty = some r) (g : G σ t v) : ∃ b, isiV v ty = some b ∧ G σ r (.bool b) := by
  by_cases hk : ∃ k, t = .kin k
  · obtain ⟨k, rfl⟩ := hk
    simp only [G] at g
    exact kin_isi h g
  cases t <;> cases ty <;> simp only [isiA, Option.some.injEq] at h <;> first
    | (cases h; done)
    | (exact absurd ⟨_, rfl⟩ hk)
    | (subst h; simp only [G] at g; subst g; exact ⟨_, rfl, by simp only [G]⟩)
    | (subst h; simp only [G] at g; obtain ⟨_, rfl⟩ := g; exact ⟨_, rfl, by simp only [G]⟩)
    | (subst h; simp only [G] at g; obtain ⟨_, rfl, _⟩ := g; exact ⟨_, rfl, by simp only [G]⟩)
    | (subst h; simp only [G] at g; exact any_tf g _ rfl)
end SX
end

section
set_option Elab.async false
set_option linter.all false
set_option maxRecDepth 100000
set_option maxHeartbeats 1000000
namespace SX
open PySem hiding Env
open LC
/-! ### at an index -/
def rngAll (S : St) : List SV → Option (Int × Int)
  | [] => none
  | .int p :: xs => (match prng S.B p, xs with
    | some a, [] => some a
    | some a, _ => (match rngAll S xs with
      | some b => some (if a.1 ≤ b.1 then a.1 else b.1, if a.2 ≤ b.2 then b.2 else a.2)
      | none => none)
    | none, _ => none)
  | _ :: _ => none
theorem rngAll_ok {σ : Val} {S : St} (gb : GB σ S) : ∀ {xs : List SV} {r : Int × Int} {t : SV} {v : PV}, rngAll S xs = some r → t ∈ xs → G σ t v → ∃ i, v = .int i ∧ r.1 ≤ i ∧ i ≤ r.2
  | [], _, _, _, h, _, _ => by simp [rngAll] at h
  | x :: xs, r, t, v, h, ht, g => by
    cases x with
    | int p =>
      simp only [rngAll] at h
      split at h
      · rename_i a ha
        cases h
        simp only [List.mem_singleton] at ht
        subst ht
        simp only [G] at g
        exact ⟨_, g, prng_ev gb.b ha⟩
      · rename_i a _ ha _
        split at h
        · rename_i b hb
          cases h
          rcases List.mem_cons.mp ht with e | e
          · subst e
            simp only [G] at g
            have := prng_ev gb.b ha
            refine ⟨_, g, ?_, ?_⟩ <;> simp only <;> split <;> omega
          · obtain ⟨i, e1, e2, e3⟩ := rngAll_ok gb hb e g
            refine ⟨i, e1, ?_, ?_⟩ <;> simp only <;> split <;> omega
        · cases h
      · cases h
    | _ => simp [rngAll] at h
def wd2 (S : St) (t : SV) : Option (Nat × Bool) := match t with
  | .any d dc => some (d, dc)
  | .kin (.ntp d dc) => some (d, dc)
  | t => (wdV S t).map fun d => (d, false)
def wdAll (S : St) : List SV → Option (Nat × Bool)
  | [] => some (0, false)
  | x :: xs => (match wd2 S x, wdAll S xs with
    | some a, some b => some (Nat.max a.1 b.1, a.2 || b.2)
    | _, _ => none)
theorem wdAll_ok {σ : Val} {S : St} (gb : GB σ S) : ∀ {xs : List SV} {r : Nat × Bool} {t : SV} {v : PV}, wdAll S xs = some r → t ∈ xs → G σ t v → G σ (.any r.1 r.2) v
  | [], _, _, _, _, h, _ => by cases h
  | x :: xs, r, t, v, h, ht, g => by
    simp only [wdAll] at h
    split at h
    · rename_i a b ha hb
      cases h
      have hm : Nat.max a.1 b.1 = max a.1 b.1 := rfl
      rcases List.mem_cons.mp ht with e | e
      · subst e
        simp only [G]
        unfold wd2 at ha
        split at ha
        · cases ha
          simp only [G] at g
          rcases g with g | g
          · exact .inl (dt_mono (by omega) g)
          · exact .inr ⟨by simp [g.1], g.2⟩
        · cases ha
          simp only [G, GK] at g
          rcases g.1 with g | g
          · exact .inl (dt_mono (by omega) g)
          · exact .inr ⟨by simp [g.1], g.2⟩
        · simp only [Option.map_eq_some_iff] at ha
          obtain ⟨d, hd, rfl⟩ := ha
          exact .inl (dt_mono (Nat.le_max_left _ _) (wdV_ok gb hd g))
      · have := wdAll_ok gb hb e g
        simp only [G] at this ⊢
        rcases this with z | z
        · exact .inl (dt_mono (by omega) z)
        · exact .inr ⟨by simp [z.1], z.2⟩
    · cases h
def tupLen : SV → Option Nat
  | .tup xs => some xs.length
  | _ => none
def sameTup : List SV → Bool
  | [] => false
  | x :: xs => (match tupLen x with
    | some n => xs.all fun y => (match tupLen y with
      | some m => Nat.beq n m
      | none => false)
    | none => false)
def inR (n : Nat) : Option (Int × Int) → Bool
  | some r => decide (0 ≤ r.1) && decide (r.2 < (n : Int))
  | none => false
def atA (xs : List SV) (k : Int) (S : St) : M SV := match ixN xs.length k with
  | some j => (match xs[j]? with
    | some t => ret t S
    | none => none)
  | none => none
theorem atA_ok {σ : Val} {S : St} {ρ : Env} {xs : List SV} {ys : List PV} {k : Int} {L : List (Out SV × St)} (h : atA xs k S = some L) (gx : Gs σ xs ys) (g : GS σ S ρ) : Hd G S.n σ (Res.of (atI ys k) ρ) L := by
  unfold atA at h
  split at h
  · rename_i j hj
    split at h
    · rename_i t ht
      obtain ⟨v, hv, gv⟩ := Gs_get gx ht
      have : atI ys k = some v := by
        unfold atI
        rw [Gs_len gx, hj]
        exact hv
      rw [this]
      exact Hd.of_ret h gv g
    · cases h
  · cases h
def atC (xs : List SV) (p : Poly) (S : St) : M SV := bindM (conc 3 p S) fun k S1 => if keeps S.n S1.n xs then atA xs k S1 else none
theorem atC_ok {σ : Val} {S : St} {ρ : Env} {xs : List SV} {ys : List PV} {p : Poly} {L : List (Out SV × St)} (h : atC xs p S = some L) (gx : Gs σ xs ys) (g : GS σ S ρ) : Hd G S.n σ (Res.of (atI ys (pev σ p)) ρ) L := by
  have := Hd.bind (g' := G) (f := fun k ρ => Res.of (atI ys k) ρ) h (fun L hL => conc_ok hL g) fun b S1 σ1 a ρ1 L1 hk e hab g1 => by
    subst hab
    split at hk
    · rename_i hc
      exact atA_ok hk (keeps_G e hc gx) g1
    · cases hk
  exact this
def atJ (cfg : Cfg) (xs : List SV) (p : Poly) (S : St) : M SV :=
  let p := pred S.B p
  match pk p with
  | some k => atA xs k S
  | none => if cfg.join && inR xs.length (prng S.B p) && !sameTup xs then (match rngAll S xs with
      | some r => newI r.1 r.2 S
      | none => (match wdAll S xs with
        | some r => ret (.any r.1 r.2) S
        | none => atC xs p S)) else atC xs p S
theorem atJ_ok {cfg : Cfg} {σ : Val} {S : St} {ρ : Env} {xs : List SV} {ys : List PV} {p : Poly} {L : List (Out SV × St)} (h : atJ cfg xs p S = some L) (gx : Gs σ xs ys) (g : GS σ S ρ) : Hd G S.n σ (Res.of (atI ys (pev σ p)) ρ) L := by
  unfold atJ at h
  simp only at h
  rw [← pred_ev g.b p]
  generalize pred S.B p = p at h
  split at h
  · rename_i k hk
    rw [pk_ev hk]
    exact atA_ok h gx g
  · split at h
    · rename_i hc
      simp only [Bool.and_eq_true] at hc
      have hr := hc.1.2
      unfold inR at hr
      split at hr
      · rename_i r hpr
        have hb := prng_ev g.b hpr
        simp only [Bool.and_eq_true, decide_eq_true_eq] at hr
        have h0 : 0 ≤ pev σ p := by omega
        have h1 : pev σ p < (xs.length : Int) := by omega
        have hlt : (pev σ p).toNat < xs.length := by omega
        obtain ⟨v, hv, gv⟩ := Gs_get (i := (pev σ p).toNat) (t := xs[(pev σ p).toNat]) gx (List.getElem?_eq_getElem hlt)
        have e : atI ys (pev σ p) = some v := by
          unfold atI ixN
          rw [Gs_len gx, if_pos h0, if_pos h1]
          exact hv
        have hmem : xs[(pev σ p).toNat] ∈ xs := List.getElem_mem _
        split at h
        · rename_i r' hr'
          obtain ⟨i, rfl, b1, b2⟩ := rngAll_ok g.toGB hr' hmem gv
          rw [e]
          exact newI_ok h b1 b2 g
        · split at h
          · rename_i r' hr'
            rw [e]
            exact Hd.of_ret h (wdAll_ok g.toGB hr' hmem gv) g
          · exact atC_ok h gx g
      · cases hr
    · exact atC_ok h gx g
def aSub (cfg : Cfg) (x i : SV) (S : St) : M SV := match x, i with
  | .tup xs, .int p => atJ cfg xs p S
  | .lst _ xs, .int p => atJ cfg xs p S
  | _, _ => none
theorem aSub_ok {cfg : Cfg} {σ : Val} {S : St} {ρ : Env} {x y : SV} {v w : PV} {L : List (Out SV × St)} (h : aSub cfg x y S = some L) (gx : G σ x v) (gy : G σ y w) (g : GS σ S ρ) : Hd G S.n σ (Res.of (subV v w) ρ) L := by
  unfold aSub at h
  split at h
  · simp only [G] at gx gy; subst gy
    obtain ⟨ys, rfl, gx⟩ := gx
    exact atJ_ok h gx g
  · simp only [G] at gx gy; subst gy
    obtain ⟨ys, rfl, gx⟩ := gx
    exact atJ_ok h gx g
  · cases h
/-! ### slices -/
theorem Gs_cut {σ : Val} {xs : List SV} {ys : List PV} (h : Gs σ xs ys) (lo hi : Option Int) : Gs σ (cut xs lo hi) (cut ys lo hi) := by
  unfold cut
  rw [Gs_len h]
  exact Gs_take _ (Gs_drop _ h)
def cellsM : Option Int → Option Int → Nat
  | some l, some h => if 0 ≤ l ∧ 0 ≤ h then (h.toNat - l.toNat) else 63
  | _, _ => 63
theorem cellsM_ok {ns : List Int} (hn : ns.length ≤ 63) (lo hi : Option Int) : (cut ns lo hi).length ≤ cellsM lo hi := by
  have h0 : (cut ns lo hi).length ≤ ns.length := by
    unfold cut
    rw [List.length_take, List.length_drop]; omega
  unfold cellsM
  split
  · rename_i l h
    split
    · rename_i hc
      unfold cut
      rw [List.length_take, List.length_drop]
      simp only [sIx]
      rw [if_neg (by omega), if_neg (by omega)]
      omega
    · omega
  · omega
def aSli (x : SV) (lo hi : Option Int) (S : St) : M SV := match x with
  | .tup xs => ret (.tup (cut xs lo hi)) S
  | .lst _ xs => ret (.lst true (cut xs lo hi)) S
  | .scr => ret (.cells (cellsM lo hi)) S
  | _ => none
theorem aSli_ok {σ : Val} {S : St} {ρ : Env} {x : SV} {v : PV} {lo hi : Option Int} {L : List (Out SV × St)} (h : aSli x lo hi S = some L) (gx : G σ x v) (g : GS σ S ρ) : Hd G S.n σ (Res.of (sliV v lo hi) ρ) L := by
  unfold aSli at h
  split at h
  · simp only [G] at gx
    obtain ⟨ys, rfl, gx⟩ := gx
    exact Hd.of_ret h (by simp only [G]; exact ⟨_, rfl, Gs_cut gx _ _⟩) g
  · simp only [G] at gx
    obtain ⟨ys, rfl, gx⟩ := gx
    exact Hd.of_ret h (by simp only [G]; exact ⟨_, rfl, Gs_cut gx _ _⟩) g
  · simp only [G] at gx
    obtain ⟨ns, rfl, hn⟩ := gx
    exact Hd.of_ret h (by simp only [G]; exact ⟨true, _, rfl, cellsM_ok hn _ _⟩) g
  · cases h
/-! ### builtins -/
def polys : List SV → Option (List Poly)
  | [] => some []
  | .int p :: xs => (polys xs).map (p :: ·)
  | _ :: _ => none
theorem polys_ok {σ : Val} : ∀ {xs : List SV} {ps : List Poly} {ys : List PV}, polys xs = some ps → Gs σ xs ys → LC.intsL ys = some (ps.map (pev σ))
  | [], ps, ys, h, g => by simp only [Gs] at g; subst g; simp only [polys, Option.some.injEq] at h; subst h; rfl
  | x :: xs, ps, ys, h, g => by
    simp only [Gs] at g
    obtain ⟨w, ws, rfl, gw, gws⟩ := g
    cases x with
    | int p =>
      simp only [polys, Option.map_eq_some_iff] at h
      obtain ⟨qs, hq, rfl⟩ := h
      simp only [G] at gw; subst gw
      simp [LC.intsL, polys_ok hq gws]
    | _ => simp [polys] at h
def psum : List Poly → Poly
  | [] => []
  | p :: ps => padd p (psum ps)
theorem psum_ev (σ : Val) : ∀ ps : List Poly, pev σ (psum ps) = (ps.map (pev σ)).sum
  | [] => rfl
  | p :: ps => by rw [psum, padd_ev, psum_ev σ ps, List.map_cons, List.sum_cons]
/-- the greater, or the lesser -/
def mxA (gt : Bool) : List Poly → St → M Poly
  | [], S => none
  | p :: ps, S => (match ps with
    | [] => ret p S
    | _ :: _ => bindM (mxA gt ps S) fun r S1 => if Nat.beq S.n S1.n || pwf S.n p then bindM (branch (.le (psub p r)) S1) fun b S2 => if Nat.beq S1.n S2.n || (pwf S1.n p && pwf S1.n r) then ret (if b == gt then r else p) S2 else none else none)
theorem mxA_cons (gt : Bool) (p q : Poly) (ps : List Poly) (S : St) : mxA gt (p :: q :: ps) S = bindM (mxA gt (q :: ps) S) fun r S1 => if Nat.beq S.n S1.n || pwf S.n p then bindM (branch (.le (psub p r)) S1) fun b S2 => if Nat.beq S1.n S2.n || (pwf S1.n p && pwf S1.n r) then ret (if b == gt then r else p) S2 else none else none := rfl
def mxL (gt : Bool) (ns : List Int) : Int := if gt then maxL ns else minL ns
theorem pkeep {n n' : Nat} {σ σ' : Val} (e : Ext n n' σ σ') {p : Poly} (h : (Nat.beq n n' || pwf n p) = true) : pev σ' p = pev σ p := by
  rw [Bool.or_eq_true] at h
  rcases h with h | h
  · rw [e.2.2 (Nat.eq_of_beq_eq_true h)]
  · exact pwf_ev e h
theorem mxA_ok (gt : Bool) : ∀ {ps : List Poly} {σ : Val} {S : St} {ρ : Env} {L : List (Out Poly × St)}, mxA gt ps S = some L → GS σ S ρ → Hd (fun σ b a => a = pev σ b) S.n σ (.ok (mxL gt (ps.map (pev σ))) ρ) L
  | [], σ, S, ρ, L, h, g => by simp [mxA] at h
  | [p], σ, S, ρ, L, h, g => by
    simp only [mxA] at h
    exact Hd.of_ret h (by cases gt <;> simp [mxL, maxL, minL]) g
  | p :: q :: ps, σ, S, ρ, L, h, g => by
    rw [mxA_cons] at h
    have := Hd.bind (g' := fun σ b a => a = pev σ b) (f := fun (r : Int) (ρ : Env) => .ok (if decide (pev σ p ≤ r) == gt then r else pev σ p) ρ) h (fun L hL => mxA_ok gt hL g) fun r S1 σ1 a ρ1 L1 hk e hab g1 => by
      try simp only at hk hab
      subst hab
      split at hk
      · rename_i hc
        have ep := pkeep e hc
        have := Hd.bind (g' := fun σ b a => a = pev σ b) (f := fun (b : Bool) (ρ : Env) => .ok (if b == gt then pev σ1 r else pev σ1 p) ρ) hk (fun L hL => branch_ok hL g1) fun b S2 σ2 b' ρ2 L2 hk2 e2 hab2 g2 => by
          try simp only at hk2
          subst hab2
          split at hk2
          · rename_i hc2
            have e3 : pev σ2 p = pev σ1 p := pkeep e2 (by rw [Bool.or_eq_true] at *; rcases hc2 with z | z; exact .inl z; exact .inr (by rw [Bool.and_eq_true] at z; exact z.1))
            have e4 : pev σ2 r = pev σ1 r := pkeep e2 (by rw [Bool.or_eq_true] at *; rcases hc2 with z | z; exact .inl z; exact .inr (by rw [Bool.and_eq_true] at z; exact z.2))
            exact Hd.of_ret hk2 (by split <;> simp [e3, e4]) g2
          · cases hk2
        simp only [Res.bind_ok, Cd.den, psub_ev] at this
        rw [ep] at this
        rw [show decide (pev σ p ≤ pev σ1 r) = decide (pev σ p - pev σ1 r ≤ 0) by rw [Bool.eq_iff_iff]; simp only [decide_eq_true_eq]; omega]
        exact this
      · cases hk
    simp only [Res.bind_ok, List.map_cons] at this
    have e : mxL gt (List.map (pev σ) (p :: q :: ps)) = if decide (pev σ p ≤ mxL gt (pev σ q :: List.map (pev σ) ps)) == gt then mxL gt (pev σ q :: List.map (pev σ) ps) else pev σ p := by
      cases gt
      · simp only [mxL, List.map_cons, minL, Bool.false_eq_true, if_false]
        by_cases z : pev σ p ≤ minL (pev σ q :: List.map (pev σ) ps)
        · simp [z]; omega
        · simp [z]; omega
      · simp only [mxL, List.map_cons, maxL, if_true]
        by_cases z : pev σ p ≤ maxL (pev σ q :: List.map (pev σ) ps)
        · simp [z]; omega
        · simp [z]; omega
    rw [e]
    exact this
def tfs : List SV → Option (List (Option Bool))
  | [] => some []
  | .bool b :: xs => (tfs xs).map (some b :: ·)
  | .tf :: xs => (tfs xs).map (none :: ·)
  | _ :: _ => none
def TF : List (Option Bool) → List Bool → Prop
  | [], bs => bs = []
  | o :: os, bs => ∃ b cs, bs = b :: cs ∧ (∀ c, o = some c → b = c) ∧ TF os cs
theorem tfs_ok {σ : Val} : ∀ {xs : List SV} {os : List (Option Bool)} {ys : List PV}, tfs xs = some os → Gs σ xs ys → ∃ bs, bools ys = some bs ∧ TF os bs
  | [], os, ys, h, g => by simp only [Gs] at g; subst g; simp only [tfs, Option.some.injEq] at h; subst h; exact ⟨[], rfl, rfl⟩
  | x :: xs, os, ys, h, g => by
    simp only [Gs] at g
    obtain ⟨w, ws, rfl, gw, gws⟩ := g
    cases x with
    | bool b =>
      simp only [tfs, Option.map_eq_some_iff] at h
      obtain ⟨qs, hq, rfl⟩ := h
      simp only [G] at gw; subst gw
      obtain ⟨bs, e, t⟩ := tfs_ok hq gws
      exact ⟨b :: bs, by simp [bools, e], b, bs, rfl, fun c hc => by cases hc; rfl, t⟩
    | tf =>
      simp only [tfs, Option.map_eq_some_iff] at h
      obtain ⟨qs, hq, rfl⟩ := h
      simp only [G] at gw; obtain ⟨b, rfl⟩ := gw
      obtain ⟨bs, e, t⟩ := tfs_ok hq gws
      exact ⟨b :: bs, by simp [bools, e], b, bs, rfl, fun c hc => by (cases hc), t⟩
    | _ => simp [tfs] at h
/-- all (a = false), any (a = true): known if one is a, or all are known -/
def allA (a : Bool) (os : List (Option Bool)) : SV := if os.any (fun o => match o with | some b => b == a | none => false) then .bool a else if os.all (fun o => o.isSome) then .bool (!a) else .tf
theorem allA_ok {σ : Val} (a : Bool) : ∀ {os : List (Option Bool)} {bs : List Bool}, TF os bs → G σ (allA a os) (.bool (if a then bs.any id else bs.all id)) := by
  intro os bs h
  unfold allA
  have h1 : os.any (fun o => match o with | some b => b == a | none => false) = true → (if a then bs.any id else bs.all id) = a := by
    induction os generalizing bs with
    | nil => simp
    | cons o os ih =>
      obtain ⟨b, cs, rfl, hb, ht⟩ := h
      intro hx
      simp only [List.any_cons, Bool.or_eq_true] at hx
      rcases hx with z | z
      · cases o with
        | none => cases z
        | some c =>
          have := hb c rfl
          simp only [beq_iff_eq] at z
          subst z; subst this
          cases b <;> simp
      · have := ih ht z
        cases a <;> simp_all
  have h2 : os.all (fun o => o.isSome) = true → ¬ os.any (fun o => match o with | some b => b == a | none => false) = true → (if a then bs.any id else bs.all id) = !a := by
    induction os generalizing bs with
    | nil => simp only [TF] at h; subst h; cases a <;> simp
    | cons o os ih =>
      obtain ⟨b, cs, rfl, hb, ht⟩ := h
      intro hx hy
      simp only [List.all_cons, Bool.and_eq_true] at hx
      simp only [List.any_cons, Bool.or_eq_true, not_or] at hy
      cases o with
      | none => simp at hx
      | some c =>
        have e := hb c rfl
        subst e
        have hi := ih ht (fun hx => by
          have : (List.any os fun o => match o with | some b => b == a | none => false) = true := hx
          exact absurd this hy.2) hx.2 hy.2
        cases a <;> cases b <;> simp_all
  split
  · rename_i hx; simp only [G]; rw [h1 hx]
  · rename_i hx
    split
    · rename_i hy; simp only [G]; rw [h2 hy hx]
    · simp only [G]; exact ⟨_, rfl⟩
/-- without sign, or the greater: where it is not known which, a new number between the bounds -/
def mxB : List Poly → St → Option (Int × Int)
  | [], S => none
  | p :: ps, S => (match prng S.B p with
    | none => none
    | some a => (match ps with
      | [] => some a
      | _ :: _ => (match mxB ps S with
        | some b => some (if a.1 ≤ b.1 then b.1 else a.1, if a.2 ≤ b.2 then b.2 else a.2)
        | none => none)))
theorem mxB_ok {σ : Val} {S : St} (gb : GB σ S) : ∀ {ps : List Poly} {r : Int × Int}, mxB ps S = some r → r.1 ≤ maxL (ps.map (pev σ)) ∧ maxL (ps.map (pev σ)) ≤ r.2
  | [], r, h => by simp [mxB] at h
  | [p], r, h => by
    simp only [mxB] at h
    split at h
    · cases h
    · rename_i a ha
      cases h
      simp only [List.map_cons, List.map_nil, maxL]
      exact prng_ev gb.b ha
  | p :: q :: ps, r, h => by
    rw [mxB] at h
    split at h
    · cases h
    · rename_i a ha
      simp only at h
      split at h
      · rename_i b hb
        cases h
        have h1 := prng_ev gb.b ha
        have h2 := mxB_ok gb hb
        simp only [List.map_cons] at h2 ⊢
        rw [maxL]
        · constructor
          · split <;> omega
          · split <;> omega
        · simp
      · cases h
def absL (p : Poly) (S : St) : Option (Int × Int) := match prng S.B p with
  | some a => some (0, if -a.1 ≤ a.2 then a.2 else -a.1)
  | none => none
def aBltL (f : Blt) (xs : List SV) (S : St) : M SV := match f, xs with
  | .abs, [.int p] => (match decide1 (.le (padd p (pcon 1))) S with
    | some b => ret (.int (if b then pneg p else p)) S
    | none => (match absL p S with
      | some r => newI r.1 r.2 S
      | none => none))
  | .max, [.int p, .int q] => (match decide1 (.le (padd (psub p q) (pcon 1))) S with
    | some b => ret (.int (if b then q else p)) S
    | none => (match mxB [p, q] S with
      | some r => newI r.1 r.2 S
      | none => none))
  | .max, [.lst _ xs] => (match polys xs with
    | some ps => (match mxB ps S with
      | some r => newI r.1 r.2 S
      | none => none)
    | none => none)
  | _, _ => none
theorem aBltL_ok {f : Blt} {σ : Val} {S : St} {ρ : Env} {xs : List SV} {vs : List PV} {L : List (Out SV × St)} (h : aBltL f xs S = some L) (gx : Gs σ xs vs) (g : GS σ S ρ) : Hd G S.n σ (Res.of (bltV f vs) ρ) L := by
  unfold aBltL at h
  split at h
  · simp only [Gs, G] at gx
    obtain ⟨_, _, rfl, rfl, rfl⟩ := gx
    rename_i p
    simp only [bltV, absV, Res.of_some]
    split at h
    · rename_i b hb
      have := decide1_ok hb g.toGB
      simp only [Cd.den, padd_ev, pcon_ev] at this
      refine Hd.of_ret h ?_ g
      simp only [G]
      cases b with
      | true => simp only [decide_eq_true_eq] at this; simp only [if_true]; rw [pneg_ev, if_pos (by omega)]
      | false => simp only [decide_eq_false_iff_not] at this; simp only [Bool.false_eq_true, if_false]; rw [if_neg (by omega)]
    · split at h
      · rename_i r hr
        unfold absL at hr
        split at hr
        · rename_i a ha
          cases hr
          have := prng_ev g.b ha
          refine newI_ok h ?_ ?_ g
          · simp only; split <;> omega
          · simp only; split <;> split <;> omega
        · cases hr
      · cases h
  · simp only [Gs, G] at gx
    obtain ⟨_, _, rfl, rfl, _, _, rfl, rfl, rfl⟩ := gx
    rename_i p q
    simp only [bltV, maxV, Res.of_some]
    split at h
    · rename_i b hb
      have := decide1_ok hb g.toGB
      simp only [Cd.den, padd_ev, psub_ev, pcon_ev] at this
      refine Hd.of_ret h ?_ g
      simp only [G]
      cases b with
      | true => simp only [decide_eq_true_eq] at this; simp only [if_true]; rw [if_pos (by omega)]
      | false => simp only [decide_eq_false_iff_not] at this; simp only [Bool.false_eq_true, if_false]; rw [if_neg (by omega)]
    · split at h
      · rename_i r hr
        have := mxB_ok g.toGB hr
        simp only [List.map_cons, List.map_nil, maxL] at this
        refine newI_ok h ?_ ?_ g
        · split <;> omega
        · split <;> omega
      · cases h
  · simp only [Gs, G] at gx
    obtain ⟨_, _, rfl, ⟨ys, rfl, gy⟩, rfl⟩ := gx
    split at h
    · rename_i ps hp
      split at h
      · rename_i r hr
        have := mxB_ok g.toGB hr
        simp only [bltV, maxV, polys_ok hp gy]
        cases ps with
        | nil => simp [mxB] at hr
        | cons p ps =>
          simp only [List.map_cons, Res.of_some] at this ⊢
          exact newI_ok h this.1 this.2 g
      · cases h
    · cases h
  · cases h
def aBlt (cfg : Cfg) (f : Blt) (xs : List SV) (S : St) : M SV := match f, xs with
  | .len, [.tup xs] => ret (.int (pcon xs.length)) S
  | .len, [.lst _ xs] => ret (.int (pcon xs.length)) S
  | .len, [.scr] => newI 0 63 S
  | .len, [.kin (.tpl _ p)] => ret (.int p) S
  | .len, [.str s] => if s.length ≤ SL then ret (.int (pcon s.length)) S else none
  | .abs, [.int p] => bindM (branch (.le (padd p (pcon 1))) S) fun b S1 => if Nat.beq S.n S1.n || pwf S.n p then ret (.int (if b then pneg p else p)) S1 else none
  | .max, [.int p, .int q] => bindM (branch (.le (padd (psub p q) (pcon 1))) S) fun b S1 => if Nat.beq S.n S1.n || (pwf S.n p && pwf S.n q) then ret (.int (if b then q else p)) S1 else none
  | .min, [.int p, .int q] => bindM (branch (.le (padd (psub q p) (pcon 1))) S) fun b S1 => if Nat.beq S.n S1.n || (pwf S.n p && pwf S.n q) then ret (.int (if b then q else p)) S1 else none
  | .max, [.lst _ xs] => (match polys xs with
    | some ps => bindM (mxA true ps S) fun p S1 => ret (.int p) S1
    | none => none)
  | .min, [.lst _ xs] => (match polys xs with
    | some ps => bindM (mxA false ps S) fun p S1 => ret (.int p) S1
    | none => none)
  | .int, [.int p] => ret (.int p) S
  | .int, [.bool b] => ret (.int (pcon (b2i b))) S
  | .int, [.tf] => newI 0 1 S
  | .str, [.int p] => bindM (conc 3 p S) fun i S1 => if i.natAbs.log2 < 1920 then ret (.str (toString i)) S1 else none
  | .sum, [.lst _ xs] => (match polys xs with
    | some ps => mkInt cfg (psum ps) S
    | none => none)
  | .all, [.lst _ xs] => (match tfs xs with
    | some os => ret (allA false os) S
    | none => none)
  | .any, [.lst _ xs] => (match tfs xs with
    | some os => ret (allA true os) S
    | none => none)
  | .tuple, [.lst _ xs] => ret (.tup xs) S
  | .tuple, [.tup xs] => ret (.tup xs) S
  | .list, [.lst _ xs] => ret (.lst true xs) S
  | .list, [.tup xs] => ret (.lst true xs) S
  | _, _ => none
theorem mx_ok (gt : Bool) {σ : Val} {S : St} {ρ : Env} {xs : List SV} {ys : List PV} {ps : List Poly} (hp : polys xs = some ps) (gx : Gs σ xs ys) (g : GS σ S ρ) {L : List (Out SV × St)} (h : bindM (mxA gt ps S) (fun p S1 => ret (.int p) S1) = some L) (f : List Int → Int) (hf : ∀ ns, f ns = mxL gt ns) :
    Hd G S.n σ (Res.of (match LC.intsL ys with | some (n :: ns) => some (.int (f (n :: ns))) | _ => none) ρ) L := by
  rw [polys_ok hp gx]
  cases ps with
  | nil => simp [mxA, bindM] at h
  | cons p ps =>
    have := Hd.bind (g' := G) (f := fun (r : Int) (ρ : Env) => .ok (.int r) ρ) h (fun L hL => mxA_ok gt hL g) fun r S1 σ1 a ρ1 L1 hk e hab g1 => by
      subst hab
      exact Hd.of_ret hk (by simp only [G]) g1
    simp only [List.map_cons, Res.of_some, hf]
    exact this
theorem aBlt_ok {cfg : Cfg} {f : Blt} {σ : Val} {S : St} {ρ : Env} {xs : List SV} {vs : List PV} {L : List (Out SV × St)} (h : aBlt cfg f xs S = some L) (gx : Gs σ xs vs) (g : GS σ S ρ) : Hd G S.n σ (Res.of (bltV f vs) ρ) L := by
  unfold aBlt at h
  split at h
  · simp only [Gs, G] at gx
    obtain ⟨_, _, rfl, ⟨ys, rfl, gy⟩, rfl⟩ := gx
    exact Hd.of_ret h (by simp only [G]; rw [pcon_ev, Gs_len gy]) g
  · simp only [Gs, G] at gx
    obtain ⟨_, _, rfl, ⟨ys, rfl, gy⟩, rfl⟩ := gx
    exact Hd.of_ret h (by simp only [G]; rw [pcon_ev, Gs_len gy]) g
  · simp only [Gs, G] at gx
    obtain ⟨_, _, rfl, ⟨ns, rfl, hn⟩, rfl⟩ := gx
    exact newI_ok h (by omega) (by omega) g
  · simp only [Gs, G, GK] at gx
    obtain ⟨_, _, rfl, ⟨_, ys, rfl, hl⟩, rfl⟩ := gx
    exact Hd.of_ret h (by simp only [G]; rw [hl]) g
  · simp only [Gs, G] at gx
    obtain ⟨_, _, rfl, rfl, rfl⟩ := gx
    split at h
    · rename_i hl
      simp only [bltV, lenV, if_pos hl, Res.of_some]
      exact Hd.of_ret h (by simp only [G]; rw [pcon_ev]) g
    · cases h
  · simp only [Gs, G] at gx
    obtain ⟨_, _, rfl, rfl, rfl⟩ := gx
    rename_i p
    have := Hd.bind (g' := G) (f := fun (b : Bool) (ρ : Env) => .ok (.int (if b then -pev σ p else pev σ p)) ρ) h (fun L hL => branch_ok hL g) fun b S1 σ1 b' ρ1 L1 hk e hab g1 => by
      try simp only at hk
      subst hab
      split at hk
      · rename_i hc
        have := pkeep e hc
        exact Hd.of_ret hk (by simp only [G]; split <;> simp [pneg_ev, this]) g1
      · cases hk
    simp only [Res.bind_ok, Cd.den, padd_ev, pcon_ev, decide_eq_true_eq] at this
    simp only [bltV, absV, Res.of_some]
    rw [show (if pev σ p < 0 then -pev σ p else pev σ p) = if pev σ p + 1 ≤ 0 then -pev σ p else pev σ p by split <;> split <;> omega]
    exact this
  · simp only [Gs, G] at gx
    obtain ⟨_, _, rfl, rfl, _, _, rfl, rfl, rfl⟩ := gx
    rename_i p q
    have := Hd.bind (g' := G) (f := fun (b : Bool) (ρ : Env) => .ok (.int (if b then pev σ q else pev σ p)) ρ) h (fun L hL => branch_ok hL g) fun b S1 σ1 b' ρ1 L1 hk e hab g1 => by
      try simp only at hk
      subst hab
      split at hk
      · rename_i hc
        have e3 : pev σ1 p = pev σ p := pkeep e (by rw [Bool.or_eq_true] at *; rcases hc with z | z; exact .inl z; exact .inr (by rw [Bool.and_eq_true] at z; exact z.1))
        have e4 : pev σ1 q = pev σ q := pkeep e (by rw [Bool.or_eq_true] at *; rcases hc with z | z; exact .inl z; exact .inr (by rw [Bool.and_eq_true] at z; exact z.2))
        exact Hd.of_ret hk (by simp only [G]; split <;> simp [e3, e4]) g1
      · cases hk
    simp only [Res.bind_ok, Cd.den, padd_ev, psub_ev, pcon_ev, decide_eq_true_eq] at this
    simp only [bltV, maxV, Res.of_some]
    rw [show (if pev σ q > pev σ p then pev σ q else pev σ p) = if pev σ p - pev σ q + 1 ≤ 0 then pev σ q else pev σ p by split <;> split <;> omega]
    exact this
  · simp only [Gs, G] at gx
    obtain ⟨_, _, rfl, rfl, _, _, rfl, rfl, rfl⟩ := gx
    rename_i p q
    have := Hd.bind (g' := G) (f := fun (b : Bool) (ρ : Env) => .ok (.int (if b then pev σ q else pev σ p)) ρ) h (fun L hL => branch_ok hL g) fun b S1 σ1 b' ρ1 L1 hk e hab g1 => by
      try simp only at hk
      subst hab
      split at hk
      · rename_i hc
        have e3 : pev σ1 p = pev σ p := pkeep e (by rw [Bool.or_eq_true] at *; rcases hc with z | z; exact .inl z; exact .inr (by rw [Bool.and_eq_true] at z; exact z.1))
        have e4 : pev σ1 q = pev σ q := pkeep e (by rw [Bool.or_eq_true] at *; rcases hc with z | z; exact .inl z; exact .inr (by rw [Bool.and_eq_true] at z; exact z.2))
        exact Hd.of_ret hk (by simp only [G]; split <;> simp [e3, e4]) g1
      · cases hk
    simp only [Res.bind_ok, Cd.den, padd_ev, psub_ev, pcon_ev, decide_eq_true_eq] at this
    simp only [bltV, minV, Res.of_some]
    rw [show (if pev σ q < pev σ p then pev σ q else pev σ p) = if pev σ q - pev σ p + 1 ≤ 0 then pev σ q else pev σ p by split <;> split <;> omega]
    exact this
  · simp only [Gs, G] at gx
    obtain ⟨_, _, rfl, ⟨ys, rfl, gy⟩, rfl⟩ := gx
    split at h
    · rename_i ps hp
      exact mx_ok true hp gy g h maxL fun _ => rfl
    · cases h
  · simp only [Gs, G] at gx
    obtain ⟨_, _, rfl, ⟨ys, rfl, gy⟩, rfl⟩ := gx
    split at h
    · rename_i ps hp
      exact mx_ok false hp gy g h minL fun _ => rfl
    · cases h
  · simp only [Gs, G] at gx
    obtain ⟨_, _, rfl, rfl, rfl⟩ := gx
    exact Hd.of_ret h (by simp only [G]) g
  · simp only [Gs, G] at gx
    obtain ⟨_, _, rfl, rfl, rfl⟩ := gx
    exact Hd.of_ret h (by simp only [G]; rw [pcon_ev]) g
  · simp only [Gs, G] at gx
    obtain ⟨_, _, rfl, ⟨b, rfl⟩, rfl⟩ := gx
    exact newI_ok h (by cases b <;> simp [b2i]) (by cases b <;> simp [b2i]) g
  · simp only [Gs, G] at gx
    obtain ⟨_, _, rfl, rfl, rfl⟩ := gx
    have := Hd.bind (g' := G) (f := fun (i : Int) (ρ : Env) => Res.of (bltV .str [.int i]) ρ) h (fun L hL => conc_ok hL g) fun b S1 σ1 a ρ1 L1 hk e hab g1 => by
      try simp only at hk
      subst hab
      split at hk
      · rename_i hc
        simp only [bltV, strOfV, if_pos hc, Res.of_some]
        exact Hd.of_ret hk (by simp only [G]) g1
      · cases hk
    exact this
  · simp only [Gs, G] at gx
    obtain ⟨_, _, rfl, ⟨ys, rfl, gy⟩, rfl⟩ := gx
    split at h
    · rename_i ps hp
      have := mkInt_ok h g
      rw [psum_ev] at this
      simp only [bltV, sumV, polys_ok hp gy, Option.map_some, Res.of_some]
      exact this
    · cases h
  · simp only [Gs, G] at gx
    obtain ⟨_, _, rfl, ⟨ys, rfl, gy⟩, rfl⟩ := gx
    split at h
    · rename_i os ho
      obtain ⟨bs, e, t⟩ := tfs_ok ho gy
      simp only [bltV, allV, e, Option.map_some, Res.of_some]
      exact Hd.of_ret h (allA_ok false t) g
    · cases h
  · simp only [Gs, G] at gx
    obtain ⟨_, _, rfl, ⟨ys, rfl, gy⟩, rfl⟩ := gx
    split at h
    · rename_i os ho
      obtain ⟨bs, e, t⟩ := tfs_ok ho gy
      simp only [bltV, anyV, e, Option.map_some, Res.of_some]
      exact Hd.of_ret h (allA_ok true t) g
    · cases h
  · simp only [Gs, G] at gx
    obtain ⟨_, _, rfl, ⟨ys, rfl, gy⟩, rfl⟩ := gx
    exact Hd.of_ret h (by simp only [G]; exact ⟨_, rfl, gy⟩) g
  · simp only [Gs, G] at gx
    obtain ⟨_, _, rfl, ⟨ys, rfl, gy⟩, rfl⟩ := gx
    exact Hd.of_ret h (by simp only [G]; exact ⟨_, rfl, gy⟩) g
  · simp only [Gs, G] at gx
    obtain ⟨_, _, rfl, ⟨ys, rfl, gy⟩, rfl⟩ := gx
    exact Hd.of_ret h (by simp only [G]; exact ⟨_, rfl, gy⟩) g
  · simp only [Gs, G] at gx
    obtain ⟨_, _, rfl, ⟨ys, rfl, gy⟩, rfl⟩ := gx
    exact Hd.of_ret h (by simp only [G]; exact ⟨_, rfl, gy⟩) g
  · cases h
end SX
end

section
set_option Elab.async false
set_option linter.all false
set_option maxRecDepth 100000
set_option maxHeartbeats 1000000
namespace SX
open PySem hiding Env
open LC
/-! ### slots -/
def withA (S : St) (A : SEnv) : St := { S with A := A }
def mapA (f : Nat → Option SV → Option SV) : Nat → SEnv → SEnv
  | _, [] => []
  | z, x :: A => f z x :: mapA f (z + 1) A
theorem mapA_len (f : Nat → Option SV → Option SV) : ∀ (z : Nat) (A : SEnv), (mapA f z A).length = A.length
  | _, [] => rfl
  | z, x :: A => by simp [mapA, mapA_len f (z + 1) A]
theorem getA_map (f : Nat → Option SV → Option SV) : ∀ (A : SEnv) (z i : Nat) (t : SV), getA (mapA f z A) i = some t → f (z + i) (getA A i) = some t
  | [], z, i, t, h => by simp [mapA, getA] at h
  | x :: A, z, 0, t, h => by simpa [mapA, getA] using h
  | x :: A, z, i + 1, t, h => by
    have := getA_map f A (z + 1) i t (by simpa [mapA, getA] using h)
    rw [show z + (i + 1) = z + 1 + i by omega]
    simpa [getA] using this
theorem getS_or : ∀ (a b : Env) (i : Nat), a.length = b.length → getS (orS a b) i = (match getS a i with
    | some v => some v
    | none => getS b i)
  | [], [], i, _ => by simp [orS, getS]
  | [], _ :: _, _, h => by simp at h
  | _ :: _, [], _, h => by simp at h
  | x :: a, y :: b, 0, h => by cases x <;> simp [orS, getS]
  | x :: a, y :: b, i + 1, h => by
    have := getS_or a b i (by simpa using h)
    simpa [orS, getS] using this
theorem getS_msk (vr ks : List Nat) (ρ : Env) (i : Nat) : getS (mskS vr ks ρ) i = if ks.contains i then getS ρ i else if vr.contains i then (getS ρ i).map fz else none := by
  unfold mskS
  rw [getS_or _ _ _ (by rw [frz_len, selS_len, selS_len]), getS_sel, getS_frz, getS_sel, Nat.zero_add]
  by_cases hk : ks.contains i = true
  · simp only [hk, if_true]
    cases getS ρ i <;> simp
  · simp only [hk, Bool.false_eq_true, if_false]
    by_cases hv : vr.contains i = true <;> simp only [hv, hk, Bool.not_false, Bool.and_true, Bool.and_self, Bool.false_and, if_true, Bool.false_eq_true, if_false] <;> simp
theorem msk_len (vr ks : List Nat) (ρ : Env) : (mskS vr ks ρ).length = ρ.length := by
  unfold mskS
  rw [orS_len, selS_len]
theorem getS_mrg (th : Bool) (vr ks : List Nat) (ρ ρ1 : Env) (hl : ρ1.length = ρ.length) (i : Nat) : getS (mrgS th vr ks ρ ρ1) i = if ks.contains i then getS ρ1 i else if th then getS ρ i else if vr.contains i then (getS ρ i).map fz else getS ρ i := by
  unfold mrgS
  rw [getS_or _ _ _ (by
    cases th
    · simp only [Bool.false_eq_true, if_false]; rw [orS_len, frz_len, selS_len, selS_len, hl]
    · simp only [if_true]; rw [selS_len, selS_len, hl])]
  rw [getS_sel, Nat.zero_add]
  by_cases hk : ks.contains i = true
  · simp only [hk, if_true]
    cases h1 : getS ρ1 i with
    | some v => rfl
    | none =>
      cases th
      · simp only [Bool.false_eq_true, if_false]
        rw [getS_or _ _ _ (by rw [frz_len, selS_len, selS_len]), getS_frz, getS_sel, getS_sel, Nat.zero_add]
        simp only [hk, Bool.not_true, Bool.and_false, Bool.false_eq_true, if_false, Option.map_none]
      · simp only [if_true]
        rw [getS_sel, Nat.zero_add]
        simp only [hk, Bool.not_true, Bool.false_eq_true, if_false]
  · simp only [hk, Bool.false_eq_true, if_false]
    cases th
    · simp only [Bool.false_eq_true, if_false]
      rw [getS_or _ _ _ (by rw [frz_len, selS_len, selS_len]), getS_frz, getS_sel, getS_sel, Nat.zero_add]
      by_cases hv : vr.contains i = true
      · simp only [hv, hk, Bool.not_false, Bool.and_self, if_true, Bool.not_true, Bool.false_and, Bool.false_eq_true, if_false]
        cases getS ρ i <;> simp
      · simp only [hv, hk, Bool.not_false, Bool.and_self, Bool.false_and, if_true, Bool.false_eq_true, if_false]
        simp
    · simp only [if_true]
      rw [getS_sel, Nat.zero_add]
      simp only [hk, Bool.not_false, if_true]
theorem mrg_len (th : Bool) (vr ks : List Nat) (ρ ρ1 : Env) (hl : ρ1.length = ρ.length) : (mrgS th vr ks ρ ρ1).length = ρ.length := by
  unfold mrgS
  rw [orS_len, selS_len, hl]
theorem getS_wipe (ρ : Env) (vs : List Nat) (i : Nat) : getS (wipeS ρ vs) i = if vs.contains i then none else getS ρ i := by
  unfold wipeS
  rw [getS_sel, Nat.zero_add]
  cases vs.contains i <;> simp
theorem wipe_len (ρ : Env) (vs : List Nat) : (wipeS ρ vs).length = ρ.length := by unfold wipeS; rw [selS_len]
theorem getS_back (ρ ρ' : Env) (vs : List Nat) (hl : ρ'.length = ρ.length) (i : Nat) : getS (backS ρ ρ' vs) i = if vs.contains i then getS ρ i else getS ρ' i := by
  unfold backS
  rw [getS_or _ _ _ (by rw [selS_len, wipe_len, hl]), getS_sel, getS_wipe, Nat.zero_add]
  cases vs.contains i
  · simp
  · simp; cases getS ρ i <;> rfl
theorem back_len (ρ ρ' : Env) (vs : List Nat) : (backS ρ ρ' vs).length = ρ.length := by unfold backS; rw [orS_len, selS_len]
/-! ### slots with unknowns -/
def fzO : Option SV → Option SV
  | some t => some (fzV t)
  | none => none
def fzA (A : SEnv) : SEnv := mapA (fun _ o => fzO o) 0 A
def mskA (vr ks : List Nat) (A : SEnv) : SEnv := mapA (fun i o => if ks.contains i then o else if vr.contains i then fzO o else none) 0 A
def wipeA (A : SEnv) (vs : List Nat) : SEnv := mapA (fun i o => if vs.contains i then none else o) 0 A
/-- slots p of A, else of A' -/
def mixA (p : Nat → Bool) : Nat → SEnv → SEnv → SEnv
  | _, [], _ => []
  | _, _ :: _, [] => []
  | z, x :: A, y :: A' => (if p z then x else y) :: mixA p (z + 1) A A'
theorem mixA_len (p : Nat → Bool) : ∀ (z : Nat) (A A' : SEnv), A'.length = A.length → (mixA p z A A').length = A.length
  | _, [], _, _ => rfl
  | _, _ :: _, [], h => by simp at h
  | z, x :: A, y :: A', h => by simp [mixA, mixA_len p (z + 1) A A' (by simpa using h)]
theorem getA_mix (p : Nat → Bool) : ∀ (A A' : SEnv) (z i : Nat) (t : SV), getA (mixA p z A A') i = some t → (if p (z + i) then getA A i else getA A' i) = some t
  | [], A', z, i, t, h => by simp [mixA, getA] at h
  | _ :: _, [], z, i, t, h => by simp [mixA, getA] at h
  | x :: A, y :: A', z, 0, t, h => by
    simp only [mixA, getA, List.getElem?_cons_zero, Option.join_some] at h
    simp only [getA, List.getElem?_cons_zero, Option.join_some, Nat.add_zero]
    exact h
  | x :: A, y :: A', z, i + 1, t, h => by
    have := getA_mix p A A' (z + 1) i t (by simpa [mixA, getA] using h)
    rw [show z + (i + 1) = z + 1 + i by omega]
    simpa [getA] using this
theorem fz_AR {σ : Val} {A : SEnv} {ρ : Env} (h : AR σ A ρ) : AR σ (fzA A) (frzS ρ) := by
  refine ⟨by rw [fzA, mapA_len, frz_len, h.1], fun i t ht => ?_⟩
  have := getA_map _ A 0 i t ht
  unfold fzO at this
  split at this
  · rename_i t' ht'
    cases this
    obtain ⟨v, hv, g⟩ := h.2 i t' ht'
    exact ⟨fz v, by rw [getS_frz, hv]; rfl, G_fz g⟩
  · cases this
theorem msk_AR {σ : Val} {A : SEnv} {ρ : Env} (h : AR σ A ρ) (vr ks : List Nat) : AR σ (mskA vr ks A) (mskS vr ks ρ) := by
  refine ⟨by rw [mskA, mapA_len, msk_len, h.1], fun i t ht => ?_⟩
  have := getA_map _ A 0 i t ht
  rw [Nat.zero_add] at this
  rw [getS_msk]
  split at this
  · rename_i hk
    rw [if_pos hk]
    exact h.2 i t this
  · rename_i hk
    rw [if_neg hk]
    split at this
    · rename_i hv
      rw [if_pos hv]
      unfold fzO at this
      split at this
      · rename_i t' ht'
        cases this
        obtain ⟨v, hv, g⟩ := h.2 i t' ht'
        exact ⟨fz v, by rw [hv]; rfl, G_fz g⟩
      · cases this
    · cases this
theorem wipe_AR {σ : Val} {A : SEnv} {ρ : Env} (h : AR σ A ρ) (vs : List Nat) : AR σ (wipeA A vs) (wipeS ρ vs) := by
  refine ⟨by rw [wipeA, mapA_len, wipe_len, h.1], fun i t ht => ?_⟩
  have := getA_map _ A 0 i t ht
  rw [Nat.zero_add] at this
  rw [getS_wipe]
  split at this
  · cases this
  · rename_i hk
    rw [if_neg hk]
    exact h.2 i t this
theorem back_AR {σ : Val} {A A' : SEnv} {ρ ρ' : Env} (h : AR σ A ρ) (h' : AR σ A' ρ') (hl : A'.length = A.length) (vs : List Nat) : AR σ (mixA (fun i => vs.contains i) 0 A A') (backS ρ ρ' vs) := by
  refine ⟨by rw [mixA_len _ _ _ _ hl, back_len, h.1], fun i t ht => ?_⟩
  have := getA_mix _ A A' 0 i t ht
  rw [Nat.zero_add] at this
  rw [getS_back _ _ _ (by rw [← h'.1, ← h.1, hl])]
  split at this
  · rename_i hk
    rw [if_pos hk]
    exact h.2 i t this
  · rename_i hk
    rw [if_neg hk]
    exact h'.2 i t this
theorem getA_set {A : SEnv} {i j : Nat} {o : Option SV} {t : SV} (h : getA (A.set i o) j = some t) : (i = j ∧ o = some t) ∨ (i ≠ j ∧ getA A j = some t) := by
  unfold getA at h ⊢
  rw [List.getElem?_set] at h
  split at h
  · rename_i e
    split at h
    · exact .inl ⟨e, by simpa using h⟩
    · cases h
  · rename_i e; exact .inr ⟨e, h⟩
theorem set_AR {σ : Val} {A : SEnv} {ρ : Env} (h : AR σ A ρ) {i : Nat} {t : SV} {v : PV} (hi : i < ρ.length) (g : G σ t v) : AR σ (A.set i (some t)) (ρ.set i (some v)) := by
  refine ⟨by simp [h.1], fun j t' ht => ?_⟩
  rw [getS_set]
  rcases getA_set ht with ⟨e, h1⟩ | ⟨e, h1⟩
  · cases h1
    rw [if_pos ⟨e, hi⟩]
    exact ⟨v, rfl, g⟩
  · rw [if_neg (fun q => e q.1)]
    exact h.2 j t' h1
theorem none_AR {σ : Val} {A : SEnv} {ρ : Env} (h : AR σ A ρ) {i : Nat} (o : Option PV) : AR σ (A.set i none) (ρ.set i o) := by
  refine ⟨by simp [h.1], fun j t' ht => ?_⟩
  rw [getS_set]
  rcases getA_set ht with ⟨e, h1⟩ | ⟨e, h1⟩
  · cases h1
  · rw [if_neg (fun q => e q.1)]
    exact h.2 j t' h1
theorem forget_AR {σ : Val} {A : SEnv} {ρ : Env} (h : AR σ A ρ) {i : Nat} : AR σ (A.set i none) ρ := by
  refine ⟨by simp [h.1], fun j t' ht => ?_⟩
  rcases getA_set ht with ⟨e, h1⟩ | ⟨e, h1⟩
  · cases h1
  · exact h.2 j t' h1
mutual
def aBind (lk : List Nat) : Tg → SV → SEnv → Option SEnv
  | .nm i, t, A => if Nat.blt i A.length && !lk.contains i then some (A.set i (some t)) else none
  | .tp ts, t, A => (match t with
    | .tup xs => aBinds lk ts xs A
    | _ => none)
def aBinds (lk : List Nat) : List Tg → List SV → SEnv → Option SEnv
  | [], xs, A => (match xs with
    | [] => some A
    | _ :: _ => none)
  | g :: gs, xs, A => (match xs with
    | x :: xs => (match aBind lk g x A with
      | some A' => aBinds lk gs xs A'
      | none => none)
    | [] => none)
end
mutual
theorem aBind_ok {σ : Val} {lk : List Nat} : ∀ {tg : Tg} {t : SV} {A A' : SEnv} {v : PV} {ρ : Env}, aBind lk tg t A = some A' → G σ t v → AR σ A ρ → ∃ ρ', bindT lk tg v ρ = some ρ' ∧ AR σ A' ρ'
  | .nm i, t, A, A', v, ρ, h, g, ar => by
    simp only [aBind] at h
    split at h
    · rename_i hc
      cases h
      simp only [Bool.and_eq_true, Nat.blt_eq] at hc
      have hi : i < ρ.length := by rw [← ar.1]; exact hc.1
      refine ⟨_, ?_, set_AR ar hi g⟩
      have ho : okS lk ρ i = true := by
        unfold okS
        simp only [Bool.and_eq_true, decide_eq_true_eq]
        exact ⟨hi, hc.2⟩
      simp only [bindT, ho, if_true]
    · cases h
  | .tp ts, t, A, A', v, ρ, h, g, ar => by
    simp only [aBind] at h
    split at h
    · simp only [G] at g
      obtain ⟨ys, rfl, g⟩ := g
      simp only [bindT]
      exact aBinds_ok h g ar
    · cases h
theorem aBinds_ok {σ : Val} {lk : List Nat} : ∀ {tg : List Tg} {t : List SV} {A A' : SEnv} {v : List PV} {ρ : Env}, aBinds lk tg t A = some A' → Gs σ t v → AR σ A ρ → ∃ ρ', bindTs lk tg v ρ = some ρ' ∧ AR σ A' ρ'
  | [], t, A, A', v, ρ, h, g, ar => by
    simp only [aBinds] at h
    split at h
    · cases h
      simp only [Gs] at g; subst g
      exact ⟨ρ, by simp [bindTs], ar⟩
    · cases h
  | q :: gs, t, A, A', v, ρ, h, g, ar => by
    simp only [aBinds] at h
    split at h
    · simp only [Gs] at g
      obtain ⟨y, ys, rfl, g1, g2⟩ := g
      split at h
      · rename_i A1 hA1
        obtain ⟨ρ1, e1, ar1⟩ := aBind_ok hA1 g1 ar
        obtain ⟨ρ2, e2, ar2⟩ := aBinds_ok h g2 ar1
        exact ⟨ρ2, by simp only [bindTs, e1, Option.bind_some]; exact e2, ar2⟩
      · cases h
    · cases h
end
/-! ### items -/
def rngV (lo : Int) : Nat → List SV
  | 0 => []
  | n + 1 => .int (pcon lo) :: rngV (lo + 1) n
theorem rngV_ok {σ : Val} : ∀ (n : Nat) (lo : Int), Gs σ (rngV lo n) (rangeL lo n)
  | 0, lo => Gs_nil
  | n + 1, lo => Gs_cons.mpr ⟨by simp only [G]; rw [pcon_ev], rngV_ok n (lo + 1)⟩
def rngC (lo c : Int) : Nat → List SV
  | 0 => []
  | n + 1 => .int (pcon lo) :: rngC (lo + c) c n
theorem rngC_ok {σ : Val} (c : Int) : ∀ (n : Nat) (lo : Int), Gs σ (rngC lo c n) (rangeC lo c n)
  | 0, lo => Gs_nil
  | n + 1, lo => Gs_cons.mpr ⟨by simp only [G]; rw [pcon_ev], rngC_ok c n (lo + c)⟩
def zipA : List SV → List SV → List SV
  | x :: xs, y :: ys => .tup [x, y] :: zipA xs ys
  | _, _ => []
theorem zipA_ok {σ : Val} : ∀ {xs ys : List SV} {vs ws : List PV}, Gs σ xs vs → Gs σ ys ws → Gs σ (zipA xs ys) (zipL vs ws)
  | [], ys, vs, ws, h, _ => by simp only [Gs] at h; subst h; simp only [zipA, zipL]; exact Gs_nil
  | x :: xs, [], vs, ws, h, h' => by
    simp only [Gs] at h h'; subst h'
    obtain ⟨y, ys, rfl, g1, g2⟩ := h
    simp only [zipA, zipL]; exact Gs_nil
  | x :: xs, y :: ys, vs, ws, h, h' => by
    simp only [Gs] at h h'
    obtain ⟨v, vs, rfl, g1, g2⟩ := h
    obtain ⟨w, ws, rfl, g3, g4⟩ := h'
    simp only [zipA, zipL]
    exact Gs_cons.mpr ⟨by simp only [G]; exact ⟨_, rfl, Gs_cons.mpr ⟨g1, Gs_cons.mpr ⟨g3, Gs_nil⟩⟩⟩, zipA_ok g2 g4⟩
def enumA (i : Int) : List SV → List SV
  | [] => []
  | x :: xs => .tup [.int (pcon i), x] :: enumA (i + 1) xs
theorem enumA_ok {σ : Val} : ∀ {xs : List SV} {vs : List PV} (i : Int), Gs σ xs vs → Gs σ (enumA i xs) (enumL i vs)
  | [], vs, i, h => by simp only [Gs] at h; subst h; exact Gs_nil
  | x :: xs, vs, i, h => by
    simp only [Gs] at h
    obtain ⟨v, vs, rfl, g1, g2⟩ := h
    simp only [enumA, enumL]
    exact Gs_cons.mpr ⟨by simp only [G]; exact ⟨_, rfl, Gs_cons.mpr ⟨by simp only [G]; rw [pcon_ev], Gs_cons.mpr ⟨g1, Gs_nil⟩⟩⟩, enumA_ok (i + 1) g2⟩
def seqA : SV → Option (List SV)
  | .tup xs => some (fzVs xs)
  | .lst _ xs => some (fzVs xs)
  | .str s => some (s.cps.toList.map fun c => .str ⟨#[c]⟩)
  | _ => none
theorem seqA_ok {σ : Val} {t : SV} {v : PV} {xs : List SV} (h : seqA t = some xs) (g : G σ t v) : ∃ vs, seqOf v = some vs ∧ Gs σ xs vs := by
  unfold seqA at h
  split at h
  · cases h; simp only [G] at g; obtain ⟨ys, rfl, g⟩ := g; exact ⟨_, rfl, Gs_fz g⟩
  · cases h; simp only [G] at g; obtain ⟨ys, rfl, g⟩ := g; exact ⟨_, rfl, Gs_fz g⟩
  · cases h; simp only [G] at g; subst g
    refine ⟨_, rfl, ?_⟩
    rename_i s
    generalize s.cps.toList = l
    induction l with
    | nil => exact Gs_nil
    | cons c l ih => exact Gs_cons.mpr ⟨by simp only [G], ih⟩
  · cases h
def zipVA : SV → SV → Option (List SV)
  | .tup xs, .tup ys => some (zipA (fzVs xs) (fzVs ys))
  | .lst _ xs, .lst _ ys => some (zipA (fzVs xs) (fzVs ys))
  | _, _ => none
theorem zipVA_ok {σ : Val} {t u : SV} {v w : PV} {xs : List SV} (h : zipVA t u = some xs) (g : G σ t v) (g' : G σ u w) : ∃ vs, zipV v w = some vs ∧ Gs σ xs vs := by
  unfold zipVA at h
  split at h
  · cases h; simp only [G] at g g'; obtain ⟨ys, rfl, g⟩ := g; obtain ⟨zs, rfl, g'⟩ := g'; exact ⟨_, rfl, zipA_ok (Gs_fz g) (Gs_fz g')⟩
  · cases h; simp only [G] at g g'; obtain ⟨ys, rfl, g⟩ := g; obtain ⟨zs, rfl, g'⟩ := g'; exact ⟨_, rfl, zipA_ok (Gs_fz g) (Gs_fz g')⟩
  · cases h
def enumVA : SV → Option (List SV)
  | .tup xs => some (enumA 0 (fzVs xs))
  | .lst _ xs => some (enumA 0 (fzVs xs))
  | _ => none
theorem enumVA_ok {σ : Val} {t : SV} {v : PV} {xs : List SV} (h : enumVA t = some xs) (g : G σ t v) : ∃ vs, enumV v = some vs ∧ Gs σ xs vs := by
  unfold enumVA at h
  split at h
  · cases h; simp only [G] at g; obtain ⟨ys, rfl, g⟩ := g; exact ⟨_, rfl, enumA_ok 0 (Gs_fz g)⟩
  · cases h; simp only [G] at g; obtain ⟨ys, rfl, g⟩ := g; exact ⟨_, rfl, enumA_ok 0 (Gs_fz g)⟩
  · cases h
/-- a number, one by one, of a value -/
def concV (t : SV) (S : St) : M Int := match t with
  | .int p => conc 3 p S
  | _ => none
theorem concV_ok {σ : Val} {S : St} {ρ : Env} {t : SV} {v : PV} {L : List (Out Int × St)} (h : concV t S = some L) (gt : G σ t v) (g : GS σ S ρ) : ∃ i, v = .int i ∧ Hd (fun _ b a => b = a) S.n σ (.ok i ρ) L := by
  unfold concV at h
  split at h
  · simp only [G] at gt; exact ⟨_, gt, conc_ok h g⟩
  · cases h
/-! ### no exception let by -/
def isOk {α : Type} : Out α × St → Bool
  | (.ok _, _) => true
  | _ => false
def noX {α : Type} : M α → M α
  | some L => if L.all isOk then some L else none
  | none => none
theorem noX_some {α : Type} {m : M α} {L : List (Out α × St)} (h : noX m = some L) : m = some L ∧ ∀ q ∈ L, isOk q = true := by
  unfold noX at h
  split at h
  · split at h
    · rename_i hc; cases h; exact ⟨rfl, List.all_eq_true.mp hc⟩
    · cases h
  · cases h
theorem Hd.ok_of {α β : Type} {g : Val → β → α → Prop} {n : Nat} {σ : Val} {R : Res α} {L : List (Out β × St)} (h : Hd g n σ R L) (hk : ∀ q ∈ L, isOk q = true) : ∃ b S a ρ σ', (Out.ok b, S) ∈ L ∧ R = .ok a ρ ∧ Ext n S.n σ σ' ∧ g σ' b a ∧ GS σ' S ρ := by
  obtain ⟨q, hq, σ', e, hg⟩ := h
  have := hk q hq
  obtain ⟨o, S⟩ := q
  cases o with
  | ok b =>
    simp only at hg
    obtain ⟨a, ρ, r, g1, g2⟩ := hg
    exact ⟨b, S, a, ρ, σ', hq, r, e, g1, g2⟩
  | exn c fs => simp [isOk] at this
/-- what the loop of a comprehension does -/
def compA (bd : SV → SEnv → Option SEnv) (wp : SEnv → SEnv) (cond : St → M Bool) (elt : St → M SV) : List SV → St → List SV → M (List SV)
  | [], S, acc => ret acc S
  | x :: xs, S, acc => (match bd x (wp S.A) with
    | none => none
    | some A1 => bindM (noX (cond (withA S A1))) fun b S2 => if keeps S.n S2.n xs && keeps S.n S2.n acc then
        (if b then bindM (noX (elt S2)) fun y S3 => if Nat.blt acc.length SL && keeps S2.n S3.n xs && keeps S2.n S3.n acc then compA bd wp cond elt xs (withA S3 (wp S3.A)) (acc ++ [y]) else none
        else compA bd wp cond elt xs (withA S2 (wp S2.A)) acc) else none)
theorem compA_ok {bdA : SV → SEnv → Option SEnv} {wpA : SEnv → SEnv} {condA : St → M Bool} {eltA : St → M SV} {bd : PV → Env → Option Env} {wp : Env → Env} {cond : Env → Res Bool} {elt : Env → Res PV}
    (hbd : ∀ {σ t A A' v ρ}, bdA t A = some A' → G σ t v → AR σ A ρ → ∃ ρ', bd v ρ = some ρ' ∧ AR σ A' ρ')
    (hwp : ∀ {σ A ρ}, AR σ A ρ → AR σ (wpA A) (wp ρ))
    (hc : ∀ {S L σ ρ}, condA S = some L → GS σ S ρ → Hd (fun _ b a => b = a) S.n σ (cond ρ) L)
    (he : ∀ {S L σ ρ}, eltA S = some L → GS σ S ρ → Hd G S.n σ (elt ρ) L) :
    ∀ {xs : List SV} {S : St} {acc : List SV} {L : List (Out (List SV) × St)} {σ : Val} {ρ : Env} {vs ws : List PV}, compA bdA wpA condA eltA xs S acc = some L → GS σ S ρ → Gs σ xs vs → Gs σ acc ws → Hd Gs S.n σ (compL bd wp cond elt vs ρ ws) L
  | [], S, acc, L, σ, ρ, vs, ws, h, g, gx, ga => by
    simp only [Gs] at gx; subst gx
    simp only [compA] at h
    simp only [compL]
    exact Hd.of_ret h ga g
  | x :: xs, S, acc, L, σ, ρ, vs, ws, h, g, gx, ga => by
    simp only [Gs] at gx
    obtain ⟨v, vs, rfl, gv, gvs⟩ := gx
    simp only [compA] at h
    split at h
    · cases h
    · rename_i A1 hA1
      obtain ⟨ρ1, e1, ar1⟩ := hbd hA1 gv (hwp g.a)
      have g1 : GS σ (withA S A1) ρ1 := ⟨⟨g.b, g.f⟩, ar1⟩
      unfold bindM at h
      split at h
      · rename_i Lc hLc
        obtain ⟨hLc, hok⟩ := noX_some hLc
        obtain ⟨b, S2, b', ρ2, σ2, hm, eR, ext2, eb, g2⟩ := (hc hLc g1).ok_of hok
        subst eb
        have hbm := bindL_mem h _ hm
        simp only at hbm
        obtain ⟨Lx, hx, hsub⟩ := hbm
        have lift : Hd Gs S2.n σ2 (compL bd wp cond elt (v :: vs) ρ ws) Lx → Hd Gs S.n σ (compL bd wp cond elt (v :: vs) ρ ws) L := fun q => by
          obtain ⟨q, hq, z⟩ := q
          exact ⟨q, hsub q hq, z.of_ext ext2⟩
        refine lift ?_
        split at hx
        · rename_i hkp
          simp only [Bool.and_eq_true] at hkp
          have gvs2 := keeps_G ext2 hkp.1 gvs
          have ga2 := keeps_G ext2 hkp.2 ga
          cases b with
          | true =>
            simp only [if_true] at hx
            split at hx
            · rename_i Le hLe
              obtain ⟨hLe, hoke⟩ := noX_some hLe
              obtain ⟨y, S3, y', ρ3, σ3, hm3, eR3, ext3, gy, g3⟩ := (he hLe g2).ok_of hoke
              have hbm3 := bindL_mem hx _ hm3
              simp only at hbm3
              obtain ⟨Ly, hy, hsub3⟩ := hbm3
              split at hy
              · rename_i hkp3
                simp only [Bool.and_eq_true, Nat.blt_eq] at hkp3
                have hal : ws.length < SL := by rw [Gs_len ga]; exact hkp3.1.1
                have g3' : GS σ3 (withA S3 (wpA S3.A)) (wp ρ3) := ⟨⟨g3.b, g3.f⟩, hwp g3.a⟩
                have := compA_ok hbd hwp hc he hy g3' (keeps_G ext3 hkp3.1.2 gvs2) (Gs_app (keeps_G ext3 hkp3.2 ga2) (Gs_cons.mpr ⟨gy, Gs_nil⟩))
                obtain ⟨q, hq, z⟩ := this
                refine ⟨q, hsub3 q hq, ?_⟩
                have e : compL bd wp cond elt (v :: vs) ρ ws = compL bd wp cond elt vs (wp ρ3) (ws ++ [y']) := by
                  simp only [compL, e1, eR, eR3, if_pos hal]
                rw [e]
                exact Good.of_ext ext3 z
              · cases hy
            · cases hx
          | false =>
            simp only [Bool.false_eq_true, if_false] at hx
            have g2' : GS σ2 (withA S2 (wpA S2.A)) (wp ρ2) := ⟨⟨g2.b, g2.f⟩, hwp g2.a⟩
            have := compA_ok hbd hwp hc he hx g2' gvs2 ga2
            have e : compL bd wp cond elt (v :: vs) ρ ws = compL bd wp cond elt vs (wp ρ2) ws := by
              simp only [compL, e1, eR]
            rw [e]
            exact this
        · cases hx
      · cases h
end SX
end

section
set_option Elab.async false
set_option linter.all false
set_option maxRecDepth 100000
set_option maxHeartbeats 1000000
namespace SX
open PySem hiding Env
open LC
/-! ### expressions -/
mutual
def ofPV : PV → Option SV
  | .none => some .none
  | .bool b => some (.bool b)
  | .int i => some (.int (pcon i))
  | .str s => some (.str s)
  | .tup xs => (ofPVs xs).map .tup
  | _ => none
def ofPVs : List PV → Option (List SV)
  | [] => some []
  | x :: xs => (match ofPV x, ofPVs xs with
    | some a, some b => some (a :: b)
    | _, _ => none)
end
mutual
theorem ofPV_ok {σ : Val} : ∀ {v : PV} {t : SV}, ofPV v = some t → G σ t v
  | .none, t, h => by simp only [ofPV, Option.some.injEq] at h; subst h; simp only [G]
  | .bool b, t, h => by simp only [ofPV, Option.some.injEq] at h; subst h; simp only [G]
  | .int i, t, h => by simp only [ofPV, Option.some.injEq] at h; subst h; simp only [G]; rw [pcon_ev]
  | .str s, t, h => by simp only [ofPV, Option.some.injEq] at h; subst h; simp only [G]
  | .tup xs, t, h => by
    simp only [ofPV, Option.map_eq_some_iff] at h
    obtain ⟨ys, hy, rfl⟩ := h
    simp only [G]; exact ⟨_, rfl, ofPVs_ok hy⟩
  | .lst _ _, t, h => by simp [ofPV] at h
  | .dic _ _ _, t, h => by simp [ofPV] at h
  | .exc _ _, t, h => by simp [ofPV] at h
  | .scr _, t, h => by simp [ofPV] at h
theorem ofPVs_ok {σ : Val} : ∀ {v : List PV} {t : List SV}, ofPVs v = some t → Gs σ t v
  | [], t, h => by simp only [ofPVs, Option.some.injEq] at h; subst h; exact Gs_nil
  | x :: xs, t, h => by
    simp only [ofPVs] at h
    split at h
    · rename_i a b ha hb
      cases h
      exact Gs_cons.mpr ⟨ofPV_ok ha, ofPVs_ok hb⟩
    · cases h
end
def isPen : List SV → Bool
  | .pen :: _ => true
  | _ => false
/-- a call's end -/
def HC (n : Nat) (σ : Val) (pn : Bool) (C : CRs) (L : List (Out SV × St)) : Prop := ∃ q ∈ L, ∃ σ', Ext n q.2.n σ σ' ∧ GB σ' q.2 ∧ (match q.1 with
  | .ok b => ∃ v io, C = .ok v io ∧ G σ' b v ∧ (pn = true → G σ' .pen io)
  | .exn c fs => ∃ fs', C = .exn c fs' ∧ Gs σ' fs fs')
def CS (cf : CF) (ac : Str → List SV → St → M SV) : Prop := ∀ f args S L σ vs, ac f args S = some L → GB σ S → Gs σ args vs → HC S.n σ (isPen args) (cf f vs) L
/-- the caller's slots again -/
def reA (S : St) (m : M SV) : M SV := match m with
  | some L => if L.all (fun q => keepA S.n q.2.n S.A) then some (L.map fun q => (q.1, withA q.2 S.A)) else none
  | none => none
theorem reA_ok {cf : CF} {ac : Str → List SV → St → M SV} (hcs : CS cf ac) {f : Str} {args : List SV} {S : St} {L : List (Out SV × St)} {σ : Val} {ρ : Env} {vs : List PV} (h : reA S (ac f args S) = some L) (g : GS σ S ρ) (ga : Gs σ args vs) :
    ∃ q ∈ L, ∃ σ', Ext S.n q.2.n σ σ' ∧ GS σ' q.2 ρ ∧ q.2.A = S.A ∧ (match q.1 with
  | .ok b => ∃ v io, cf f vs = .ok v io ∧ G σ' b v ∧ (isPen args = true → G σ' .pen io)
  | .exn c fs => ∃ fs', cf f vs = .exn c fs' ∧ Gs σ' fs fs') := by
  unfold reA at h
  split at h
  · rename_i L0 hL0
    split at h
    · rename_i hk
      cases h
      obtain ⟨q, hq, σ', e, gb, z⟩ := hcs f args S L0 σ vs hL0 g.toGB ga
      have hkq := List.all_eq_true.mp hk q hq
      exact ⟨_, List.mem_map.mpr ⟨q, hq, rfl⟩, σ', e, ⟨⟨gb.b, gb.f⟩, AR_ext e hkq g.a⟩, rfl, z⟩
    · cases h
  · cases h
section
variable (cfg : Cfg) (ac : Str → List SV → St → M SV)
mutual
def aE : Ex → St → M SV
  | .var i, S => (match getA S.A i with
    | some t => if clV t then ret t S else none
    | none => none)
  | .mv i, S => none
  | .cint i, S => ret (.int (pcon i)) S
  | .cbool b, S => ret (.bool b) S
  | .cnone, S => ret .none S
  | .cstr s, S => ret (.str s) S
  | .glob _ v, S => (match ofPV v with
    | some t => ret t S
    | none => none)
  | .bin o a b, S => bindM (aE a S) fun x S1 => bindM (aE b S1) fun y S2 => if keep S1.n S2.n x then aBin cfg o x y S2 else none
  | .neg a, S => bindM (aE a S) fun x S1 => (match x with
    | .int p => ret (.int (pneg p)) S1
    | _ => none)
  | .not a, S => bindM (aE a S) fun x S1 => (match x with
    | .tf => ret .tf S1
    | x => mapB (notB (truA x S1)))
  | .and a b, S => bindM (aE a S) fun x S1 => bindM (truA x S1) fun t S2 => if t then aE b S2 else if keep S1.n S2.n x then (match x with
    | .tf => ret (.bool false) S2
    | x => ret x S2) else none
  | .or a b, S => bindM (aE a S) fun x S1 => bindM (truA x S1) fun t S2 => if t then (if keep S1.n S2.n x then (match x with
    | .tf => ret (.bool true) S2
    | x => ret x S2) else none) else aE b S2
  | .one a, S => aE a S
  | .cmp o a b, S => bindM (aE a S) fun x S1 => bindM (aE b S1) fun y S2 => if keep S1.n S2.n x then (match (if cfg.loose then looseC o x y S2 else none) with
    | some r => ret r S2
    | none => mapB (aCmp o x y S2)) else none
  | .chain o p a b c, S => bindM (aE a S) fun x S1 => bindM (aE b S1) fun y S2 => if keep S1.n S2.n x then bindM (aCmp o x y S2) fun t S3 => if t then bindM (aE c S3) fun z S4 => if keep S2.n S4.n y then mapB (aCmp p y z S4) else none else ret (.bool false) S3 else none
  | .isN a, S => bindM (aE a S) fun x S1 => (match x with
    | .none => ret (.bool true) S1
    | .any _ _ => ret .tf S1
    | .kin _ => ret .tf S1
    | _ => ret (.bool false) S1)
  | .notN a, S => bindM (aE a S) fun x S1 => (match x with
    | .none => ret (.bool false) S1
    | .any _ _ => ret .tf S1
    | .kin _ => ret .tf S1
    | _ => ret (.bool true) S1)
  | .inR ng a lo hi, S => bindM (aE a S) fun x S1 => bindM (aE lo S1) fun y S2 => bindM (aE hi S2) fun z S3 => if keep S1.n S3.n x && keep S2.n S3.n y then
      bindM (leA y x S3) fun b S4 => if keep S3.n S4.n x && keep S3.n S4.n z then bindM (ltA x z S4) fun c S5 => ret (.bool (if ng then !(b && c) else (b && c))) S5 else none else none
  | .ite c a b, S => bindM (aE c S) fun x S1 => bindM (truA x S1) fun t S2 => if t then aE a S2 else aE b S2
  | .tup es, S => bindM (aEs es S) fun xs S1 => if Nat.ble xs.length SL then ret (.tup xs) S1 else none
  | .lst es, S => bindM (aEs es S) fun xs S1 => if Nat.ble xs.length SL then ret (.lst true xs) S1 else none
  | .dic es vs, S => bindM (aEs es S) fun xs S1 => bindM (aEs vs S1) fun ys S2 => if clVs xs && clVs ys then ret (.any 0 true) S2 else none
  | .sub a i, S => bindM (aE a S) fun x S1 => bindM (aE i S1) fun y S2 => if keep S1.n S2.n x then aSub cfg x y S2 else none
  | .sli a lo hi, S => bindM (aE a S) fun x S1 => bindM (aO lo S1) fun l S2 => bindM (aO hi S2) fun h S3 => if keep S1.n S3.n x then aSli x l h S3 else none
  | .rev a, S => bindM (aE a S) fun x S1 => (match x with
    | .tup xs => ret (.tup xs.reverse) S1
    | _ => none)
  | .call f es, S => bindM (aEs es S) fun xs S1 => reA S1 (ac f (fzVs xs) S1)
  | .callIo f i es, S => (match getA S.A i with
    | some _ => bindM (aEs es S) fun xs S1 => (match getA S1.A i with
      | some .pen => if Nat.blt i S1.A.length then noX (reA S1 (ac f (.pen :: fzVs xs) S1)) else none
      | _ => none)
    | none => none)
  | .blt f es, S => bindM (aEs es S) fun xs S1 => (match (if cfg.loose then aBltL f xs S1 else none) with
    | some L => some L
    | none => aBlt cfg f xs S1)
  | .isi a t, S => bindM (aE a S) fun x S1 => (match isiA x t with
    | some r => ret r S1
    | none => none)
  | .comp e tg it c, S => bindM (aIt it S) fun xs S1 =>
    bindM (compA (aBind [] tg) (fun A => wipeA A tg.slots) (fun S => aC c S) (fun S => aE e S) xs (withA S1 (wipeA S1.A tg.slots)) []) fun ys S2 =>
      if keepA S1.n S2.n S1.A && Nat.beq S2.A.length S1.A.length then ret (.lst true ys) (withA S2 (mixA (fun i => tg.slots.contains i) 0 S1.A S2.A)) else none
def aEs : Exs → St → M (List SV)
  | .nil, S => ret [] S
  | .cons e es, S => bindM (aE e S) fun x S1 => bindM (aEs es S1) fun xs S2 => if keep S1.n S2.n x then ret (x :: xs) S2 else none
def aO : Exs → St → M (Option Int)
  | .nil, S => ret none S
  | .cons e _, S => bindM (aE e S) fun x S1 => bindM (concV x S1) fun i S2 => ret (some i) S2
def aC : Exs → St → M Bool
  | .nil, S => ret true S
  | .cons e _, S => bindM (aE e S) fun x S1 => truA x S1
def aIt : It → St → M (List SV)
  | .seq e, S => bindM (aE e S) fun x S1 => (match seqA x with
    | some xs => ret xs S1
    | none => none)
  | .range1 b, S => bindM (aE b S) fun y S1 => bindM (concV y S1) fun j S2 => if small62 j then ret (rngV 0 j.toNat) S2 else none
  | .range2 a b, S => bindM (aE a S) fun x S1 => bindM (aE b S1) fun y S2 => if keep S1.n S2.n x then bindM (concV x S2) fun i S3 => if keep S2.n S3.n y then bindM (concV y S3) fun j S4 => if small62 i && small62 j then ret (rngV i (j - i).toNat) S4 else none else none else none
  | .range3 a b c, S => none
  | .zip a b, S => bindM (aE a S) fun x S1 => bindM (aE b S1) fun y S2 => if keep S1.n S2.n x then (match zipVA x y with
    | some xs => ret xs S2
    | none => none) else none
  | .enum a, S => bindM (aE a S) fun x S1 => (match enumVA x with
    | some xs => ret xs S1
    | none => none)
end
end
theorem Hd.of_bind {α β γ : Type} {g : Val → β → α → Prop} {g' : Val → γ → PV → Prop} {n : Nat} {σ : Val} {a : α} {ρ : Env} {R : Res PV} {m : M β} {k : β → St → M γ} {L' : List (Out γ × St)} (h : bindM m k = some L')
    (h1 : ∀ L, m = some L → Hd g n σ (.ok a ρ) L)
    (h2 : ∀ b S σ' ρ' L1, k b S = some L1 → Ext n S.n σ σ' → g σ' b a → GS σ' S ρ' → ρ' = ρ → Hd g' S.n σ' R L1) : Hd g' n σ R L' := by
  unfold bindM at h
  split at h
  · rename_i L
    obtain ⟨q, hq, σ', e, hg⟩ := h1 L rfl
    have hm := bindL_mem h q hq
    cases hq1 : q.1 with
    | ok b =>
      simp only [hq1] at hm hg
      obtain ⟨x, hk, hx⟩ := hm
      obtain ⟨a', ρ', er, ga, gs⟩ := hg
      cases er
      obtain ⟨q', hq', good⟩ := h2 b q.2 σ' ρ x hk e ga gs rfl
      exact ⟨q', hx q' hq', good.of_ext e⟩
    | exn c fs =>
      simp only [hq1] at hg
      obtain ⟨fs', ρ', er, _⟩ := hg
      cases er
  · cases h
section
variable {cfg : Cfg} {ac : Str → List SV → St → M SV} {cf : CF} (hcs : CS cf ac)
include hcs
mutual
theorem aE_ok : ∀ (e : Ex) {S : St} {L : List (Out SV × St)} {σ : Val} {ρ : Env}, aE cfg ac e S = some L → GS σ S ρ → Hd G S.n σ (evE cf e ρ) L
  | .var i, S, L, σ, ρ, h, g => by
    simp only [aE] at h
    split at h
    · rename_i t ht
      split at h
      · rename_i hc
        obtain ⟨v, hv, gv⟩ := g.a.2 i t ht
        simp only [evE, hv, clV_cl hc gv, if_true]
        exact Hd.of_ret h gv g
      · cases h
    · cases h
  | .mv i, S, L, σ, ρ, h, g => by simp [aE] at h
  | .cint i, S, L, σ, ρ, h, g => by simp only [aE] at h; simp only [evE]; exact Hd.of_ret h (by simp only [G]; rw [pcon_ev]) g
  | .cbool b, S, L, σ, ρ, h, g => by simp only [aE] at h; simp only [evE]; exact Hd.of_ret h (by simp only [G]) g
  | .cnone, S, L, σ, ρ, h, g => by simp only [aE] at h; simp only [evE]; exact Hd.of_ret h (by simp only [G]) g
  | .cstr s, S, L, σ, ρ, h, g => by simp only [aE] at h; simp only [evE]; exact Hd.of_ret h (by simp only [G]) g
  | .glob x v, S, L, σ, ρ, h, g => by
    simp only [aE] at h
    split at h
    · rename_i t ht
      simp only [evE]; exact Hd.of_ret h (ofPV_ok ht) g
    · cases h
  | .bin o a b, S, L, σ, ρ, h, g => by
    simp only [aE] at h
    simp only [evE]
    refine Hd.bind h (fun L hL => aE_ok a hL g) fun x S1 σ1 v ρ1 L1 h1 e1 gx g1 => ?_
    refine Hd.bind h1 (fun L hL => aE_ok b hL g1) fun y S2 σ2 w ρ2 L2 h2 e2 gy g2 => ?_
    split at h2
    · rename_i hk
      exact aBin_ok h2 (keep_G e2 hk gx) gy g2
    · cases h2
  | .neg a, S, L, σ, ρ, h, g => by
    simp only [aE] at h
    simp only [evE]
    refine Hd.bind h (fun L hL => aE_ok a hL g) fun x S1 σ1 v ρ1 L1 h1 e1 gx g1 => ?_
    split at h1
    · simp only [G] at gx; subst gx
      exact Hd.of_ret h1 (by simp only [G]; rw [pneg_ev]) g1
    · cases h1
  | .not a, S, L, σ, ρ, h, g => by
    simp only [aE] at h
    simp only [evE]
    refine Hd.bind h (fun L hL => aE_ok a hL g) fun x S1 σ1 v ρ1 L1 h1 e1 gx g1 => ?_
    split at h1
    · simp only [G] at gx
      obtain ⟨b, rfl⟩ := gx
      exact Hd.of_ret h1 (by simp only [G]; exact ⟨_, rfl⟩) g1
    · have hm : ∃ L', truA x S1 = some L' := by
        unfold mapB notB bindM at h1
        split at h1
        · rename_i L' hL'
          split at hL'
          · rename_i L'' hL''; exact ⟨L'', hL''⟩
          · cases hL'
        · cases h1
      obtain ⟨L', hL'⟩ := hm
      obtain ⟨b, eb, z⟩ := truA_ok hL' gx g1
      simp only [eb, Option.map_some, Res.of_some]
      exact mapB_ok h1 fun L hL => notB_ok hL fun L hL => by rw [hL'] at hL; cases hL; exact z
  | .and a b, S, L, σ, ρ, h, g => by
    simp only [aE] at h
    simp only [evE]
    refine Hd.bind h (fun L hL => aE_ok a hL g) fun x S1 σ1 v ρ1 L1 h1 e1 gx g1 => ?_
    have hm : ∃ L', truA x S1 = some L' := by
      unfold bindM at h1
      split at h1
      · rename_i L' hL'; exact ⟨L', hL'⟩
      · cases h1
    obtain ⟨L', hL'⟩ := hm
    obtain ⟨t, et, z⟩ := truA_ok hL' gx g1
    rw [et]
    refine Hd.of_bind h1 (fun L hL => by rw [hL'] at hL; cases hL; exact z) fun t' S2 σ2 ρ2 L2 h2 e2 gt g2 er => ?_
    subst gt; subst er
    cases t' with
    | true => simp only [if_true] at h2; exact aE_ok b h2 g2
    | false =>
      simp only [Bool.false_eq_true, if_false] at h2
      split at h2
      · rename_i hk
        split at h2
        · simp only [G] at gx
          obtain ⟨c, rfl⟩ := gx
          simp only [truV, Option.some.injEq] at et
          subst et
          exact Hd.of_ret h2 (by simp only [G]) g2
        · exact Hd.of_ret h2 (keep_G e2 hk gx) g2
      · cases h2
  | .or a b, S, L, σ, ρ, h, g => by
    simp only [aE] at h
    simp only [evE]
    refine Hd.bind h (fun L hL => aE_ok a hL g) fun x S1 σ1 v ρ1 L1 h1 e1 gx g1 => ?_
    have hm : ∃ L', truA x S1 = some L' := by
      unfold bindM at h1
      split at h1
      · rename_i L' hL'; exact ⟨L', hL'⟩
      · cases h1
    obtain ⟨L', hL'⟩ := hm
    obtain ⟨t, et, z⟩ := truA_ok hL' gx g1
    rw [et]
    refine Hd.of_bind h1 (fun L hL => by rw [hL'] at hL; cases hL; exact z) fun t' S2 σ2 ρ2 L2 h2 e2 gt g2 er => ?_
    subst gt; subst er
    cases t' with
    | false => simp only [Bool.false_eq_true, if_false] at h2; exact aE_ok b h2 g2
    | true =>
      simp only [if_true] at h2
      split at h2
      · rename_i hk
        split at h2
        · simp only [G] at gx
          obtain ⟨c, rfl⟩ := gx
          simp only [truV, Option.some.injEq] at et
          subst et
          exact Hd.of_ret h2 (by simp only [G]) g2
        · exact Hd.of_ret h2 (keep_G e2 hk gx) g2
      · cases h2
  | .one a, S, L, σ, ρ, h, g => by simp only [aE] at h; simp only [evE]; exact aE_ok a h g
  | .cmp o a b, S, L, σ, ρ, h, g => by
    simp only [aE] at h
    simp only [evE]
    refine Hd.bind h (fun L hL => aE_ok a hL g) fun x S1 σ1 v ρ1 L1 h1 e1 gx g1 => ?_
    refine Hd.bind h1 (fun L hL => aE_ok b hL g1) fun y S2 σ2 w ρ2 L2 h2 e2 gy g2 => ?_
    split at h2
    · rename_i hk
      split at h2
      · rename_i r hr
        have hr : looseC o x y S2 = some r := by
          split at hr
          · exact hr
          · cases hr
        obtain ⟨b, eb, gb⟩ := looseC_ok hr (keep_G e2 hk gx) gy g2.toGB
        simp only [eb, Option.map_some, Res.of_some]
        exact Hd.of_ret h2 gb g2
      · have hm : ∃ L', aCmp o x y S2 = some L' := by
          unfold mapB bindM at h2
          split at h2
          · rename_i L' hL'; exact ⟨L', hL'⟩
          · cases h2
        obtain ⟨L', hL'⟩ := hm
        obtain ⟨b, eb, z⟩ := aCmp_ok hL' (keep_G e2 hk gx) gy g2
        simp only [eb, Option.map_some, Res.of_some]
        exact mapB_ok h2 fun L hL => by rw [hL'] at hL; cases hL; exact z
    · cases h2
  | .chain o p a b c, S, L, σ, ρ, h, g => by
    simp only [aE] at h
    simp only [evE]
    refine Hd.bind h (fun L hL => aE_ok a hL g) fun x S1 σ1 v ρ1 L1 h1 e1 gx g1 => ?_
    refine Hd.bind h1 (fun L hL => aE_ok b hL g1) fun y S2 σ2 w ρ2 L2 h2 e2 gy g2 => ?_
    split at h2
    · rename_i hk
      have hm : ∃ L', aCmp o x y S2 = some L' := by
        unfold bindM at h2
        split at h2
        · rename_i L' hL'; exact ⟨L', hL'⟩
        · cases h2
      obtain ⟨L', hL'⟩ := hm
      obtain ⟨b, eb, z⟩ := aCmp_ok hL' (keep_G e2 hk gx) gy g2
      rw [eb]
      refine Hd.of_bind h2 (fun L hL => by rw [hL'] at hL; cases hL; exact z) fun t' S3 σ3 ρ3 L3 h3 e3 gt g3 er => ?_
      subst gt; subst er
      cases t' with
      | true =>
        simp only [if_true] at h3
        refine Hd.bind h3 (fun L hL => aE_ok c hL g3) fun u S4 σ4 w4 ρ4 L4 h4 e4 gu g4 => ?_
        split at h4
        · rename_i hk4
          have hm : ∃ L', aCmp p y u S4 = some L' := by
            unfold mapB bindM at h4
            split at h4
            · rename_i L' hL'; exact ⟨L', hL'⟩
            · cases h4
          obtain ⟨L5, hL5⟩ := hm
          obtain ⟨b5, eb5, z5⟩ := aCmp_ok hL5 (keep_G (e3.trans e4) hk4 gy) gu g4
          simp only [eb5, Option.map_some, Res.of_some]
          exact mapB_ok h4 fun L hL => by rw [hL5] at hL; cases hL; exact z5
        · cases h4
      | false =>
        simp only [Bool.false_eq_true, if_false] at h3
        exact Hd.of_ret h3 (by simp only [G]) g3
    · cases h2
  | .isN a, S, L, σ, ρ, h, g => by
    simp only [aE] at h
    simp only [evE]
    refine Hd.bind h (fun L hL => aE_ok a hL g) fun x S1 σ1 v ρ1 L1 h1 e1 gx g1 => ?_
    split at h1
    · simp only [G] at gx; subst gx; exact Hd.of_ret h1 (by simp only [G, isNoneV]) g1
    · exact Hd.of_ret h1 (by simp only [G]; exact ⟨_, rfl⟩) g1
    · exact Hd.of_ret h1 (by simp only [G]; exact ⟨_, rfl⟩) g1
    · rename_i n1 n2 n3
      have : isNoneV v = false := by
        cases x <;> simp only [G] at gx <;> first
          | exact absurd rfl n1
          | exact absurd rfl (n2 _ _)
          | exact absurd rfl (n3 _)
          | (subst gx; rfl)
          | (obtain ⟨_, rfl⟩ := gx; rfl)
          | (obtain ⟨_, rfl, _⟩ := gx; rfl)
          | (obtain ⟨_, _, rfl, _⟩ := gx; rfl)
      rw [this]
      exact Hd.of_ret h1 (by simp only [G]) g1
  | .notN a, S, L, σ, ρ, h, g => by
    simp only [aE] at h
    simp only [evE]
    refine Hd.bind h (fun L hL => aE_ok a hL g) fun x S1 σ1 v ρ1 L1 h1 e1 gx g1 => ?_
    split at h1
    · simp only [G] at gx; subst gx; exact Hd.of_ret h1 (by simp only [G, isNoneV]; rfl) g1
    · exact Hd.of_ret h1 (by simp only [G]; exact ⟨_, rfl⟩) g1
    · exact Hd.of_ret h1 (by simp only [G]; exact ⟨_, rfl⟩) g1
    · rename_i n1 n2 n3
      have : isNoneV v = false := by
        cases x <;> simp only [G] at gx <;> first
          | exact absurd rfl n1
          | exact absurd rfl (n2 _ _)
          | exact absurd rfl (n3 _)
          | (subst gx; rfl)
          | (obtain ⟨_, rfl⟩ := gx; rfl)
          | (obtain ⟨_, rfl, _⟩ := gx; rfl)
          | (obtain ⟨_, _, rfl, _⟩ := gx; rfl)
      rw [this]
      exact Hd.of_ret h1 (by simp only [G]; rfl) g1
  | .inR ng a lo hi, S, L, σ, ρ, h, g => by
    simp only [aE] at h
    simp only [evE]
    refine Hd.bind h (fun L hL => aE_ok a hL g) fun x S1 σ1 v ρ1 L1 h1 e1 gx g1 => ?_
    refine Hd.bind h1 (fun L hL => aE_ok lo hL g1) fun y S2 σ2 w ρ2 L2 h2 e2 gy g2 => ?_
    refine Hd.bind h2 (fun L hL => aE_ok hi hL g2) fun z S3 σ3 u ρ3 L3 h3 e3 gz g3 => ?_
    split at h3
    · rename_i hk
      simp only [Bool.and_eq_true] at hk
      have gx3 := keep_G (e2.trans e3) hk.1 gx
      have gy3 := keep_G e3 hk.2 gy
      have hm : ∃ L', leA y x S3 = some L' := by
        unfold bindM at h3
        split at h3
        · rename_i L' hL'; exact ⟨L', hL'⟩
        · cases h3
      obtain ⟨L', hL'⟩ := hm
      obtain ⟨i, k, rfl, rfl, zz⟩ := leA_ok hL' gy3 gx3 g3
      refine Hd.of_bind h3 (fun L hL => by rw [hL'] at hL; cases hL; exact zz) fun b S4 σ4 ρ4 L4 h4 e4 gt g4 er => ?_
      subst er
      split at h4
      · rename_i hk4
        simp only [Bool.and_eq_true] at hk4
        have hm : ∃ L', ltA x z S4 = some L' := by
          unfold bindM at h4
          split at h4
          · rename_i L' hL'; exact ⟨L', hL'⟩
          · cases h4
        obtain ⟨L5, hL5⟩ := hm
        obtain ⟨k', j, ek, rfl, z5⟩ := ltA_ok hL5 (keep_G e4 hk4.1 gx3) (keep_G e4 hk4.2 gz) g4
        cases ek
        refine Hd.of_bind h4 (fun L hL => by rw [hL5] at hL; cases hL; exact z5) fun c S5 σ5 ρ5 L5 h5 e5 gc g5 er => ?_
        subst er
        refine Hd.of_ret h5 ?_ g5
        simp only [G]
        rw [gt, gc]
      · cases h4
    · cases h3
  | .ite c a b, S, L, σ, ρ, h, g => by
    simp only [aE] at h
    simp only [evE]
    refine Hd.bind h (fun L hL => aE_ok c hL g) fun x S1 σ1 v ρ1 L1 h1 e1 gx g1 => ?_
    have hm : ∃ L', truA x S1 = some L' := by
      unfold bindM at h1
      split at h1
      · rename_i L' hL'; exact ⟨L', hL'⟩
      · cases h1
    obtain ⟨L', hL'⟩ := hm
    obtain ⟨t, et, z⟩ := truA_ok hL' gx g1
    rw [et]
    refine Hd.of_bind h1 (fun L hL => by rw [hL'] at hL; cases hL; exact z) fun t' S2 σ2 ρ2 L2 h2 e2 gt g2 er => ?_
    subst gt; subst er
    cases t' with
    | true => simp only [if_true] at h2; exact aE_ok a h2 g2
    | false => simp only [Bool.false_eq_true, if_false] at h2; exact aE_ok b h2 g2
  | .tup es, S, L, σ, ρ, h, g => by
    simp only [aE] at h
    simp only [evE]
    refine Hd.bind h (fun L hL => aEs_ok es hL g) fun x S1 σ1 v ρ1 L1 h1 e1 gx g1 => ?_
    split at h1
    · rename_i hc
      have : v.length ≤ SL := by rw [Gs_len gx]; exact Nat.le_of_ble_eq_true hc
      rw [if_pos this]
      exact Hd.of_ret h1 (by simp only [G]; exact ⟨_, rfl, gx⟩) g1
    · cases h1
  | .lst es, S, L, σ, ρ, h, g => by
    simp only [aE] at h
    simp only [evE]
    refine Hd.bind h (fun L hL => aEs_ok es hL g) fun x S1 σ1 v ρ1 L1 h1 e1 gx g1 => ?_
    split at h1
    · rename_i hc
      have : v.length ≤ SL := by rw [Gs_len gx]; exact Nat.le_of_ble_eq_true hc
      rw [if_pos this]
      exact Hd.of_ret h1 (by simp only [G]; exact ⟨_, rfl, gx⟩) g1
    · cases h1
  | .dic es vs, S, L, σ, ρ, h, g => by
    simp only [aE] at h
    simp only [evE]
    refine Hd.bind h (fun L hL => aEs_ok es hL g) fun x S1 σ1 v ρ1 L1 h1 e1 gx g1 => ?_
    refine Hd.bind h1 (fun L hL => aEs_ok vs hL g1) fun y S2 σ2 w ρ2 L2 h2 e2 gy g2 => ?_
    split at h2
    · rename_i hc
      simp only [Bool.and_eq_true] at hc
      refine Hd.of_ret h2 ?_ g2
      simp only [G]
      exact .inr ⟨trivial, by simp only [isDic, Bool.not_false, Bool.true_and, Bool.and_eq_true]; exact ⟨clVs_cl hc.1 gx, clVs_cl hc.2 gy⟩⟩
    · cases h2
  | .sub a i, S, L, σ, ρ, h, g => by
    simp only [aE] at h
    simp only [evE]
    refine Hd.bind h (fun L hL => aE_ok a hL g) fun x S1 σ1 v ρ1 L1 h1 e1 gx g1 => ?_
    refine Hd.bind h1 (fun L hL => aE_ok i hL g1) fun y S2 σ2 w ρ2 L2 h2 e2 gy g2 => ?_
    split at h2
    · rename_i hk
      exact aSub_ok h2 (keep_G e2 hk gx) gy g2
    · cases h2
  | .sli a lo hi, S, L, σ, ρ, h, g => by
    simp only [aE] at h
    simp only [evE]
    refine Hd.bind h (fun L hL => aE_ok a hL g) fun x S1 σ1 v ρ1 L1 h1 e1 gx g1 => ?_
    refine Hd.bind h1 (fun L hL => aO_ok lo hL g1) fun y S2 σ2 w ρ2 L2 h2 e2 gy g2 => ?_
    refine Hd.bind h2 (fun L hL => aO_ok hi hL g2) fun z S3 σ3 u ρ3 L3 h3 e3 gz g3 => ?_
    subst gy; subst gz
    split at h3
    · rename_i hk
      exact aSli_ok h3 (keep_G (e2.trans e3) hk gx) g3
    · cases h3
  | .rev a, S, L, σ, ρ, h, g => by
    simp only [aE] at h
    simp only [evE]
    refine Hd.bind h (fun L hL => aE_ok a hL g) fun x S1 σ1 v ρ1 L1 h1 e1 gx g1 => ?_
    split at h1
    · simp only [G] at gx
      obtain ⟨ys, rfl, gx⟩ := gx
      exact Hd.of_ret h1 (by simp only [G]; exact ⟨_, rfl, Gs_rev gx⟩) g1
    · cases h1
  | .call f es, S, L, σ, ρ, h, g => by
    simp only [aE] at h
    simp only [evE]
    refine Hd.bind h (fun L hL => aEs_ok es hL g) fun x S1 σ1 v ρ1 L1 h1 e1 gx g1 => ?_
    obtain ⟨q, hq, σ', e, gs, _, z⟩ := reA_ok hcs h1 g1 (Gs_fz gx)
    refine ⟨q, hq, σ', e, ?_⟩
    cases hq1 : q.1 with
    | ok b =>
      simp only [hq1] at z ⊢
      obtain ⟨w, io, er, gw, _⟩ := z
      exact ⟨w, ρ1, by rw [er], gw, gs⟩
    | exn c fs =>
      simp only [hq1] at z ⊢
      obtain ⟨fs', er, gf⟩ := z
      exact ⟨fs', ρ1, by rw [er], gf, gs⟩
  | .callIo f i es, S, L, σ, ρ, h, g => by
    simp only [aE] at h
    simp only [evE]
    split at h
    · rename_i t0 ht0
      obtain ⟨v0, hv0, _⟩ := g.a.2 i t0 ht0
      rw [hv0]
      simp only
      refine Hd.bind h (fun L hL => aEs_ok es hL g) fun x S1 σ1 v ρ1 L1 h1 e1 gx g1 => ?_
      split at h1
      · rename_i hp
        obtain ⟨w0, hw0, gw0⟩ := g1.a.2 i _ hp
        simp only [G] at gw0
        obtain ⟨a, b, rfl, ha⟩ := gw0
        split at h1
        · rename_i hlt
          have hil : i < ρ1.length := by rw [← g1.a.1]; simpa [Nat.blt_eq] using hlt
          obtain ⟨h1, hok⟩ := noX_some h1
          have gp : Gs σ1 (.pen :: fzVs x) (.lst true [.int a, .int b] :: fzs v) := Gs_cons.mpr ⟨by simp only [G]; exact ⟨a, b, rfl, ha⟩, Gs_fz gx⟩
          obtain ⟨q, hq, σ', e, gs, hA, z⟩ := reA_ok hcs h1 g1 gp
          rw [hw0]
          simp only
          rw [if_pos (by simp [lfs, lf, hil])]
          have hqk := hok q hq
          refine ⟨q, hq, σ', e, ?_⟩
          obtain ⟨o, S2⟩ := q
          cases o with
          | exn c fs => simp [isOk] at hqk
          | ok r =>
            simp only at z gs hA ⊢
            obtain ⟨w, io, er, gw, gio⟩ := z
            have gio := gio rfl
            simp only [G] at gio
            obtain ⟨a', b', rfl, ha'⟩ := gio
            refine ⟨w, ρ1.set i (some (.lst true [.int a', .int b'])), by rw [er], gw, ⟨⟨gs.b, gs.f⟩, ?_⟩⟩
            have har := gs.a
            rw [hA] at har ⊢
            refine ⟨by simp [har.1], fun j t ht => ?_⟩
            rw [getS_set]
            by_cases hij : i = j
            · subst hij
              rw [if_pos ⟨rfl, hil⟩]
              rw [hp] at ht
              cases ht
              exact ⟨_, rfl, by simp only [G]; exact ⟨a', b', rfl, ha'⟩⟩
            · rw [if_neg (fun q => hij q.1)]
              exact har.2 j t ht
        · cases h1
      · cases h1
    · cases h
  | .blt f es, S, L, σ, ρ, h, g => by
    simp only [aE] at h
    simp only [evE]
    refine Hd.bind h (fun L hL => aEs_ok es hL g) fun x S1 σ1 v ρ1 L1 h1 e1 gx g1 => ?_
    split at h1
    · rename_i L0 hL0
      cases h1
      split at hL0
      · exact aBltL_ok hL0 gx g1
      · cases hL0
    · exact aBlt_ok h1 gx g1
  | .isi a t, S, L, σ, ρ, h, g => by
    simp only [aE] at h
    simp only [evE]
    refine Hd.bind h (fun L hL => aE_ok a hL g) fun x S1 σ1 v ρ1 L1 h1 e1 gx g1 => ?_
    split at h1
    · rename_i r hr
      obtain ⟨b, eb, gb⟩ := isiA_ok hr gx
      simp only [eb, Option.map_some, Res.of_some]
      exact Hd.of_ret h1 gb g1
    · cases h1
  | .comp e tg it c, S, L, σ, ρ, h, g => by
    simp only [aE] at h
    simp only [evE]
    refine Hd.bind h (fun L hL => aIt_ok it hL g) fun xs S1 σ1 vs ρ1 L1 h1 e1 gx g1 => ?_
    have gw : GS σ1 (withA S1 (wipeA S1.A tg.slots)) (wipeS ρ1 tg.slots) := ⟨⟨g1.b, g1.f⟩, wipe_AR g1.a _⟩
    have key : ∀ L, compA (aBind [] tg) (fun A => wipeA A tg.slots) (fun S => aC cfg ac c S) (fun S => aE cfg ac e S) xs (withA S1 (wipeA S1.A tg.slots)) [] = some L → Hd Gs (withA S1 (wipeA S1.A tg.slots)).n σ1 (compL (bindT [] tg) (fun r => wipeS r tg.slots) (fun r => evC cf c r) (fun r => evE cf e r) vs (wipeS ρ1 tg.slots) []) L := fun L hL =>
      compA_ok (bdA := aBind [] tg) (wpA := fun A => wipeA A tg.slots) (condA := fun S => aC cfg ac c S) (eltA := fun S => aE cfg ac e S) (fun h g a => aBind_ok h g a) (fun a => wipe_AR a _) (fun h g => aC_ok c h g) (fun h g => aE_ok e h g) hL gw gx Gs_nil
    refine Hd.bind (g := Gs) (n := S1.n) h1 key fun ys S2 σ2 ws ρ2 L2 h2 e2 gy g2 => ?_
    split at h2
    · rename_i hk
      simp only [Bool.and_eq_true] at hk
      have := Hd.of_ret (g := G) (σ := σ2) (a := .lst true ws) (ρ := backS ρ1 ρ2 tg.slots) h2 (by simp only [G]; exact ⟨_, rfl, gy⟩) ⟨⟨g2.b, g2.f⟩, back_AR (AR_ext e2 hk.1 g1.a) g2.a (Nat.eq_of_beq_eq_true hk.2) _⟩
      exact this
    · cases h2
theorem aEs_ok : ∀ (e : Exs) {S : St} {L : List (Out (List SV) × St)} {σ : Val} {ρ : Env}, aEs cfg ac e S = some L → GS σ S ρ → Hd Gs S.n σ (evEs cf e ρ) L
  | .nil, S, L, σ, ρ, h, g => by simp only [aEs] at h; simp only [evEs]; exact Hd.of_ret h Gs_nil g
  | .cons e es, S, L, σ, ρ, h, g => by
    simp only [aEs] at h
    simp only [evEs]
    refine Hd.bind h (fun L hL => aE_ok e hL g) fun x S1 σ1 v ρ1 L1 h1 e1 gx g1 => ?_
    refine Hd.bind h1 (fun L hL => aEs_ok es hL g1) fun y S2 σ2 w ρ2 L2 h2 e2 gy g2 => ?_
    split at h2
    · rename_i hk
      exact Hd.of_ret h2 (Gs_cons.mpr ⟨keep_G e2 hk gx, gy⟩) g2
    · cases h2
theorem aO_ok : ∀ (e : Exs) {S : St} {L : List (Out (Option Int) × St)} {σ : Val} {ρ : Env}, aO cfg ac e S = some L → GS σ S ρ → Hd (fun _ b a => b = a) S.n σ (evO cf e ρ) L
  | .nil, S, L, σ, ρ, h, g => by simp only [aO] at h; simp only [evO]; exact Hd.of_ret h rfl g
  | .cons e es, S, L, σ, ρ, h, g => by
    simp only [aO] at h
    simp only [evO]
    refine Hd.bind h (fun L hL => aE_ok e hL g) fun x S1 σ1 v ρ1 L1 h1 e1 gx g1 => ?_
    have hm : ∃ L', concV x S1 = some L' := by
      unfold bindM at h1
      split at h1
      · rename_i L' hL'; exact ⟨L', hL'⟩
      · cases h1
    obtain ⟨L', hL'⟩ := hm
    obtain ⟨i, rfl, z⟩ := concV_ok hL' gx g1
    exact Hd.bind (g := fun _ b a => b = a) (R := .ok i ρ1) (f := fun i ρ => .ok (some i) ρ) h1 (fun L hL => by rw [hL'] at hL; cases hL; exact z) fun j S2 σ2 j' ρ2 L2 h2 e2 gj g2 => by
      subst gj
      exact Hd.of_ret h2 rfl g2
theorem aC_ok : ∀ (e : Exs) {S : St} {L : List (Out Bool × St)} {σ : Val} {ρ : Env}, aC cfg ac e S = some L → GS σ S ρ → Hd (fun _ b a => b = a) S.n σ (evC cf e ρ) L
  | .nil, S, L, σ, ρ, h, g => by simp only [aC] at h; simp only [evC]; exact Hd.of_ret h rfl g
  | .cons e es, S, L, σ, ρ, h, g => by
    simp only [aC] at h
    simp only [evC]
    refine Hd.bind h (fun L hL => aE_ok e hL g) fun x S1 σ1 v ρ1 L1 h1 e1 gx g1 => ?_
    obtain ⟨b, eb, z⟩ := truA_ok h1 gx g1
    rw [eb]
    exact z
theorem aIt_ok : ∀ (e : It) {S : St} {L : List (Out (List SV) × St)} {σ : Val} {ρ : Env}, aIt cfg ac e S = some L → GS σ S ρ → Hd Gs S.n σ (evIt cf e ρ) L
  | .seq e, S, L, σ, ρ, h, g => by
    simp only [aIt] at h
    simp only [evIt]
    refine Hd.bind h (fun L hL => aE_ok e hL g) fun x S1 σ1 v ρ1 L1 h1 e1 gx g1 => ?_
    split at h1
    · rename_i xs hx
      obtain ⟨vs, ev, gv⟩ := seqA_ok hx gx
      rw [ev]
      exact Hd.of_ret h1 gv g1
    · cases h1
  | .range1 b, S, L, σ, ρ, h, g => by
    simp only [aIt] at h
    simp only [evIt]
    refine Hd.bind h (fun L hL => aE_ok b hL g) fun x S1 σ1 v ρ1 L1 h1 e1 gx g1 => ?_
    have hm : ∃ L', concV x S1 = some L' := by
      unfold bindM at h1
      split at h1
      · rename_i L' hL'; exact ⟨L', hL'⟩
      · cases h1
    obtain ⟨L', hL'⟩ := hm
    obtain ⟨i, rfl, z⟩ := concV_ok hL' gx g1
    exact Hd.bind (g := fun _ b a => b = a) (R := .ok i ρ1) (f := fun i ρ => Res.of (range1V (.int i)) ρ) h1 (fun L hL => by rw [hL'] at hL; cases hL; exact z) fun j S2 σ2 j' ρ2 L2 h2 e2 gj g2 => by
      subst gj
      split at h2
      · rename_i hs
        simp only [range1V, hs, if_true, Res.of_some]
        exact Hd.of_ret h2 (rngV_ok _ _) g2
      · cases h2
  | .range2 a b, S, L, σ, ρ, h, g => by
    simp only [aIt] at h
    simp only [evIt]
    refine Hd.bind h (fun L hL => aE_ok a hL g) fun x S1 σ1 v ρ1 L1 h1 e1 gx g1 => ?_
    refine Hd.bind h1 (fun L hL => aE_ok b hL g1) fun y S2 σ2 w ρ2 L2 h2 e2 gy g2 => ?_
    split at h2
    · rename_i hk
      have hm : ∃ L', concV x S2 = some L' := by
        unfold bindM at h2
        split at h2
        · rename_i L' hL'; exact ⟨L', hL'⟩
        · cases h2
      obtain ⟨L', hL'⟩ := hm
      obtain ⟨i, rfl, z⟩ := concV_ok hL' (keep_G e2 hk gx) g2
      refine Hd.bind (g := fun _ b a => b = a) (R := .ok i ρ2) (f := fun i ρ => Res.of (range2V (.int i) w) ρ) h2 (fun L hL => by rw [hL'] at hL; cases hL; exact z) fun i' S3 σ3 i'' ρ3 L3 h3 e3 gi g3 => ?_
      subst gi
      split at h3
      · rename_i hk3
        have hm : ∃ L', concV y S3 = some L' := by
          unfold bindM at h3
          split at h3
          · rename_i L' hL'; exact ⟨L', hL'⟩
          · cases h3
        obtain ⟨L4, hL4⟩ := hm
        obtain ⟨j, rfl, z4⟩ := concV_ok hL4 (keep_G e3 hk3 gy) g3
        exact Hd.bind (g := fun _ b a => b = a) (R := .ok j ρ3) (f := fun j ρ => Res.of (range2V (.int i') (.int j)) ρ) h3 (fun L hL => by rw [hL4] at hL; cases hL; exact z4) fun j' S4 σ4 j'' ρ4 L4 h4 e4 gj g4 => by
          subst gj
          split at h4
          · rename_i hs
            simp only [range2V, hs, if_true, Res.of_some]
            exact Hd.of_ret h4 (rngV_ok _ _) g4
          · cases h4
      · cases h3
    · cases h2
  | .range3 a b c, S, L, σ, ρ, h, g => by simp [aIt] at h
  | .zip a b, S, L, σ, ρ, h, g => by
    simp only [aIt] at h
    simp only [evIt]
    refine Hd.bind h (fun L hL => aE_ok a hL g) fun x S1 σ1 v ρ1 L1 h1 e1 gx g1 => ?_
    refine Hd.bind h1 (fun L hL => aE_ok b hL g1) fun y S2 σ2 w ρ2 L2 h2 e2 gy g2 => ?_
    split at h2
    · rename_i hk
      split at h2
      · rename_i xs hx
        obtain ⟨vs, ev, gv⟩ := zipVA_ok hx (keep_G e2 hk gx) gy
        rw [ev]
        exact Hd.of_ret h2 gv g2
      · cases h2
    · cases h2
  | .enum a, S, L, σ, ρ, h, g => by
    simp only [aIt] at h
    simp only [evIt]
    refine Hd.bind h (fun L hL => aE_ok a hL g) fun x S1 σ1 v ρ1 L1 h1 e1 gx g1 => ?_
    split at h1
    · rename_i xs hx
      obtain ⟨vs, ev, gv⟩ := enumVA_ok hx gx
      rw [ev]
      exact Hd.of_ret h1 gv g1
    · cases h1
end
end
end SX
end

section
set_option Elab.async false
set_option linter.all false
set_option maxRecDepth 100000
set_option maxHeartbeats 1000000
namespace SX
open PySem hiding Env
open LC
/-! ### a statement's expression -/
mutual
/-- surely a frozen list within -/
def frV : SV → Bool
  | .tup xs => frVs xs
  | .lst u xs => !u || frVs xs
  | _ => false
def frVs : List SV → Bool
  | [] => false
  | x :: xs => frV x || frVs xs
end
mutual
theorem frV_fr {σ : Val} : ∀ {t : SV} {v : PV}, frV t = true → G σ t v → nfz v = false
  | .tup xs, v, h, g => by
    simp only [G, frV] at *
    obtain ⟨ys, rfl, g⟩ := g
    simp only [nfz]; exact frVs_fr h g
  | .lst u xs, v, h, g => by
    simp only [G, frV, Bool.or_eq_true] at *
    obtain ⟨ys, rfl, g⟩ := g
    rcases h with h | h
    · simp only [nfz]; cases u <;> simp_all
    · simp only [nfz]; rw [frVs_fr h g, Bool.and_false]
  | .none, v, h, g => by simp [frV] at h
  | .bool b, v, h, g => by simp [frV] at h
  | .tf, v, h, g => by simp [frV] at h
  | .int p, v, h, g => by simp [frV] at h
  | .str s, v, h, g => by simp [frV] at h
  | .any _ _, v, h, g => by simp [frV] at h
  | .cell, v, h, g => by simp [frV] at h
  | .cells _, v, h, g => by simp [frV] at h
  | .scr, v, h, g => by simp [frV] at h
  | .pen, v, h, g => by simp [frV] at h
  | .kin _, v, h, g => by simp [frV] at h
theorem frVs_fr {σ : Val} : ∀ {t : List SV} {v : List PV}, frVs t = true → Gs σ t v → nfzs v = false
  | [], v, h, g => by simp [frVs] at h
  | x :: xs, v, h, g => by
    simp only [frVs, Bool.or_eq_true] at h
    simp only [Gs] at g
    obtain ⟨y, zs, rfl, h1, h2⟩ := g
    simp only [nfzs]
    rcases h with h | h
    · rw [frV_fr h h1, Bool.false_and]
    · rw [frVs_fr h h2, Bool.and_false]
end
/-- a slot that was read -/
def aftO (fr : Bool) : Option SV → Option SV
  | some u => if clV u then some u else if fr then some (fzV u) else none
  | none => none
def aftA (vr : List Nat) (t : SV) (A : SEnv) : SEnv := if nfV t then A else mapA (fun i o => if vr.contains i then aftO (frV t) o else o) 0 A
theorem aftO_ok {σ : Val} {fr nf : Bool} {o : Option SV} {w : Option PV} {t : SV} (h : aftO fr o = some t) (hf : fr = true → nf = false) (hg : ∀ u, o = some u → ∃ v, w = some v ∧ G σ u v) : ∃ v, (if nf then w else w.map fz) = some v ∧ G σ t v := by
  unfold aftO at h
  split at h
  · rename_i u
    obtain ⟨v, rfl, g⟩ := hg u rfl
    split at h
    · rename_i hc
      cases h
      refine ⟨v, ?_, g⟩
      rw [Option.map_some, cl_fz v (clV_cl hc g)]
      split <;> rfl
    · split at h
      · rename_i hfr
        cases h
        exact ⟨fz v, by rw [hf hfr]; rfl, G_fz g⟩
      · cases h
  · cases h
def nonesA (A : SEnv) : SEnv := A.map fun _ => none
theorem nones_AR {σ : Val} {A : SEnv} {ρ : Env} (h : A.length = ρ.length) : AR σ (nonesA A) ρ := by
  refine ⟨by simp [nonesA, h], fun i t ht => ?_⟩
  unfold getA nonesA at ht
  rw [List.getElem?_map] at ht
  cases hA : A[i]? with
  | none => rw [hA] at ht; cases ht
  | some o => rw [hA] at ht; cases ht
def penAt (A : SEnv) (i : Nat) : Bool := match getA A i with
  | some .pen => true
  | _ => false
theorem penAt_ok {σ : Val} {A : SEnv} {ρ : Env} {i : Nat} (h : penAt A i = true) (ar : AR σ A ρ) : ∃ a b, getS ρ i = some (.lst true [.int a, .int b]) ∧ 0 ≤ a := by
  unfold penAt at h
  split at h
  · rename_i e
    obtain ⟨v, hv, g⟩ := ar.2 i _ e
    simp only [G] at g
    obtain ⟨a, b, rfl, h0⟩ := g
    exact ⟨a, b, hv, h0⟩
  · cases h
/-- each end put right -/
def post (ok : St → Bool) (k : SV → SEnv → SEnv) (no : SEnv) : List (Out SV × St) → Option (List (Out SV × St))
  | [] => some []
  | q :: L => if ok q.2 then (match post ok k no L with
    | some L' => some ((match q.1 with
      | .ok t => (.ok t, withA q.2 (k t q.2.A))
      | .exn c fs => (.exn c fs, withA q.2 no)) :: L')
    | none => none) else none
theorem post_mem {ok : St → Bool} {k : SV → SEnv → SEnv} {no : SEnv} : ∀ {L L' : List (Out SV × St)}, post ok k no L = some L' → ∀ q ∈ L, ok q.2 = true ∧ (match q.1 with
      | .ok t => (.ok t, withA q.2 (k t q.2.A))
      | .exn c fs => (.exn c fs, withA q.2 no)) ∈ L'
  | [], _, _, q, hq => by cases hq
  | p :: L, L', h, q, hq => by
    simp only [post] at h
    split at h
    · rename_i ho
      split at h
      · rename_i L1 hL1
        cases h
        rcases List.mem_cons.mp hq with e | e
        · subst e; exact ⟨ho, List.mem_cons_self⟩
        · have := post_mem hL1 q e
          exact ⟨this.1, List.mem_cons_of_mem _ this.2⟩
      · cases h
    · cases h
section
variable (cfg : Cfg) (ac : Str → List SV → St → M SV)
def pureX (e : Ex) (S : St) : M SV := match aE cfg ac e (withA S (fzA S.A)) with
  | some L => post (fun S1 => keepA S.n S1.n S.A) (fun t _ => aftA e.vr t S.A) (nonesA S.A) L
  | none => none
def maskX (e : Ex) (S : St) : M SV := match aE cfg ac e (withA S (mskA e.vr e.ks S.A)) with
  | some L => post (fun S1 => keepA S.n S1.n S.A && e.ks.all (penAt S1.A) && Nat.beq S1.A.length S.A.length) (fun t A1 => mixA (fun i => e.ks.contains i) 0 A1 (aftA e.vr t S.A)) (nonesA S.A) L
  | none => none
def aX (e : Ex) (S : St) : M SV := match e with
  | .mv i => (match getA S.A i with
    | some t => ret t (if lfV t then S else withA S (S.A.set i none))
    | none => none)
  | e => if e.ks.isEmpty then pureX cfg ac e S else maskX cfg ac e S
end
section
variable {cfg : Cfg} {ac : Str → List SV → St → M SV} {cf : CF} (hcs : CS cf ac)
include hcs
theorem aft_AR {σ : Val} {A : SEnv} {ρ : Env} {vr : List Nat} {t : SV} {v : PV} (h : AR σ A ρ) (g : G σ t v) : ∀ i u, getA (aftA vr t A) i = some u → ∃ w, (if nfz v then getS ρ i else if vr.contains i then (getS ρ i).map fz else getS ρ i) = some w ∧ G σ u w := by
  intro i u hu
  unfold aftA at hu
  split at hu
  · rename_i hn
    rw [nfV_nf hn g]
    simp only [if_true]
    exact h.2 i u hu
  · have := getA_map _ A 0 i u hu
    rw [Nat.zero_add] at this
    split at this
    · rename_i hv
      rw [if_pos hv]
      exact aftO_ok this (fun hf => frV_fr hf g) (fun u' hu' => h.2 i u' hu')
    · rename_i hv
      rw [if_neg hv]
      have := h.2 i u this
      split <;> exact this
theorem aftA_len (vr : List Nat) (t : SV) (A : SEnv) : (aftA vr t A).length = A.length := by
  unfold aftA
  split
  · rfl
  · rw [mapA_len]
theorem pureX_ok {e : Ex} {S : St} {L : List (Out SV × St)} {σ : Val} {ρ : Env} (hk : e.ks = []) (h : pureX cfg ac e S = some L) (g : GS σ S ρ) : Hd G S.n σ (evX cf e ρ) L := by
  unfold pureX at h
  split at h
  · rename_i L0 hL0
    have g0 : GS σ (withA S (fzA S.A)) (frzS ρ) := ⟨⟨g.b, g.f⟩, fz_AR g.a⟩
    obtain ⟨q, hq, σ', ex, z⟩ := aE_ok hcs e hL0 g0
    obtain ⟨hok, hm⟩ := post_mem h q hq
    have ar' : AR σ' S.A ρ := AR_ext ex hok g.a
    rw [evE_v cf e _ hk] at z
    refine ⟨_, hm, σ', ?_, ?_⟩
    · cases q.1 <;> exact ex
    · cases hq1 : q.1 with
      | ok t =>
        simp only [hq1] at z ⊢
        obtain ⟨v, ρ1, er, gv, g1⟩ := z
        have ev : vE cf e (frzS ρ) = .ok v := by
          cases hv : vE cf e (frzS ρ) with
          | ok v' => rw [hv] at er; simp only [RV.at] at er; cases er; rfl
          | exn c fs => rw [hv] at er; simp [RV.at] at er
          | bad => rw [hv] at er; simp [RV.at] at er
        refine ⟨v, aft e.vr v ρ, by rw [evX_v cf hk, ev], gv, ⟨⟨g1.b, g1.f⟩, ?_⟩⟩
        show AR σ' (aftA e.vr t S.A) _
        have hl : (aft e.vr v ρ).length = ρ.length := by
          unfold aft
          split
          · rfl
          · rw [← frzV_or, orS_len, frz_len, selS_len]
        refine ⟨by rw [aftA_len hcs, hl, ar'.1], fun i u hu => ?_⟩
        obtain ⟨w, hw, gw⟩ := aft_AR hcs ar' gv i u hu
        refine ⟨w, ?_, gw⟩
        rw [← hw]
        unfold aft
        cases hn : nfz v with
        | true => simp
        | false =>
          simp only [Bool.false_eq_true, if_false]
          rw [← frzV_or, getS_or _ _ _ (by rw [frz_len, selS_len, selS_len]), getS_frz, getS_sel, getS_sel, Nat.zero_add]
          by_cases hv : e.vr.contains i = true
          · simp only [hv, if_true, Bool.not_true, Bool.false_eq_true, if_false]
            cases getS ρ i <;> simp
          · simp only [hv, Bool.false_eq_true, if_false, Bool.not_false, if_true]
            simp
      | exn c fs =>
        simp only [hq1] at z ⊢
        obtain ⟨fs', ρ1, er, gv, g1⟩ := z
        have ev : vE cf e (frzS ρ) = .exn c fs' := by
          cases hv : vE cf e (frzS ρ) with
          | ok v' => rw [hv] at er; simp [RV.at] at er
          | exn c fs => rw [hv] at er; simp only [RV.at] at er; cases er; rfl
          | bad => rw [hv] at er; simp [RV.at] at er
        exact ⟨fs', ρ, by rw [evX_v cf hk, ev], gv, ⟨⟨g1.b, g1.f⟩, nones_AR g.a.1⟩⟩
  · cases h
theorem ks_ok {ks : List Nat} {A : SEnv} {ρ : Env} {σ : Val} (h : ks.all (penAt A) = true) (ar : AR σ A ρ) : ksOk ks ρ = true := by
  unfold ksOk
  rw [List.all_eq_true]
  intro o ho
  obtain ⟨i, hi⟩ := List.getElem?_of_mem ho
  have : getS (selS (fun i => ks.contains i) 0 ρ) i = o := by unfold getS; rw [hi]; rfl
  rw [getS_sel, Nat.zero_add] at this
  split at this
  · rename_i hc
    have hp := List.all_eq_true.mp h i (by simpa using hc)
    obtain ⟨a, b, e, _⟩ := penAt_ok hp ar
    rw [e] at this
    subst this
    rfl
  · subst this; rfl
theorem maskX_ok {e : Ex} {S : St} {L : List (Out SV × St)} {σ : Val} {ρ : Env} (hk : e.ks ≠ []) (h : maskX cfg ac e S = some L) (g : GS σ S ρ) : Hd G S.n σ (evX cf e ρ) L := by
  unfold maskX at h
  split at h
  · rename_i L0 hL0
    have g0 : GS σ (withA S (mskA e.vr e.ks S.A)) (mskS e.vr e.ks ρ) := ⟨⟨g.b, g.f⟩, msk_AR g.a _ _⟩
    obtain ⟨q, hq, σ', ex, z⟩ := aE_ok hcs e hL0 g0
    obtain ⟨hok, hm⟩ := post_mem h q hq
    simp only [Bool.and_eq_true] at hok
    have ar' : AR σ' S.A ρ := AR_ext ex hok.1.1 g.a
    have hcl : ¬ (clean ρ && e.ks.isEmpty) = true := by
      cases hks : e.ks with
      | nil => exact absurd hks hk
      | cons a l => simp
    have hX : evX cf e ρ = (match evE cf e (mskS e.vr e.ks ρ) with
      | .ok v ρ1 => if ksOk e.ks ρ1 then .ok v (mrgS (nfz v) e.vr e.ks ρ ρ1) else .bad
      | .exn c fs ρ1 => if ksOk e.ks ρ1 then .exn c fs (mrgS true e.vr e.ks ρ ρ1) else .bad
      | .bad => .bad) := by
      unfold evX
      rw [if_neg hcl]
      try rfl
    refine ⟨_, hm, σ', ?_, ?_⟩
    · cases q.1 <;> exact ex
    · cases hq1 : q.1 with
      | ok t =>
        simp only [hq1] at z ⊢
        obtain ⟨v, ρ1, er, gv, g1⟩ := z
        have hko := ks_ok hcs hok.1.2 g1.a
        have hl1 : ρ1.length = ρ.length := by rw [← g1.a.1, ← g.a.1]; exact Nat.eq_of_beq_eq_true hok.2
        refine ⟨v, mrgS (nfz v) e.vr e.ks ρ ρ1, by rw [hX, er]; simp only [hko, if_true], gv, ⟨⟨g1.b, g1.f⟩, ?_⟩⟩
        show AR σ' (mixA (fun i => e.ks.contains i) 0 q.2.A (aftA e.vr t S.A)) _
        have hl2 : (aftA e.vr t S.A).length = q.2.A.length := by rw [aftA_len hcs]; exact (Nat.eq_of_beq_eq_true hok.2).symm
        refine ⟨by rw [mixA_len _ _ _ _ hl2, mrg_len _ _ _ _ _ hl1, ← hl1, ← g1.a.1], fun i u hu => ?_⟩
        have hu := getA_mix _ _ _ 0 i u hu
        rw [Nat.zero_add] at hu
        rw [getS_mrg _ _ _ _ _ hl1]
        split at hu
        · rename_i hc
          rw [if_pos hc]
          exact g1.a.2 i u hu
        · rename_i hc
          rw [if_neg hc]
          exact aft_AR hcs ar' gv i u hu
      | exn c fs =>
        simp only [hq1] at z ⊢
        obtain ⟨fs', ρ1, er, gv, g1⟩ := z
        have hko := ks_ok hcs hok.1.2 g1.a
        have hl1 : ρ1.length = ρ.length := by rw [← g1.a.1, ← g.a.1]; exact Nat.eq_of_beq_eq_true hok.2
        exact ⟨fs', mrgS true e.vr e.ks ρ ρ1, by rw [hX, er]; simp only [hko, if_true], gv, ⟨⟨g1.b, g1.f⟩, nones_AR (by rw [mrg_len _ _ _ _ _ hl1]; exact g.a.1)⟩⟩
  · cases h
omit hcs in
theorem evX_mv {i : Nat} {ρ : Env} {v : PV} (h : getS ρ i = some v) : evX cf (.mv i) ρ = .ok v (if lf v then ρ else ρ.set i none) := by
  unfold evX
  have hks : (Ex.mv i).ks = [i] := rfl
  have hvr : (Ex.mv i).vr = [] := rfl
  rw [hks, hvr]
  rw [if_neg (by simp)]
  have hg : getS (mskS [] [i] ρ) i = some v := by rw [getS_msk]; simp [h]
  have hi : i < ρ.length := getS_lt h
  simp only [evE, hg]
  have env : ∀ (ρ1 : Env), ρ1.length = ρ.length → ∀ th, ∀ j, getS (mrgS th [] [i] ρ ρ1) j = if j = i then getS ρ1 j else getS ρ j := fun ρ1 hl th j => by
    rw [getS_mrg _ _ _ _ _ hl]
    by_cases hj : j = i
    · subst hj; simp
    · simp [hj]
  have ext : ∀ (a b : Env), a.length = b.length → (∀ j, getS a j = getS b j) → a = b := fun a b hl hj => by
    apply List.ext_getElem? 
    intro j
    have := hj j
    unfold getS at this
    by_cases hlt : j < a.length
    · have hlt' : j < b.length := by rw [← hl]; exact hlt
      rw [List.getElem?_eq_getElem hlt, List.getElem?_eq_getElem hlt'] at this ⊢
      simp only [Option.join_some] at this
      rw [this]
    · rw [List.getElem?_eq_none (by omega), List.getElem?_eq_none (by omega)]
  have ksA : ∀ ρ1 : Env, nfzO (getS ρ1 i) = true → ksOk [i] ρ1 = true := fun ρ1 hn => by
    unfold ksOk
    rw [List.all_eq_true]
    intro o ho
    obtain ⟨j, hj⟩ := List.getElem?_of_mem ho
    have : getS (selS (fun k => [i].contains k) 0 ρ1) j = o := by unfold getS; rw [hj]; rfl
    rw [getS_sel, Nat.zero_add] at this
    split at this
    · rename_i hc
      have : j = i := by simpa using hc
      subst this
      simp_all
    · subst this; rfl
  cases hl : lf v with
  | true =>
    simp only [if_true]
    rw [ksA _ (by rw [hg]; exact lf_nfz v hl)]
    simp only [if_true]
    congr 1
    refine ext _ _ (mrg_len _ _ _ _ _ (msk_len _ _ _)) fun j => ?_
    rw [env _ (msk_len _ _ _)]
    split
    · rename_i hj; subst hj; rw [hg, h]
    · rfl
  | false =>
    simp only [Bool.false_eq_true, if_false]
    have hl1 : ((mskS [] [i] ρ).set i none).length = ρ.length := by rw [List.length_set, msk_len]
    have hg1 : getS ((mskS [] [i] ρ).set i none) i = none := by rw [getS_set, if_pos ⟨rfl, by rw [msk_len]; exact hi⟩]
    rw [ksA _ (by rw [hg1]; rfl)]
    simp only [if_true]
    congr 1
    refine ext _ _ (by rw [mrg_len _ _ _ _ _ hl1, List.length_set]) fun j => ?_
    rw [env _ hl1]
    by_cases hj : j = i
    · subst hj; rw [if_pos rfl, hg1, getS_set, if_pos ⟨rfl, hi⟩]
    · rw [if_neg hj, getS_set, if_neg (fun q => hj q.1.symm)]
theorem aX_ok {e : Ex} {S : St} {L : List (Out SV × St)} {σ : Val} {ρ : Env} (h : aX cfg ac e S = some L) (g : GS σ S ρ) : Hd G S.n σ (evX cf e ρ) L := by
  unfold aX at h
  split at h
  · rename_i i
    split at h
    · rename_i t ht
      obtain ⟨v, hv, gv⟩ := g.a.2 i t ht
      rw [evX_mv hv]
      split at h
      · rename_i hl
        rw [lfV_lf hl gv]
        exact Hd.of_ret h gv g
      · have : Hd G (withA S (S.A.set i none)).n σ (.ok v (if lf v then ρ else ρ.set i none)) L := Hd.of_ret h gv ⟨⟨g.b, g.f⟩, by
          split
          · exact forget_AR g.a
          · exact none_AR g.a none⟩
        exact this
    · cases h
  · split at h
    · rename_i hk
      exact pureX_ok hcs (by simpa using hk) h g
    · rename_i hk
      exact maskX_ok hcs (by simpa using hk) h g
end
end SX
end

section
set_option Elab.async false
set_option linter.all false
set_option maxRecDepth 100000
set_option maxHeartbeats 1000000
namespace SX
open PySem hiding Env
open LC
/-! ### the same, sign by sign -/
mutual
def sameV : SV → SV → Bool
  | .none, y => (match y with | .none => true | _ => false)
  | .bool a, y => (match y with | .bool b => a == b | _ => false)
  | .tf, y => (match y with | .tf => true | _ => false)
  | .int p, y => (match y with | .int q => decide (p = q) | _ => false)
  | .str a, y => (match y with | .str b => decide (a = b) | _ => false)
  | .tup xs, y => (match y with | .tup ys => sameVs xs ys | _ => false)
  | .lst u xs, y => (match y with | .lst w ys => u == w && sameVs xs ys | _ => false)
  | .any d c, y => (match y with | .any e k => Nat.beq d e && c == k | _ => false)
  | .cell, y => (match y with | .cell => true | _ => false)
  | .cells m, y => (match y with | .cells k => Nat.beq m k | _ => false)
  | .scr, y => (match y with | .scr => true | _ => false)
  | .pen, y => (match y with | .pen => true | _ => false)
  | .kin _, _ => false
def sameVs : List SV → List SV → Bool
  | [], ys => (match ys with | [] => true | _ :: _ => false)
  | x :: xs, ys => (match ys with | [] => false | y :: ys => sameV x y && sameVs xs ys)
end
mutual
theorem sameV_eq : ∀ {x y : SV}, sameV x y = true → x = y
  | .none, y, h => by cases y <;> simp_all [sameV]
  | .bool a, y, h => by cases y <;> simp_all [sameV]
  | .tf, y, h => by cases y <;> simp_all [sameV]
  | .int p, y, h => by cases y <;> simp_all [sameV]
  | .str a, y, h => by cases y <;> simp_all [sameV]
  | .tup xs, y, h => by
    cases y with
    | tup ys => simp only [sameV] at h; rw [sameVs_eq h]
    | _ => simp [sameV] at h
  | .lst u xs, y, h => by
    cases y with
    | lst w ys =>
      simp only [sameV, Bool.and_eq_true, beq_iff_eq] at h
      rw [sameVs_eq h.2, h.1]
    | _ => simp [sameV] at h
  | .any d c, y, h => by
    cases y with
    | any e k =>
      simp only [sameV, Bool.and_eq_true, beq_iff_eq] at h
      rw [Nat.eq_of_beq_eq_true h.1, h.2]
    | _ => simp [sameV] at h
  | .cell, y, h => by cases y <;> simp_all [sameV]
  | .cells m, y, h => by
    cases y with
    | cells k => simp only [sameV] at h; rw [Nat.eq_of_beq_eq_true h]
    | _ => simp [sameV] at h
  | .scr, y, h => by cases y <;> simp_all [sameV]
  | .pen, y, h => by cases y <;> simp_all [sameV]
  | .kin _, y, h => by simp [sameV] at h
theorem sameVs_eq : ∀ {x y : List SV}, sameVs x y = true → x = y
  | [], y, h => by cases y <;> simp_all [sameVs]
  | x :: xs, y, h => by
    cases y with
    | nil => simp [sameVs] at h
    | cons y ys =>
      simp only [sameVs, Bool.and_eq_true] at h
      rw [sameV_eq h.1, sameVs_eq h.2]
end
/-- what A tells, A' tells -/
def subA : SEnv → SEnv → Bool
  | [], A' => (match A' with | [] => true | _ :: _ => false)
  | o :: A, A' => (match A' with
    | [] => false
    | o' :: A' => (match o, o' with
      | none, _ => true
      | some t, some t' => sameV t t'
      | some _, none => false) && subA A A')
theorem subA_get : ∀ {A A' : SEnv} {i : Nat} {t : SV}, subA A A' = true → getA A i = some t → getA A' i = some t
  | [], _, i, t, _, h => by simp [getA] at h
  | o :: A, [], i, t, h, _ => by simp [subA] at h
  | o :: A, o' :: A', 0, t, h, e => by
    simp only [subA, Bool.and_eq_true] at h
    simp only [getA, List.getElem?_cons_zero, Option.join_some] at e ⊢
    subst e
    cases o' with
    | none => simp at h
    | some t' => have := sameV_eq h.1; rw [this]
  | o :: A, o' :: A', i + 1, t, h, e => by
    simp only [subA, Bool.and_eq_true] at h
    have := subA_get (i := i) (t := t) h.2 (by simpa [getA] using e)
    simpa [getA] using this
theorem subA_len : ∀ {A A' : SEnv}, subA A A' = true → A.length = A'.length
  | [], [], _ => rfl
  | [], _ :: _, h => by simp [subA] at h
  | _ :: _, [], h => by simp [subA] at h
  | o :: A, o' :: A', h => by
    simp only [subA, Bool.and_eq_true] at h
    simp [subA_len h.2]
theorem subA_AR {σ : Val} {A A' : SEnv} {ρ : Env} (h : subA A A' = true) (ar : AR σ A' ρ) : AR σ A ρ :=
  ⟨by rw [subA_len h, ar.1], fun i t ht => ar.2 i t (subA_get h ht)⟩
/-! ### outcomes of statements -/
inductive Fo where
  | next
  | ret (t : SV)
  | brk
  | exn (c : Str) (fs : List SV)
abbrev MS := Option (List (Fo × St))
def GoodF (n : Nat) (σ : Val) (R : Fl) (q : Fo × St) : Prop := ∃ σ', Ext n q.2.n σ σ' ∧ (match q.1 with
  | .next => ∃ ρ, R = .next ρ ∧ GS σ' q.2 ρ
  | .ret t => ∃ v ρ, R = .ret v ρ ∧ G σ' t v ∧ GS σ' q.2 ρ
  | .brk => ∃ ρ, R = .brk ρ ∧ GS σ' q.2 ρ
  | .exn c fs => ∃ fs' ρ, R = .exn c fs' ρ ∧ Gs σ' fs fs' ∧ GS σ' q.2 ρ)
def HdF (n : Nat) (σ : Val) (R : Fl) (L : List (Fo × St)) : Prop := ∃ q ∈ L, GoodF n σ R q
theorem GoodF.of_ext {n n' : Nat} {σ σ' : Val} {R : Fl} {q : Fo × St} (e : Ext n n' σ σ') (h : GoodF n' σ' R q) : GoodF n σ R q := by
  obtain ⟨σ'', e', h'⟩ := h
  exact ⟨σ'', e.trans e', h'⟩
def nextS (S : St) : MS := some [(.next, S)]
theorem HdF.next {σ : Val} {S : St} {ρ : Env} {L : List (Fo × St)} (h : nextS S = some L) (g : GS σ S ρ) : HdF S.n σ (.next ρ) L := by
  cases h
  exact ⟨_, List.mem_singleton.mpr rfl, σ, Ext.refl _ _, ρ, rfl, g⟩
/-- an expression, then more -/
def bindXL {α : Type} (k : α → St → MS) : List (Out α × St) → MS
  | [] => some []
  | q :: L => (match q.1 with
    | .ok a => (match L with
      | [] => k a q.2
      | _ :: _ => (match k a q.2 with
        | some x => (match bindXL k L with
          | some y => some (x ++ y)
          | none => none)
        | none => none))
    | .exn c fs => (match bindXL k L with
      | some y => some ((.exn c fs, q.2) :: y)
      | none => none))
def bindX {α : Type} (m : M α) (k : α → St → MS) : MS := match m with
  | some L => bindXL k L
  | none => none
theorem bindXL_mem {α : Type} {k : α → St → MS} : ∀ {L : List (Out α × St)} {L' : List (Fo × St)}, bindXL k L = some L' → ∀ q ∈ L, (match q.1 with
    | .ok a => ∃ x, k a q.2 = some x ∧ ∀ y ∈ x, y ∈ L'
    | .exn c fs => (.exn c fs, q.2) ∈ L')
  | [], _, _, q, hq => by simp at hq
  | p :: L, L', h, q, hq => by
    simp only [bindXL] at h
    cases hp : p.1 with
    | ok a =>
      simp only [hp] at h
      have h : (match k a p.2 with
        | some x => (match bindXL k L with
          | some y => some (x ++ y)
          | none => none)
        | none => none) = some L' := by
        cases L with
        | nil =>
          simp only at h
          rw [h]
          simp [bindXL]
        | cons _ _ => exact h
      cases hk : k a p.2 with
      | none => simp only [hk] at h; cases h
      | some x =>
        simp only [hk] at h
        cases hb : bindXL k L with
        | none => simp only [hb] at h; cases h
        | some y =>
          simp only [hb] at h
          cases h
          rcases List.mem_cons.mp hq with e | e
          · subst e
            simp only [hp]
            exact ⟨x, hk, fun z hz => List.mem_append_left _ hz⟩
          · have := bindXL_mem hb q e
            cases hq1 : q.1 with
            | ok a' =>
              simp only [hq1] at this ⊢
              obtain ⟨x', h1, h2⟩ := this
              exact ⟨x', h1, fun z hz => List.mem_append_right _ (h2 z hz)⟩
            | exn c fs =>
              simp only [hq1] at this ⊢
              exact List.mem_append_right _ this
    | exn c fs =>
      simp only [hp] at h
      cases hb : bindXL k L with
      | none => simp only [hb] at h; cases h
      | some y =>
        simp only [hb] at h
        cases h
        rcases List.mem_cons.mp hq with e | e
        · subst e
          simp only [hp]
          exact List.mem_cons_self
        · have := bindXL_mem hb q e
          cases hq1 : q.1 with
          | ok a' =>
            simp only [hq1] at this ⊢
            obtain ⟨x', h1, h2⟩ := this
            exact ⟨x', h1, fun z hz => List.mem_cons_of_mem _ (h2 z hz)⟩
          | exn c' fs' =>
            simp only [hq1] at this ⊢
            exact List.mem_cons_of_mem _ this
theorem HdF.bindX {α β : Type} {g : Val → β → α → Prop} {n : Nat} {σ : Val} {R : Res α} {Q : Fl} {f : α → Env → Fl} {m : M β} {k : β → St → MS} {L' : List (Fo × St)} (h : bindX m k = some L')
    (hQ : Q = (match R with | .ok a ρ => f a ρ | .exn c fs ρ => .exn c fs ρ | .bad => .bad))
    (h1 : ∀ L, m = some L → Hd g n σ R L)
    (h2 : ∀ b S σ' a ρ L1, k b S = some L1 → Ext n S.n σ σ' → g σ' b a → GS σ' S ρ → HdF S.n σ' (f a ρ) L1) : HdF n σ Q L' := by
  unfold SX.bindX at h
  split at h
  · rename_i L
    obtain ⟨q, hq, σ', e, hg⟩ := h1 L rfl
    have hm := bindXL_mem h q hq
    cases hq1 : q.1 with
    | ok b =>
      simp only [hq1] at hm hg
      obtain ⟨x, hk, hx⟩ := hm
      obtain ⟨a, ρ, rfl, ga, gs⟩ := hg
      obtain ⟨q', hq', good⟩ := h2 b q.2 σ' a ρ x hk e ga gs
      subst hQ
      exact ⟨q', hx q' hq', good.of_ext e⟩
    | exn c fs =>
      simp only [hq1] at hm hg
      obtain ⟨fs', ρ, rfl, ga, gs⟩ := hg
      subst hQ
      exact ⟨_, hm, σ', e, fs', ρ, rfl, ga, gs⟩
  · cases h
/-- a plain value, then more -/
theorem HdF.of_bindX {α β : Type} {g : Val → β → α → Prop} {n : Nat} {σ : Val} {a : α} {ρ : Env} {Q : Fl} {m : M β} {k : β → St → MS} {L' : List (Fo × St)} (h : SX.bindX m k = some L')
    (h1 : ∀ L, m = some L → Hd g n σ (.ok a ρ) L)
    (h2 : ∀ b S σ' L1, k b S = some L1 → Ext n S.n σ σ' → g σ' b a → GS σ' S ρ → HdF S.n σ' Q L1) : HdF n σ Q L' := by
  unfold SX.bindX at h
  split at h
  · rename_i L
    obtain ⟨q, hq, σ', e, hg⟩ := h1 L rfl
    have hm := bindXL_mem h q hq
    cases hq1 : q.1 with
    | ok b =>
      simp only [hq1] at hm hg
      obtain ⟨x, hk, hx⟩ := hm
      obtain ⟨a', ρ', er, ga, gs⟩ := hg
      cases er
      obtain ⟨q', hq', good⟩ := h2 b q.2 σ' x hk e ga gs
      exact ⟨q', hx q' hq', good.of_ext e⟩
    | exn c fs =>
      simp only [hq1] at hg
      obtain ⟨fs', ρ', er, _⟩ := hg
      cases er
  · cases h
theorem bindX_some {α : Type} {m : M α} {k : α → St → MS} {L : List (Fo × St)} (h : bindX m k = some L) : ∃ L', m = some L' := by
  unfold bindX at h
  split at h
  · exact ⟨_, rfl⟩
  · cases h
/-- behind what goes on -/
def bindF (k : St → MS) : List (Fo × St) → MS
  | [] => some []
  | q :: L => (match q.1 with
    | .next => (match k q.2 with
      | some x => (match bindF k L with
        | some y => some (x ++ y)
        | none => none)
      | none => none)
    | _ => (match bindF k L with
      | some y => some (q :: y)
      | none => none))
theorem bindF_mem {k : St → MS} : ∀ {L L' : List (Fo × St)}, bindF k L = some L' → ∀ q ∈ L, (match q.1 with
    | .next => ∃ x, k q.2 = some x ∧ ∀ y ∈ x, y ∈ L'
    | _ => q ∈ L')
  | [], _, _, q, hq => by simp at hq
  | p :: L, L', h, q, hq => by
    have rest : ∀ y, bindF k L = some y → (∀ z ∈ y, z ∈ L') → q ∈ L → (match q.1 with
        | .next => ∃ x, k q.2 = some x ∧ ∀ y ∈ x, y ∈ L'
        | _ => q ∈ L') := fun y hy hs hq => by
      have := bindF_mem hy q hq
      cases hq1 : q.1 with
      | next =>
        simp only [hq1] at this ⊢
        obtain ⟨x', h1, h2⟩ := this
        exact ⟨x', h1, fun z hz => hs z (h2 z hz)⟩
      | _ => simp only [hq1] at this ⊢; exact hs _ this
    simp only [bindF] at h
    cases hp : p.1 with
    | next =>
      simp only [hp] at h
      cases hk : k p.2 with
      | none => simp only [hk] at h; cases h
      | some x =>
        simp only [hk] at h
        cases hb : bindF k L with
        | none => simp only [hb] at h; cases h
        | some y =>
          simp only [hb] at h
          cases h
          rcases List.mem_cons.mp hq with e | e
          · subst e
            simp only [hp]
            exact ⟨x, hk, fun z hz => List.mem_append_left _ hz⟩
          · exact rest y hb (fun z hz => List.mem_append_right _ hz) e
    | _ =>
      simp only [hp] at h
      cases hb : bindF k L with
      | none => simp only [hb] at h; cases h
      | some y =>
        simp only [hb] at h
        cases h
        rcases List.mem_cons.mp hq with e | e
        · subst e; simp only [hp]; exact List.mem_cons_self
        · exact rest y hb (fun z hz => List.mem_cons_of_mem _ hz) e
def seqF (R : Fl) (f : Env → Fl) : Fl := match R with
  | .next ρ => f ρ
  | .ret v ρ => .ret v ρ
  | .brk ρ => .brk ρ
  | .exn c fs ρ => .exn c fs ρ
  | .bad => .bad
theorem HdF.bindF {n : Nat} {σ : Val} {R : Fl} {f : Env → Fl} {L L' : List (Fo × St)} {k : St → MS} (h : bindF k L = some L') (h1 : HdF n σ R L) (h2 : ∀ S σ' ρ L1, k S = some L1 → Ext n S.n σ σ' → GS σ' S ρ → HdF S.n σ' (f ρ) L1) : HdF n σ (seqF R f) L' := by
  obtain ⟨q, hq, σ', e, hg⟩ := h1
  have hm := bindF_mem h q hq
  cases hq1 : q.1 with
  | next =>
    simp only [hq1] at hm hg
    obtain ⟨x, hk, hx⟩ := hm
    obtain ⟨ρ, rfl, gs⟩ := hg
    obtain ⟨q', hq', good⟩ := h2 q.2 σ' ρ x hk e gs
    exact ⟨q', hx q' hq', good.of_ext e⟩
  | ret t =>
    simp only [hq1] at hm hg
    obtain ⟨v, ρ, rfl, gv, gs⟩ := hg
    exact ⟨q, hm, σ', e, by rw [hq1]; exact ⟨v, ρ, rfl, gv, gs⟩⟩
  | brk =>
    simp only [hq1] at hm hg
    obtain ⟨ρ, rfl, gs⟩ := hg
    exact ⟨q, hm, σ', e, by rw [hq1]; exact ⟨ρ, rfl, gs⟩⟩
  | exn c fs =>
    simp only [hq1] at hm hg
    obtain ⟨fs', ρ, rfl, gv, gs⟩ := hg
    exact ⟨q, hm, σ', e, by rw [hq1]; exact ⟨fs', ρ, rfl, gv, gs⟩⟩
end SX
end

section
set_option Elab.async false
set_option linter.all false
set_option maxRecDepth 100000
set_option maxHeartbeats 1000000
namespace SX
open PySem hiding Env
open LC
/-! ### loops -/
def loopF (R : Fl) (f : Env → Fl) : Fl := match R with
  | .next ρ => f ρ
  | .brk ρ => .next ρ
  | .ret v ρ => .ret v ρ
  | .exn c fs ρ => .exn c fs ρ
  | .bad => .bad
def forK (k : St → MS) : List (Fo × St) → MS
  | [] => some []
  | q :: L => (match q.1 with
    | .next => (match k q.2 with
      | some x => (match forK k L with
        | some y => some (x ++ y)
        | none => none)
      | none => none)
    | .brk => (match forK k L with
      | some y => some ((.next, q.2) :: y)
      | none => none)
    | _ => (match forK k L with
      | some y => some (q :: y)
      | none => none))
theorem forK_mem {k : St → MS} : ∀ {L L' : List (Fo × St)}, forK k L = some L' → ∀ q ∈ L, (match q.1 with
    | .next => ∃ x, k q.2 = some x ∧ ∀ y ∈ x, y ∈ L'
    | .brk => (.next, q.2) ∈ L'
    | _ => q ∈ L')
  | [], _, _, q, hq => by simp at hq
  | p :: L, L', h, q, hq => by
    have rest : ∀ y, forK k L = some y → (∀ z ∈ y, z ∈ L') → q ∈ L → (match q.1 with
        | .next => ∃ x, k q.2 = some x ∧ ∀ y ∈ x, y ∈ L'
        | .brk => (.next, q.2) ∈ L'
        | _ => q ∈ L') := fun y hy hs hq => by
      have := forK_mem hy q hq
      cases hq1 : q.1 with
      | next =>
        simp only [hq1] at this ⊢
        obtain ⟨x', h1, h2⟩ := this
        exact ⟨x', h1, fun z hz => hs z (h2 z hz)⟩
      | _ => simp only [hq1] at this ⊢; exact hs _ this
    simp only [forK] at h
    cases hp : p.1 with
    | next =>
      simp only [hp] at h
      cases hk : k p.2 with
      | none => simp only [hk] at h; cases h
      | some x =>
        simp only [hk] at h
        cases hb : forK k L with
        | none => simp only [hb] at h; cases h
        | some y =>
          simp only [hb] at h
          cases h
          rcases List.mem_cons.mp hq with e | e
          · subst e
            simp only [hp]
            exact ⟨x, hk, fun z hz => List.mem_append_left _ hz⟩
          · exact rest y hb (fun z hz => List.mem_append_right _ hz) e
    | _ =>
      simp only [hp] at h
      cases hb : forK k L with
      | none => simp only [hb] at h; cases h
      | some y =>
        simp only [hb] at h
        cases h
        rcases List.mem_cons.mp hq with e | e
        · subst e; simp only [hp]; exact List.mem_cons_self
        · exact rest y hb (fun z hz => List.mem_cons_of_mem _ hz) e
theorem HdF.forK {n : Nat} {σ : Val} {R : Fl} {f : Env → Fl} {L L' : List (Fo × St)} {k : St → MS} (h : forK k L = some L') (h1 : HdF n σ R L) (h2 : ∀ S σ' ρ L1, k S = some L1 → Ext n S.n σ σ' → GS σ' S ρ → HdF S.n σ' (f ρ) L1) : HdF n σ (loopF R f) L' := by
  obtain ⟨q, hq, σ', e, hg⟩ := h1
  have hm := forK_mem h q hq
  cases hq1 : q.1 with
  | next =>
    simp only [hq1] at hm hg
    obtain ⟨x, hk, hx⟩ := hm
    obtain ⟨ρ, rfl, gs⟩ := hg
    obtain ⟨q', hq', good⟩ := h2 q.2 σ' ρ x hk e gs
    exact ⟨q', hx q' hq', good.of_ext e⟩
  | ret t =>
    simp only [hq1] at hm hg
    obtain ⟨v, ρ, rfl, gv, gs⟩ := hg
    exact ⟨q, hm, σ', e, by rw [hq1]; exact ⟨v, ρ, rfl, gv, gs⟩⟩
  | brk =>
    simp only [hq1] at hm hg
    obtain ⟨ρ, rfl, gs⟩ := hg
    exact ⟨_, hm, σ', e, ρ, rfl, gs⟩
  | exn c fs =>
    simp only [hq1] at hm hg
    obtain ⟨fs', ρ, rfl, gv, gs⟩ := hg
    exact ⟨q, hm, σ', e, by rw [hq1]; exact ⟨fs', ρ, rfl, gv, gs⟩⟩
theorem forL_cons {bd : PV → Env → Option Env} {body : Env → Fl} {x : PV} {xs : List PV} {ρ ρ1 : Env} (h : bd x ρ = some ρ1) : forL bd body (x :: xs) ρ = loopF (body ρ1) (forL bd body xs) := by
  simp only [forL, h]
  cases body ρ1 <;> rfl
def aFor (bd : SV → SEnv → Option SEnv) (body : St → MS) : List SV → St → MS
  | [], S => nextS S
  | x :: xs, S => (match bd x S.A with
    | none => none
    | some A1 => (match body (withA S A1) with
      | some L => forK (fun S2 => if keeps S.n S2.n xs then aFor bd body xs S2 else none) L
      | none => none))
theorem aFor_ok {bdA : SV → SEnv → Option SEnv} {bodyA : St → MS} {bd : PV → Env → Option Env} {body : Env → Fl}
    (hbd : ∀ {σ t A A' v ρ}, bdA t A = some A' → G σ t v → AR σ A ρ → ∃ ρ', bd v ρ = some ρ' ∧ AR σ A' ρ')
    (hb : ∀ {S L σ ρ}, bodyA S = some L → GS σ S ρ → HdF S.n σ (body ρ) L) :
    ∀ {xs : List SV} {S : St} {L : List (Fo × St)} {σ : Val} {ρ : Env} {vs : List PV}, aFor bdA bodyA xs S = some L → GS σ S ρ → Gs σ xs vs → HdF S.n σ (forL bd body vs ρ) L
  | [], S, L, σ, ρ, vs, h, g, gx => by
    simp only [Gs] at gx; subst gx
    simp only [aFor] at h
    simp only [forL]
    exact HdF.next h g
  | x :: xs, S, L, σ, ρ, vs, h, g, gx => by
    simp only [Gs] at gx
    obtain ⟨v, vs, rfl, gv, gvs⟩ := gx
    simp only [aFor] at h
    split at h
    · cases h
    · rename_i A1 hA1
      obtain ⟨ρ1, e1, ar1⟩ := hbd hA1 gv g.a
      rw [forL_cons e1]
      split at h
      · rename_i L1 hL1
        have g1 : GS σ (withA S A1) ρ1 := ⟨⟨g.b, g.f⟩, ar1⟩
        have h1 := hb hL1 g1
        exact HdF.forK h h1 fun S2 σ2 ρ2 L2 hk e g2 => by
          split at hk
          · rename_i hc
            exact aFor_ok hbd hb hk g2 (keeps_G e hc gvs)
          · cases hk
      · cases h
/-- over numbers of which nothing is known -/
def isEnd : Fo × St → Bool
  | (.ret _, _) => true
  | (.exn _ _, _) => true
  | _ => false
def aCells (bd : SV → SEnv → Option SEnv) (body : St → MS) (S : St) : MS := match bd .cell S.A with
  | none => none
  | some A1 => (match body (withA S A1) with
    | some L => if wfA S.n S.A && L.all (fun q => isEnd q || subA S.A q.2.A) then some ((.next, S) :: L.filter isEnd) else none
    | none => none)
theorem aCells_ok {bdA : SV → SEnv → Option SEnv} {bodyA : St → MS} {bd : PV → Env → Option Env} {body : Env → Fl}
    (hbd : ∀ {σ t A A' v ρ}, bdA t A = some A' → G σ t v → AR σ A ρ → ∃ ρ', bd v ρ = some ρ' ∧ AR σ A' ρ')
    (hb : ∀ {S L σ ρ}, bodyA S = some L → GS σ S ρ → HdF S.n σ (body ρ) L) {S : St} {L : List (Fo × St)} {σ : Val} (h : aCells bdA bodyA S = some L) :
    ∀ {ns : List Int} {ρ : Env}, GS σ S ρ → HdF S.n σ (forL bd body (ns.map .int) ρ) L
  | [], ρ, g => by
    unfold aCells at h
    split at h
    · cases h
    · split at h
      · split at h
        · cases h
          exact ⟨_, List.mem_cons_self, σ, Ext.refl _ _, ρ, rfl, g⟩
        · cases h
      · cases h
  | n :: ns, ρ, g => by
    have h' := h
    unfold aCells at h
    split at h
    · cases h
    · rename_i A1 hA1
      split at h
      · rename_i L1 hL1
        split at h
        · rename_i hc
          cases h
          simp only [Bool.and_eq_true] at hc
          obtain ⟨ρ1, e1, ar1⟩ := hbd (v := .int n) hA1 (by simp only [G]; exact ⟨n, rfl⟩) g.a
          rw [List.map_cons, forL_cons e1]
          have g1 : GS σ (withA S A1) ρ1 := ⟨⟨g.b, g.f⟩, ar1⟩
          obtain ⟨q, hq, σ', e, z⟩ := hb hL1 g1
          have hq2 := List.all_eq_true.mp hc.2 q hq
          have back : ∀ ρ2, GS σ' q.2 ρ2 → subA S.A q.2.A = true → GS σ S ρ2 := fun ρ2 g2 hs => by
            have ar := subA_AR hs g2.a
            have ex : Ext S.n (S.n + 1) σ' σ := ⟨by omega, fun i hi => (e.2.1 i hi).symm, fun hh => by omega⟩
            exact ⟨⟨g.b, g.f⟩, AR_ext ex (by unfold keepA; rw [hc.1, Bool.or_true]) ar⟩
          obtain ⟨o, S2⟩ := q
          cases o with
          | next =>
            simp only at z
            obtain ⟨ρ2, er, g2⟩ := z
            rw [er]
            exact aCells_ok hbd hb h' (back ρ2 g2 (by simpa [isEnd] using hq2))
          | brk =>
            simp only at z
            obtain ⟨ρ2, er, g2⟩ := z
            rw [er]
            exact ⟨_, List.mem_cons_self, σ, Ext.refl _ _, ρ2, rfl, back ρ2 g2 (by simpa [isEnd] using hq2)⟩
          | ret t =>
            simp only at z
            obtain ⟨v, ρ2, er, gv, g2⟩ := z
            rw [er]
            exact ⟨_, List.mem_cons_of_mem _ (List.mem_filter.mpr ⟨hq, rfl⟩), σ', e, v, ρ2, rfl, gv, g2⟩
          | exn c fs =>
            simp only at z
            obtain ⟨fs', ρ2, er, gv, g2⟩ := z
            rw [er]
            exact ⟨_, List.mem_cons_of_mem _ (List.mem_filter.mpr ⟨hq, rfl⟩), σ', e, fs', ρ2, rfl, gv, g2⟩
        · cases h
      · cases h
def aWh (cond : St → M Bool) (body : St → MS) : Nat → St → MS
  | 0, _ => none
  | n + 1, S => bindX (cond S) fun b S1 => if b then (match body S1 with
    | some L => forK (aWh cond body n) L
    | none => none) else nextS S1
theorem aWh_ok {condA : St → M Bool} {bodyA : St → MS} {cond : Env → Res Bool} {body : Env → Fl}
    (hc : ∀ {S L σ ρ}, condA S = some L → GS σ S ρ → Hd (fun _ b a => b = a) S.n σ (cond ρ) L)
    (hb : ∀ {S L σ ρ}, bodyA S = some L → GS σ S ρ → HdF S.n σ (body ρ) L) :
    ∀ {n : Nat} {S : St} {L : List (Fo × St)} {σ : Val} {ρ : Env}, aWh condA bodyA n S = some L → GS σ S ρ → HdF S.n σ (whlW cond body ρ) L
  | 0, S, L, σ, ρ, h, g => by simp [aWh] at h
  | n + 1, S, L, σ, ρ, h, g => by
    simp only [aWh] at h
    refine HdF.bindX (f := fun b ρ1 => if b then loopF (body ρ1) (whlW cond body) else .next ρ1) h ?_ (fun L hL => hc hL g) fun b S1 σ1 a ρ1 L1 hk e hab g1 => ?_
    · rw [whlW_step]
      cases cond ρ with
      | ok b ρ1 =>
        cases b with
        | true => simp only [if_true]; cases body ρ1 <;> rfl
        | false => rfl
      | exn c fs ρ1 => rfl
      | bad => rfl
    · subst hab
      cases b with
      | true =>
        simp only [if_true] at hk ⊢
        split at hk
        · rename_i L2 hL2
          exact HdF.forK hk (hb hL2 g1) fun S2 σ2 ρ2 L3 hk2 e2 g2 => aWh_ok hc hb hk2 g2
        · cases hk
      | false =>
        simp only [Bool.false_eq_true, if_false] at hk ⊢
        exact HdF.next hk g1
/-! ### statements -/
inductive Its where
  | ex (xs : List SV)
  | cl (m : Nat)
def GI (σ : Val) : Its → List PV → Prop
  | .ex xs, vs => Gs σ xs vs
  | .cl m, vs => ∃ ns : List Int, vs = ns.map .int
def knownCl (A : SEnv) (i : Nat) : Bool := match getA A i with
  | some u => clV u
  | none => false
def knownLf (A : SEnv) (i : Nat) : Bool := match getA A i with
  | some u => lfV u
  | none => false
def loopA (rng fz : Bool) (vr : List Nat) (A : SEnv) : SEnv := if rng then A else mapA (fun i o => if vr.contains i then aftO fz o else o) 0 A
/-- behind the loop -/
def putA (rng fz : Bool) (vr : List Nat) (A : SEnv) (S : St) : St := if rng || fz then S else withA S (mapA (fun i o => if vr.contains i && !knownCl A i then none else o) 0 S.A)
def putAll (rng fz : Bool) (vr : List Nat) (A : SEnv) (L : List (Fo × St)) : MS := if L.all (fun q => Nat.beq q.2.A.length A.length) then some (L.map fun q => (q.1, putA rng fz vr A q.2)) else none
mutual
def asgS : Stm → List Nat
  | .expr e => e.ks
  | .set i e => i :: e.ks
  | .par i j a b => i :: j :: (a.ks ++ b.ks)
  | .asg tg e => tg.slots ++ e.ks
  | .app i e => i :: e.ks
  | .setAt i ix e => i :: (ix.ks ++ e.ks)
  | .setAt2 i ix jx e => i :: (ix.ks ++ jx.ks ++ e.ks)
  | .ret e => e.ks
  | .raise _ _ => []
  | .iff c a b => c.ks ++ asgSs a ++ asgSs b
  | .whl c b => c.ks ++ asgSs b
  | .for_ _ tg it b => tg.slots ++ it.ks ++ asgSs b
  | .brk => []
  | .pass => []
  | .stk => []
def asgSs : Stms → List Nat
  | .nil => []
  | .cons s ss => asgS s ++ asgSs ss
end
section
variable (cfg : Cfg) (ac : Str → List SV → St → M SV)
def aItC (it : It) (S : St) : M Its := match it with
  | .seq e => bindM (aE cfg ac e S) fun x S1 => (match x with
    | .cells m => ret (.cl m) S1
    | x => (match seqA x with
      | some xs => ret (.ex xs) S1
      | none => none))
  | it => bindM (aIt cfg ac it S) fun xs S1 => ret (.ex xs) S1
/-- a number, by names that hold no lists -/
def aZ (e : Ex) (S : St) : M Int := if e.ks.isEmpty && e.vr.all (knownLf S.A) then
    bindM (noX (aE cfg ac e (withA S (mapA (fun i o => if e.vr.contains i then o else none) 0 S.A)))) fun t S1 => bindM (concV t S1) fun k S2 => if keepA S.n S2.n S.A then ret k (withA S2 S.A) else none
  else none
def okA (lk : List Nat) (A : SEnv) (i : Nat) : Bool := Nat.blt i A.length && !lk.contains i
mutual
def aS : Stm → List Nat → St → MS
  | .expr e, lk, S => bindX (aX cfg ac e S) fun _ S1 => nextS S1
  | .set i e, lk, S => bindX (aX cfg ac e S) fun t S1 => if okA lk S1.A i then nextS (withA S1 (S1.A.set i (some t))) else none
  | .par i j a b, lk, S => bindX (aX cfg ac (.tup (.cons a (.cons b .nil))) S) fun t S1 => (match t with
    | .tup [x, y] => if okA lk S1.A i && okA lk S1.A j && (i != j) then nextS (withA S1 ((S1.A.set i (some x)).set j (some y))) else none
    | _ => none)
  | .asg tg e, lk, S => bindX (aX cfg ac e S) fun t S1 => (match aBind lk tg t S1.A with
    | some A => nextS (withA S1 A)
    | none => none)
  | .app i e, lk, S => (match getA S.A i with
    | some (.lst true _) => bindX (aX cfg ac e S) fun t S1 => (match getA S1.A i with
      | some (.lst true xs) => if Nat.blt xs.length SL then nextS (withA S1 (S1.A.set i (some (.lst true (xs ++ [t]))))) else none
      | _ => none)
    | _ => none)
  | .setAt i ix e, lk, S => bindX (aX cfg ac e S) fun t S1 => (match getA S1.A i with
    | some _ => bindX (noX (aX cfg ac ix S1)) fun k S2 => if keep S1.n S2.n t then bindX (concV k S2) fun k S3 => if keep S2.n S3.n t then (match getA S3.A i with
        | some (.lst true xs) => (match ixN xs.length k with
          | some j => nextS (withA S3 (S3.A.set i (some (.lst true (xs.set j t)))))
          | none => none)
        | _ => none) else none else none
    | none => none)
  | .setAt2 i ix jx e, lk, S => bindX (aX cfg ac e S) fun t S1 => bindX (aZ cfg ac ix S1) fun k S2 => bindX (aZ cfg ac jx S2) fun m S3 => if keep S1.n S3.n t then (match getA S3.A i with
      | some (.lst true xs) => (match ixN xs.length k with
        | some j => (match xs[j]? with
          | some (.lst true ys) => (match ixN ys.length m with
            | some l => nextS (withA S3 (S3.A.set i (some (.lst true (xs.set j (.lst true (ys.set l t)))))))
            | none => none)
          | _ => none)
        | none => none)
      | _ => none) else none
  | .ret e, lk, S => bindX (aX cfg ac e S) fun t S1 => some [(.ret t, S1)]
  | .raise c es, lk, S => none
  | .iff c a b, lk, S => bindX (aX cfg ac c S) fun t S1 => bindX (truA t S1) fun b' S2 => if b' then aSs a lk S2 else aSs b lk S2
  | .whl c b, lk, S => aWh (fun S => bindM (aX cfg ac c S) fun t S1 => truA t S1) (fun S => aSs b lk S) 300 S
  | .for_ fz tg it b, lk, S => bindX (noX (aItC cfg ac it (withA S (mskA it.vr it.ks S.A)))) fun its S1 =>
      if keepA S.n S1.n S.A && it.ks.all (penAt S1.A) && Nat.beq S1.A.length S.A.length then
        (match its with
        | .ex xs => (match aFor (aBind ((if it.rng then [] else it.vr) ++ lk) tg) (fun S => aSs b ((if it.rng then [] else it.vr) ++ lk) S) xs (withA S1 (mixA (fun i => it.ks.contains i) 0 S1.A (loopA it.rng fz it.vr S.A))) with
          | some L => putAll it.rng fz it.vr S.A L
          | none => none)
        | .cl m => (match aCells (aBind ((if it.rng then [] else it.vr) ++ lk) tg) (fun S => aSs b ((if it.rng then [] else it.vr) ++ lk) S) (withA S1 (wipeA (mixA (fun i => it.ks.contains i) 0 S1.A (loopA it.rng fz it.vr S.A)) (tg.slots ++ asgSs b))) with
          | some L => putAll it.rng fz it.vr S.A L
          | none => none))
      else none
  | .brk, lk, S => some [(.brk, S)]
  | .pass, lk, S => nextS S
  | .stk, lk, S => none
def aSs : Stms → List Nat → St → MS
  | .nil, lk, S => nextS S
  | .cons s ss, lk, S => (match aS s lk S with
    | some L => bindF (fun S1 => aSs ss lk S1) L
    | none => none)
end
end
end SX
end

section
set_option Elab.async false
set_option linter.all false
set_option maxRecDepth 100000
set_option maxHeartbeats 1000000
namespace SX
open PySem hiding Env
open LC
theorem wipe_AR' {σ : Val} {A : SEnv} {ρ : Env} (h : AR σ A ρ) (vs : List Nat) : AR σ (wipeA A vs) ρ := by
  refine ⟨by rw [wipeA, mapA_len, h.1], fun i t ht => ?_⟩
  have := getA_map _ A 0 i t ht
  rw [Nat.zero_add] at this
  split at this
  · cases this
  · exact h.2 i t this
theorem noX_hd {α β : Type} {g : Val → β → α → Prop} {n : Nat} {σ : Val} {R : Res α} {m : M β} (h : ∀ L, m = some L → Hd g n σ R L) : ∀ L, noX m = some L → Hd g n σ R L ∧ ∃ a ρ, R = .ok a ρ := fun L hL => by
  obtain ⟨h1, h2⟩ := noX_some hL
  have := h L h1
  obtain ⟨b, S, a, ρ, σ', _, e, _⟩ := this.ok_of h2
  exact ⟨this, a, ρ, e⟩
theorem okA_ok {σ : Val} {lk : List Nat} {A : SEnv} {ρ : Env} {i : Nat} (h : okA lk A i = true) (ar : AR σ A ρ) : okS lk ρ i = true := by
  unfold okA at h
  unfold okS
  simp only [Bool.and_eq_true, Nat.blt_eq, decide_eq_true_eq] at *
  exact ⟨by rw [← ar.1]; exact h.1, h.2⟩
theorem okS_lt {lk : List Nat} {ρ : Env} {i : Nat} (h : okS lk ρ i = true) : i < ρ.length := by
  unfold okS at h
  simp only [Bool.and_eq_true, decide_eq_true_eq] at h
  exact h.1
section
variable {cfg : Cfg} {ac : Str → List SV → St → M SV} {cf : CF} (hcs : CS cf ac)
include hcs
theorem aItC_ok {it : It} {S : St} {L : List (Out Its × St)} {σ : Val} {ρ : Env} (h : aItC cfg ac it S = some L) (g : GS σ S ρ) : Hd GI S.n σ (evIt cf it ρ) L := by
  unfold aItC at h
  split at h
  · simp only [evIt]
    refine Hd.bind h (fun L hL => aE_ok hcs _ hL g) fun x S1 σ1 v ρ1 L1 h1 e1 gx g1 => ?_
    split at h1
    · simp only [G] at gx
      obtain ⟨u, ns, rfl, _⟩ := gx
      have e : seqOf (.lst u (ns.map .int)) = some (ns.map .int) := by
        simp only [seqOf, fzs_map, List.map_map]
        congr 1
      rw [e]
      exact Hd.of_ret h1 ⟨ns, rfl⟩ g1
    · split at h1
      · rename_i xs hx
        obtain ⟨vs, ev, gv⟩ := seqA_ok hx gx
        rw [ev]
        exact Hd.of_ret h1 gv g1
      · cases h1
  · rename_i it' hne
    have hb : Hd GI S.n σ ((evIt cf it ρ).bind fun xs ρ => .ok xs ρ) L := Hd.bind h (fun L hL => aIt_ok hcs _ hL g) fun x S1 σ1 v ρ1 L1 h1 e1 gx g1 => Hd.of_ret h1 gx g1
    have e : (evIt cf it ρ).bind (fun xs ρ => .ok xs ρ) = evIt cf it ρ := by cases evIt cf it ρ <;> rfl
    rw [e] at hb
    exact hb
theorem aZ_ok {e : Ex} {S : St} {L : List (Out Int × St)} {σ : Val} {ρ : Env} (h : aZ cfg ac e S = some L) (g : GS σ S ρ) : ∃ k, evZ cf e ρ = some k ∧ Hd (fun _ b a => b = a) S.n σ (.ok k ρ) L := by
  unfold aZ at h
  split at h
  · rename_i hc
    simp only [Bool.and_eq_true] at hc
    have hlf : (selS (fun i => e.vr.contains i) 0 ρ).all (fun o => match o with | some v => lf v | none => true) = true := by
      rw [List.all_eq_true]
      intro o ho
      obtain ⟨j, hj⟩ := List.getElem?_of_mem ho
      have : getS (selS (fun k => e.vr.contains k) 0 ρ) j = o := by unfold getS; rw [hj]; rfl
      rw [getS_sel, Nat.zero_add] at this
      split at this
      · rename_i hv
        have hk := List.all_eq_true.mp hc.2 j (by simpa using hv)
        unfold knownLf at hk
        split at hk
        · rename_i u hu
          obtain ⟨v, hv', gv⟩ := g.a.2 j u hu
          rw [hv'] at this
          subst this
          exact lfV_lf hk gv
        · cases hk
      · subst this; rfl
    have g0 : GS σ (withA S (mapA (fun i o => if e.vr.contains i then o else none) 0 S.A)) (selS (fun i => e.vr.contains i) 0 ρ) := ⟨⟨g.b, g.f⟩, by
      refine ⟨by show (mapA _ _ _).length = _; rw [mapA_len, selS_len, g.a.1], fun i t ht => ?_⟩
      have := getA_map _ S.A 0 i t ht
      rw [Nat.zero_add] at this
      rw [getS_sel, Nat.zero_add]
      split at this
      · rename_i hv; rw [if_pos hv]; exact g.a.2 i t this
      · cases this⟩
    unfold bindM at h
    split at h
    · rename_i L0 hL0
      obtain ⟨hd, a, ρ1, er⟩ := noX_hd (fun L hL => aE_ok hcs e hL g0) L0 hL0
      obtain ⟨q, hq, σ1, e1, z⟩ := hd
      have hm := bindL_mem h q hq
      obtain ⟨o, S1⟩ := q
      cases o with
      | exn c fs =>
        simp only at z
        obtain ⟨_, _, er', _⟩ := z
        rw [er] at er'; cases er'
      | ok t =>
        simp only at z hm
        obtain ⟨v, ρ2, er', gv, g1⟩ := z
        rw [er] at er'
        cases er'
        obtain ⟨x, hx, hxs⟩ := hm
        split at hx
        · rename_i L2 hL2
          obtain ⟨k, rfl, z2⟩ := concV_ok hL2 gv g1
          refine ⟨k, ?_, ?_⟩
          · unfold evZ
            rw [if_pos (by rw [Bool.and_eq_true]; exact ⟨hc.1, hlf⟩)]
            rw [er]
          · obtain ⟨q2, hq2, σ2, e2, y⟩ := z2
            have hm2 := bindL_mem hx q2 hq2
            obtain ⟨o2, S2⟩ := q2
            cases o2 with
            | exn c fs =>
              simp only at y
              obtain ⟨_, _, er', _⟩ := y
              cases er'
            | ok k' =>
              simp only at y hm2
              obtain ⟨k'', ρ3, er', gk, g2⟩ := y
              cases er'
              obtain ⟨x2, hx2, hxs2⟩ := hm2
              split at hx2
              · rename_i hkp
                cases hx2
                have ex : Ext S.n S2.n σ σ2 := Ext.trans (b := S1.n) e1 e2
                refine ⟨_, hxs _ (hxs2 _ (List.mem_singleton.mpr rfl)), σ2, ex, _, ρ, rfl, gk, ⟨⟨g2.b, g2.f⟩, AR_ext ex hkp g.a⟩⟩
              · cases hx2
        · cases hx
    · cases h
  · cases h
theorem put_ok {rng fz : Bool} {vr : List Nat} {A : SEnv} {L L' : List (Fo × St)} {n : Nat} {σ : Val} {R : Fl} {ρ0 : Env} (h : putAll rng fz vr A L = some L') (hd : HdF n σ R L)
    (h0 : ρ0 = [] ∨ (rng = false ∧ fz = false ∧ ρ0.length = A.length ∧ ∀ i, getS ρ0 i ≠ none → vr.contains i = true ∧ knownCl A i = false)) : HdF n σ (R.put ρ0) L' := by
  unfold putAll at h
  split at h
  · rename_i hlen
    cases h
    obtain ⟨q, hq, σ', e, z⟩ := hd
    have hq2 := Nat.eq_of_beq_eq_true (List.all_eq_true.mp hlen q hq)
    have hn : (putA rng fz vr A q.2).n = q.2.n := by unfold putA; split <;> rfl
    have key : ∀ ρ, GS σ' q.2 ρ → GS σ' (putA rng fz vr A q.2) (orS ρ ρ0) := fun ρ g => by
      rcases h0 with h0 | ⟨hr, hf, hl, hi⟩
      · subst h0
        have e3 : orS ρ [] = ρ := by cases ρ <;> rfl
        rw [e3]
        unfold putA
        split
        · exact g
        · refine ⟨⟨g.b, g.f⟩, by show (mapA _ _ _).length = _; rw [mapA_len]; exact g.a.1, fun i t ht => ?_⟩
          have := getA_map _ q.2.A 0 i t ht
          split at this
          · cases this
          · exact g.a.2 i t this
      · unfold putA
        rw [hr, hf]
        simp only [Bool.or_self, Bool.false_eq_true, if_false]
        refine ⟨⟨g.b, g.f⟩, by show (mapA _ _ _).length = _; rw [mapA_len, orS_len]; exact g.a.1, fun i t ht => ?_⟩
        have := getA_map _ q.2.A 0 i t ht
        rw [Nat.zero_add] at this
        split at this
        · cases this
        · rename_i hc
          obtain ⟨v, hv, gv⟩ := g.a.2 i t this
          refine ⟨v, ?_, gv⟩
          rw [getS_or _ _ _ (by rw [← g.a.1, hq2, hl]), hv]
    refine ⟨_, List.mem_map.mpr ⟨q, hq, rfl⟩, σ', by rw [show (Prod.snd (q.1, putA rng fz vr A q.2)).n = q.2.n from hn]; exact e, ?_⟩
    cases hq1 : q.1 with
    | next => simp only [hq1] at z ⊢; obtain ⟨ρ, rfl, g⟩ := z; exact ⟨_, rfl, key ρ g⟩
    | ret t => simp only [hq1] at z ⊢; obtain ⟨v, ρ, rfl, gv, g⟩ := z; exact ⟨v, _, rfl, gv, key ρ g⟩
    | brk => simp only [hq1] at z ⊢; obtain ⟨ρ, rfl, g⟩ := z; exact ⟨_, rfl, key ρ g⟩
    | exn c fs => simp only [hq1] at z ⊢; obtain ⟨fs', ρ, rfl, gv, g⟩ := z; exact ⟨fs', _, rfl, gv, key ρ g⟩
  · cases h
/-- what a for walks -/
theorem xi_ok {fz : Bool} {it : It} {S : St} {ρ ρ1 : Env} {xs : List PV} {S1 : St} {σ1 : Val} (ar : AR σ1 S.A ρ) (g1 : GS σ1 S1 ρ1) (hk : it.ks.all (penAt S1.A) = true) (hl : S1.A.length = S.A.length) (he : evIt cf it (mskS it.vr it.ks ρ) = .ok xs ρ1) :
    ∃ ρ0 ρ2, evXi cf fz it ρ = .ok (xs, ρ0) ρ2 ∧ AR σ1 (mixA (fun i => it.ks.contains i) 0 S1.A (loopA it.rng fz it.vr S.A)) ρ2 ∧
      (ρ0 = [] ∨ (it.rng = false ∧ fz = false ∧ ρ0.length = S.A.length ∧ ∀ i, getS ρ0 i ≠ none → it.vr.contains i = true ∧ knownCl S.A i = false)) := by
  have hko := ks_ok hcs hk g1.a
  have hl1 : ρ1.length = ρ.length := by rw [← g1.a.1, ← ar.1]; exact hl
  have hla : (loopA it.rng fz it.vr S.A).length = S1.A.length := by
    unfold loopA
    split
    · exact hl.symm
    · rw [mapA_len]; exact hl.symm
  unfold evXi
  rw [he]
  simp only [hko, if_true]
  by_cases hr : it.rng = true
  · rw [if_pos hr]
    refine ⟨[], _, rfl, ⟨?_, fun i u hu => ?_⟩, .inl rfl⟩
    · rw [mixA_len _ _ _ _ hla, mrg_len _ _ _ _ _ hl1, hl, ar.1]
    · have hu := getA_mix _ _ _ 0 i u hu
      rw [Nat.zero_add] at hu
      rw [getS_mrg _ _ _ _ _ hl1]
      split at hu
      · rename_i hc; rw [if_pos hc]; exact g1.a.2 i u hu
      · rename_i hc
        rw [if_neg hc, if_pos rfl]
        unfold loopA at hu
        rw [if_pos hr] at hu
        exact ar.2 i u hu
  · rw [if_neg hr]
    have hrf : it.rng = false := by simpa using hr
    by_cases hh : (!fz && lfs xs) = true
    · rw [if_pos hh]
      simp only [Bool.and_eq_true, Bool.not_eq_true'] at hh
      refine ⟨_, _, rfl, ⟨?_, fun i u hu => ?_⟩, .inr ⟨hrf, hh.1, ?_, fun i hi => ?_⟩⟩
      · rw [mixA_len _ _ _ _ hla, orS_len, selS_len, hl1, hl, ar.1]
      · have hu := getA_mix _ _ _ 0 i u hu
        rw [Nat.zero_add] at hu
        rw [getS_or _ _ _ (by rw [selS_len, selS_len, hl1]), getS_sel, getS_sel, Nat.zero_add]
        split at hu
        · rename_i hc
          obtain ⟨v, hv, gv⟩ := g1.a.2 i u hu
          refine ⟨v, ?_, gv⟩
          rw [if_pos hc, hv]
        · rename_i hc
          rw [if_neg hc]
          simp only
          unfold loopA at hu
          rw [if_neg hr] at hu
          have hu := getA_map _ _ 0 i u hu
          rw [Nat.zero_add] at hu
          split at hu
          · rename_i hv
            unfold aftO at hu
            split at hu
            · rename_i u' hu'
              obtain ⟨v, hgv, gv⟩ := ar.2 i u' hu'
              split at hu
              · rename_i hcl
                cases hu
                have hn : nlf ρ i = false := by unfold nlf; rw [hgv]; simp [clV_cl hcl gv]
                refine ⟨v, ?_, gv⟩
                rw [hn]
                simp only [hc, Bool.and_false, Bool.not_false, Bool.and_self, if_true]
                exact hgv
              · rw [hh.1] at hu
                simp at hu
            · cases hu
          · rename_i hv
            obtain ⟨v, hgv, gv⟩ := ar.2 i u hu
            refine ⟨v, ?_, gv⟩
            simp only [hc, hv, Bool.false_and, Bool.not_false, Bool.and_self, if_true]
            exact hgv
      · rw [selS_len, selS_len, selS_len, ar.1]
      · rw [getS_sel, getS_sel, getS_sel, Nat.zero_add] at hi
        split at hi
        · rename_i hn
          split at hi
          · rename_i hv
            refine ⟨hv, ?_⟩
            unfold knownCl
            split
            · rename_i u hu
              cases hcl : clV u with
              | false => rfl
              | true =>
                obtain ⟨v, hgv, gv⟩ := ar.2 i u hu
                unfold nlf at hn
                rw [hgv] at hn
                simp [clV_cl hcl gv] at hn
            · rfl
          · exact absurd rfl hi
        · exact absurd rfl hi
    · rw [if_neg hh]
      refine ⟨[], _, rfl, ⟨?_, fun i u hu => ?_⟩, .inl rfl⟩
      · rw [mixA_len _ _ _ _ hla, mrg_len _ _ _ _ _ hl1, hl, ar.1]
      · have hu := getA_mix _ _ _ 0 i u hu
        rw [Nat.zero_add] at hu
        rw [getS_mrg _ _ _ _ _ hl1]
        split at hu
        · rename_i hc; rw [if_pos hc]; exact g1.a.2 i u hu
        · rename_i hc
          rw [if_neg hc]
          simp only [Bool.false_eq_true, if_false]
          unfold loopA at hu
          rw [if_neg hr] at hu
          have hu := getA_map _ _ 0 i u hu
          rw [Nat.zero_add] at hu
          split at hu
          · rename_i hv
            rw [if_pos hv]
            have := aftO_ok (σ := σ1) (nf := false) (w := getS ρ i) hu (fun _ => rfl) (fun u' hu' => ar.2 i u' hu')
            simpa using this
          · rename_i hv
            rw [if_neg hv]
            exact ar.2 i u hu
mutual
theorem aS_ok : ∀ (s : Stm) {lk : List Nat} {S : St} {L : List (Fo × St)} {σ : Val} {ρ : Env}, aS cfg ac s lk S = some L → GS σ S ρ → HdF S.n σ (evS cf s lk ρ) L
  | .expr e, lk, S, L, σ, ρ, h, g => by
    simp only [aS] at h
    refine HdF.bindX (f := fun _ ρ => .next ρ) h (by simp only [evS]; cases evX cf e ρ <;> rfl) (fun L hL => aX_ok hcs hL g) fun t S1 σ1 v ρ1 L1 h1 e1 gt g1 => ?_
    exact HdF.next h1 g1
  | .set i e, lk, S, L, σ, ρ, h, g => by
    simp only [aS] at h
    refine HdF.bindX (f := fun v ρ1 => if okS lk ρ1 i then .next (ρ1.set i (some v)) else .bad) h (by simp only [evS]; cases evX cf e ρ <;> rfl) (fun L hL => aX_ok hcs hL g) fun t S1 σ1 v ρ1 L1 h1 e1 gt g1 => ?_
    split at h1
    · rename_i ho
      have ho := okA_ok ho g1.a
      rw [if_pos ho]
      have g2 : GS σ1 (withA S1 (S1.A.set i (some t))) (ρ1.set i (some v)) := ⟨⟨g1.b, g1.f⟩, set_AR g1.a (okS_lt ho) gt⟩
      have r := HdF.next h1 g2
      exact r
    · cases h1
  | .par i j a b, lk, S, L, σ, ρ, h, g => by
    simp only [aS] at h
    refine HdF.bindX (f := fun v ρ1 => match v with
      | .tup [v, w] => if okS lk ρ1 i && okS lk ρ1 j && (i != j) then .next ((ρ1.set i (some v)).set j (some w)) else .bad
      | _ => .bad) h (by
        simp only [evS]
        cases evX cf (.tup (.cons a (.cons b .nil))) ρ with
        | ok v ρ1 => simp only; split <;> simp_all
        | exn c fs ρ1 => rfl
        | bad => rfl) (fun L hL => aX_ok hcs hL g) fun t S1 σ1 v ρ1 L1 h1 e1 gt g1 => ?_
    split at h1
    · simp only [G, Gs] at gt
      obtain ⟨ys, rfl, y1, _, rfl, gy1, y2, _, rfl, gy2, rfl⟩ := gt
      split at h1
      · rename_i ho
        simp only [Bool.and_eq_true] at ho
        have o1 := okA_ok ho.1.1 g1.a
        have o2 := okA_ok ho.1.2 g1.a
        simp only [o1, o2, ho.2, Bool.and_self, if_true]
        have g2 : GS σ1 (withA S1 ((S1.A.set i (some _)).set j (some _))) ((ρ1.set i (some y1)).set j (some y2)) := ⟨⟨g1.b, g1.f⟩, set_AR (set_AR g1.a (okS_lt o1) gy1) (by rw [List.length_set]; exact okS_lt o2) gy2⟩
        have r := HdF.next h1 g2
        exact r
      · cases h1
    · cases h1
  | .asg tg e, lk, S, L, σ, ρ, h, g => by
    simp only [aS] at h
    refine HdF.bindX (f := fun v ρ1 => match bindT lk tg v ρ1 with
      | some ρ2 => .next ρ2
      | none => .bad) h (by simp only [evS]; cases evX cf e ρ <;> rfl) (fun L hL => aX_ok hcs hL g) fun t S1 σ1 v ρ1 L1 h1 e1 gt g1 => ?_
    split at h1
    · rename_i A hA
      obtain ⟨ρ2, e2, ar2⟩ := aBind_ok hA gt g1.a
      rw [e2]
      have g2 : GS σ1 (withA S1 A) ρ2 := ⟨⟨g1.b, g1.f⟩, ar2⟩
      have r := HdF.next h1 g2
      exact r
    · cases h1
  | .app i e, lk, S, L, σ, ρ, h, g => by
    simp only [aS] at h
    split at h
    · rename_i xs0 hx0
      obtain ⟨v0, hv0, gv0⟩ := g.a.2 i _ hx0
      simp only [G] at gv0
      obtain ⟨ys0, rfl, _⟩ := gv0
      refine HdF.bindX (f := fun v ρ1 => match getS ρ1 i with
        | some (.lst true xs) => if xs.length < SL then .next (ρ1.set i (some (.lst true (xs ++ [v])))) else .bad
        | _ => .bad) h (by simp only [evS, hv0]; cases evX cf e ρ <;> rfl) (fun L hL => aX_ok hcs hL g) fun t S1 σ1 v ρ1 L1 h1 e1 gt g1 => ?_
      split at h1
      · rename_i xs hx
        obtain ⟨v1, hv1, gv1⟩ := g1.a.2 i _ hx
        simp only [G] at gv1
        obtain ⟨ys, rfl, gys⟩ := gv1
        split at h1
        · rename_i hlt
          have : ys.length < SL := by rw [Gs_len gys]; simpa [Nat.blt_eq] using hlt
          rw [hv1]
          simp only [this, if_true]
          have g2 : GS σ1 (withA S1 (S1.A.set i (some (.lst true (xs ++ [t]))))) (ρ1.set i (some (.lst true (ys ++ [v])))) := ⟨⟨g1.b, g1.f⟩, set_AR g1.a (getS_lt hv1) (by simp only [G]; exact ⟨_, rfl, Gs_app gys (Gs_cons.mpr ⟨gt, Gs_nil⟩)⟩)⟩
          have r := HdF.next h1 g2
          exact r
        · cases h1
      · cases h1
    · cases h
  | .setAt i ix e, lk, S, L, σ, ρ, h, g => by
    simp only [aS] at h
    refine HdF.bindX (f := fun v ρ1 => match getS ρ1 i with
      | some _ => (match evX cf ix ρ1 with
        | .ok (.int k) ρ2 => (match getS ρ2 i with
          | some (.lst true xs) => (match ixN xs.length k with
            | some j => .next (ρ2.set i (some (.lst true (xs.set j v))))
            | none => .bad)
          | _ => .bad)
        | _ => .bad)
      | none => .bad) h (by simp only [evS]; cases evX cf e ρ <;> rfl) (fun L hL => aX_ok hcs hL g) fun t S1 σ1 v ρ1 L1 h1 e1 gt g1 => ?_
    split at h1
    · rename_i u hu
      obtain ⟨w, hw, _⟩ := g1.a.2 i _ hu
      rw [hw]
      simp only
      obtain ⟨L0, hL0⟩ := bindX_some h1
      obtain ⟨_, a, ρ2, er⟩ := noX_hd (fun L hL => aX_ok hcs hL g1) L0 hL0
      have hx : ∀ L, noX (aX cfg ac ix S1) = some L → Hd G S1.n σ1 (.ok a ρ2) L := fun L hL => by
        have := (noX_hd (fun L hL => aX_ok hcs hL g1) L hL).1
        rw [er] at this; exact this
      rw [er]
      refine HdF.of_bindX h1 hx fun k S2 σ2 L2 h2 e2 gk g2 => ?_
      split at h2
      · rename_i hk2
        obtain ⟨L3, hL3⟩ := bindX_some h2
        obtain ⟨kk, rfl, z⟩ := concV_ok hL3 gk g2
        refine HdF.of_bindX h2 (fun L hL => by rw [hL3] at hL; cases hL; exact z) fun k' S3 σ3 L3 h3 e3 gk' g3 => ?_
        subst gk'
        split at h3
        · rename_i hk3
          split at h3
          · rename_i xs hx
            obtain ⟨v1, hv1, gv1⟩ := g3.a.2 i _ hx
            simp only [G] at gv1
            obtain ⟨ys, rfl, gys⟩ := gv1
            split at h3
            · rename_i j hj
              simp only
              rw [hv1]
              simp only
              rw [Gs_len gys, hj]
              simp only
              have g4 : GS σ3 (withA S3 (S3.A.set i (some (.lst true (xs.set j t))))) (ρ2.set i (some (.lst true (ys.set j v)))) := ⟨⟨g3.b, g3.f⟩, set_AR g3.a (getS_lt hv1) (by simp only [G]; exact ⟨_, rfl, Gs_set gys (keep_G e3 hk3 (keep_G e2 hk2 gt))⟩)⟩
              have r := HdF.next h3 g4
              exact r
            · cases h3
          · cases h3
        · cases h3
      · cases h2
    · cases h1
  | .setAt2 i ix jx e, lk, S, L, σ, ρ, h, g => by
    simp only [aS] at h
    refine HdF.bindX (f := fun v ρ1 => match evZ cf ix ρ1, evZ cf jx ρ1 with
      | some k, some m => (match getS ρ1 i with
        | some (.lst true xs) => (match ixN xs.length k with
          | some j => (match xs[j]? with
            | some (.lst true ys) => (match ixN ys.length m with
              | some l => .next (ρ1.set i (some (.lst true (xs.set j (.lst true (ys.set l v))))))
              | none => .bad)
            | _ => .bad)
          | none => .bad)
        | _ => .bad)
      | _, _ => .bad) h (by simp only [evS]; cases evX cf e ρ <;> rfl) (fun L hL => aX_ok hcs hL g) fun t S1 σ1 v ρ1 L1 h1 e1 gt g1 => ?_
    obtain ⟨L2, hL2⟩ := bindX_some h1
    obtain ⟨k, ek, z⟩ := aZ_ok hcs hL2 g1
    refine HdF.of_bindX h1 (fun L hL => by rw [hL2] at hL; cases hL; exact z) fun k' S2 σ2 L2 h2 e2 gk g2 => ?_
    subst gk
    obtain ⟨L3, hL3⟩ := bindX_some h2
    obtain ⟨m, em, z3⟩ := aZ_ok hcs hL3 g2
    refine HdF.of_bindX h2 (fun L hL => by rw [hL3] at hL; cases hL; exact z3) fun m' S3 σ3 L3 h3 e3 gm g3 => ?_
    subst gm
    rw [ek, em]
    simp only
    split at h3
    · rename_i hk3
      have gt3 := keep_G (e2.trans e3) hk3 gt
      split at h3
      · rename_i xs hx
        obtain ⟨v1, hv1, gv1⟩ := g3.a.2 i _ hx
        simp only [G] at gv1
        obtain ⟨ys, rfl, gys⟩ := gv1
        rw [hv1]
        simp only
        split at h3
        · rename_i j hj
          rw [Gs_len gys, hj]
          simp only
          split at h3
          · rename_i zs hz
            obtain ⟨w, hw, gw⟩ := Gs_get gys hz
            simp only [G] at gw
            obtain ⟨ws, rfl, gws⟩ := gw
            rw [hw]
            simp only
            split at h3
            · rename_i l hl
              rw [Gs_len gws, hl]
              simp only
              have g4 : GS σ3 (withA S3 (S3.A.set i (some (.lst true (xs.set j (.lst true (zs.set l t))))))) (ρ1.set i (some (.lst true (ys.set j (.lst true (ws.set l v)))))) := ⟨⟨g3.b, g3.f⟩, set_AR g3.a (getS_lt hv1) (by
                simp only [G]
                exact ⟨_, rfl, Gs_set gys (by simp only [G]; exact ⟨_, rfl, Gs_set gws gt3⟩)⟩)⟩
              have r := HdF.next h3 g4
              exact r
            · cases h3
          · cases h3
        · cases h3
      · cases h3
    · cases h3
  | .ret e, lk, S, L, σ, ρ, h, g => by
    simp only [aS] at h
    refine HdF.bindX (f := fun v ρ => .ret v ρ) h (by simp only [evS]; cases evX cf e ρ <;> rfl) (fun L hL => aX_ok hcs hL g) fun t S1 σ1 v ρ1 L1 h1 e1 gt g1 => ?_
    cases h1
    exact ⟨_, List.mem_singleton.mpr rfl, σ1, Ext.refl _ _, v, ρ1, rfl, gt, g1⟩
  | .raise c es, lk, S, L, σ, ρ, h, g => by simp [aS] at h
  | .stk, lk, S, L, σ, ρ, h, g => by simp [aS] at h
  | .iff c a b, lk, S, L, σ, ρ, h, g => by
    simp only [aS] at h
    refine HdF.bindX (f := fun v ρ1 => match truV v with
      | some true => evSs cf a lk ρ1
      | some false => evSs cf b lk ρ1
      | none => .bad) h (by
        simp only [evS, evXt]
        cases evX cf c ρ with
        | ok v ρ1 =>
          simp only [Res.bind_ok]
          cases truV v with
          | none => rfl
          | some t => cases t <;> rfl
        | exn c fs ρ1 => rfl
        | bad => rfl) (fun L hL => aX_ok hcs hL g) fun t S1 σ1 v ρ1 L1 h1 e1 gt g1 => ?_
    obtain ⟨L2, hL2⟩ := bindX_some h1
    obtain ⟨b', eb, z⟩ := truA_ok hL2 gt g1
    refine HdF.of_bindX h1 (fun L hL => by rw [hL2] at hL; cases hL; exact z) fun b2 S2 σ2 L2 h2 e2 gb g2 => ?_
    subst gb
    rw [eb]
    cases b2 with
    | true => simp only [if_true] at h2; exact aSs_ok a h2 g2
    | false => simp only [Bool.false_eq_true, if_false] at h2; exact aSs_ok b h2 g2
  | .whl c b, lk, S, L, σ, ρ, h, g => by
    simp only [aS] at h
    simp only [evS]
    refine aWh_ok (condA := fun S => bindM (aX cfg ac c S) fun t S1 => truA t S1) (bodyA := fun S => aSs cfg ac b lk S) (fun {S L σ ρ} h g => ?_) (fun h g => aSs_ok b h g) h g
    unfold evXt
    refine Hd.bind h (fun L hL => aX_ok hcs hL g) fun t S1 σ1 v ρ1 L1 h1 e1 gt g1 => ?_
    obtain ⟨b', eb, z⟩ := truA_ok h1 gt g1
    rw [eb]
    exact z
  | .for_ fz tg it b, lk, S, L, σ, ρ, h, g => by
    simp only [aS] at h
    have g0 : GS σ (withA S (mskA it.vr it.ks S.A)) (mskS it.vr it.ks ρ) := ⟨⟨g.b, g.f⟩, msk_AR g.a _ _⟩
    obtain ⟨L0, hL0⟩ := bindX_some h
    obtain ⟨_, xs, ρ1, er⟩ := noX_hd (fun L hL => aItC_ok hcs hL g0) L0 hL0
    have hx : ∀ L, noX (aItC cfg ac it (withA S (mskA it.vr it.ks S.A))) = some L → Hd GI S.n σ (.ok xs ρ1) L := fun L hL => by
      have := (noX_hd (fun L hL => aItC_ok hcs hL g0) L hL).1
      rw [er] at this; exact this
    refine HdF.of_bindX h hx fun its S1 σ1 L1 h1 e1 gi g1 => ?_
    split at h1
    · rename_i hc
      simp only [Bool.and_eq_true] at hc
      have ar' : AR σ1 S.A ρ := AR_ext e1 hc.1.1 g.a
      obtain ⟨ρ0, ρ2, ex, ar2, h0⟩ := xi_ok hcs (fz := fz) ar' g1 hc.1.2 (Nat.eq_of_beq_eq_true hc.2) er
      simp only [evS, ex]
      split at h1
      · split at h1
        · rename_i L2 hL2
          have g2 : GS σ1 (withA S1 (mixA (fun i => it.ks.contains i) 0 S1.A (loopA it.rng fz it.vr S.A))) ρ2 := ⟨⟨g1.b, g1.f⟩, ar2⟩
          have hd := aFor_ok (bdA := aBind ((if it.rng then [] else it.vr) ++ lk) tg) (bodyA := fun S => aSs cfg ac b ((if it.rng then [] else it.vr) ++ lk) S) (bd := bindT ((if it.rng then [] else it.vr) ++ lk) tg) (body := evSs cf b ((if it.rng then [] else it.vr) ++ lk)) (fun h g a => aBind_ok h g a) (fun h g => aSs_ok b h g) hL2 g2 gi
          exact put_ok hcs h1 hd h0
        · cases h1
      · obtain ⟨ns, rfl⟩ := gi
        split at h1
        · rename_i L2 hL2
          have g2 : GS σ1 (withA S1 (wipeA (mixA (fun i => it.ks.contains i) 0 S1.A (loopA it.rng fz it.vr S.A)) (tg.slots ++ asgSs b))) ρ2 := ⟨⟨g1.b, g1.f⟩, wipe_AR' ar2 _⟩
          have hd := aCells_ok (bdA := aBind ((if it.rng then [] else it.vr) ++ lk) tg) (bodyA := fun S => aSs cfg ac b ((if it.rng then [] else it.vr) ++ lk) S) (bd := bindT ((if it.rng then [] else it.vr) ++ lk) tg) (body := evSs cf b ((if it.rng then [] else it.vr) ++ lk)) (fun h g a => aBind_ok h g a) (fun h g => aSs_ok b h g) hL2 (ns := ns) g2
          exact put_ok hcs h1 hd h0
        · cases h1
    · cases h1
  | .brk, lk, S, L, σ, ρ, h, g => by
    simp only [aS] at h
    cases h
    simp only [evS]
    exact ⟨_, List.mem_singleton.mpr rfl, σ, Ext.refl _ _, ρ, rfl, g⟩
  | .pass, lk, S, L, σ, ρ, h, g => by
    simp only [aS] at h
    simp only [evS]
    exact HdF.next h g
theorem aSs_ok : ∀ (s : Stms) {lk : List Nat} {S : St} {L : List (Fo × St)} {σ : Val} {ρ : Env}, aSs cfg ac s lk S = some L → GS σ S ρ → HdF S.n σ (evSs cf s lk ρ) L
  | .nil, lk, S, L, σ, ρ, h, g => by
    simp only [aSs] at h
    simp only [evSs]
    exact HdF.next h g
  | .cons s ss, lk, S, L, σ, ρ, h, g => by
    simp only [aSs] at h
    split at h
    · rename_i L1 hL1
      have h1 := aS_ok s hL1 g
      have e : evSs cf (.cons s ss) lk ρ = seqF (evS cf s lk ρ) (evSs cf ss lk) := by
        simp only [evSs]
        cases evS cf s lk ρ <;> rfl
      rw [e]
      exact HdF.bindF h h1 fun S2 σ2 ρ2 L2 hk e2 g2 => aSs_ok ss hk g2
    · cases h
end
end
end SX
end

section
set_option Elab.async false
set_option linter.all false
set_option maxRecDepth 100000
set_option maxHeartbeats 1000000
namespace SX
open PySem hiding Env
open LC
/-! ### defs -/
def endF (io : Bool) : List (Fo × St) → Option (List (Out SV × St))
  | [] => some []
  | q :: L => (match endF io L with
    | none => none
    | some L' => (match q.1 with
      | .ret t => if !io || penAt q.2.A 0 then some ((.ok t, q.2) :: L') else none
      | .next => if !io || penAt q.2.A 0 then some ((.ok .none, q.2) :: L') else none
      | .exn c fs => if io then none else some ((.exn c fs, q.2) :: L')
      | .brk => none))
def aFn (cfg : Cfg) (ac : Str → List SV → St → M SV) (fn : Fn) (args : List SV) (S : St) : M SV :=
  if Nat.beq args.length fn.params && (isPen args == fn.io) then
    (match aSs cfg ac fn.body (if fn.io then [0] else []) (withA S (args.map some ++ List.replicate (fn.slots - fn.params) none)) with
    | some L => endF fn.io L
    | none => none)
  else none
theorem endF_mem {io : Bool} : ∀ {L : List (Fo × St)} {L' : List (Out SV × St)}, endF io L = some L' → ∀ q ∈ L, (match q.1 with
    | .ret t => (io = true → penAt q.2.A 0 = true) ∧ (.ok t, q.2) ∈ L'
    | .next => (io = true → penAt q.2.A 0 = true) ∧ (.ok .none, q.2) ∈ L'
    | .exn c fs => io = false ∧ (.exn c fs, q.2) ∈ L'
    | .brk => False)
  | [], _, _, q, hq => by cases hq
  | p :: L, L', h, q, hq => by
    simp only [endF] at h
    split at h
    · cases h
    · rename_i L1 hL1
      have rest : q ∈ L → (∀ z ∈ L1, z ∈ L') → (match q.1 with
          | .ret t => (io = true → penAt q.2.A 0 = true) ∧ (.ok t, q.2) ∈ L'
          | .next => (io = true → penAt q.2.A 0 = true) ∧ (.ok .none, q.2) ∈ L'
          | .exn c fs => io = false ∧ (.exn c fs, q.2) ∈ L'
          | .brk => False) := fun hq hs => by
        have := endF_mem hL1 q hq
        cases hq1 : q.1 with
        | ret t => simp only [hq1] at this ⊢; exact ⟨this.1, hs _ this.2⟩
        | next => simp only [hq1] at this ⊢; exact ⟨this.1, hs _ this.2⟩
        | exn c fs => simp only [hq1] at this ⊢; exact ⟨this.1, hs _ this.2⟩
        | brk => simp only [hq1] at this
      rcases List.mem_cons.mp hq with e | e
      · subst e
        split at h
        · rename_i t ht
          split at h
          · rename_i hc
            cases h
            try simp only [ht]
            exact ⟨fun hio => by simpa [hio] using hc, List.mem_cons_self⟩
          · cases h
        · rename_i ht
          split at h
          · rename_i hc
            cases h
            try simp only [ht]
            exact ⟨fun hio => by simpa [hio] using hc, List.mem_cons_self⟩
          · cases h
        · rename_i c fs ht
          split at h
          · cases h
          · rename_i hc
            cases h
            try simp only [ht]
            exact ⟨by simpa using hc, List.mem_cons_self⟩
        · cases h
      · refine rest e fun z hz => ?_
        split at h
        · split at h
          · cases h; exact List.mem_cons_of_mem _ hz
          · cases h
        · split at h
          · cases h; exact List.mem_cons_of_mem _ hz
          · cases h
        · split at h
          · cases h
          · cases h; exact List.mem_cons_of_mem _ hz
        · cases h
theorem args_AR {σ : Val} : ∀ {xs : List SV} {vs : List PV} (n : Nat), Gs σ xs vs → AR σ (xs.map some ++ List.replicate n none) (vs.map some ++ List.replicate n none) := by
  intro xs vs n h
  refine ⟨by simp [Gs_len h], fun i t ht => ?_⟩
  unfold getA at ht
  unfold getS
  by_cases hi : i < xs.length
  · rw [List.getElem?_append_left (by simpa using hi), List.getElem?_map] at ht
    rw [List.getElem?_append_left (by simpa [Gs_len h] using hi), List.getElem?_map]
    cases hx : xs[i]? with
    | none => rw [hx] at ht; cases ht
    | some x =>
      rw [hx] at ht
      simp only [Option.map_some, Option.join_some, Option.some.injEq] at ht
      subst ht
      obtain ⟨v, hv, g⟩ := Gs_get h hx
      exact ⟨v, by rw [hv]; rfl, g⟩
  · rw [List.getElem?_append_right (by simpa using hi)] at ht
    rw [List.getElem?_replicate] at ht
    split at ht <;> cases ht
theorem aFn_ok {cfg : Cfg} {ac : Str → List SV → St → M SV} {cf : CF} (hcs : CS cf ac) {fn : Fn} {args : List SV} {S : St} {L : List (Out SV × St)} {σ : Val} {vs : List PV} (h : aFn cfg ac fn args S = some L) (gb : GB σ S) (ga : Gs σ args vs) : HC S.n σ (isPen args) (runFn cf fn vs) L := by
  unfold aFn at h
  split at h
  · rename_i hc
    simp only [Bool.and_eq_true, beq_iff_eq] at hc
    have hl : vs.length = fn.params := by rw [Gs_len ga]; exact Nat.eq_of_beq_eq_true hc.1
    split at h
    · rename_i L0 hL0
      have g0 : GS σ (withA S (args.map some ++ List.replicate (fn.slots - fn.params) none)) (vs.map some ++ List.replicate (fn.slots - fn.params) none) := ⟨⟨gb.b, gb.f⟩, args_AR _ ga⟩
      obtain ⟨q, hq, σ', e, z⟩ := aSs_ok hcs fn.body hL0 g0
      have hm := endF_mem h q hq
      have hrun : ∀ R, evSs cf fn.body (if fn.io then [0] else []) (vs.map some ++ List.replicate (fn.slots - fn.params) none) = R → runFn cf fn vs = (match R with
          | .ret v ρ => if fn.io then (match getS ρ 0 with
            | some (.lst true ms) => if lfs ms then .ok v (.lst true ms) else .bad
            | _ => .bad) else .ok v .none
          | .next ρ => if fn.io then (match getS ρ 0 with
            | some (.lst true ms) => if lfs ms then .ok .none (.lst true ms) else .bad
            | _ => .bad) else .ok .none .none
          | .exn c fs _ => if fn.io then .bad else .exn c fs
          | _ => .bad) := fun R hR => by
        unfold runFn
        rw [if_pos hl, hR]
        try rfl
      have pen : ∀ ρ, GS σ' q.2 ρ → penAt q.2.A 0 = true → ∃ a b, getS ρ 0 = some (.lst true [.int a, .int b]) ∧ 0 ≤ a := fun ρ g hp => penAt_ok hp g.a
      cases hq1 : q.1 with
      | ret t =>
        simp only [hq1] at z hm
        obtain ⟨v, ρ, er, gv, g⟩ := z
        refine ⟨_, hm.2, σ', e, ⟨g.b, g.f⟩, ?_⟩
        simp only
        rw [hrun _ er, hc.2]
        cases hio : fn.io with
        | false => exact ⟨v, .none, by simp, gv, fun q => by cases q⟩
        | true =>
          obtain ⟨a, b, h0, ha⟩ := pen ρ g (hm.1 hio)
          exact ⟨v, .lst true [.int a, .int b], by simp [h0, lfs, lf], gv, fun _ => by simp only [G]; exact ⟨a, b, rfl, ha⟩⟩
      | next =>
        simp only [hq1] at z hm
        obtain ⟨ρ, er, g⟩ := z
        refine ⟨_, hm.2, σ', e, ⟨g.b, g.f⟩, ?_⟩
        simp only
        rw [hrun _ er, hc.2]
        cases hio : fn.io with
        | false => exact ⟨.none, .none, by simp, by simp only [G], fun q => by cases q⟩
        | true =>
          obtain ⟨a, b, h0, ha⟩ := pen ρ g (hm.1 hio)
          exact ⟨.none, .lst true [.int a, .int b], by simp [h0, lfs, lf], by simp only [G], fun _ => by simp only [G]; exact ⟨a, b, rfl, ha⟩⟩
      | exn c fs =>
        simp only [hq1] at z hm
        obtain ⟨fs', ρ, er, gv, g⟩ := z
        refine ⟨_, hm.2, σ', e, ⟨g.b, g.f⟩, ?_⟩
        simp only
        rw [hrun _ er, hm.1]
        exact ⟨fs', by simp, gv⟩
      | brk => simp only [hq1] at hm
    · cases h
  · cases h
/-- all ends made one thing of no known form -/
def anyAll : List (Out SV × St) → Option (Nat × Bool)
  | [] => some (0, false)
  | q :: L => (match q.1 with
    | .ok t => (match wd2 q.2 t, anyAll L with
      | some a, some b => some (Nat.max a.1 b.1, a.2 || b.2)
      | _, _ => none)
    | .exn _ _ => none)
def wide (S : St) (m : M SV) : M SV := match m with
  | some L => (match anyAll L with
    | some r => some [(.ok (.any r.1 r.2), S)]
    | none => none)
  | none => none
theorem anyAll_ok : ∀ {L : List (Out SV × St)} {r : Nat × Bool}, anyAll L = some r → ∀ q ∈ L, (match q.1 with
    | .ok t => ∀ σ v, GB σ q.2 → G σ t v → ∀ σ', G σ' (.any r.1 r.2) v
    | .exn _ _ => False)
  | [], _, _, q, hq => by cases hq
  | p :: L, r, h, q, hq => by
    simp only [anyAll] at h
    split at h
    · rename_i t ht
      split at h
      · rename_i a b ha hb
        cases h
        have hm : Nat.max a.1 b.1 = max a.1 b.1 := rfl
        rcases List.mem_cons.mp hq with e | e
        · subst e
          simp only [ht]
          intro σ v gb g σ'
          have := wdAll_ok (xs := [t]) (r := (Nat.max a.1 0, a.2 || false)) gb (by simp only [wdAll, ha]) (List.mem_singleton.mpr rfl) g
          simp only [G] at this ⊢
          rcases this with z | z
          · exact .inl (dt_mono (by have : Nat.max a.1 0 = max a.1 0 := rfl; omega) z)
          · exact .inr ⟨by simpa using Or.inl (by simpa using z.1), z.2⟩
        · have := anyAll_ok hb q e
          cases hq1 : q.1 with
          | ok t' =>
            simp only [hq1] at this ⊢
            intro σ v gb g σ'
            have := this σ v gb g σ'
            simp only [G] at this ⊢
            rcases this with z | z
            · exact .inl (dt_mono (by omega) z)
            · exact .inr ⟨by simp [z.1], z.2⟩
          | exn c fs => simp only [hq1] at this
      · cases h
    · cases h
theorem wide_ok {S : St} {m : M SV} {L : List (Out SV × St)} {σ : Val} {pn : Bool} {C : CRs} (h : wide S m = some L) (gb : GB σ S) (h1 : ∀ L, m = some L → HC S.n σ pn C L) : HC S.n σ pn C L := by
  unfold wide at h
  split at h
  · rename_i L0
    split at h
    · rename_i r hr
      cases h
      obtain ⟨q, hq, σ', e, gb', z⟩ := h1 L0 rfl
      have := anyAll_ok hr q hq
      cases hq1 : q.1 with
      | ok t =>
        simp only [hq1] at this z
        obtain ⟨v, io, er, gv, gp⟩ := z
        refine ⟨_, List.mem_singleton.mpr rfl, σ, Ext.refl _ _, gb, v, io, er, this σ' v gb' gv σ, fun hp => ?_⟩
        have := gp hp
        simp only [G] at this ⊢
        exact this
      | exn c fs => simp only [hq1] at this
    · cases h
  · cases h
structure Plan where
  cfg : Str → Cfg
  wd : Str → Bool
  sm : Nat → Str → List SV → St → M SV
def aCall (T : Str → Option Fn) (P : Plan) : Nat → Str → List SV → St → M SV
  | 0, _, _, _ => none
  | k + 1, f, args, S => (match P.sm (k + 1) f args S with
    | some L => some L
    | none => (match T f with
      | some fn => if P.wd f then wide S (aFn (P.cfg f) (aCall T P k) fn args S) else aFn (P.cfg f) (aCall T P k) fn args S
      | none => none))
def SmOk (T : Str → Option Fn) (P : Plan) : Prop := ∀ k f args S L σ vs, P.sm k f args S = some L → GB σ S → Gs σ args vs → HC S.n σ (isPen args) (callN T k f vs) L
theorem aCall_ok {T : Str → Option Fn} {P : Plan} (hsm : SmOk T P) : ∀ k, CS (callN T k) (aCall T P k)
  | 0 => fun f args S L σ vs h gb ga => by simp [aCall] at h
  | k + 1 => fun f args S L σ vs h gb ga => by
    simp only [aCall] at h
    split at h
    · rename_i L0 hL0
      cases h
      exact hsm _ _ _ _ _ _ _ hL0 gb ga
    · split at h
      · rename_i fn hfn
        have e : callN T (k + 1) f vs = runFn (callN T k) fn vs := by
          rw [callN]
          simp only [hfn]
        rw [e]
        split at h
        · exact wide_ok h gb fun L hL => aFn_ok (aCall_ok hsm k) hL gb ga
        · exact aFn_ok (aCall_ok hsm k) h gb ga
      · cases h
/-- every end is True -/
def allTrue : M SV → Bool
  | some L => L.all fun q => (match q.1 with
    | .ok (.bool true) => true
    | _ => false)
  | none => false
def S0 : St := ⟨0, [], [], []⟩
theorem law_true {T : Str → Option Fn} {P : Plan} (hsm : SmOk T P) {k : Nat} {fn : Fn} (hT : T "law" = some fn) (hio : fn.io = false) (h : allTrue (aCall T P k "law" [.scr] S0) = true) (ns : List Int) (hn : ns.length ≤ 63) : callN T k "law" [.scr ns] = .ok (.bool true) .none := by
  unfold allTrue at h
  split at h
  · rename_i L hL
    have gb : GB (fun _ => 0) S0 := ⟨trivial, fun c hc => by cases hc⟩
    obtain ⟨q, hq, σ', e, gb', z⟩ := aCall_ok hsm k _ _ _ _ (fun _ => 0) [.scr ns] hL gb (Gs_cons.mpr ⟨by simp only [G]; exact ⟨ns, rfl, hn⟩, Gs_nil⟩)
    have hq2 := List.all_eq_true.mp h q hq
    split at hq2
    · rename_i hq1
      simp only [hq1] at z
      obtain ⟨v, io, er, gv, _⟩ := z
      simp only [G] at gv
      subst gv
      cases k with
      | zero => simp [callN] at er
      | succ k =>
        have e1 : callN T (k + 1) "law" [.scr ns] = runFn (callN T k) fn [.scr ns] := by
          rw [callN]
          simp only [hT]
        rw [e1] at er ⊢
        unfold runFn at er ⊢
        rw [hio] at er ⊢
        by_cases hp : [PV.scr ns].length = fn.params
        · rw [if_pos hp] at er ⊢
          simp only [Bool.false_eq_true, if_false] at er ⊢
          split at er
          · cases er; rfl
          · cases er
          · cases er
          · cases er
        · rw [if_neg hp] at er; cases er
    · cases hq2
  · cases h
end SX
end

section
set_option Elab.async false
set_option linter.all false
set_option maxRecDepth 100000
set_option maxHeartbeats 1000000
namespace SX
open PySem hiding Env
open LC
/-! ### pens -/
def ir_cell : Fn := ⟨2, 2, false, (.cons (.iff (.cmp .lt (.var 1) (.blt .len (.cons (.var 0) .nil))) (.cons (.ret (.sub (.var 0) (.var 1))) .nil) .nil) (.cons (.ret (.cint 0)) .nil))⟩
def ir_pen : Fn := ⟨1, 2, false, (.cons (.set 1 (.blt .max (.cons (.var 0) (.cons (.bin .sub (.cint 0) (.var 0)) .nil)))) (.cons (.ret (.lst (.cons (.var 1) (.cons (.blt .int (.cons (.cmp .ge (.var 1) (.bin .pow (.cint 10) (.cint 18))) .nil)) .nil)))) .nil))⟩
def ir_draw : Fn := ⟨2, 5, true, (.cons (.iff (.cmp .eq (.sub (.var 0) (.cint 1)) (.cint 1)) (.cons (.asg (.tp [(.nm 3), (.nm 4)]) (.blt .divmod (.cons (.sub (.var 0) (.cint 0)) (.cons (.var 1) .nil)))) (.cons (.setAt 0 (.cint 0) (.var 3)) (.cons (.ret (.mv 4)) .nil))) .nil) (.cons (.set 2 (.bin .mod (.bin .mul (.bin .add (.bin .mod (.sub (.var 0) (.cint 0)) (.cint 2147483647)) (.cint 40503)) (.cint 69621)) (.cint 2147483629))) (.cons (.set 2 (.bin .mod (.bin .add (.bin .mul (.var 2) (.var 2)) (.cint 7817)) (.cint 2147483587))) (.cons (.setAt 0 (.cint 0) (.bin .mod (.bin .add (.bin .mul (.var 2) (.cint 48271)) (.cint 11)) (.cint 2147483629))) (.cons (.ret (.bin .mod (.bin .fdiv (.sub (.var 0) (.cint 0)) (.cint 32)) (.var 1))) .nil)))))⟩
theorem cell_ok {T : Str → Option Fn} (h : T "_law_cell" = some ir_cell) (n : Nat) {ns : List Int} (hn : ns.length ≤ 63) {k : Int} (hk : 0 ≤ k) : ∃ i, callN T (n + 1) "_law_cell" [.scr ns, .int k] = .ok (.int i) .none := by
  have fr : frzS [some (.scr ns), some (.int k)] = [some (.scr ns), some (.int k)] := rfl
  by_cases hlt : k < (ns.length : Int)
  · have hix : ixN ns.length k = some k.toNat := by unfold ixN; rw [if_pos hk, if_pos hlt]
    have hat : ∃ i, ns[k.toNat]? = some i := ⟨ns[k.toNat]'(by omega), List.getElem?_eq_getElem (by omega)⟩
    obtain ⟨i, hi⟩ := hat
    refine ⟨i, call_v [some (.scr ns), some (.int k)] h rfl rfl rfl (s_ret (s_ifT (v := .bool true) (x_vp rfl ?_ rfl) rfl (s_ret (s_retX (x_vp rfl (v := .int i) ?_ rfl)))))⟩
    · rw [fr]; simp [vE, vEs, getS, cl, bltV, lenV, cmpV, cmpI, hlt]
    · rw [fr]; simp [vE, vEs, getS, cl, subV, atI, hix, hi]
  · refine ⟨0, call_v [some (.scr ns), some (.int k)] h rfl rfl rfl (s_next (s_ifF (v := .bool false) (x_vp rfl ?_ rfl) rfl rfl) (s_ret (s_retX (x_vp rfl (v := .int 0) rfl rfl))))⟩
    rw [fr]; simp [vE, vEs, getS, cl, bltV, lenV, cmpV, cmpI, hlt]
theorem pen_ok {T : Str → Option Fn} (h : T "_law_pen" = some ir_pen) (n : Nat) (c : Int) : ∃ a b, callN T (n + 1) "_law_pen" [.int c] = .ok (.lst true [.int a, .int b]) .none ∧ 0 ≤ a := by
  refine ⟨if 0 - c > c then 0 - c else c, if (10 : Int) ^ 18 ≤ (if 0 - c > c then 0 - c else c) then 1 else 0, ?_, by split <;> omega⟩
  refine call_v [some (.int c), none] h rfl rfl rfl (s_next (s_set (v := .int (if 0 - c > c then 0 - c else c)) (ρ1 := [some (.int c), none]) (x_vp rfl ?_ rfl) rfl) (s_ret (s_retX (x_vp rfl ?_ rfl))))
  · simp [vE, vEs, getS, frzS, fz, bltV, maxV, binV, intV]
  · generalize (if 0 - c > c then 0 - c else c) = a
    simp [vE, vEs, getS, frzS, fz, bltV, binV, intV, cmpV, cmpI, SL]
    by_cases h : 1000000000000000000 ≤ a <;> simp [h, intOfV, b2i]
theorem mulOk_small {i j : Int} (hi : i.natAbs ≤ 18446744073709551616) (hj : j.natAbs ≤ 18446744073709551616) : mulOk i j = true := by
  have h : (18446744073709551616 : Nat) < BIG := by
    unfold BIG
    exact Nat.lt_of_le_of_lt (by decide : (18446744073709551616 : Nat) ≤ 2 ^ 64) (Nat.pow_lt_pow_right (by decide) (by decide))
  unfold mulOk
  simp only [Bool.and_eq_true, decide_eq_true_eq]
  exact ⟨by omega, by omega⟩
theorem fmod_rng (i : Int) {j : Int} (h : 0 < j) : 0 ≤ i.fmod j ∧ i.fmod j < j := by
  rw [Int.fmod_eq_emod_of_nonneg _ (by omega)]
  exact ⟨Int.emod_nonneg _ (by omega), Int.emod_lt_of_pos _ h⟩
theorem draw_ok {T : Str → Option Fn} (h : T "_law_draw" = some ir_draw) (n : Nat) {a b m : Int} (ha : 0 ≤ a) (hm : 0 < m) (hm2 : m < 1073741824) : ∃ r a', callN T (n + 1) "_law_draw" [.lst true [.int a, .int b], .int m] = .ok (.int r) (.lst true [.int a', .int b]) ∧ 0 ≤ r ∧ r < m ∧ 0 ≤ a' := by
  have run : ∀ r a', (∃ ρ, evSs (callN T n) ir_draw.body [0] [some (.lst true [.int a, .int b]), some (.int m), none, none, none] = .ret (.int r) ρ ∧ getS ρ 0 = some (.lst true [.int a', .int b])) → callN T (n + 1) "_law_draw" [.lst true [.int a, .int b], .int m] = .ok (.int r) (.lst true [.int a', .int b]) := fun r a' ⟨ρ, e, e0⟩ => by
    rw [callN]
    simp only [h]
    unfold runFn
    rw [if_pos (show [PV.lst true [.int a, .int b], .int m].length = ir_draw.params from rfl)]
    have hio : ir_draw.io = true := rfl
    have : [PV.lst true [.int a, .int b], .int m].map some ++ List.replicate (ir_draw.slots - ir_draw.params) none = [some (.lst true [.int a, .int b]), some (.int m), none, none, none] := rfl
    rw [this]
    simp only [hio, if_true, e, e0, lfs, lf, Bool.and_self]
  by_cases hb : b = 1
  · refine ⟨a % m, a / m, run _ _ ⟨[some (.lst true [.int (a / m), .int b]), some (.int m), none, some (.int (a / m)), some (.int (a % m))], ?_, rfl⟩, Int.emod_nonneg _ (by omega), Int.emod_lt_of_pos _ hm, Int.ediv_nonneg ha (by omega)⟩
    have x1 : evX (callN T n) (.cmp .eq (.sub (.var 0) (.cint 1)) (.cint 1)) [some (.lst true [.int a, .int b]), some (.int m), none, none, none] = .ok (.bool true) [some (.lst true [.int a, .int b]), some (.int m), none, none, none] := x_vp rfl (by
      simp [vE, getS, frzS, fz, fzs, cl, cls, subV, atI, ixN, cmpV, hb]) rfl
    have x2 : evX (callN T n) (.blt .divmod (.cons (.sub (.var 0) (.cint 0)) (.cons (.var 1) .nil))) [some (.lst true [.int a, .int b]), some (.int m), none, none, none] = .ok (.tup [.int (a / m), .int (a % m)]) [some (.lst true [.int a, .int b]), some (.int m), none, none, none] := x_vp rfl (by
      simp [vE, vEs, getS, frzS, fz, fzs, cl, cls, subV, atI, ixN, bltV, divmodV, hm, hm2]) rfl
    refine s_ret (s_ifT x1 rfl (s_next (ρ1 := [some (.lst true [.int a, .int b]), some (.int m), none, some (.int (a / m)), some (.int (a % m))]) ?_ (s_next (ρ1 := [some (.lst true [.int (a / m), .int b]), some (.int m), none, some (.int (a / m)), some (.int (a % m))]) ?_ (s_ret ?_))))
    · simp only [evS, x2]
      rfl
    · have x3 : evX (callN T n) (.var 3) [some (.lst true [.int a, .int b]), some (.int m), none, some (.int (a / m)), some (.int (a % m))] = .ok (.int (a / m)) [some (.lst true [.int a, .int b]), some (.int m), none, some (.int (a / m)), some (.int (a % m))] := x_vp rfl rfl rfl
      have x4 : evX (callN T n) (.cint 0) [some (.lst true [.int a, .int b]), some (.int m), none, some (.int (a / m)), some (.int (a % m))] = .ok (.int 0) [some (.lst true [.int a, .int b]), some (.int m), none, some (.int (a / m)), some (.int (a % m))] := x_vp rfl rfl rfl
      simp only [evS, x3, x4]
      rfl
    · exact s_retX (evX_mv rfl)
  · have m1 := fmod_rng a (j := 2147483647) (by decide)
    generalize ht1 : ((a.fmod 2147483647 + 40503) * 69621).fmod 2147483629 = t1
    have r1 := fmod_rng ((a.fmod 2147483647 + 40503) * 69621) (j := 2147483629) (by decide)
    rw [ht1] at r1
    generalize ht2 : (t1 * t1 + 7817).fmod 2147483587 = t2
    have r2 := fmod_rng (t1 * t1 + 7817) (j := 2147483587) (by decide)
    rw [ht2] at r2
    generalize ht3 : (t2 * 48271 + 11).fmod 2147483629 = t3
    have r3 := fmod_rng (t2 * 48271 + 11) (j := 2147483629) (by decide)
    rw [ht3] at r3
    have k1 : mulOk (a.fmod 2147483647 + 40503) 69621 = true := mulOk_small (by omega) (by decide)
    have k2 : mulOk t1 t1 = true := mulOk_small (by omega) (by omega)
    have k3 : mulOk t2 48271 = true := mulOk_small (by omega) (by decide)
    have r4 := fmod_rng (t3.fdiv 32) hm
    refine ⟨(t3.fdiv 32).fmod m, t3, run _ _ ⟨[some (.lst true [.int t3, .int b]), some (.int m), some (.int t2), none, none], ?_, rfl⟩, r4.1, r4.2, r3.1⟩
    have x1 : evX (callN T n) (.cmp .eq (.sub (.var 0) (.cint 1)) (.cint 1)) [some (.lst true [.int a, .int b]), some (.int m), none, none, none] = .ok (.bool false) [some (.lst true [.int a, .int b]), some (.int m), none, none, none] := x_vp rfl (by
      simp [vE, getS, frzS, fz, fzs, cl, cls, subV, atI, ixN, cmpV, hb]) rfl
    refine s_next (s_ifF x1 rfl rfl) (s_next (s_set (v := .int t1) (x_vp rfl ?_ rfl) rfl) (s_next (s_set (v := .int t2) (x_vp rfl ?_ rfl) rfl) (s_next (ρ1 := [some (.lst true [.int t3, .int b]), some (.int m), some (.int t2), none, none]) ?_ (s_ret (s_retX (x_vp rfl ?_ rfl))))))
    · simp [vE, getS, frzS, fz, fzs, cl, cls, subV, atI, ixN, binV, intV, addV, mulV, k1, ht1]
    · simp [vE, getS, frzS, fz, fzs, cl, cls, subV, atI, ixN, binV, intV, addV, mulV, k2, ht2]
    · have x3 : evX (callN T n) (.bin .mod (.bin .add (.bin .mul (.var 2) (.cint 48271)) (.cint 11)) (.cint 2147483629)) [some (.lst true [.int a, .int b]), some (.int m), some (.int t2), none, none] = .ok (.int t3) [some (.lst true [.int a, .int b]), some (.int m), some (.int t2), none, none] := x_vp rfl (by
        simp [vE, getS, frzS, fz, fzs, cl, cls, subV, atI, ixN, binV, intV, addV, mulV, k3, ht3]) rfl
      have x4 : evX (callN T n) (.cint 0) [some (.lst true [.int a, .int b]), some (.int m), some (.int t2), none, none] = .ok (.int 0) [some (.lst true [.int a, .int b]), some (.int m), some (.int t2), none, none] := x_vp rfl rfl rfl
      show evS (callN T n) _ _ [some (.lst true [.int a, .int b]), some (.int m), some (.int t2), none, none] = _
      simp only [evS, x3, x4]
      rfl
    · have hd : divOk 32 = true := by decide
      have hm0 : m ≠ 0 := by omega
      simp [vE, getS, frzS, fz, fzs, cl, cls, subV, atI, ixN, binV, intV, hd, hm0]
/-- the same text -/
def sEq (a b : Str) : Bool := leq a.cps.toList b.cps.toList
theorem sEq_eq {a b : Str} (h : sEq a b = true) : a = b := by
  obtain ⟨⟨x⟩⟩ := a
  obtain ⟨⟨y⟩⟩ := b
  unfold sEq at h
  have := leq_eq _ _ h
  simp only at this
  rw [this]
theorem leq_self : ∀ m : List Nat, leq m m = true
  | [] => rfl
  | x :: m => by simp only [leq, leq_self m, Bool.and_true]; exact Nat.beq_refl x
theorem sEq_iff (a b : Str) : sEq a b = decide (a = b) := by
  rw [Bool.eq_iff_iff]
  simp only [decide_eq_true_eq]
  exact ⟨sEq_eq, fun h => by subst h; exact leq_self _⟩
def n_draw : Str := ⟨#[95, 108, 97, 119, 95, 100, 114, 97, 119]⟩
def n_pen : Str := ⟨#[95, 108, 97, 119, 95, 112, 101, 110]⟩
def n_cell : Str := ⟨#[95, 108, 97, 119, 95, 99, 101, 108, 108]⟩
theorem n_draw_eq : n_draw = ("_law_draw" : Str) := by decide +kernel
theorem n_pen_eq : n_pen = ("_law_pen" : Str) := by decide +kernel
theorem n_cell_eq : n_cell = ("_law_cell" : Str) := by decide +kernel
/-- what the three defs do -/
def smPen (k : Nat) (f : Str) (args : List SV) (S : St) : M SV := match k with
  | 0 => none
  | k + 1 => if sEq f n_draw then (match args with
      | [.pen, .int p] => (match pk (pred S.B p) with
        | some m => if 0 < m ∧ m < 1073741824 then newI' (m - 1) S else none
        | none => none)
      | _ => none)
    else if sEq f n_pen then (match args with
      | [.cell] => some [(.ok .pen, S)]
      | _ => none)
    else if sEq f n_cell then (match args with
      | [.scr, .int p] => (match pk (pred S.B p) with
        | some m => if 0 ≤ m then some [(.ok .cell, S)] else none
        | none => none)
      | _ => none)
    else none
where newI' (hi : Int) (S : St) : M SV := match fresh 0 hi (withA S []) with
  | some (n, S') => ret (.int (pvar n)) S'
  | none => none
theorem smPen_ok {T : Str → Option Fn} (h1 : T "_law_draw" = some ir_draw) (h2 : T "_law_pen" = some ir_pen) (h3 : T "_law_cell" = some ir_cell) {k : Nat} {f : Str} {args : List SV} {S : St} {L : List (Out SV × St)} {σ : Val} {vs : List PV} (h : smPen k f args S = some L) (gb : GB σ S) (ga : Gs σ args vs) : HC S.n σ (isPen args) (callN T k f vs) L := by
  unfold smPen at h
  split at h
  · cases h
  · rename_i k
    split at h
    · rename_i hf
      have hf : f = ("_law_draw" : Str) := by rw [← n_draw_eq]; exact sEq_eq hf
      subst hf
      split at h
      · rename_i p
        simp only [Gs, G] at ga
        obtain ⟨_, _, rfl, ⟨a, b, rfl, ha⟩, _, _, rfl, rfl, rfl⟩ := ga
        split at h
        · rename_i m hm
          have em := pk_ev (σ := σ) hm
          rw [pred_ev gb.b] at em
          split at h
          · rename_i hc
            rw [em]
            obtain ⟨r, a', e, r1, r2, r3⟩ := draw_ok h1 k (b := b) ha hc.1 hc.2
            unfold smPen.newI' at h
            split at h
            · rename_i n S' hf
              obtain ⟨σ', ex, gb', hx, _, _⟩ := fresh_GB (S := withA S []) hf (x := r) r1 (by omega) ⟨gb.b, gb.f⟩
              cases h
              refine ⟨_, List.mem_singleton.mpr rfl, σ', ex, gb', .int r, _, e, by simp only [G]; rw [pvar_ev, hx], fun _ => by simp only [G]; exact ⟨a', b, rfl, r3⟩⟩
            · cases h
          · cases h
        · cases h
      · cases h
    · split at h
      · rename_i hf
        have hf : f = ("_law_pen" : Str) := by rw [← n_pen_eq]; exact sEq_eq hf
        subst hf
        split at h
        · simp only [Gs, G] at ga
          obtain ⟨_, _, rfl, ⟨c, rfl⟩, rfl⟩ := ga
          obtain ⟨a, b, e, ha⟩ := pen_ok h2 k c
          cases h
          exact ⟨_, List.mem_singleton.mpr rfl, σ, Ext.refl _ _, gb, _, _, e, by simp only [G]; exact ⟨a, b, rfl, ha⟩, fun q => by cases q⟩
        · cases h
      · split at h
        · rename_i hf
          have hf : f = ("_law_cell" : Str) := by rw [← n_cell_eq]; exact sEq_eq hf
          subst hf
          split at h
          · simp only [Gs, G] at ga
            obtain ⟨_, _, rfl, ⟨ns, rfl, hn⟩, _, _, rfl, rfl, rfl⟩ := ga
            split at h
            · rename_i m hm
              have em := pk_ev (σ := σ) hm
              rw [pred_ev gb.b] at em
              split at h
              · rename_i hc
                rw [em]
                obtain ⟨i, e⟩ := cell_ok h3 k hn hc
                cases h
                exact ⟨_, List.mem_singleton.mpr rfl, σ, Ext.refl _ _, gb, _, _, e, by simp only [G]; exact ⟨i, rfl⟩, fun q => by cases q⟩
              · cases h
            · cases h
          · cases h
        · cases h
end SX
end

section
set_option Elab.async false
set_option linter.all false
set_option maxRecDepth 100000
set_option maxHeartbeats 1000000
namespace SX
open PySem hiding Env
open LC
/-! ### contracts: what a def gives for arguments of a kind -/
inductive Pt where
  | none
  | bool
  | tru (b : Bool)
  | int (lo hi : Int)
  | str (s : Str)
  | tup (ps : List Pt)
  | lst (ps : List Pt)
  | any (d : Nat) (dc : Bool)
  | cell
  | pen
  | ntp (d : Nat) (dc : Bool)
  | nin (d : Nat)
  | tpl (d : Nat) (lo hi : Int)
mutual
def PtOk : Pt → PV → Prop
  | .none, v => v = .none
  | .bool, v => ∃ b, v = .bool b
  | .tru b, v => v = .bool b
  | .int lo hi, v => ∃ i, v = .int i ∧ lo ≤ i ∧ i ≤ hi
  | .str s, v => v = .str s
  | .tup ps, v => ∃ ys, v = .tup ys ∧ PtOks ps ys
  | .lst ps, v => ∃ ys, v = .lst false ys ∧ PtOks ps ys
  | .any d dc, v => dt d v = true ∨ (dc = true ∧ isDic v = true)
  | .cell, v => ∃ i, v = .int i
  | .pen, v => ∃ a b, v = .lst true [.int a, .int b] ∧ 0 ≤ a
  | .ntp d dc, v => (dt d v = true ∨ (dc = true ∧ isDic v = true)) ∧ isTup v = false
  | .nin d, v => dt d v = true ∧ isNum v = false
  | .tpl d lo hi, v => dt d v = true ∧ ∃ ys, v = .tup ys ∧ lo ≤ (ys.length : Int) ∧ (ys.length : Int) ≤ hi
def PtOks : List Pt → List PV → Prop
  | [], ys => ys = []
  | p :: ps, ys => ∃ y zs, ys = y :: zs ∧ PtOk p y ∧ PtOks ps zs
end
mutual
/-- is the value of the kind -/
def mat (S : St) : Pt → SV → Bool
  | .none, t => (match t with | .none => true | _ => false)
  | .bool, t => (match t with | .bool _ => true | .tf => true | _ => false)
  | .tru b, t => (match t with | .bool c => b == c | _ => false)
  | .int lo hi, t => (match t with
    | .int p => (match prng S.B (pred S.B p) with
      | some r => decide (lo ≤ r.1) && decide (r.2 ≤ hi)
      | none => false)
    | _ => false)
  | .str s, t => (match t with | .str z => decide (s = z) | _ => false)
  | .tup ps, t => (match t with | .tup xs => mats S ps xs | _ => false)
  | .lst ps, t => (match t with | .lst u xs => !u && mats S ps xs | _ => false)
  | .any d dc, t => (match wd2 S t with
    | some r => Nat.ble r.1 d && (!r.2 || dc)
    | none => false)
  | .cell, t => (match t with | .cell => true | .int _ => true | _ => false)
  | .pen, t => (match t with | .pen => true | _ => false)
  | .ntp _ _, t => false
  | .nin _, t => false
  | .tpl _ _ _, t => false
def mats (S : St) : List Pt → List SV → Bool
  | [], xs => (match xs with | [] => true | _ :: _ => false)
  | p :: ps, xs => (match xs with | [] => false | x :: xs => mat S p x && mats S ps xs)
end
mutual
theorem mat_ok {σ : Val} {S : St} (gb : GB σ S) : ∀ {p : Pt} {t : SV} {v : PV}, mat S p t = true → G σ t v → PtOk p v
  | .none, t, v, h, g => by cases t <;> simp_all [mat, G, PtOk]
  | .bool, t, v, h, g => by
    cases t with
    | bool b => simp only [G] at g; subst g; simp only [PtOk]; exact ⟨b, rfl⟩
    | tf => simp only [G] at g; simp only [PtOk]; exact g
    | _ => simp [mat] at h
  | .tru b, t, v, h, g => by cases t <;> simp_all [mat, G, PtOk]
  | .int lo hi, t, v, h, g => by
    cases t with
    | int p =>
      simp only [mat] at h
      simp only [G] at g; subst g
      split at h
      · rename_i r hr
        have := prng_ev gb.b hr
        rw [pred_ev gb.b] at this
        simp only [Bool.and_eq_true, decide_eq_true_eq] at h
        simp only [PtOk]
        exact ⟨_, rfl, by omega, by omega⟩
      · cases h
    | _ => simp [mat] at h
  | .str s, t, v, h, g => by cases t <;> simp_all [mat, G, PtOk]
  | .tup ps, t, v, h, g => by
    cases t with
    | tup xs =>
      simp only [mat] at h
      simp only [G] at g
      obtain ⟨ys, rfl, g⟩ := g
      simp only [PtOk]
      exact ⟨ys, rfl, mats_ok gb h g⟩
    | _ => simp [mat] at h
  | .lst ps, t, v, h, g => by
    cases t with
    | lst u xs =>
      simp only [mat, Bool.and_eq_true, Bool.not_eq_true'] at h
      simp only [G] at g
      obtain ⟨ys, rfl, g⟩ := g
      simp only [PtOk]
      exact ⟨ys, by rw [h.1], mats_ok gb h.2 g⟩
    | _ => simp [mat] at h
  | .any d dc, t, v, h, g => by
    simp only [mat] at h
    split at h
    · rename_i r hr
      simp only [Bool.and_eq_true] at h
      have hd := Nat.le_of_ble_eq_true h.1
      have := wdAll_ok (xs := [t]) (r := (Nat.max r.1 0, r.2 || false)) gb (by simp only [wdAll, hr]) (List.mem_singleton.mpr rfl) g
      simp only [G] at this
      simp only [PtOk]
      rcases this with z | z
      · exact .inl (dt_mono (by have : Nat.max r.1 0 = max r.1 0 := rfl; omega) z)
      · refine .inr ⟨?_, z.2⟩
        have z1 : r.2 = true := by simpa using z.1
        simpa [z1] using h.2
    · cases h
  | .cell, t, v, h, g => by
    cases t with
    | cell => simp only [G] at g; simp only [PtOk]; exact g
    | int p => simp only [G] at g; simp only [PtOk]; exact ⟨_, g⟩
    | _ => simp [mat] at h
  | .pen, t, v, h, g => by
    cases t with
    | pen => simp only [G] at g; simp only [PtOk]; exact g
    | _ => simp [mat] at h
  | .ntp _ _, t, v, h, g => by simp [mat] at h
  | .nin _, t, v, h, g => by simp [mat] at h
  | .tpl _ _ _, t, v, h, g => by simp [mat] at h
theorem mats_ok {σ : Val} {S : St} (gb : GB σ S) : ∀ {p : List Pt} {t : List SV} {v : List PV}, mats S p t = true → Gs σ t v → PtOks p v
  | [], t, v, h, g => by
    cases t with
    | nil => simp only [Gs] at g; subst g; simp [PtOks]
    | cons _ _ => simp [mats] at h
  | p :: ps, t, v, h, g => by
    cases t with
    | nil => simp [mats] at h
    | cons x xs =>
      simp only [mats, Bool.and_eq_true] at h
      simp only [Gs] at g
      obtain ⟨y, zs, rfl, g1, g2⟩ := g
      simp only [PtOks]
      exact ⟨y, zs, rfl, mat_ok gb h.1 g1, mats_ok gb h.2 g2⟩
end
mutual
/-- a value of the kind, with new numbers -/
def inst : Pt → St → Option (SV × St)
  | .none, S => some (.none, S)
  | .bool, S => some (.tf, S)
  | .tru b, S => some (.bool b, S)
  | .int lo hi, S => if lo = hi then some (.int (pcon lo), S) else (match fresh lo hi S with
    | some q => some (.int (pvar q.1), q.2)
    | none => none)
  | .str s, S => some (.str s, S)
  | .tup ps, S => (match insts ps S with
    | some q => some (.tup q.1, q.2)
    | none => none)
  | .lst ps, S => (match insts ps S with
    | some q => some (.lst false q.1, q.2)
    | none => none)
  | .any d dc, S => some (.any d dc, S)
  | .cell, S => some (.cell, S)
  | .pen, S => some (.pen, S)
  | .ntp d dc, S => some (.kin (.ntp d dc), S)
  | .nin d, S => some (.kin (.nin d), S)
  | .tpl d lo hi, S => (match fresh lo hi S with
    | some q => some (.kin (.tpl d (pvar q.1)), q.2)
    | none => none)
def insts : List Pt → St → Option (List SV × St)
  | [], S => some ([], S)
  | p :: ps, S => (match inst p S with
    | some q => (match insts ps q.2 with
      | some r => if keep q.2.n r.2.n q.1 then some (q.1 :: r.1, r.2) else none
      | none => none)
    | none => none)
end
mutual
theorem inst_ok : ∀ {p : Pt} {S S' : St} {t : SV} {σ : Val} {v : PV}, inst p S = some (t, S') → GB σ S → PtOk p v → ∃ σ', Ext S.n S'.n σ σ' ∧ GB σ' S' ∧ G σ' t v
  | .none, S, S', t, σ, v, h, gb, g => by simp only [inst, Option.some.injEq, Prod.mk.injEq] at h; obtain ⟨rfl, rfl⟩ := h; exact ⟨σ, Ext.refl _ _, gb, by simp only [PtOk, G] at *; exact g⟩
  | .bool, S, S', t, σ, v, h, gb, g => by simp only [inst, Option.some.injEq, Prod.mk.injEq] at h; obtain ⟨rfl, rfl⟩ := h; exact ⟨σ, Ext.refl _ _, gb, by simp only [PtOk, G] at *; exact g⟩
  | .tru b, S, S', t, σ, v, h, gb, g => by simp only [inst, Option.some.injEq, Prod.mk.injEq] at h; obtain ⟨rfl, rfl⟩ := h; exact ⟨σ, Ext.refl _ _, gb, by simp only [PtOk, G] at *; exact g⟩
  | .int lo hi, S, S', t, σ, v, h, gb, g => by
    simp only [PtOk] at g
    obtain ⟨i, rfl, h1, h2⟩ := g
    simp only [inst] at h
    split at h
    · rename_i he
      simp only [Option.some.injEq, Prod.mk.injEq] at h; obtain ⟨rfl, rfl⟩ := h
      exact ⟨σ, Ext.refl _ _, gb, by simp only [G]; rw [pcon_ev]; congr 1; omega⟩
    · split at h
      · rename_i q hq
        simp only [Option.some.injEq, Prod.mk.injEq] at h; obtain ⟨rfl, rfl⟩ := h
        obtain ⟨σ', e, gb', hx, _⟩ := fresh_GB (n := q.1) (S' := q.2) hq h1 h2 gb
        exact ⟨σ', e, gb', by simp only [G]; rw [pvar_ev, hx]⟩
      · cases h
  | .str s, S, S', t, σ, v, h, gb, g => by simp only [inst, Option.some.injEq, Prod.mk.injEq] at h; obtain ⟨rfl, rfl⟩ := h; exact ⟨σ, Ext.refl _ _, gb, by simp only [PtOk, G] at *; exact g⟩
  | .tup ps, S, S', t, σ, v, h, gb, g => by
    simp only [PtOk] at g
    obtain ⟨ys, rfl, g⟩ := g
    simp only [inst] at h
    split at h
    · rename_i q hq
      simp only [Option.some.injEq, Prod.mk.injEq] at h; obtain ⟨rfl, rfl⟩ := h
      obtain ⟨σ', e, gb', gx⟩ := insts_ok (t := q.1) (S' := q.2) hq gb g
      exact ⟨σ', e, gb', by simp only [G]; exact ⟨ys, rfl, gx⟩⟩
    · cases h
  | .lst ps, S, S', t, σ, v, h, gb, g => by
    simp only [PtOk] at g
    obtain ⟨ys, rfl, g⟩ := g
    simp only [inst] at h
    split at h
    · rename_i q hq
      simp only [Option.some.injEq, Prod.mk.injEq] at h; obtain ⟨rfl, rfl⟩ := h
      obtain ⟨σ', e, gb', gx⟩ := insts_ok (t := q.1) (S' := q.2) hq gb g
      exact ⟨σ', e, gb', by simp only [G]; exact ⟨ys, rfl, gx⟩⟩
    · cases h
  | .any d dc, S, S', t, σ, v, h, gb, g => by simp only [inst, Option.some.injEq, Prod.mk.injEq] at h; obtain ⟨rfl, rfl⟩ := h; exact ⟨σ, Ext.refl _ _, gb, by simp only [PtOk, G] at *; exact g⟩
  | .cell, S, S', t, σ, v, h, gb, g => by simp only [inst, Option.some.injEq, Prod.mk.injEq] at h; obtain ⟨rfl, rfl⟩ := h; exact ⟨σ, Ext.refl _ _, gb, by simp only [PtOk, G] at *; exact g⟩
  | .pen, S, S', t, σ, v, h, gb, g => by simp only [inst, Option.some.injEq, Prod.mk.injEq] at h; obtain ⟨rfl, rfl⟩ := h; exact ⟨σ, Ext.refl _ _, gb, by simp only [PtOk, G] at *; exact g⟩
  | .ntp _ _, S, S', t, σ, v, h, gb, g => by simp only [inst, Option.some.injEq, Prod.mk.injEq] at h; obtain ⟨rfl, rfl⟩ := h; exact ⟨σ, Ext.refl _ _, gb, by simp only [PtOk, G, GK] at *; exact g⟩
  | .nin _, S, S', t, σ, v, h, gb, g => by simp only [inst, Option.some.injEq, Prod.mk.injEq] at h; obtain ⟨rfl, rfl⟩ := h; exact ⟨σ, Ext.refl _ _, gb, by simp only [PtOk, G, GK] at *; exact g⟩
  | .tpl d lo hi, S, S', t, σ, v, h, gb, g => by
    simp only [PtOk] at g
    obtain ⟨g0, ys, rfl, h1, h2⟩ := g
    simp only [inst] at h
    split at h
    · rename_i q hq
      simp only [Option.some.injEq, Prod.mk.injEq] at h; obtain ⟨rfl, rfl⟩ := h
      obtain ⟨σ', e, gb', hx, _⟩ := fresh_GB (n := q.1) (S' := q.2) hq h1 h2 gb
      exact ⟨σ', e, gb', by simp only [G, GK]; exact ⟨g0, ys, rfl, by rw [pvar_ev, hx]⟩⟩
    · cases h
theorem insts_ok : ∀ {p : List Pt} {S S' : St} {t : List SV} {σ : Val} {v : List PV}, insts p S = some (t, S') → GB σ S → PtOks p v → ∃ σ', Ext S.n S'.n σ σ' ∧ GB σ' S' ∧ Gs σ' t v
  | [], S, S', t, σ, v, h, gb, g => by simp only [insts, Option.some.injEq, Prod.mk.injEq] at h; obtain ⟨rfl, rfl⟩ := h; exact ⟨σ, Ext.refl _ _, gb, by simp only [PtOks, Gs] at *; exact g⟩
  | p :: ps, S, S', t, σ, v, h, gb, g => by
    simp only [PtOks] at g
    obtain ⟨y, zs, rfl, g1, g2⟩ := g
    simp only [insts] at h
    split at h
    · rename_i q hq
      split at h
      · rename_i r hr
        split at h
        · rename_i hk
          simp only [Option.some.injEq, Prod.mk.injEq] at h; obtain ⟨rfl, rfl⟩ := h
          obtain ⟨σ1, e1, gb1, gx1⟩ := inst_ok (t := q.1) (S' := q.2) hq gb g1
          obtain ⟨σ2, e2, gb2, gx2⟩ := insts_ok (t := r.1) (S' := r.2) hr gb1 g2
          exact ⟨σ2, e1.trans e2, gb2, Gs_cons.mpr ⟨keep_G e2 hk gx1, gx2⟩⟩
        · cases h
      · cases h
    · cases h
end
structure Con where
  f : Str
  lv : Nat
  ex : Bool
  args : List Pt
  res : Pt
  strict : Bool
def isAnyV : SV → Bool
  | .any _ _ => true
  | _ => false
def Con.lvOk (c : Con) (k : Nat) : Bool := if c.ex then Nat.beq k c.lv else Nat.ble c.lv k
def penArg : List Pt → Bool
  | .pen :: _ => true
  | _ => false
def CTrue (T : Str → Option Fn) (c : Con) : Prop := ∀ k, c.lvOk k = true → ∀ vs, PtOks c.args vs → ∃ v io, callN T k c.f vs = .ok v io ∧ PtOk c.res v ∧ (penArg c.args = true → PtOk .pen io)
def smCon (cs : List Con) (k : Nat) (f : Str) (args : List SV) (S : St) : M SV := match cs with
  | [] => none
  | c :: cs => if sEq c.f f && c.lvOk k && mats S c.args args && (penArg c.args == isPen args) && (!c.strict || args.any isAnyV) then (match inst c.res (withA S []) with
      | some q => some [(.ok q.1, q.2)]
      | none => none) else smCon cs k f args S
theorem smCon_ok {T : Str → Option Fn} : ∀ {cs : List Con}, (∀ c ∈ cs, CTrue T c) → ∀ {k : Nat} {f : Str} {args : List SV} {S : St} {L : List (Out SV × St)} {σ : Val} {vs : List PV}, smCon cs k f args S = some L → GB σ S → Gs σ args vs → HC S.n σ (isPen args) (callN T k f vs) L
  | [], _, k, f, args, S, L, σ, vs, h, gb, ga => by simp [smCon] at h
  | c :: cs, hc, k, f, args, S, L, σ, vs, h, gb, ga => by
    simp only [smCon] at h
    split at h
    · rename_i hm
      simp only [Bool.and_eq_true, beq_iff_eq] at hm
      have hm := hm.1
      have hcf : c.f = f := sEq_eq hm.1.1.1
      obtain ⟨v, io, e, gr, gp⟩ := hc c (by simp) k hm.1.1.2 vs (mats_ok gb hm.1.2 ga)
      split at h
      · rename_i q hq
        cases h
        obtain ⟨σ', ex, gb', gx⟩ := inst_ok (S := withA S []) (t := q.1) (S' := q.2) (σ := σ) hq ⟨gb.b, gb.f⟩ gr
        refine ⟨_, List.mem_singleton.mpr rfl, σ', ex, gb', v, io, by rw [← hcf]; exact e, gx, fun hp => ?_⟩
        have := gp (by rw [hm.2]; exact hp)
        simp only [PtOk] at this
        simp only [G]
        exact this
      · cases h
    · exact smCon_ok (fun c' h' => hc c' (by simp [h'])) h gb ga
/-! ### contracts that tell the number -/
mutual
/-- the value is of the kind, with these numbers in their order -/
def PtAt : Pt → PV → List Int → Prop
  | .int lo hi, v, is => ∃ i, v = .int i ∧ is = [i] ∧ lo ≤ i ∧ i ≤ hi
  | .tup ps, v, is => ∃ ys, v = .tup ys ∧ PtAts ps ys is
  | .lst ps, v, is => ∃ ys, v = .lst false ys ∧ PtAts ps ys is
  | _, _, _ => False
def PtAts : List Pt → List PV → List Int → Prop
  | [], ys, is => ys = [] ∧ is = []
  | p :: ps, ys, is => ∃ y zs js ks, ys = y :: zs ∧ is = js ++ ks ∧ PtAt p y js ∧ PtAts ps zs ks
end
mutual
def instP : Pt → St → Option (SV × St)
  | .int lo hi, S => (match fresh lo hi S with
    | some q => some (.int (pvar q.1), q.2)
    | none => none)
  | .tup ps, S => (match instPs ps S with
    | some q => some (.tup q.1, q.2)
    | none => none)
  | .lst ps, S => (match instPs ps S with
    | some q => some (.lst false q.1, q.2)
    | none => none)
  | _, S => none
def instPs : List Pt → St → Option (List SV × St)
  | [], S => some ([], S)
  | p :: ps, S => (match instP p S with
    | some q => (match instPs ps q.2 with
      | some r => if keep q.2.n r.2.n q.1 then some (q.1 :: r.1, r.2) else none
      | none => none)
    | none => none)
end
theorem fresh_n {lo hi : Int} {S S' : St} {n : Nat} (h : fresh lo hi S = some (n, S')) : n = S.n ∧ S'.n = S.n + 1 := by
  unfold fresh at h
  split at h
  · cases h; exact ⟨rfl, rfl⟩
  · cases h
mutual
theorem instP_ok : ∀ {p : Pt} {S S' : St} {t : SV} {σ : Val} {v : PV} {is : List Int}, instP p S = some (t, S') → GB σ S → PtAt p v is → ∃ σ', Ext S.n S'.n σ σ' ∧ GB σ' S' ∧ G σ' t v ∧ S'.n = S.n + is.length ∧ ∀ j i, is[j]? = some i → σ' (S.n + j) = i
  | .int lo hi, S, S', t, σ, v, is, h, gb, g => by
    simp only [PtAt] at g
    obtain ⟨i, rfl, rfl, h1, h2⟩ := g
    simp only [instP] at h
    split at h
    · rename_i q hq
      simp only [Option.some.injEq, Prod.mk.injEq] at h; obtain ⟨rfl, rfl⟩ := h
      obtain ⟨σ', e, gb', hx, _⟩ := fresh_GB (n := q.1) (S' := q.2) hq h1 h2 gb
      have hn := fresh_n (n := q.1) (S' := q.2) hq
      refine ⟨σ', e, gb', by simp only [G]; rw [pvar_ev, hx], by simpa using hn.2, fun j i' hj => ?_⟩
      cases j with
      | zero => simp at hj; rw [Nat.add_zero, ← hn.1, hx, hj]
      | succ j => simp at hj
    · cases h
  | .tup ps, S, S', t, σ, v, is, h, gb, g => by
    simp only [PtAt] at g
    obtain ⟨ys, rfl, g⟩ := g
    simp only [instP] at h
    split at h
    · rename_i q hq
      simp only [Option.some.injEq, Prod.mk.injEq] at h; obtain ⟨rfl, rfl⟩ := h
      obtain ⟨σ', e, gb', gx, r1, r2⟩ := instPs_ok (t := q.1) (S' := q.2) hq gb g
      exact ⟨σ', e, gb', by simp only [G]; exact ⟨ys, rfl, gx⟩, r1, r2⟩
    · cases h
  | .lst ps, S, S', t, σ, v, is, h, gb, g => by
    simp only [PtAt] at g
    obtain ⟨ys, rfl, g⟩ := g
    simp only [instP] at h
    split at h
    · rename_i q hq
      simp only [Option.some.injEq, Prod.mk.injEq] at h; obtain ⟨rfl, rfl⟩ := h
      obtain ⟨σ', e, gb', gx, r1, r2⟩ := instPs_ok (t := q.1) (S' := q.2) hq gb g
      exact ⟨σ', e, gb', by simp only [G]; exact ⟨ys, rfl, gx⟩, r1, r2⟩
    · cases h
  | .none, S, S', t, σ, v, is, h, gb, g => by simp [instP] at h
  | .bool, S, S', t, σ, v, is, h, gb, g => by simp [instP] at h
  | .tru _, S, S', t, σ, v, is, h, gb, g => by simp [instP] at h
  | .str _, S, S', t, σ, v, is, h, gb, g => by simp [instP] at h
  | .any _ _, S, S', t, σ, v, is, h, gb, g => by simp [instP] at h
  | .cell, S, S', t, σ, v, is, h, gb, g => by simp [instP] at h
  | .pen, S, S', t, σ, v, is, h, gb, g => by simp [instP] at h
  | .ntp _ _, S, S', t, σ, v, is, h, gb, g => by simp [instP] at h
  | .nin _, S, S', t, σ, v, is, h, gb, g => by simp [instP] at h
  | .tpl _ _ _, S, S', t, σ, v, is, h, gb, g => by simp [instP] at h
theorem instPs_ok : ∀ {p : List Pt} {S S' : St} {t : List SV} {σ : Val} {v : List PV} {is : List Int}, instPs p S = some (t, S') → GB σ S → PtAts p v is → ∃ σ', Ext S.n S'.n σ σ' ∧ GB σ' S' ∧ Gs σ' t v ∧ S'.n = S.n + is.length ∧ ∀ j i, is[j]? = some i → σ' (S.n + j) = i
  | [], S, S', t, σ, v, is, h, gb, g => by
    simp only [instPs, Option.some.injEq, Prod.mk.injEq] at h; obtain ⟨rfl, rfl⟩ := h
    simp only [PtAts] at g
    obtain ⟨rfl, rfl⟩ := g
    exact ⟨σ, Ext.refl _ _, gb, Gs_nil, by simp, fun j i hj => by simp at hj⟩
  | p :: ps, S, S', t, σ, v, is, h, gb, g => by
    simp only [PtAts] at g
    obtain ⟨y, zs, js, ks, rfl, rfl, g1, g2⟩ := g
    simp only [instPs] at h
    split at h
    · rename_i q hq
      split at h
      · rename_i r hr
        split at h
        · rename_i hk
          simp only [Option.some.injEq, Prod.mk.injEq] at h; obtain ⟨rfl, rfl⟩ := h
          obtain ⟨σ1, e1, gb1, gx1, n1, k1⟩ := instP_ok (t := q.1) (S' := q.2) hq gb g1
          obtain ⟨σ2, e2, gb2, gx2, n2, k2⟩ := instPs_ok (t := r.1) (S' := r.2) hr gb1 g2
          refine ⟨σ2, e1.trans e2, gb2, Gs_cons.mpr ⟨keep_G e2 hk gx1, gx2⟩, by rw [n2, n1, List.length_append]; omega, fun j i hj => ?_⟩
          by_cases hlt : j < js.length
          · rw [List.getElem?_append_left hlt] at hj
            rw [e2.2.1 _ (by omega)]
            exact k1 j i hj
          · rw [List.getElem?_append_right (by omega)] at hj
            have := k2 _ i hj
            rw [n1, show S.n + js.length + (j - js.length) = S.n + j by omega] at this
            exact this
        · cases h
      · cases h
    · cases h
end
mutual
/-- the numbers of a value of the kind -/
def gat (S : St) : Pt → SV → Option (List Poly)
  | .int lo hi, t => (match t with
    | .int p => (match prng S.B (pred S.B p) with
      | some r => if lo ≤ r.1 ∧ r.2 ≤ hi then some [pred S.B p] else none
      | none => none)
    | _ => none)
  | .tup ps, t => (match t with
    | .tup xs => gats S ps xs
    | _ => none)
  | .lst ps, t => (match t with
    | .lst u xs => if u then none else gats S ps xs
    | _ => none)
  | _, _ => none
def gats (S : St) : List Pt → List SV → Option (List Poly)
  | [], xs => (match xs with | [] => some [] | _ :: _ => none)
  | p :: ps, xs => (match xs with
    | [] => none
    | x :: xs => (match gat S p x, gats S ps xs with
      | some a, some b => some (a ++ b)
      | _, _ => none))
end
mutual
theorem gat_ok {σ : Val} {S : St} (gb : GB σ S) : ∀ {p : Pt} {t : SV} {v : PV} {qs : List Poly}, gat S p t = some qs → G σ t v → PtAt p v (qs.map (pev σ))
  | .int lo hi, t, v, qs, h, g => by
    cases t with
    | int p =>
      simp only [gat] at h
      simp only [G] at g; subst g
      split at h
      · rename_i r hr
        have := prng_ev gb.b hr
        rw [pred_ev gb.b] at this
        split at h
        · rename_i hc
          cases h
          simp only [PtAt, List.map_cons, List.map_nil, pred_ev gb.b]
          exact ⟨_, rfl, rfl, by omega, by omega⟩
        · cases h
      · cases h
    | _ => simp [gat] at h
  | .tup ps, t, v, qs, h, g => by
    cases t with
    | tup xs =>
      simp only [gat] at h
      simp only [G] at g
      obtain ⟨ys, rfl, g⟩ := g
      simp only [PtAt]
      exact ⟨ys, rfl, gats_ok gb h g⟩
    | _ => simp [gat] at h
  | .lst ps, t, v, qs, h, g => by
    cases t with
    | lst u xs =>
      simp only [gat] at h
      simp only [G] at g
      obtain ⟨ys, rfl, g⟩ := g
      split at h
      · cases h
      · rename_i hu
        simp only [PtAt]
        exact ⟨ys, by simp at hu; rw [hu], gats_ok gb h g⟩
    | _ => simp [gat] at h
  | .none, t, v, qs, h, g => by simp [gat] at h
  | .bool, t, v, qs, h, g => by simp [gat] at h
  | .tru _, t, v, qs, h, g => by simp [gat] at h
  | .str _, t, v, qs, h, g => by simp [gat] at h
  | .any _ _, t, v, qs, h, g => by simp [gat] at h
  | .cell, t, v, qs, h, g => by simp [gat] at h
  | .pen, t, v, qs, h, g => by simp [gat] at h
  | .ntp _ _, t, v, qs, h, g => by simp [gat] at h
  | .nin _, t, v, qs, h, g => by simp [gat] at h
  | .tpl _ _ _, t, v, qs, h, g => by simp [gat] at h
theorem gats_ok {σ : Val} {S : St} (gb : GB σ S) : ∀ {p : List Pt} {t : List SV} {v : List PV} {qs : List Poly}, gats S p t = some qs → Gs σ t v → PtAts p v (qs.map (pev σ))
  | [], t, v, qs, h, g => by
    cases t with
    | nil =>
      simp only [gats, Option.some.injEq] at h; subst h
      simp only [Gs] at g; subst g
      simp [PtAts]
    | cons _ _ => simp [gats] at h
  | p :: ps, t, v, qs, h, g => by
    cases t with
    | nil => simp [gats] at h
    | cons x xs =>
      simp only [gats] at h
      simp only [Gs] at g
      obtain ⟨y, zs, rfl, g1, g2⟩ := g
      split at h
      · rename_i a b ha hb
        cases h
        simp only [PtAts]
        exact ⟨y, zs, _, _, rfl, by rw [List.map_append], gat_ok gb ha g1, gats_ok gb hb g2⟩
      · cases h
end
def msub (qs : List Poly) : List Nat → Poly
  | [] => pcon 1
  | x :: m => pmul (qs.getD x []) (msub qs m)
def psubst (qs : List Poly) : Poly → Poly
  | [] => []
  | q :: p => padd (pmul (pcon q.2) (msub qs q.1.2)) (psubst qs p)
theorem msub_ev (σ : Val) (qs : List Poly) : ∀ m : List Nat, pev σ (msub qs m) = lev (fun i => (qs.map (pev σ)).getD i 0) m
  | [] => by rw [msub, pcon_ev, lev]
  | x :: m => by
    rw [msub, pmul_ev, msub_ev σ qs m, lev]
    congr 1
    rw [List.getD_eq_getElem?_getD, List.getD_eq_getElem?_getD, List.getElem?_map]
    cases qs[x]? <;> simp [pev]
theorem psubst_ev (σ : Val) (qs : List Poly) : ∀ p : Poly, pev σ (psubst qs p) = pev (fun i => (qs.map (pev σ)).getD i 0) p
  | [] => rfl
  | q :: p => by rw [psubst, padd_ev, pmul_ev, pcon_ev, msub_ev, psubst_ev σ qs p, pev, mev]
structure PCon where
  f : Str
  lv : Nat
  args : List Pt
  res : Poly
def PCTrue (T : Str → Option Fn) (c : PCon) : Prop := ∀ vs is, PtAts c.args vs is → ∃ io, callN T c.lv c.f vs = .ok (.int (pev (fun i => is.getD i 0) c.res)) io
def smP (ps : List PCon) (k : Nat) (f : Str) (args : List SV) (S : St) : M SV := match ps with
  | [] => none
  | c :: ps => if sEq c.f f && Nat.beq k c.lv && !isPen args then (match gats S c.args args with
      | some qs => some [(.ok (.int (pred S.B (psubst qs c.res))), S)]
      | none => smP ps k f args S) else smP ps k f args S
theorem smP_ok {T : Str → Option Fn} : ∀ {ps : List PCon}, (∀ c ∈ ps, PCTrue T c) → ∀ {k : Nat} {f : Str} {args : List SV} {S : St} {L : List (Out SV × St)} {σ : Val} {vs : List PV}, smP ps k f args S = some L → GB σ S → Gs σ args vs → HC S.n σ (isPen args) (callN T k f vs) L
  | [], _, k, f, args, S, L, σ, vs, h, gb, ga => by simp [smP] at h
  | c :: ps, hc, k, f, args, S, L, σ, vs, h, gb, ga => by
    simp only [smP] at h
    split at h
    · rename_i hm
      simp only [Bool.and_eq_true, beq_iff_eq, Bool.not_eq_true'] at hm
      split at h
      · rename_i qs hq
        cases h
        obtain ⟨io, e⟩ := hc c (by simp) vs _ (gats_ok gb hq ga)
        refine ⟨_, List.mem_singleton.mpr rfl, σ, Ext.refl _ _, gb, _, io, by rw [← sEq_eq hm.1.1, Nat.eq_of_beq_eq_true hm.1.2]; exact e, by simp only [G]; rw [pred_ev gb.b, psubst_ev], fun hp => by rw [hm.2] at hp; cases hp⟩
      · exact smP_ok (fun c' h' => hc c' (by simp [h'])) h gb ga
    · exact smP_ok (fun c' h' => hc c' (by simp [h'])) h gb ga
/-- the pens and the contracts -/
def smAll (cs : List Con) (ps : List PCon) (k : Nat) (f : Str) (args : List SV) (S : St) : M SV := match smPen k f args S with
  | some L => some L
  | none => (match smP ps k f args S with
    | some L => some L
    | none => smCon cs k f args S)
def plan (cfg : Str → Cfg) (cs : List Con) (ps : List PCon) : Plan := ⟨cfg, fun _ => false, smAll cs ps⟩
structure Pens (T : Str → Option Fn) : Prop where
  d : T "_law_draw" = some ir_draw
  p : T "_law_pen" = some ir_pen
  c : T "_law_cell" = some ir_cell
theorem plan_ok {T : Str → Option Fn} (hp : Pens T) {cfg : Str → Cfg} {cs : List Con} {ps : List PCon} (hc : ∀ c ∈ cs, CTrue T c) (hq : ∀ c ∈ ps, PCTrue T c) : SmOk T (plan cfg cs ps) := fun k f args S L σ vs h gb ga => by
  have h : smAll cs ps k f args S = some L := h
  unfold smAll at h
  split at h
  · rename_i L0 hL0
    cases h
    exact smPen_ok hp.d hp.p hp.c hL0 gb ga
  · split at h
    · rename_i L0 hL0
      cases h
      exact smP_ok hq hL0 gb ga
    · exact smCon_ok hc h gb ga
/-- is the contract kept, by a run -/
def chk (T : Str → Option Fn) (cfg : Str → Cfg) (cs : List Con) (ps : List PCon) (c : Con) : Bool := match c.lv, T c.f with
  | k + 1, some fn => c.ex && (match insts c.args S0 with
    | some q => (penArg c.args == isPen q.1) && (match aFn (cfg c.f) (aCall T (plan cfg cs ps) k) fn q.1 q.2 with
      | some L => L.all fun r => (match r.1 with
        | .ok t => mat r.2 c.res t
        | .exn _ _ => false)
      | none => false)
    | none => false)
  | _, _ => false
theorem chk_ok {T : Str → Option Fn} (hp : Pens T) {cfg : Str → Cfg} {cs : List Con} {ps : List PCon} (hc : ∀ c ∈ cs, CTrue T c) (hq : ∀ c ∈ ps, PCTrue T c) {c : Con} (h : chk T cfg cs ps c = true) : CTrue T c := fun k hk vs hv => by
  unfold chk at h
  split at h
  · rename_i k' fn hl hT
    simp only [Bool.and_eq_true] at h
    obtain ⟨hex, h⟩ := h
    have ek : k = k' + 1 := by
      unfold Con.lvOk at hk
      rw [hex] at hk
      simp only [if_true] at hk
      have := Nat.eq_of_beq_eq_true hk
      omega
    subst ek
    split at h
    · rename_i q hq'
      simp only [Bool.and_eq_true, beq_iff_eq] at h
      obtain ⟨hpn, h⟩ := h
      split at h
      · rename_i L hL
        have gb0 : GB (fun _ => 0) S0 := ⟨trivial, fun c hc => by cases hc⟩
        obtain ⟨σ1, e1, gb1, ga1⟩ := insts_ok (t := q.1) (S' := q.2) hq' gb0 hv
        obtain ⟨r, hr, σ2, e2, gb2, z⟩ := aFn_ok (aCall_ok (plan_ok hp hc hq) k') hL gb1 ga1
        have hm := List.all_eq_true.mp h r hr
        have e : callN T (k' + 1) c.f vs = runFn (callN T k') fn vs := by
          rw [callN]
          simp only [hT]
        rw [e]
        cases hr1 : r.1 with
        | exn c fs => rw [hr1] at hm; cases hm
        | ok t =>
          simp only [hr1] at hm z
          obtain ⟨v, io, er, gv, gp⟩ := z
          refine ⟨v, io, er, mat_ok gb2 hm gv, fun hh => ?_⟩
          have := gp (by rw [← hpn]; exact hh)
          simp only [G] at this
          simp only [PtOk]
          exact this
      · cases h
    · cases h
  · cases h
/-- is the number told right, by a run -/
def chkP (T : Str → Option Fn) (cfg : Str → Cfg) (cs : List Con) (ps : List PCon) (c : PCon) : Bool := match c.lv, T c.f with
  | k + 1, some fn => (match instPs c.args S0 with
    | some q => pwf q.2.n c.res && (match aFn (cfg c.f) (aCall T (plan cfg cs ps) k) fn q.1 q.2 with
      | some L => L.all fun r => (match r.1 with
        | .ok (.int p) => (match pk (pred r.2.B (psub p c.res)) with
          | some d => decide (d = 0)
          | none => false)
        | _ => false)
      | none => false)
    | none => false)
  | _, _ => false
theorem pev_agree {σ σ' : Val} : ∀ {p : Poly} {n : Nat}, pwf n p = true → (∀ i, i < n → σ' i = σ i) → pev σ' p = pev σ p := fun {p n} h e => pwf_ev (n := n) (n' := n + 1) ⟨by omega, e, fun q => by omega⟩ h
theorem chkP_ok {T : Str → Option Fn} (hp : Pens T) {cfg : Str → Cfg} {cs : List Con} {ps : List PCon} (hc : ∀ c ∈ cs, CTrue T c) (hq : ∀ c ∈ ps, PCTrue T c) {c : PCon} (h : chkP T cfg cs ps c = true) : PCTrue T c := fun vs is hv => by
  unfold chkP at h
  split at h
  · rename_i k fn hl hT
    split at h
    · rename_i q hq'
      simp only [Bool.and_eq_true] at h
      obtain ⟨hw, h⟩ := h
      split at h
      · rename_i L hL
        have gb0 : GB (fun _ => 0) S0 := ⟨trivial, fun c hc => by cases hc⟩
        obtain ⟨σ1, e1, gb1, ga1, n1, k1⟩ := instPs_ok (t := q.1) (S' := q.2) hq' gb0 hv
        obtain ⟨r, hr, σ2, e2, gb2, z⟩ := aFn_ok (aCall_ok (plan_ok hp hc hq) k) hL gb1 ga1
        have hm := List.all_eq_true.mp h r hr
        have e : callN T c.lv c.f vs = runFn (callN T k) fn vs := by
          rw [hl, callN]
          simp only [hT]
        rw [e]
        split at hm
        · rename_i p hr1
          simp only [hr1] at z
          obtain ⟨v, io, er, gv, gp⟩ := z
          simp only [G] at gv
          subst gv
          refine ⟨io, ?_⟩
          rw [er]
          congr 2
          split at hm
          · rename_i d hd
            have := pk_ev (σ := σ2) hd
            rw [pred_ev gb2.b, psub_ev] at this
            simp only [decide_eq_true_eq] at hm
            have e3 : pev σ2 c.res = pev (fun i => is.getD i 0) c.res := by
              refine pev_agree hw fun i hi => ?_
              rw [e2.2.1 i hi]
              have hi' : i < is.length := by
                have : S0.n = 0 := rfl
                rw [n1] at hi; omega
              have := k1 i is[i] (List.getElem?_eq_getElem hi')
              have h0 : S0.n = 0 := rfl
              rw [h0, Nat.zero_add] at this
              rw [this, List.getD_eq_getElem?_getD, List.getElem?_eq_getElem hi', Option.getD_some]
            omega
          · cases hm
        · cases hm
      · cases h
    · cases h
  · cases h
/-! ### cases -/
/-- the first that is not good -/
def fb : Nat → Pt → List Pt → Pt → List (List Pt)
  | 0, _, _, _ => []
  | n + 1, good, bads, rest => (bads.map fun b => b :: List.replicate n rest) ++ (fb n good bads rest).map fun l => good :: l
theorem PtOks_rep {p : Pt} : ∀ {ys : List PV}, (∀ y ∈ ys, PtOk p y) → PtOks (List.replicate ys.length p) ys
  | [], _ => by simp [PtOks]
  | y :: ys, h => by
    simp only [List.length_cons, List.replicate_succ, PtOks]
    exact ⟨y, ys, rfl, h y (by simp), PtOks_rep fun z hz => h z (by simp [hz])⟩
theorem fb_ok {good rest : Pt} {bads : List Pt} : ∀ {ys : List PV}, (∀ y ∈ ys, PtOk rest y) → (∀ y ∈ ys, PtOk good y ∨ ∃ b ∈ bads, PtOk b y) → PtOks (List.replicate ys.length good) ys ∨ ∃ l ∈ fb ys.length good bads rest, PtOks l ys
  | [], _, _ => .inl (by simp [PtOks])
  | y :: ys, hr, h => by
    rcases h y (by simp) with hy | ⟨b, hb, hy⟩
    · rcases fb_ok (ys := ys) (fun z hz => hr z (List.mem_cons_of_mem _ hz)) (fun z hz => h z (List.mem_cons_of_mem _ hz)) with z | ⟨l, hl, z⟩
      · refine .inl ?_
        simp only [List.length_cons, List.replicate_succ, PtOks]
        exact ⟨y, ys, rfl, hy, z⟩
      · refine .inr ⟨good :: l, ?_, ?_⟩
        · simp only [List.length_cons, fb]
          exact List.mem_append_right _ (List.mem_map.mpr ⟨l, hl, rfl⟩)
        · simp only [PtOks]; exact ⟨y, ys, rfl, hy, z⟩
    · refine .inr ⟨b :: List.replicate ys.length rest, ?_, ?_⟩
      · simp only [List.length_cons, fb]
        exact List.mem_append_left _ (List.mem_map.mpr ⟨b, hb, rfl⟩)
      · simp only [PtOks]; exact ⟨y, ys, rfl, hy, PtOks_rep fun z hz => hr z (by simp [hz])⟩
/-- a contract by cases of its only argument -/
theorem con_cases {T : Str → Option Fn} {f : Str} {lv : Nat} {p res : Pt} {ps : List Pt} (hp : ∀ v, PtOk p v → ∃ q ∈ ps, PtOk q v) (hn : penArg [p] = false) {st : Bool} (h : ∀ q ∈ ps, CTrue T ⟨f, lv, true, [q], res, st⟩) : CTrue T ⟨f, lv, true, [p], res, st⟩ := fun k hk vs hv => by
  simp only [PtOks] at hv
  obtain ⟨y, _, rfl, hy, rfl⟩ := hv
  obtain ⟨q, hq, hqy⟩ := hp y hy
  obtain ⟨v, io, e, g, _⟩ := h q hq k hk [y] (by simp only [PtOks]; exact ⟨y, [], rfl, hqy, rfl⟩)
  exact ⟨v, io, e, g, fun z => by rw [hn] at z; cases z⟩
theorem con_cases2 {T : Str → Option Fn} {f : Str} {lv : Nat} {p r res : Pt} {ps : List Pt} (hp : ∀ v, PtOk p v → ∃ q ∈ ps, PtOk q v) (hn : penArg [p] = false) {st : Bool} (h : ∀ q ∈ ps, CTrue T ⟨f, lv, true, [q, r], res, st⟩) : CTrue T ⟨f, lv, true, [p, r], res, st⟩ := fun k hk vs hv => by
  simp only [PtOks] at hv
  obtain ⟨y, _, rfl, hy, z, _, rfl, hz, rfl⟩ := hv
  obtain ⟨q, hq, hqy⟩ := hp y hy
  obtain ⟨v, io, e, g, _⟩ := h q hq k hk [y, z] (by simp only [PtOks]; exact ⟨y, [z], rfl, hqy, z, [], rfl, hz, rfl⟩)
  refine ⟨v, io, e, g, fun zz => ?_⟩
  cases p <;> simp_all [penArg]
end SX
end

section
set_option Elab.async false
set_option linter.all false
set_option maxRecDepth 100000
set_option maxHeartbeats 1000000
namespace SX
open PySem hiding Env
open LC
/-! ### tables of whole numbers, and all else -/
def IBi : Int := 1461501637330902918203684832716283019655932542976
theorem IBi_eq : (IB : Int) = IBi := by unfold IB IBi; rfl
def pI : Pt := .int (-IBi) IBi
def rowG (n : Nat) : Pt := .tup (List.replicate n pI)
def rowB (d n : Nat) : List Pt := .ntp (d + 1) false :: .tpl (d + 1) 0 ((n : Int) - 1) :: .tpl (d + 1) ((n : Int) + 1) 1000 :: (fb n pI [.nin d, .bool] (.any d false)).map .tup
def tabB (d n : Nat) : List Pt := (fb n (rowG n) (rowB d n) (.any (d + 1) false)).map .tup
def tabG (n : Nat) : Pt := .tup (List.replicate n (rowG n))
theorem dts_mem {d : Nat} : ∀ {ys : List PV}, dts d ys = true → ∀ y ∈ ys, dt d y = true
  | [], _, y, h => by cases h
  | x :: xs, h, y, hy => by
    simp only [dts, Bool.and_eq_true] at h
    rcases List.mem_cons.mp hy with e | e
    · subst e; exact h.1
    · exact dts_mem h.2 y e
theorem row_cases {d n : Nat} (hn : n ≤ 1000) {v : PV} (h : dt (d + 1) v = true) : PtOk (rowG n) v ∨ ∃ b ∈ rowB d n, PtOk b v := by
  cases hv : isTup v with
  | false =>
    refine .inr ⟨_, List.mem_cons_self, ?_⟩
    simp only [PtOk]
    exact ⟨.inl h, hv⟩
  | true =>
    cases v with
    | tup ys =>
      have hd : dts d ys = true := by simp only [dt, Bool.and_eq_true] at h; exact h.2
      have hl : ys.length ≤ 1000 := by simp only [dt, Bool.and_eq_true, decide_eq_true_eq] at h; exact h.1
      by_cases hlt : ys.length < n
      · refine .inr ⟨_, List.mem_cons_of_mem _ List.mem_cons_self, ?_⟩
        simp only [PtOk]
        exact ⟨h, ys, rfl, by omega, by omega⟩
      · by_cases hgt : n < ys.length
        · refine .inr ⟨_, List.mem_cons_of_mem _ (List.mem_cons_of_mem _ List.mem_cons_self), ?_⟩
          simp only [PtOk]
          exact ⟨h, ys, rfl, by omega, by omega⟩
        · have he : ys.length = n := by omega
          subst he
          rcases fb_ok (good := pI) (rest := .any d false) (bads := [.nin d, .bool]) (ys := ys) (fun y hy => by simp only [PtOk]; exact .inl (dts_mem hd y hy)) (fun y hy => by
            have hy := dts_mem hd y hy
            cases y with
            | int i =>
              refine .inl ?_
              simp only [pI, PtOk]
              simp only [dt, decide_eq_true_eq] at hy
              have := IBi_eq
              exact ⟨i, rfl, by omega, by omega⟩
            | bool b => exact .inr ⟨.bool, by simp, by simp only [PtOk]; exact ⟨b, rfl⟩⟩
            | _ => exact .inr ⟨.nin d, by simp, by simp only [PtOk]; exact ⟨hy, rfl⟩⟩) with z | ⟨l, hl', z⟩
          · exact .inl (by simp only [rowG, PtOk]; exact ⟨ys, rfl, z⟩)
          · refine .inr ⟨.tup l, List.mem_cons_of_mem _ (List.mem_cons_of_mem _ (List.mem_cons_of_mem _ (List.mem_map.mpr ⟨l, hl', rfl⟩))), ?_⟩
            simp only [PtOk]
            exact ⟨ys, rfl, z⟩
    | _ => cases hv
/-- all cases of a thing, for what asks for a table of size 1 to 3 -/
def thingB (d : Nat) : List Pt := .ntp (d + 2) true :: .tup [] :: .tpl (d + 2) 4 1000 :: (tabB d 1 ++ tabB d 2 ++ tabB d 3)
theorem thing_cases {d : Nat} {v : PV} (h : dt (d + 2) v = true ∨ isDic v = true) : (∃ n, 1 ≤ n ∧ n ≤ 3 ∧ PtOk (tabG n) v) ∨ ∃ b ∈ thingB d, PtOk b v := by
  cases hv : isTup v with
  | false =>
    refine .inr ⟨_, List.mem_cons_self, ?_⟩
    simp only [PtOk]
    exact ⟨h.imp id fun z => ⟨trivial, z⟩, hv⟩
  | true =>
    cases v with
    | tup ys =>
      have h : dt (d + 2) (.tup ys) = true := h.elim id fun z => by cases z
      have hd : dts (d + 1) ys = true := by simp only [dt, Bool.and_eq_true] at h; exact h.2
      have hl : ys.length ≤ 1000 := by simp only [dt, Bool.and_eq_true, decide_eq_true_eq] at h; exact h.1
      by_cases h0 : ys.length = 0
      · refine .inr ⟨_, List.mem_cons_of_mem _ List.mem_cons_self, ?_⟩
        simp only [PtOk, PtOks]
        exact ⟨ys, rfl, by cases ys <;> simp_all⟩
      · by_cases h4 : 4 ≤ ys.length
        · refine .inr ⟨_, List.mem_cons_of_mem _ (List.mem_cons_of_mem _ List.mem_cons_self), ?_⟩
          simp only [PtOk]
          exact ⟨h, ys, rfl, by omega, by omega⟩
        · have key : ∀ n, ys.length = n → (∃ n, 1 ≤ n ∧ n ≤ 3 ∧ PtOk (tabG n) (.tup ys)) ∨ ∃ b ∈ tabB d n, PtOk b (.tup ys) := fun n hn => by
            rcases fb_ok (good := rowG n) (rest := .any (d + 1) false) (bads := rowB d n) (ys := ys) (fun y hy => by simp only [PtOk]; exact .inl (dts_mem hd y hy)) (fun y hy => row_cases (by omega) (dts_mem hd y hy)) with z | ⟨l, hl', z⟩
            · exact .inl ⟨n, by omega, by omega, by simp only [tabG, PtOk]; exact ⟨ys, rfl, by rw [← hn]; rw [hn] at z ⊢; exact z⟩⟩
            · refine .inr ⟨.tup l, List.mem_map.mpr ⟨l, by rw [hn] at hl'; exact hl', rfl⟩, ?_⟩
              simp only [PtOk]
              exact ⟨ys, rfl, z⟩
          rcases key ys.length rfl with z | ⟨b, hb, z⟩
          · exact .inl z
          · refine .inr ⟨b, ?_, z⟩
            refine List.mem_cons_of_mem _ (List.mem_cons_of_mem _ (List.mem_cons_of_mem _ ?_))
            rcases (by omega : ys.length = 1 ∨ ys.length = 2 ∨ ys.length = 3) with e | e | e <;> rw [e] at hb
            · exact List.mem_append_left _ (List.mem_append_left _ hb)
            · exact List.mem_append_left _ (List.mem_append_right _ hb)
            · exact List.mem_append_right _ hb
    | _ => cases hv
/-! ### numbers below 10 ** 6, and others -/
def pS : Pt := .int (-999999) 999999
def rowS (n : Nat) : Pt := .tup (List.replicate n pS)
def rowL (n : Nat) : List Pt := (fb n pS [.int 1000000 IBi, .int (-IBi) (-1000000)] pI).map .tup
def tabS (n : Nat) : Pt := .tup (List.replicate n (rowS n))
def tabL (n : Nat) : List Pt := (fb n (rowS n) (rowL n) (rowG n)).map .tup
theorem PtOks_mem {p : Pt} : ∀ {n : Nat} {ys : List PV}, PtOks (List.replicate n p) ys → ys.length = n ∧ ∀ y ∈ ys, PtOk p y
  | 0, ys, h => by simp only [List.replicate_zero, PtOks] at h; subst h; exact ⟨rfl, fun y hy => by cases hy⟩
  | n + 1, ys, h => by
    simp only [List.replicate_succ, PtOks] at h
    obtain ⟨y, zs, rfl, h1, h2⟩ := h
    have := PtOks_mem h2
    refine ⟨by simp [this.1], fun z hz => ?_⟩
    rcases List.mem_cons.mp hz with e | e
    · subst e; exact h1
    · exact this.2 z e
theorem num_cases {v : PV} (h : PtOk pI v) : PtOk pS v ∨ ∃ b ∈ [Pt.int 1000000 IBi, .int (-IBi) (-1000000)], PtOk b v := by
  simp only [pI, PtOk] at h
  obtain ⟨i, rfl, h1, h2⟩ := h
  by_cases a : 1000000 ≤ i
  · exact .inr ⟨_, List.mem_cons_self, by simp only [PtOk]; exact ⟨i, rfl, a, h2⟩⟩
  · by_cases b : i ≤ -1000000
    · exact .inr ⟨_, List.mem_cons_of_mem _ List.mem_cons_self, by simp only [PtOk]; exact ⟨i, rfl, h1, b⟩⟩
    · exact .inl (by simp only [pS, PtOk]; exact ⟨i, rfl, by omega, by omega⟩)
theorem rowL_cases {n : Nat} {v : PV} (h : PtOk (rowG n) v) : PtOk (rowS n) v ∨ ∃ b ∈ rowL n, PtOk b v := by
  simp only [rowG, PtOk] at h
  obtain ⟨ys, rfl, h⟩ := h
  obtain ⟨hl, hm⟩ := PtOks_mem h
  subst hl
  rcases fb_ok (good := pS) (rest := pI) (bads := [.int 1000000 IBi, .int (-IBi) (-1000000)]) hm (fun y hy => num_cases (hm y hy)) with z | ⟨l, hl', z⟩
  · exact .inl (by simp only [rowS, PtOk]; exact ⟨ys, rfl, z⟩)
  · exact .inr ⟨.tup l, List.mem_map.mpr ⟨l, hl', rfl⟩, by simp only [PtOk]; exact ⟨ys, rfl, z⟩⟩
theorem tabL_cases {n : Nat} {v : PV} (h : PtOk (tabG n) v) : PtOk (tabS n) v ∨ ∃ b ∈ tabL n, PtOk b v := by
  simp only [tabG, PtOk] at h
  obtain ⟨ys, rfl, h⟩ := h
  obtain ⟨hl, hm⟩ := PtOks_mem h
  subst hl
  rcases fb_ok (good := rowS ys.length) (rest := rowG ys.length) (bads := rowL ys.length) hm (fun y hy => rowL_cases (hm y hy)) with z | ⟨l, hl', z⟩
  · exact .inl (by simp only [tabS, PtOk]; exact ⟨ys, rfl, z⟩)
  · exact .inr ⟨.tup l, List.mem_map.mpr ⟨l, hl', rfl⟩, by simp only [PtOk]; exact ⟨ys, rfl, z⟩⟩
/-! ### determinants -/
def x_ (i : Nat) : Poly := pvar i
def det1 : Poly := x_ 0
def det2 : Poly := psub (pmul (x_ 0) (x_ 3)) (pmul (x_ 1) (x_ 2))
def det3 : Poly := padd (psub (pmul (x_ 0) (psub (pmul (x_ 4) (x_ 8)) (pmul (x_ 5) (x_ 7)))) (pmul (x_ 1) (psub (pmul (x_ 3) (x_ 8)) (pmul (x_ 5) (x_ 6))))) (pmul (x_ 2) (psub (pmul (x_ 3) (x_ 7)) (pmul (x_ 4) (x_ 6))))
def detN : Nat → Poly
  | 1 => det1
  | 2 => det2
  | _ => det3
def rowsL (n : Nat) : Pt := .lst (List.replicate n (rowG n))
end SX
end

section
set_option Elab.async false
set_option linter.all false
set_option maxRecDepth 100000
set_option maxHeartbeats 1000000
namespace SX
open PySem hiding Env
open LC
/-! ### putting together -/
def tblT : List (Str × Fn) → Str → Option Fn
  | [], _ => none
  | q :: L, f => if sEq q.1 f then some q.2 else tblT L f
theorem tblT_eq {tab : List Def} {L : List (Str × Fn)} (h : tab.map (fun d => (d.name, d.ir)) = L) : tabT tab = tblT L := by
  subst h
  funext f
  unfold tabT
  induction tab with
  | nil => rfl
  | cons d tab ih =>
    simp only [List.find?_cons, List.map_cons, tblT, sEq_iff]
    cases h : decide (d.name = f) with
    | true => simp
    | false => simpa using ih
theorem all_cut {α : Type} {f : α → Bool} (n : Nat) {l : List α} (h1 : (l.take n).all f = true) (h2 : (l.drop n).all f = true) : l.all f = true := by
  rw [← List.take_append_drop n l, List.all_append, h1, h2]; rfl
section
variable {T : Str → Option Fn} (hp : Pens T) {cfg : Str → Cfg} {cs : List Con} {ps : List PCon} (hc : ∀ c ∈ cs, CTrue T c) (hq : ∀ c ∈ ps, PCTrue T c)
include hp hc hq
theorem chk_all {l : List Con} (h : l.all (chk T cfg cs ps) = true) : ∀ c ∈ l, CTrue T c := fun c hm => chk_ok hp hc hq (List.all_eq_true.mp h c hm)
theorem chk_map {l : List Pt} {k : Pt → Con} (h : l.all (fun p => chk T cfg cs ps (k p)) = true) : ∀ p ∈ l, CTrue T (k p) := fun c hm => chk_ok hp hc hq (List.all_eq_true.mp h c hm)
theorem chkP_all {l : List PCon} (h : l.all (chkP T cfg cs ps) = true) : ∀ c ∈ l, PCTrue T c := fun c hm => chkP_ok hp hc hq (List.all_eq_true.mp h c hm)
theorem law_run {k : Nat} {fn : Fn} (hT : T "law" = some fn) (hio : fn.io = false) (h : allTrue (aCall T (plan cfg cs ps) k "law" [.scr] S0) = true) (ns : List Int) (hn : ns.length ≤ 63) : callN T k "law" [.scr ns] = .ok (.bool true) .none := law_true (plan_ok hp hc hq) hT hio h ns hn
end
theorem nil_c {T : Str → Option Fn} : ∀ c ∈ ([] : List Con), CTrue T c := fun c h => by cases h
theorem nil_p {T : Str → Option Fn} : ∀ c ∈ ([] : List PCon), PCTrue T c := fun c h => by cases h
theorem cons_c {T : Str → Option Fn} {c : Con} {cs : List Con} (h : CTrue T c) (hs : ∀ c ∈ cs, CTrue T c) : ∀ d ∈ c :: cs, CTrue T d := fun d hd => by
  rcases List.mem_cons.mp hd with e | e
  · subst e; exact h
  · exact hs d e
theorem app_c {T : Str → Option Fn} {as cs : List Con} (h : ∀ c ∈ as, CTrue T c) (hs : ∀ c ∈ cs, CTrue T c) : ∀ d ∈ as ++ cs, CTrue T d := fun d hd => by
  rcases List.mem_append.mp hd with e | e
  · exact h d e
  · exact hs d e
/-- rows of which nothing is known -/
theorem row_any {d n : Nat} (hn : n ≤ 1000) : ∀ v, PtOk (.any (d + 1) false) v → ∃ q ∈ rowG n :: rowB d n, PtOk q v := fun v h => by
  simp only [PtOk] at h
  rcases h with h | h
  · rcases row_cases hn h with z | ⟨b, hb, z⟩
    · exact ⟨_, List.mem_cons_self, z⟩
    · exact ⟨b, List.mem_cons_of_mem _ hb, z⟩
  · cases h.1
def tabs (d : Nat) : List Pt := tabG 1 :: tabG 2 :: tabG 3 :: thingB d
theorem thing_any {d : Nat} : ∀ v, PtOk (.any (d + 2) true) v → ∃ q ∈ tabs d, PtOk q v := fun v h => by
  simp only [PtOk] at h
  rcases thing_cases (h.imp id fun z => z.2) with ⟨n, h1, h2, z⟩ | ⟨b, hb, z⟩
  · refine ⟨tabG n, ?_, z⟩
    rcases (by omega : n = 1 ∨ n = 2 ∨ n = 3) with e | e | e <;> subst e <;> simp [tabs]
  · exact ⟨b, by simp [tabs, hb], z⟩
def tabsL : List Pt := tabS 1 :: tabS 2 :: tabS 3 :: (tabL 1 ++ tabL 2 ++ tabL 3)
theorem thing_anyL {d : Nat} : ∀ v, PtOk (.any (d + 2) true) v → ∃ q ∈ tabsL ++ thingB d, PtOk q v := fun v h => by
  simp only [PtOk] at h
  rcases thing_cases (h.imp id fun z => z.2) with ⟨n, h1, h2, z⟩ | ⟨b, hb, z⟩
  · rcases tabL_cases z with y | ⟨b, hb, y⟩
    · refine ⟨tabS n, List.mem_append_left _ ?_, y⟩
      rcases (by omega : n = 1 ∨ n = 2 ∨ n = 3) with e | e | e <;> subst e <;> simp [tabsL]
    · refine ⟨b, List.mem_append_left _ ?_, y⟩
      rcases (by omega : n = 1 ∨ n = 2 ∨ n = 3) with e | e | e <;> subst e <;> simp [tabsL, hb]
  · exact ⟨b, List.mem_append_right _ hb, z⟩
end SX
end

section
set_option Elab.async false
set_option linter.all false
set_option maxRecDepth 100000
set_option maxHeartbeats 0
namespace K01
open PySem PySem.Spec L2 LC SX
def n_is_whole : Str := ⟨#[105, 115, 95, 119, 104, 111, 108, 101]⟩
def n_are_wholes : Str := ⟨#[97, 114, 101, 95, 119, 104, 111, 108, 101, 115]⟩
def n_worth : Str := ⟨#[119, 111, 114, 116, 104]⟩
def n_is_square : Str := ⟨#[105, 115, 95, 115, 113, 117, 97, 114, 101]⟩
def n_tells_lengths : Str := ⟨#[116, 101, 108, 108, 115, 95, 108, 101, 110, 103, 116, 104, 115]⟩
def n_is_form : Str := ⟨#[105, 115, 95, 102, 111, 114, 109]⟩
def n__law_cell : Str := ⟨#[95, 108, 97, 119, 95, 99, 101, 108, 108]⟩
def n__law_pen : Str := ⟨#[95, 108, 97, 119, 95, 112, 101, 110]⟩
def n__law_draw : Str := ⟨#[95, 108, 97, 119, 95, 100, 114, 97, 119]⟩
def n__law_whole : Str := ⟨#[95, 108, 97, 119, 95, 119, 104, 111, 108, 101]⟩
def n__law_odd : Str := ⟨#[95, 108, 97, 119, 95, 111, 100, 100]⟩
def n__law_worth : Str := ⟨#[95, 108, 97, 119, 95, 119, 111, 114, 116, 104]⟩
def n__law_tells : Str := ⟨#[95, 108, 97, 119, 95, 116, 101, 108, 108, 115]⟩
def n__law_form : Str := ⟨#[95, 108, 97, 119, 95, 102, 111, 114, 109]⟩
def n__law_small : Str := ⟨#[95, 108, 97, 119, 95, 115, 109, 97, 108, 108]⟩
def n__law_bent_form : Str := ⟨#[95, 108, 97, 119, 95, 98, 101, 110, 116, 95, 102, 111, 114, 109]⟩
def n__law_due : Str := ⟨#[95, 108, 97, 119, 95, 100, 117, 101]⟩
def n__law_right : Str := ⟨#[95, 108, 97, 119, 95, 114, 105, 103, 104, 116]⟩
def n_law : Str := ⟨#[108, 97, 119]⟩
def ir_is_whole : Fn := ⟨1, 1, false, (.cons (.ret (.and (.isi (.var 0) .int) (.one (.not (.isi (.var 0) .bool))))) .nil)⟩
def ir_are_wholes : Fn := ⟨2, 3, false, (.cons (.iff (.or (.not (.isi (.var 0) .tuple)) (.one (.cmp .ne (.blt .len (.cons (.var 0) .nil)) (.var 1)))) (.cons (.ret (.cbool false)) .nil) .nil) (.cons (.ret (.blt .all (.cons (.comp (.call n_is_whole (.cons (.var 2) .nil)) (.nm 2) (.seq (.var 0)) .nil) .nil))) .nil))⟩
def ir_worth : Fn := ⟨1, 5, false, (.cons (.iff (.cmp .eq (.blt .len (.cons (.var 0) .nil)) (.cint 0)) (.cons (.ret (.cint 1)) .nil) .nil) (.cons (.set 1 (.cint 0)) (.cons (.for_ true (.tp [(.nm 2), (.nm 3)]) (.enum (.sub (.var 0) (.cint 0))) (.cons (.iff (.cmp .ne (.var 3) (.cint 0)) (.cons (.set 1 (.bin .add (.var 1) (.bin .mul (.bin .mul (.var 3) (.bin .sub (.cint 1) (.bin .mul (.cint 2) (.bin .mod (.var 2) (.cint 2))))) (.call n_worth (.cons (.comp (.bin .add (.sli (.var 4) .nil (.cons (.var 2) .nil)) (.sli (.var 4) (.cons (.bin .add (.var 2) (.cint 1)) .nil) .nil)) (.nm 4) (.seq (.sli (.var 0) (.cons (.cint 1) .nil) .nil)) .nil) .nil))))) .nil) .nil) .nil)) (.cons (.ret (.mv 1)) .nil))))⟩
def ir_is_square : Fn := ⟨1, 2, false, (.cons (.iff (.or (.not (.isi (.var 0) .tuple)) (.one (.not (.chain .le .le (.cint 1) (.blt .len (.cons (.var 0) .nil)) (.glob "MOST_SIZE" (.int 3)))))) (.cons (.ret (.cbool false)) .nil) .nil) (.cons (.ret (.blt .all (.cons (.comp (.call n_are_wholes (.cons (.var 1) (.cons (.blt .len (.cons (.var 0) .nil)) .nil))) (.nm 1) (.seq (.var 0)) .nil) .nil))) .nil))⟩
def ir_tells_lengths : Fn := ⟨1, 6, false, (.cons (.iff (.not (.call n_is_square (.cons (.var 0) .nil))) (.cons (.ret (.cbool false)) .nil) .nil) (.cons (.set 1 (.blt .len (.cons (.var 0) .nil))) (.cons (.iff (.blt .any (.cons (.comp (.blt .any (.cons (.comp (.cmp .ne (.sub (.sub (.var 0) (.var 2)) (.var 4)) (.sub (.sub (.var 0) (.var 4)) (.var 2))) (.nm 4) (.range1 (.var 1)) .nil) .nil)) (.nm 2) (.range1 (.var 1)) .nil) .nil)) (.cons (.ret (.cbool false)) .nil) .nil) (.cons (.ret (.blt .all (.cons (.comp (.cmp .gt (.call n_worth (.cons (.comp (.sli (.var 5) .nil (.cons (.var 3) .nil)) (.nm 5) (.seq (.sli (.var 0) .nil (.cons (.var 3) .nil))) .nil) .nil)) (.cint 0)) (.nm 3) (.range2 (.cint 1) (.bin .add (.var 1) (.cint 1))) .nil) .nil))) .nil))))⟩
def ir_is_form : Fn := ⟨1, 3, false, (.cons (.iff (.not (.call n_tells_lengths (.cons (.var 0) .nil))) (.cons (.ret (.cbool false)) .nil) .nil) (.cons (.ret (.blt .all (.cons (.comp (.blt .all (.cons (.comp (.cmp .lt (.blt .abs (.cons (.var 2) .nil)) (.glob "BEYOND" (.int 1000000))) (.nm 2) (.seq (.var 1)) .nil) .nil)) (.nm 1) (.seq (.var 0)) .nil) .nil))) .nil))⟩
def ir__law_cell : Fn := ⟨2, 2, false, (.cons (.iff (.cmp .lt (.var 1) (.blt .len (.cons (.var 0) .nil))) (.cons (.ret (.sub (.var 0) (.var 1))) .nil) .nil) (.cons (.ret (.cint 0)) .nil))⟩
def ir__law_pen : Fn := ⟨1, 2, false, (.cons (.set 1 (.blt .max (.cons (.var 0) (.cons (.bin .sub (.cint 0) (.var 0)) .nil)))) (.cons (.ret (.lst (.cons (.var 1) (.cons (.blt .int (.cons (.cmp .ge (.var 1) (.bin .pow (.cint 10) (.cint 18))) .nil)) .nil)))) .nil))⟩
def ir__law_draw : Fn := ⟨2, 5, true, (.cons (.iff (.cmp .eq (.sub (.var 0) (.cint 1)) (.cint 1)) (.cons (.asg (.tp [(.nm 3), (.nm 4)]) (.blt .divmod (.cons (.sub (.var 0) (.cint 0)) (.cons (.var 1) .nil)))) (.cons (.setAt 0 (.cint 0) (.var 3)) (.cons (.ret (.mv 4)) .nil))) .nil) (.cons (.set 2 (.bin .mod (.bin .mul (.bin .add (.bin .mod (.sub (.var 0) (.cint 0)) (.cint 2147483647)) (.cint 40503)) (.cint 69621)) (.cint 2147483629))) (.cons (.set 2 (.bin .mod (.bin .add (.bin .mul (.var 2) (.var 2)) (.cint 7817)) (.cint 2147483587))) (.cons (.setAt 0 (.cint 0) (.bin .mod (.bin .add (.bin .mul (.var 2) (.cint 48271)) (.cint 11)) (.cint 2147483629))) (.cons (.ret (.bin .mod (.bin .fdiv (.sub (.var 0) (.cint 0)) (.cint 32)) (.var 1))) .nil)))))⟩
def ir__law_whole : Fn := ⟨1, 1, false, (.cons (.ret (.and (.isi (.var 0) .int) (.one (.not (.isi (.var 0) .bool))))) .nil)⟩
def ir__law_odd : Fn := ⟨1, 2, true, (.cons (.set 1 (.lst (.cons .cnone (.cons (.cbool true) (.cons (.cbool false) (.cons (.neg (.cint 1)) (.cons (.cstr "1") (.cons (.cstr "") (.cons (.tup .nil) (.cons (.lst .nil) (.cons (.tup (.cons (.cint 0) .nil)) (.cons (.lst (.cons (.cint 0) .nil)) (.cons (.dic (.cons (.cstr "a") .nil) (.cons (.cint 1) .nil)) (.cons (.tup (.cons (.tup (.cons (.cint 0) .nil)) .nil)) (.cons (.bin .pow (.cint 10) (.cint 30)) (.cons (.tup (.cons (.tup (.cons (.cint 0) (.cons (.cint 1) .nil))) .nil)) (.cons (.tup (.cons (.cstr "ab") .nil)) .nil))))))))))))))))) (.cons (.ret (.sub (.bin .add (.var 1) (.lst (.cons (.tup (.cons (.tup (.cons (.cbool true) .nil)) .nil)) .nil))) (.callIo n__law_draw 0 (.cons (.cint 16) .nil)))) .nil))⟩
def ir__law_worth : Fn := ⟨1, 6, false, (.cons (.iff (.cmp .eq (.blt .len (.cons (.var 0) .nil)) (.cint 0)) (.cons (.ret (.cint 1)) .nil) .nil) (.cons (.set 1 (.cint 0)) (.cons (.for_ true (.tp [(.nm 2), (.nm 3)]) (.enum (.sub (.var 0) (.neg (.cint 1)))) (.cons (.set 4 (.bin .sub (.cint 1) (.bin .mul (.cint 2) (.bin .mod (.bin .add (.bin .sub (.blt .len (.cons (.var 0) .nil)) (.cint 1)) (.var 2)) (.cint 2))))) (.cons (.set 1 (.bin .add (.var 1) (.bin .mul (.bin .mul (.var 4) (.var 3)) (.call n__law_worth (.cons (.comp (.bin .add (.sli (.var 5) .nil (.cons (.var 2) .nil)) (.sli (.var 5) (.cons (.bin .add (.var 2) (.cint 1)) .nil) .nil)) (.nm 5) (.seq (.sli (.var 0) .nil (.cons (.neg (.cint 1)) .nil))) .nil) .nil))))) .nil))) (.cons (.ret (.mv 1)) .nil))))⟩
def ir__law_tells : Fn := ⟨1, 7, false, (.cons (.iff (.or (.not (.isi (.var 0) .tuple)) (.one (.inR true (.blt .len (.cons (.var 0) .nil)) (.cint 1) (.cint 4)))) (.cons (.ret (.cbool false)) .nil) .nil) (.cons (.set 1 (.blt .len (.cons (.var 0) .nil))) (.cons (.for_ false (.nm 2) (.seq (.var 0)) (.cons (.iff (.or (.not (.isi (.var 2) .tuple)) (.or (.cmp .ne (.blt .len (.cons (.var 2) .nil)) (.var 1)) (.one (.not (.blt .all (.cons (.comp (.call n__law_whole (.cons (.var 5) .nil)) (.nm 5) (.seq (.var 2)) .nil) .nil)))))) (.cons (.ret (.cbool false)) .nil) .nil) .nil)) (.cons (.iff (.cmp .ne (.comp (.cint 1) (.nm 3) (.range1 (.var 1)) (.cons (.cmp .ne (.comp (.sub (.sub (.var 0) (.var 6)) (.var 3)) (.nm 6) (.range1 (.var 1)) .nil) (.blt .list (.cons (.sub (.var 0) (.var 3)) .nil))) .nil)) (.lst .nil)) (.cons (.ret (.cbool false)) .nil) .nil) (.cons (.ret (.cmp .eq (.comp (.var 4) (.nm 4) (.range2 (.cint 1) (.bin .add (.var 1) (.cint 1))) (.cons (.cmp .lt (.call n__law_worth (.cons (.comp (.sli (.var 2) .nil (.cons (.var 4) .nil)) (.nm 2) (.seq (.sli (.var 0) .nil (.cons (.var 4) .nil))) .nil) .nil)) (.cint 1)) .nil)) (.lst .nil))) .nil)))))⟩
def ir__law_form : Fn := ⟨2, 13, true, (.cons (.set 2 (.lst .nil)) (.cons (.for_ true (.nm 3) (.range1 (.var 1)) (.cons (.set 6 (.comp (.bin .sub (.callIo n__law_draw 0 (.cons (.cint 5) .nil)) (.cint 2)) (.nm 7) (.range1 (.var 1)) .nil)) (.cons (.setAt 6 (.var 3) (.bin .add (.sub (.var 6) (.var 3)) (.sub (.lst (.cons (.cint 3) (.cons (.cint 1) (.cons (.cint 7) .nil)))) (.callIo n__law_draw 0 (.cons (.cint 3) .nil))))) (.cons (.app 2 (.mv 6)) .nil)))) (.cons (.set 4 (.lst .nil)) (.cons (.for_ true (.nm 5) (.seq (.var 2)) (.cons (.app 4 (.blt .tuple (.cons (.comp (.blt .sum (.cons (.comp (.bin .mul (.var 11) (.var 12)) (.tp [(.nm 11), (.nm 12)]) (.zip (.var 5) (.var 9)) .nil) .nil)) (.nm 9) (.seq (.var 2)) .nil) .nil))) .nil)) (.cons (.iff (.call n__law_tells (.cons (.blt .tuple (.cons (.var 4) .nil)) .nil)) (.cons (.ret (.blt .tuple (.cons (.var 4) .nil))) .nil) .nil) (.cons (.ret (.blt .tuple (.cons (.comp (.blt .tuple (.cons (.comp (.bin .mul (.bin .add (.cint 2) (.var 8)) (.blt .int (.cons (.cmp .eq (.var 8) (.var 10)) .nil))) (.nm 10) (.range1 (.var 1)) .nil) .nil)) (.nm 8) (.range1 (.var 1)) .nil) .nil))) .nil))))))⟩
def ir__law_small : Fn := ⟨2, 3, true, (.cons (.set 2 (.lst (.cons (.tup (.cons (.tup (.cons (.cint 1) .nil)) .nil)) (.cons (.tup (.cons (.tup (.cons (.cint 2) .nil)) .nil)) (.cons (.tup (.cons (.tup (.cons (.cint 5) .nil)) .nil)) .nil))))) (.cons (.iff (.cmp .eq (.var 1) (.cint 2)) (.cons (.set 2 (.lst (.cons (.tup (.cons (.tup (.cons (.cint 1) (.cons (.cint 0) .nil))) (.cons (.tup (.cons (.cint 0) (.cons (.cint 1) .nil))) .nil))) (.cons (.tup (.cons (.tup (.cons (.cint 2) (.cons (.cint 1) .nil))) (.cons (.tup (.cons (.cint 1) (.cons (.cint 2) .nil))) .nil))) (.cons (.tup (.cons (.tup (.cons (.cint 1) (.cons (.cint 0) .nil))) (.cons (.tup (.cons (.cint 0) (.cons (.cint 3) .nil))) .nil))) (.cons (.tup (.cons (.tup (.cons (.cint 2) (.cons (.neg (.cint 1)) .nil))) (.cons (.tup (.cons (.neg (.cint 1)) (.cons (.cint 5) .nil))) .nil))) (.cons (.tup (.cons (.tup (.cons (.cint 3) (.cons (.cint 4) .nil))) (.cons (.tup (.cons (.cint 4) (.cons (.cint 6) .nil))) .nil))) .nil))))))) (.cons (.set 2 (.bin .add (.var 2) (.lst (.cons (.tup (.cons (.tup (.cons (.cint 2) (.cons (.cint 1) .nil))) (.cons (.tup (.cons (.cint 1) (.cons (.cint 3) .nil))) .nil))) (.cons (.tup (.cons (.tup (.cons (.cint 4) (.cons (.cint 2) .nil))) (.cons (.tup (.cons (.cint 2) (.cons (.cint 4) .nil))) .nil))) (.cons (.tup (.cons (.tup (.cons (.cint 3) (.cons (.cint 1) .nil))) (.cons (.tup (.cons (.cint 1) (.cons (.cint 3) .nil))) .nil))) .nil)))))) .nil)) .nil) (.cons (.iff (.cmp .eq (.var 1) (.cint 3)) (.cons (.set 2 (.lst (.cons (.tup (.cons (.tup (.cons (.cint 1) (.cons (.cint 0) (.cons (.cint 0) .nil)))) (.cons (.tup (.cons (.cint 0) (.cons (.cint 1) (.cons (.cint 0) .nil)))) (.cons (.tup (.cons (.cint 0) (.cons (.cint 0) (.cons (.cint 1) .nil)))) .nil)))) (.cons (.tup (.cons (.tup (.cons (.cint 2) (.cons (.cint 1) (.cons (.cint 1) .nil)))) (.cons (.tup (.cons (.cint 1) (.cons (.cint 2) (.cons (.cint 1) .nil)))) (.cons (.tup (.cons (.cint 1) (.cons (.cint 1) (.cons (.cint 2) .nil)))) .nil)))) .nil)))) (.cons (.set 2 (.bin .add (.var 2) (.lst (.cons (.tup (.cons (.tup (.cons (.cint 1) (.cons (.cint 0) (.cons (.cint 0) .nil)))) (.cons (.tup (.cons (.cint 0) (.cons (.cint 2) (.cons (.cint 1) .nil)))) (.cons (.tup (.cons (.cint 0) (.cons (.cint 1) (.cons (.cint 2) .nil)))) .nil)))) (.cons (.tup (.cons (.tup (.cons (.cint 3) (.cons (.neg (.cint 1)) (.cons (.neg (.cint 1)) .nil)))) (.cons (.tup (.cons (.neg (.cint 1)) (.cons (.cint 3) (.cons (.neg (.cint 1)) .nil)))) (.cons (.tup (.cons (.neg (.cint 1)) (.cons (.neg (.cint 1)) (.cons (.cint 3) .nil)))) .nil)))) .nil))))) (.cons (.app 2 (.tup (.cons (.tup (.cons (.cint 2) (.cons (.cint 0) (.cons (.cint 1) .nil)))) (.cons (.tup (.cons (.cint 0) (.cons (.cint 2) (.cons (.cint 1) .nil)))) (.cons (.tup (.cons (.cint 1) (.cons (.cint 1) (.cons (.cint 3) .nil)))) .nil))))) .nil))) .nil) (.cons (.ret (.sub (.bin .add (.var 2) (.lst (.cons (.callIo n__law_form 0 (.cons (.var 1) .nil)) .nil))) (.callIo n__law_draw 0 (.cons (.bin .add (.blt .len (.cons (.var 2) .nil)) (.cint 1)) .nil)))) .nil))))⟩
def ir__law_bent_form : Fn := ⟨2, 12, true, (.cons (.set 2 (.blt .len (.cons (.var 1) .nil))) (.cons (.par 8 9 (.callIo n__law_draw 0 (.cons (.var 2) .nil)) (.callIo n__law_draw 0 (.cons (.var 2) .nil))) (.cons (.set 3 (.sub (.var 1) (.var 8))) (.cons (.set 4 (.sub (.lst (.cons (.bin .add (.sub (.var 3) (.var 9)) (.cint 1)) (.cons (.bin .sub (.cint 0) (.sub (.var 3) (.var 9))) (.cons (.cbool true) (.cons .cnone (.cons (.cstr "0") (.cons (.tup (.cons (.cint 0) .nil)) (.cons (.bin .sub (.bin .pow (.cint 10) (.cint 6)) (.cint 1)) (.cons (.cint 0) .nil))))))))) (.callIo n__law_draw 0 (.cons (.cint 8) .nil)))) (.cons (.set 5 (.lst (.cons (.bin .add (.bin .add (.sli (.var 3) .nil (.cons (.var 9) .nil)) (.tup (.cons (.var 4) .nil))) (.sli (.var 3) (.cons (.bin .add (.var 9) (.cint 1)) .nil) .nil)) (.cons (.sli (.var 3) (.cons (.cint 1) .nil) .nil) (.cons (.bin .add (.var 3) (.tup (.cons (.cint 0) .nil))) (.cons (.blt .list (.cons (.var 3) .nil)) (.cons .cnone (.cons (.rev (.var 3)) .nil)))))))) (.cons (.set 6 (.sub (.var 5) (.sub (.lst (.cons (.cint 0) (.cons (.cint 0) (.cons (.cint 0) (.cons (.cint 0) (.cons (.cint 1) (.cons (.cint 2) (.cons (.cint 3) (.cons (.cint 4) (.cons (.cint 5) .nil)))))))))) (.callIo n__law_draw 0 (.cons (.cint 9) .nil))))) (.cons (.set 7 (.lst (.cons (.bin .add (.bin .add (.sli (.var 1) .nil (.cons (.var 8) .nil)) (.tup (.cons (.var 6) .nil))) (.sli (.var 1) (.cons (.bin .add (.var 8) (.cint 1)) .nil) .nil)) (.cons (.sli (.var 1) (.cons (.cint 1) .nil) .nil) (.cons (.bin .add (.var 1) (.sli (.var 1) .nil (.cons (.cint 1) .nil))) (.cons (.blt .list (.cons (.var 1) .nil)) (.cons (.tup (.cons (.var 1) .nil)) (.cons (.sub (.var 1) (.cint 0)) (.cons (.tup .nil) .nil))))))))) (.cons (.app 7 (.blt .tuple (.cons (.comp (.blt .tuple (.cons (.comp (.bin .sub (.cint 0) (.var 11)) (.nm 11) (.seq (.var 10)) .nil) .nil)) (.nm 10) (.seq (.var 1)) .nil) .nil))) (.cons (.ret (.sub (.var 7) (.sub (.lst (.cons (.cint 0) (.cons (.cint 0) (.cons (.cint 0) (.cons (.cint 0) (.cons (.cint 0) (.cons (.cint 1) (.cons (.cint 2) (.cons (.cint 3) (.cons (.cint 4) (.cons (.cint 5) (.cons (.cint 6) (.cons (.cint 7) .nil))))))))))))) (.callIo n__law_draw 0 (.cons (.cint 12) .nil))))) .nil)))))))))⟩
def ir__law_due : Fn := ⟨1, 3, false, (.cons (.iff (.not (.call n__law_tells (.cons (.var 0) .nil))) (.cons (.ret (.cbool false)) .nil) .nil) (.cons (.ret (.cmp .lt (.blt .max (.cons (.comp (.blt .max (.cons (.comp (.blt .max (.cons (.var 2) (.cons (.bin .sub (.cint 0) (.var 2)) .nil))) (.nm 2) (.seq (.var 1)) .nil) .nil)) (.nm 1) (.seq (.var 0)) .nil) .nil)) (.bin .pow (.cint 10) (.cint 6)))) .nil))⟩
def ir__law_right : Fn := ⟨1, 2, false, (.cons (.set 1 (.call n_is_form (.cons (.var 0) .nil))) (.cons (.ret (.and (.isi (.var 1) .bool) (.and (.cmp .eq (.var 1) (.call n__law_due (.cons (.var 0) .nil))) (.one (.cmp .eq (.call n_is_form (.cons (.var 0) .nil)) (.var 1)))))) .nil))⟩
def ir_law : Fn := ⟨1, 14, false, (.cons (.set 1 (.lst (.cons (.tup (.cons (.tup (.cons (.cint 1) .nil)) .nil)) (.cons (.tup (.cons (.tup (.cons (.cint 0) .nil)) .nil)) (.cons (.tup (.cons (.tup (.cons (.neg (.cint 1)) .nil)) .nil)) (.cons (.tup (.cons (.tup (.cons (.cbool true) .nil)) .nil)) (.cons (.tup (.cons (.tup (.cons (.bin .pow (.cint 10) (.cint 6)) .nil)) .nil)) (.cons (.tup (.cons (.tup (.cons (.bin .sub (.bin .pow (.cint 10) (.cint 6)) (.cint 1)) .nil)) .nil)) (.cons (.tup .nil) (.cons (.tup (.cons (.tup .nil) .nil)) (.cons (.tup (.cons (.tup (.cons (.cint 1) (.cons (.cint 2) .nil))) (.cons (.tup (.cons (.cint 2) (.cons (.cint 4) .nil))) .nil))) .nil))))))))))) (.cons (.set 1 (.bin .add (.var 1) (.lst (.cons (.tup (.cons (.tup (.cons (.cint 1) (.cons (.cint 2) .nil))) (.cons (.tup (.cons (.cint 2) (.cons (.cint 5) .nil))) .nil))) (.cons (.tup (.cons (.tup (.cons (.cint 1) (.cons (.cint 0) .nil))) (.cons (.tup (.cons (.cint 1) (.cons (.cint 1) .nil))) .nil))) (.cons (.tup (.cons (.tup (.cons (.cint 2) (.cons (.cint 1) .nil))) (.cons (.tup (.cons (.cint 1) (.cons (.cint 1) .nil))) (.cons (.tup (.cons (.cint 0) (.cons (.cint 0) .nil))) .nil)))) (.cons (.tup (.cons (.tup (.cons (.cint 1) (.cons (.cint 0) (.cons (.cint 0) .nil)))) (.cons (.tup (.cons (.cint 0) (.cons (.cint 1) (.cons (.cint 1) .nil)))) (.cons (.tup (.cons (.cint 0) (.cons (.cint 1) (.cons (.cint 1) .nil)))) .nil)))) .nil))))))) (.cons (.set 2 (.blt .tuple (.cons (.comp (.blt .tuple (.cons (.comp (.blt .int (.cons (.cmp .eq (.var 9) (.var 11)) .nil)) (.nm 11) (.range1 (.cint 4)) .nil) .nil)) (.nm 9) (.range1 (.cint 4)) .nil) .nil))) (.cons (.for_ false (.nm 3) (.seq (.bin .add (.var 1) (.lst (.cons (.tup (.cons (.tup (.cons (.cint 1) (.cons (.cint 0) .nil))) (.cons (.tup (.cons (.cint 0) (.cons (.neg (.cint 1)) .nil))) .nil))) (.cons (.lst (.cons (.lst (.cons (.cint 1) .nil)) .nil)) (.cons (.tup (.cons (.lst (.cons (.cint 1) .nil)) .nil)) (.cons (.cint 1) (.cons (.bin .mul (.tup (.cons (.tup (.cons (.cint 1) (.cons (.cint 0) (.cons (.cint 0) (.cons (.cint 0) .nil))))) .nil)) (.cint 4)) (.cons (.var 2) .nil))))))))) (.cons (.iff (.not (.call n__law_right (.cons (.var 3) .nil))) (.cons (.ret (.cbool false)) .nil) .nil) .nil)) (.cons (.for_ false (.nm 4) (.seq (.bin .add (.lst (.cons (.call n__law_cell (.cons (.var 0) (.cons (.cint 0) .nil))) .nil)) (.sli (.var 0) (.cons (.cint 1) .nil) (.cons (.cint 6) .nil)))) (.cons (.set 5 (.call n__law_pen (.cons (.var 4) .nil))) (.cons (.set 6 (.bin .add (.cint 1) (.callIo n__law_draw 5 (.cons (.cint 3) .nil)))) (.cons (.set 7 (.callIo n__law_small 5 (.cons (.var 6) .nil))) (.cons (.set 8 (.comp (.bin .mul (.lst (.cons (.cint 0) .nil)) (.var 6)) (.nm 9) (.range1 (.var 6)) .nil)) (.cons (.for_ false (.nm 9) (.range1 (.var 6)) (.cons (.for_ true (.nm 11) (.range1 (.bin .add (.var 9) (.cint 1))) (.cons (.setAt2 8 (.var 9) (.var 11) (.bin .sub (.callIo n__law_draw 5 (.cons (.cint 7) .nil)) (.cint 2))) (.cons (.setAt2 8 (.var 11) (.var 9) (.sub (.sub (.var 8) (.var 9)) (.var 11))) .nil))) .nil)) (.cons (.set 10 (.blt .tuple (.cons (.comp (.blt .tuple (.cons (.var 12) .nil)) (.nm 12) (.seq (.var 8)) .nil) .nil))) (.cons (.for_ false (.nm 3) (.seq (.bin .add (.lst (.cons (.var 7) (.cons (.var 10) (.cons (.callIo n__law_odd 5 .nil) .nil)))) (.comp (.callIo n__law_bent_form 5 (.cons (.var 7) .nil)) (.nm 13) (.range1 (.cint 5)) .nil))) (.cons (.iff (.not (.call n__law_right (.cons (.var 3) .nil))) (.cons (.ret (.cbool false)) .nil) .nil) .nil)) .nil)))))))) (.cons (.ret (.cbool true)) .nil))))))⟩
def fns : List (Str × Fn) := [(n_is_whole, ir_is_whole), (n_are_wholes, ir_are_wholes), (n_worth, ir_worth), (n_is_square, ir_is_square), (n_tells_lengths, ir_tells_lengths), (n_is_form, ir_is_form), (n__law_cell, ir__law_cell), (n__law_pen, ir__law_pen), (n__law_draw, ir__law_draw), (n__law_whole, ir__law_whole), (n__law_odd, ir__law_odd), (n__law_worth, ir__law_worth), (n__law_tells, ir__law_tells), (n__law_form, ir__law_form), (n__law_small, ir__law_small), (n__law_bent_form, ir__law_bent_form), (n__law_due, ir__law_due), (n__law_right, ir__law_right), (n_law, ir_law)]
def T (f : Str) : Option Fn := tblT fns f
theorem pens : Pens T := ⟨by kernel_rfl, by kernel_rfl, by kernel_rfl⟩
def sq (n : Nat) : Pt := .tup (List.replicate n (.tup (List.replicate n (.int (-100000) 100000))))
def cfg (f : Str) : Cfg := if sEq f n_is_form || sEq f n__law_due then ⟨1000, false, true⟩ else if sEq f n_tells_lengths || sEq f n__law_tells || sEq f n_worth || sEq f n__law_worth then ⟨1000, false, false⟩ else ⟨1, true, false⟩
def pW (n : Nat) : PCon := ⟨n_worth, 16, [rowsL n], detN n⟩
def ps : List PCon := [pW 1, pW 2, pW 3]
def kRight (p : Pt) : Con := ⟨n__law_right, 19, true, [p], .tru true, false⟩
def kTells (p : Pt) : Con := ⟨n__law_tells, 17, true, [p], .bool, false⟩
def kAW (n : Nat) (p : Pt) : Con := ⟨n_are_wholes, 15, true, [p, .int n n], .bool, true⟩
def cA : List Con := [kAW 1 (.any 9 false), kAW 2 (.any 9 false), kAW 3 (.any 9 false)]
def c0 : List Con := [kRight (.any 10 true), kTells (.any 10 true)]
def kOdd : Con := ⟨n__law_odd, 19, true, [.pen], .any 3 true, false⟩
def kSm (n : Nat) : Con := ⟨n__law_small, 19, true, [.pen, .int n n], sq n, false⟩
def kBe (n : Nat) : Con := ⟨n__law_bent_form, 19, true, [.pen, sq n], .any 6 false, false⟩
def cM : List Con := [kSm 1, kSm 2, kSm 3, kBe 1, kBe 2, kBe 3, kOdd]
theorem hps1 : [pW 1, pW 2].all (chkP T cfg [] []) = true := by decide +kernel
theorem hps3 : [pW 3].all (chkP T cfg [] []) = true := by decide +kernel
theorem hps : ∀ c ∈ ps, PCTrue T c := chkP_all (cfg := cfg) pens nil_c nil_p (all_cut 2 hps1 hps3)
theorem hA1 : ∀ p ∈ rowG 1 :: rowB 8 1, CTrue T (kAW 1 p) := chk_map (cfg := cfg) pens nil_c nil_p (by decide +kernel)
theorem hA2 : ∀ p ∈ rowG 2 :: rowB 8 2, CTrue T (kAW 2 p) := chk_map (cfg := cfg) pens nil_c nil_p (by decide +kernel)
theorem hA3 : ∀ p ∈ rowG 3 :: rowB 8 3, CTrue T (kAW 3 p) := chk_map (cfg := cfg) pens nil_c nil_p (by decide +kernel)
theorem hA : ∀ c ∈ cA, CTrue T c := cons_c (con_cases2 (row_any (by decide)) rfl hA1) (cons_c (con_cases2 (row_any (by decide)) rfl hA2) (cons_c (con_cases2 (row_any (by decide)) rfl hA3) nil_c))
theorem hT0 : ∀ p ∈ tabs 8, CTrue T (kTells p) := chk_map (cfg := cfg) pens hA hps (by decide +kernel)
def kTL (p : Pt) : Con := ⟨n_tells_lengths, 17, true, [p], .bool, false⟩
def cB : List Con := [kTL (tabG 1), kTL (tabG 2), kTL (tabG 3), kTells (tabG 1), kTells (tabG 2), kTells (tabG 3)]
theorem hB0 : ∀ c ∈ [kTL (tabG 1), kTL (tabG 2), kTL (tabG 3)], CTrue T c := chk_all (cfg := cfg) pens hA hps (by decide +kernel)
theorem hB : ∀ c ∈ cB, CTrue T c := app_c hB0 (cons_c (hT0 _ (by simp [tabs])) (cons_c (hT0 _ (by simp [tabs])) (cons_c (hT0 _ (by simp [tabs])) nil_c)))
theorem hR1 : ∀ p ∈ [tabS 1, tabS 2, tabS 3], CTrue T (kRight p) := chk_map (cfg := cfg) pens hA hps (by decide +kernel)
theorem cR2_0 : ((tabL 1 ++ tabL 2 ++ tabL 3).take 7).all (fun p => chk T cfg cB ps (kRight p)) = true := by decide +kernel
theorem cR2_1 : (((tabL 1 ++ tabL 2 ++ tabL 3).drop 7).take 7).all (fun p => chk T cfg cB ps (kRight p)) = true := by decide +kernel
theorem cR2_2 : ((((tabL 1 ++ tabL 2 ++ tabL 3).drop 7).drop 7).take 7).all (fun p => chk T cfg cB ps (kRight p)) = true := by decide +kernel
theorem cR2_3 : ((((tabL 1 ++ tabL 2 ++ tabL 3).drop 7).drop 7).drop 7).all (fun p => chk T cfg cB ps (kRight p)) = true := by decide +kernel
theorem hR2 : ∀ p ∈ tabL 1 ++ tabL 2 ++ tabL 3, CTrue T (kRight p) := chk_map (cfg := cfg) pens hB hps (all_cut 7 cR2_0 (all_cut 7 cR2_1 (all_cut 7 cR2_2 cR2_3)))
theorem cR3_0 : ((thingB 8).take 7).all (fun p => chk T cfg cA ps (kRight p)) = true := by decide +kernel
theorem cR3_1 : (((thingB 8).drop 7).take 7).all (fun p => chk T cfg cA ps (kRight p)) = true := by decide +kernel
theorem cR3_2 : ((((thingB 8).drop 7).drop 7).take 7).all (fun p => chk T cfg cA ps (kRight p)) = true := by decide +kernel
theorem cR3_3 : (((((thingB 8).drop 7).drop 7).drop 7).take 7).all (fun p => chk T cfg cA ps (kRight p)) = true := by decide +kernel
theorem cR3_4 : ((((((thingB 8).drop 7).drop 7).drop 7).drop 7).take 7).all (fun p => chk T cfg cA ps (kRight p)) = true := by decide +kernel
theorem cR3_5 : (((((((thingB 8).drop 7).drop 7).drop 7).drop 7).drop 7).take 7).all (fun p => chk T cfg cA ps (kRight p)) = true := by decide +kernel
theorem cR3_6 : (((((((thingB 8).drop 7).drop 7).drop 7).drop 7).drop 7).drop 7).all (fun p => chk T cfg cA ps (kRight p)) = true := by decide +kernel
theorem hR3 : ∀ p ∈ thingB 8, CTrue T (kRight p) := chk_map (cfg := cfg) pens hA hps (all_cut 7 cR3_0 (all_cut 7 cR3_1 (all_cut 7 cR3_2 (all_cut 7 cR3_3 (all_cut 7 cR3_4 (all_cut 7 cR3_5 cR3_6))))))
theorem hR0 : ∀ p ∈ tabsL ++ thingB 8, CTrue T (kRight p) := fun p hp => by
  rcases List.mem_append.mp hp with z | z
  · rcases List.mem_append.mp (show p ∈ [tabS 1, tabS 2, tabS 3] ++ (tabL 1 ++ tabL 2 ++ tabL 3) from z) with y | y
    · exact hR1 p y
    · exact hR2 p y
  · exact hR3 p z
theorem h0 : ∀ c ∈ c0, CTrue T c := cons_c (con_cases thing_anyL rfl hR0) (cons_c (con_cases thing_any rfl hT0) nil_c)
theorem hM : ∀ c ∈ cM, CTrue T c := chk_all (cfg := cfg) pens h0 hps (by decide +kernel)
theorem hrun : allTrue (aCall T (plan cfg (cM ++ c0) ps) 20 "law" [.scr] S0) = true := by decide +kernel
theorem hlaw0 (ns : List Int) (h : ns.length ≤ 63) : callN T 20 "law" [.scr ns] = .ok (.bool true) .none := law_run pens (app_c hM h0) hps (fn := ir_law) (by kernel_rfl) rfl hrun ns h
def dOf (i : Nat) (ir : Fn) (N : List Str) : Def := match PySem.Challenge.pw_lengthcounts_k01_what_is_a_form.main.body[i]? with
  | some (.FunctionDef n a b _ _ _ sc _ _ _) => ⟨n, a, b, sc, ir, N⟩
  | _ => ⟨"", ⟨[], [], none, [], [], none, []⟩, [], ⟨.function, [], false, false, []⟩, ir, N⟩
def tab : List Def := [dOf 1 ir_is_whole ["thing"],
  dOf 2 ir_are_wholes ["thing", "many", "one"],
  dOf 6 ir_worth ["rows", "found", "at", "number", "row"],
  dOf 7 ir_is_square ["thing", "row"],
  dOf 8 ir_tells_lengths ["thing", "size", "i", "many", "j", "row"],
  dOf 9 ir_is_form ["thing", "row", "one"],
  dOf 11 ir__law_cell ["_law_script", "_law_k"],
  dOf 12 ir__law_pen ["_law_cell_here", "_law_left"],
  dOf 13 ir__law_draw ["_law_pen_here", "_law_many", "_law_stir", "_law_left", "_law_found"],
  dOf 14 ir__law_whole ["_law_thing"],
  dOf 15 ir__law_odd ["_law_pen_here", "_law_some"],
  dOf 16 ir__law_worth ["_law_rows", "_law_found", "_law_at", "_law_number", "_law_sign", "_law_row"],
  dOf 17 ir__law_tells ["_law_thing", "_law_size", "_law_row", "_law_i", "_law_many", "_law_one", "_law_j"],
  dOf 18 ir__law_form ["_law_pen_here", "_law_size", "_law_rows", "_law_at", "_law_form_here", "_law_one", "_law_row", "_law_place", "_law_i", "_law_other", "_law_j", "_law_first", "_law_second"],
  dOf 19 ir__law_small ["_law_pen_here", "_law_size", "_law_some"],
  dOf 20 ir__law_bent_form ["_law_pen_here", "_law_form_here", "_law_size", "_law_row", "_law_odd_here", "_law_rows", "_law_here", "_law_some", "_law_at", "_law_to", "_law_line", "_law_one"],
  dOf 21 ir__law_due ["_law_thing", "_law_row", "_law_one"],
  dOf 22 ir__law_right ["_law_thing", "_law_found"],
  dOf 23 ir_law ["_law_script", "_law_some", "_law_four", "_law_thing", "_law_cell_here", "_law_pen_here", "_law_size", "_law_form_here", "_law_rows", "_law_i", "_law_drawn", "_law_j", "_law_row", "_law_turn"]]
def gs : List Gc := [.int "MOST_SIZE" 3, .int "BEYOND" 1000000]
def loose : List Str := ["is_whole", "are_wholes", "worth", "is_square", "tells_lengths", "is_form", "_law_cell", "_law_pen", "_law_draw", "_law_whole", "_law_odd", "_law_worth", "_law_tells", "_law_form", "_law_small", "_law_bent_form", "_law_due", "_law_right", "MOST_SIZE", "BEYOND"]
theorem hnd : nodupB (tab.map (·.name)) = true := by decide +kernel
theorem hck : tab.all (okDef (gs.map Gc.gl) (tabF tab)) = true := by decide +kernel
theorem hfns : tab.map (fun d => (d.name, d.ir)) = fns := by kernel_rfl
theorem hlaw (ns : List Int) (h : ns.length ≤ 63) : callN (tabT tab) 20 "law" [.scr ns] = .ok (.bool true) .none := by
  rw [tblT_eq hfns]
  exact hlaw0 ns h
abbrev R : PySem.W.OpenRow := PySem.W.OpenLaw.row PySem.Challenge.rw_lengthcounts_k01_what_is_a_form
def fnl : List He.DefD := tab.map Def.toD
def fal : List He.Fa := faOf tab gs
abbrev hk : PySem.W.Hook := He.hookD 4 fal fnl
def ob (s : PySem.W.SharedT) : He.AlD := He.obsDG 4 fal fnl (HandSHeadRun.getT s)
theorem ob_eq (s : PySem.W.SharedT) : ob s = hk.obs s.abs := He.obsDG_eq (HandSHeadRun.getT_eq s)
theorem run (w : World) : HandSHeadRun.RunEq R (PySem.W.view R.prog [23]) hk ob 2000 loose w := by
  intro os
  kernel_rfl
def lawD : Def := tab.getD 18 ⟨"", ⟨[], [], none, [], [], none, []⟩, [], ⟨.function, [], false, false, []⟩, ⟨0, 0, false, .nil⟩, []⟩
theorem lawD_in : lawD ∈ tab := by
  have : lawD = tab[18]'(by decide +kernel) := rfl
  rw [this]
  exact List.getElem_mem _
theorem lawD_n : lawD.name = "law" := by kernel_rfl
theorem lawD_ps : lawD.ps = [("_law_script" : Str)] := by kernel_rfl
end K01
open PySem PySem.W PySem.Calls PyProof.Rows
theorem PySem.Challenge.cw_lengthcounts_k01_what_is_a_form_holds : PySem.Challenge.rw_lengthcounts_k01_what_is_a_form.Holds := by
  w_on; o_law
  refine HandSHeadRun.head_any (r := OpenLaw.row PySem.Challenge.rw_lengthcounts_k01_what_is_a_form) (q := view (OpenLaw.row PySem.Challenge.rw_lengthcounts_k01_what_is_a_form).prog [23]) (H := K01.hk) (ob := K01.ob) (M := 2000) (loose := K01.loose) (d := HandSHeadRun.topDef (OpenLaw.row PySem.Challenge.rw_lengthcounts_k01_what_is_a_form).prog 23) (kwd := []) K01.ob_eq
    (by kernel_rfl) (fun s => by kernel_rfl) K01.run (by kernel_rfl) (by kernel_rfl) (by kernel_rfl) (by rfl) (by first | assumption | decide +kernel) (by decide +kernel) ⟨rfl, rfl, rfl, rfl, rfl, by decide +kernel⟩ ?hw ?hc
  case hw => w_witness2
  case hc =>
    refine L2.walk_ofE (l := PySem.Challenge.rw_lengthcounts_k01_what_is_a_form) (n := 63) (k := 20) (x := "_law_script") (CX := L2.CX0) rfl (by decide) (by kernel_rfl) ⟨rfl, by decide, by decide⟩ ?F (fun _ _ _ _ z => z)
    intro w mg fa h Y G hmg0
    obtain ⟨K, KX, c⟩ := Y
    have hmg : mg ("law" : PySem.Str) = some (.ref fa) := by
      have e : (HandSHeadRun.topDef (OpenLaw.row PySem.Challenge.rw_lengthcounts_k01_what_is_a_form).prog 23).name = ("law" : PySem.Str) := by kernel_rfl
      rw [← e]
      exact hmg0
    obtain ⟨fd, sp, hb, hs, hF⟩ := LC.law_fn (P := (PySem.Challenge.rw_lengthcounts_k01_what_is_a_form).prog) (w := w) K01.hck K01.hnd K01.lawD_in K01.lawD_n K01.lawD_ps rfl rfl KX G hmg c 20 K01.hlaw
    exact ⟨K, fd, sp, KX, hb, hs, hF⟩
end
