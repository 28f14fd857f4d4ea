import PyProof.Rows.All
import Wide.All
import OpenK.AllK
import Wide.FinOn
import HandS.ForMost
import HandS.ForExc
import PyProof.StrOps2
import HandS.IsInst
import HandS.SortInts
import HandS.TupLen
import HandS.Replace
import HandS.Comp
import HandS.Flow
import PyProof.Rows.SetFrom
import PyProof.StrWalks
import HandS.Strs
import HandS.SetFor
import PyProof.CollectStr
import PyProof.ListNew
import PyProof.Rows.SortShellAny
import HandS.Conv
import PyProof.WalkInts
import PyProof.Rows.CallKwBuiltin
import HandS.SortKw
import HandS.Small
import HandS.Defaults
import HandS.Base
import HandS.Call
import HandS.Ends
import KE.KStateDown
import HandS.More
import HandS.Words
import HandS.WordsExc
import HandS.Head0
import HandS.Head1
import HandS.Head2
import HandS.HeadEnd
import HandS.HeadHook1
import HandS.HeadHook2
import PySem.Challenge.RW_rulescan_k01_signs
set_option Elab.async false
set_option linter.all false
set_option maxRecDepth 100000
/-! Il: a small language of plain data, its terms and its evaluator. -/
namespace Il
inductive DK where
  | k | t | x | y
  deriving DecidableEq
inductive AK where
  | non | int (i : Int) | str (cs : List Nat)
  deriving DecidableEq
inductive Ky where
  | a (k : AK) | t (ks : List AK)
  deriving DecidableEq
/-- plain data; the flag o: owned (may be changed in place) -/
inductive D where
  | non | bl (b : Bool) | int (i : Int) | str (cs : List Nat)
  | lst (o : Bool) (xs : List D)
  | tup (o : Bool) (xs : List D)
  | dct (k : DK) (o : Bool) (ks : List Ky) (vs : List D)
  | ins (c : Nat) (fs : List D)
  | scr (ns : List Int)
abbrev Env := List (Option D)
inductive B2 where
  | add | sub | mul | fdiv | mod | pow
  | eq | ne | lt | le | gt | ge | isIn | notIn
  | find | index | join | get1
  deriving DecidableEq
inductive B1 where
  | neg | len | int | any | lenset | sorted | sortset | list | tuple | max1 | min1
  deriving DecidableEq
inductive Ty where
  | int | bool | str | tuple | list
  deriving DecidableEq
inductive IK where
  | it | rng1 | rng2 | enum | zip | dict
  deriving DecidableEq
inductive IE where
  | nop
  | var (i : Nat) | shr (i : Nat) | mv (i : Nat)
  | non | bl (b : Bool) | int (i : Int) | str (cs : List Nat) | gint (k : Nat) (i : Int)
  | op1 (o : B1) (a : IE)
  | op2 (o : B2) (a b : IE)
  | op3 (o : Nat) (a b c : IE)
  | chain (o1 o2 : B2) (a b c : IE)
  | isN (neg : Bool) (a : IE)
  | isi (a : IE) (t : Ty)
  | band (a b : IE) | bor (a b : IE) | not (a : IE)
  | ite (c a b : IE)
  | ix (a b : IE)
  | slc (a lo hi : IE)
  | lst (es : List IE) | tup (es : List IE)
  | dic (k : DK) (ks vs : List IE)
  | comp (s : Nat) (k : IK) (args : List IE) (elt tst : IE)
  | call (f : Nat) (args : List IE) (back : List Nat)
  | mcall (f : Nat) (args : List IE) (back : List Nat)
  | fld (i j : Nat)
  | pop (i : Nat)
  | setd (i : Nat) (a b : IE)
  | mk (c : Nat)
  | brw (a : IE)
  | sh (a : IE)
def IE.isNop : IE → Bool
  | .nop => true
  | _ => false
/-- a result: a value (quiet: nothing owned was changed), or an exception -/
inductive R (α : Type) where
  | ok (a : α) (q : Bool) (e : Env)
  | ex (c : Nat) (e : Env)
inductive Out where
  | ret (d : D) (os : List D)
  | ex (c : Nat)
abbrev Gam := Nat → List D → Option Out

def D.own : D → Bool
  | .lst o _ => o
  | .tup o _ => o
  | .dct _ o _ _ => o
  | .ins _ _ => true
  | _ => false
mutual
/-- all flags down; none for what holds an instance -/
def D.erase : D → D
  | .non => .non
  | .bl b => .bl b
  | .int i => .int i
  | .str s => .str s
  | .lst _ xs => .lst false (eraseL xs)
  | .tup _ xs => .tup false (eraseL xs)
  | .dct k _ ks vs => .dct k false ks (eraseL vs)
  | .ins c fs => .ins c fs
  | .scr ns => .scr ns
def eraseL : List D → List D
  | [] => []
  | d :: ds => D.erase d :: eraseL ds
end
mutual
/-- no instance within -/
def D.pure : D → Bool
  | .lst _ xs => pureL xs
  | .tup _ xs => pureL xs
  | .dct _ _ _ vs => pureL vs
  | .ins _ _ => false
  | _ => true
def pureL : List D → Bool
  | [] => true
  | d :: ds => D.pure d && pureL ds
end
def noOwn (xs : List D) : Bool := xs.all fun d => !d.own
mutual
/-- nothing shared within: made anew, or flat -/
def D.closed : D → Bool
  | .lst o xs => o && closedL xs
  | .tup o xs => o && closedL xs
  | .dct _ o _ vs => o && closedL vs
  | .ins _ _ => false
  | .scr _ => false
  | _ => true
def closedL : List D → Bool
  | [] => true
  | d :: ds => D.closed d && closedL ds
end
def pureEnv (e : Env) : Bool := e.all fun | some d => d.pure | none => true
def eraseEnv (e : Env) : Env := e.map fun | some d => some d.erase | none => none
/-- given over: the flags go down -/
def D.freeze : D → Option D
  | .lst _ xs => if noOwn xs then some (.lst false xs) else if pureL xs then some (.lst false (eraseL xs)) else none
  | .tup _ xs => if noOwn xs then some (.tup false xs) else if pureL xs then some (.tup false (eraseL xs)) else none
  | .dct k _ ks vs => if noOwn vs then some (.dct k false ks vs) else if pureL vs then some (.dct k false ks (eraseL vs)) else none
  | .ins _ _ => none
  | d => some d
/-- what is new: kept owned (w), or shared -/
def fin (w : Bool) (d : D) (q : Bool) (e : Env) : Option (R D) :=
  if w then some (.ok d q e) else match d.freeze with
  | some d' => some (.ok d' q e)
  | none => none
def bnd {α β : Type} : Option (R α) → (α → Bool → Env → Option (R β)) → Option (R β)
  | some (.ok a q e), f => f a q e
  | some (.ex c e), _ => some (.ex c e)
  | none, _ => none

def line : Nat := 16777216

/-! ### equality -/
mutual
def eqb : D → D → Bool
  | .non, .non => true
  | .bl a, .bl b => a == b
  | .bl a, .int j => (if a then 1 else 0) == j
  | .int i, .bl b => i == (if b then 1 else 0)
  | .int i, .int j => i == j
  | .str x, .str y => x == y
  | .lst _ xs, .lst _ ys => eqbL xs ys
  | .tup _ xs, .tup _ ys => eqbL xs ys
  | _, _ => false
def eqbL : List D → List D → Bool
  | [], [] => true
  | x :: xs, y :: ys => eqb x y && eqbL xs ys
  | _, _ => false
end
mutual
def D.depth : D → Nat
  | .lst _ xs => depthL xs + 1
  | .tup _ xs => depthL xs + 1
  | _ => 0
def depthL : List D → Nat
  | [] => 0
  | x :: xs => max (D.depth x) (depthL xs)
end
mutual
def D.flat : D → Bool
  | .non => true
  | .bl _ => true
  | .int _ => true
  | .str s => s.all (· < 0x110000)
  | .lst _ xs => flatL xs
  | .tup _ xs => flatL xs
  | _ => false
def flatL : List D → Bool
  | [] => true
  | x :: xs => D.flat x && flatL xs
end
def eqOk (d : D) : Bool := d.flat && decide (d.depth ≤ 64)
def scalar : D → Bool
  | .non => true
  | .bl _ => true
  | .int _ => true
  | .str _ => true
  | _ => false
/-- == : two of like flat kinds by the quick rule, else data at any depth -/
def eqD (a b : D) : Option Bool := if eqOk a && eqOk b then some (eqb a b) else none

/-! ### keys -/
def akey : D → Option AK
  | .non => some .non
  | .int i => some (.int i)
  | .str s => some (.str s)
  | _ => none
def akeys : List D → Option (List AK)
  | [] => some []
  | d :: ds => match akey d, akeys ds with
    | some k, some ks => some (k :: ks)
    | _, _ => none
def key : D → Option Ky
  | .tup false xs => (akeys xs).map Ky.t
  | d => (akey d).map Ky.a
def akPlain : AK → Bool
  | .non => false
  | _ => true
def kyOk (k : DK) : Ky → Bool
  | .a a => match k with
    | .k => akPlain a
    | _ => false
  | .t as => match k with
    | .t => as.all akPlain
    | _ => false
def look : List Ky → List D → Ky → Option D
  | k :: ks, v :: vs, q => if k = q then some v else look ks vs q
  | _, _, _ => none
def put : List Ky → List D → Ky → D → List Ky × List D
  | k :: ks, v :: vs, q, d => if k = q then (k :: ks, d :: vs) else ((k :: (put ks vs q d).1), (v :: (put ks vs q d).2))
  | _, _, q, d => ([q], [d])
def kyD : Ky → D
  | .a .non => .non
  | .a (.int i) => .int i
  | .a (.str s) => .str s
  | .t as => .tup false (as.map fun | .non => .non | .int i => .int i | .str s => .str s)

/-! ### places -/
def ixN (n : Nat) (i : Int) : Option Nat := if 0 ≤ i then (if i < n then some i.toNat else none) else if -(n : Int) ≤ i then some (i + n).toNat else none
def atI {α : Type} (xs : List α) (i : Int) : Option α := (ixN xs.length i).bind fun j => xs[j]?
def sIx (n d : Nat) : Option Int → Nat
  | none => d
  | some v => if v < 0 then (v + (n : Int)).toNat else min v.toNat n
def cutL {α : Type} (xs : List α) (lo hi : Option Int) : List α := (xs.drop (sIx xs.length 0 lo)).take (sIx xs.length xs.length hi - sIx xs.length 0 lo)
def ixD (a b : D) : Option D := match a, b with
  | .lst _ xs, .int i => atI xs i
  | .tup _ xs, .int i => atI xs i
  | .scr ns, .int i => (atI ns i).map D.int
  | .str s, .int i => if s.length ≤ line then (atI s i).map fun c => .str [c] else none
  | .dct kd _ ks vs, d => match key d with
    | some q => if kyOk kd q then look ks vs q else none
    | none => none
  | _, _ => none
def slcD (a : D) (lo hi : Option Int) : Option D := match a with
  | .lst _ xs => if noOwn xs then some (.lst true (cutL xs lo hi)) else none
  | .str s => if s.length ≤ line then some (.str (cutL s lo hi)) else none
  | _ => none

/-! ### operators -/
def intsD : List D → Option (List Int)
  | [] => some []
  | .int i :: ds => (intsD ds).map fun is => i :: is
  | _ :: _ => none
def strsD : List D → Option (List (List Nat))
  | [] => some []
  | .str s :: ds => (strsD ds).map fun ss => s :: ss
  | _ :: _ => none
def boolsD : List D → Option (List Bool)
  | [] => some []
  | .bl b :: ds => (boolsD ds).map fun bs => b :: bs
  | _ :: _ => none
def insI (i : Int) : List Int → List Int
  | [] => [i]
  | j :: js => if i ≤ j then i :: j :: js else j :: insI i js
def sortI : List Int → List Int
  | [] => []
  | i :: is => insI i (sortI is)
def leS (a b : List Nat) : Bool := !decide (b < a)
def insS (i : List Nat) : List (List Nat) → List (List Nat)
  | [] => [i]
  | j :: js => if leS i j then i :: j :: js else j :: insS i js
def sortS : List (List Nat) → List (List Nat)
  | [] => []
  | i :: is => insS i (sortS is)
def small64 (i : Int) : Bool := Nat.ble i.natAbs 18446744073709551615
theorem small64_iff {i : Int} : small64 i = true ↔ (-(2 ^ 64) < i ∧ i < 2 ^ 64) := by
  have e : (2 : Int) ^ 64 = 18446744073709551616 := by decide
  unfold small64
  rw [Nat.ble_eq, e]
  omega
def scalD (a b : D) : Option Bool := match a, b with
  | .non, .non => some true
  | .non, .int _ => some false
  | .int _, .non => some false
  | .non, .str _ => some false
  | .str _, .non => some false
  | .bl x, .bl y => some (x == y)
  | .int i, .int j => some (i == j)
  | .str x, .str y => some (x == y)
  | a, b => eqD a b
def inL (d : D) (xs : List D) : Option Bool := if scalar d && (xs.all scalar) then some (xs.any fun x => eqb x d) else none
def inD (a b : D) : Option Bool := match b with
  | .lst _ xs => inL a xs
  | .tup _ xs => inL a xs
  | .str s => match a with
    | .str [c] => some (decide (c ∈ s))
    | _ => none
  | .dct kd _ ks vs => match key a with
    | some q => if kyOk kd q then some (look ks vs q).isSome else none
    | none => none
  | _ => none
def joinS (sep : List Nat) : List (List Nat) → List Nat
  | [] => []
  | [x] => x
  | x :: y :: r => x ++ sep ++ joinS sep (y :: r)
def idxOf? (c : Nat) : List Nat → Option Nat
  | [] => none
  | x :: xs => if x = c then some 0 else (idxOf? c xs).map (· + 1)
def findI (c : Nat) (s : List Nat) : Int := match idxOf? c s with
  | some i => (i : Int)
  | none => -1
def one? : D → Option Nat
  | .str s => match s with
    | [c] => some c
    | _ => none
  | _ => none
def recvOk (o : B2) (a : D) : Bool := match o with
  | .find => (match a with | .str _ => true | _ => false)
  | .index => (match a with | .str _ => true | _ => false)
  | .join => (match a with | .str _ => true | _ => false)
  | .get1 => (match a with | .dct _ _ _ _ => true | _ => false)
  | _ => true
def sem2 (o : B2) (a b : D) : Option D := match o with
  | .add => match a, b with
    | .int i, .int j => some (.int (i + j))
    | .str x, .str y => if x.length + y.length ≤ line then some (.str (x ++ y)) else none
    | .lst _ xs, .lst _ ys => if noOwn xs && noOwn ys && decide (xs.length + ys.length ≤ line) then some (.lst true (xs ++ ys)) else none
    | _, _ => none
  | .sub => match a, b with
    | .int i, .int j => some (.int (i - j))
    | _, _ => none
  | .mul => match a, b with
    | .int i, .int j => if small64 i || small64 j then some (.int (i * j)) else none
    | .lst _ xs, .int k => if noOwn xs && decide (-(2 ^ 63) ≤ k) && decide (k < 2 ^ 63) && decide (xs.length * k.toNat ≤ line) then some (.lst true (List.replicate k.toNat xs).flatten) else none
    | .str s, .int k => if decide (0 ≤ k) && decide (k < 2 ^ 63) && decide (s.length * k.toNat ≤ line) then some (.str (List.replicate k.toNat s).flatten) else none
    | _, _ => none
  | .fdiv => match a, b with
    | .int i, .int j => if 0 < j ∧ j < 1073741824 then some (.int (i / j)) else none
    | _, _ => none
  | .mod => match a, b with
    | .int i, .int j => if 0 < j then some (.int (i % j)) else none
    | _, _ => none
  | .pow => match a, b with
    | .int i, .int j => if 0 ≤ j ∧ j ≤ 1000000 ∧ i.natAbs < 2 ^ 64 then some (.int (i ^ j.toNat)) else none
    | _, _ => none
  | .eq => (scalD a b).map D.bl
  | .ne => (scalD a b).map fun r => D.bl (!r)
  | .lt => match a, b with
    | .int i, .int j => some (.bl (decide (i < j)))
    | _, _ => none
  | .le => match a, b with
    | .int i, .int j => some (.bl (decide (i ≤ j)))
    | _, _ => none
  | .gt => match a, b with
    | .int i, .int j => some (.bl (decide (j < i)))
    | _, _ => none
  | .ge => match a, b with
    | .int i, .int j => some (.bl (decide (j ≤ i)))
    | _, _ => none
  | .isIn => (inD a b).map D.bl
  | .notIn => (inD a b).map fun r => D.bl (!r)
  | .find => match a, one? b with
    | .str s, some c => some (.int (findI c s))
    | _, _ => none
  | .index => match a, one? b with
    | .str s, some c => (idxOf? c s).map fun i => .int (i : Int)
    | _, _ => none
  | .join => match a, b with
    | .str s, .lst _ xs => if s = [] then (match strsD xs with
      | some ss => if ((ss.map List.length).sum ≤ line) then some (.str ss.flatten) else none
      | none => none) else none
    | _, _ => none
  | .get1 => match a with
    | .dct kd _ ks vs => match key b with
      | some q => if kyOk kd q then (match look ks vs q with
        | some d => if d.own then none else some d
        | none => some .non) else none
      | none => none
    | _ => none
def truth : D → Option Bool
  | .non => some false
  | .bl b => some b
  | .int i => some (i != 0)
  | .str s => if s.length ≤ line then some (!s.isEmpty) else none
  | .lst _ xs => some (!xs.isEmpty)
  | .tup _ xs => some (!xs.isEmpty)
  | _ => none
def maxI : Int → List Int → Int
  | m, [] => m
  | m, i :: is => maxI (if i > m then i else m) is
def minI : Int → List Int → Int
  | m, [] => m
  | m, i :: is => minI (if i < m then i else m) is
def sem1 (o : B1) (a : D) : Option D := match o with
  | .neg => match a with
    | .int i => some (.int (-i))
    | _ => none
  | .len => match a with
    | .str s => if s.length ≤ line then some (.int s.length) else none
    | .lst _ xs => some (.int xs.length)
    | .tup _ xs => some (.int xs.length)
    | .scr ns => some (.int ns.length)
    | .dct _ _ ks _ => some (.int ks.length)
    | _ => none
  | .int => match a with
    | .int i => some (.int i)
    | .bl b => some (.int (if b then 1 else 0))
    | _ => none
  | .any => match a with
    | .lst _ xs => (boolsD xs).map fun bs => .bl (bs.any id)
    | _ => none
  | .lenset => match a with
    | .str s => if s.length ≤ 1000 then some (.int s.eraseDups.length) else none
    | _ => none
  | .sorted => match a with
    | .lst _ xs => match xs with
      | .str _ :: _ => (strsD xs).map fun ss => .lst true ((sortS ss).map D.str)
      | _ => (intsD xs).map fun is => .lst true ((sortI is).map D.int)
    | .dct .k _ ks _ => match strsD (ks.map kyD) with
      | some ss => some (.lst true ((sortS ss).map D.str))
      | none => none
    | _ => none
  | .sortset => match a with
    | .str s => if s.length ≤ 1000 then some (.lst true ((sortS (s.eraseDups.map fun c => [c])).map D.str)) else none
    | _ => none
  | .list => match a with
    | .lst _ xs => if noOwn xs then some (.lst true xs) else none
    | .tup _ xs => if noOwn xs then some (.lst true xs) else none
    | .str s => if s.length ≤ line then some (.lst true (s.map fun c => .str [c])) else none
    | _ => none
  | .tuple => match a with
    | .lst _ xs => if noOwn xs then some (.tup true xs) else none
    | _ => none
  | .max1 => match a with
    | .lst _ xs => match intsD xs with
      | some (i :: is) => some (.int (maxI i is))
      | _ => none
    | _ => none
  | .min1 => match a with
    | .lst _ xs => match intsD xs with
      | some (i :: is) => some (.int (minI i is))
      | _ => none
    | _ => none
/-- three places: 0 d.get(k, x); 1 min(i, j) (c: nop); 2 max(xs, default=d); 3 min(xs, default=d) -/
def sem3 (o : Nat) (a b : D) (c : D) : Option D := match o with
  | 0 => match a with
    | .dct kd _ ks vs => match key b with
      | some q => if kyOk kd q then some ((look ks vs q).getD c) else none
      | none => none
    | _ => none
  | 1 => match a, b with
    | .int i, .int j => some (.int (if j < i then j else i))
    | _, _ => none
  | 2 => match a with
    | .lst _ xs => match intsD xs with
      | some [] => some b
      | some (i :: is) => some (.int (maxI i is))
      | none => none
    | _ => none
  | 3 => match a with
    | .lst _ xs => match intsD xs with
      | some [] => some b
      | some (i :: is) => some (.int (minI i is))
      | none => none
    | _ => none
  | _ => none
def isTy (t : Ty) : D → Option Bool
  | .non => some false
  | .bl _ => some (t == .bool || t == .int)
  | .int _ => some (t == .int)
  | .str _ => some (t == .str)
  | .lst _ _ => some (t == .list)
  | .tup _ _ => some (t == .tuple)
  | _ => none
def optI : D → Option (Option Int)
  | .int i => some (some i)
  | _ => none

/-! ### what a loop walks -/
def pairs : Nat → List D → List D
  | _, [] => []
  | n, d :: ds => .tup false [.int n, d] :: pairs (n + 1) ds
def zipD : List D → List D → List D
  | x :: xs, y :: ys => .tup false [x, y] :: zipD xs ys
  | _, _ => []
def seqD : D → Option (List D)
  | .lst false xs => some xs
  | .tup false xs => some xs
  | .str s => some (s.map fun c => .str [c])
  | _ => none
def rangeD (lo : Int) (n : Nat) : List D := (List.range n).map fun (k : Nat) => D.int (lo + (k : Int))
def b62 (i : Int) : Bool := Nat.ble i.natAbs 4611686018427387903
theorem b62_iff {i : Int} (h : b62 i = true) : -(2 ^ 62) ≤ i ∧ i < 2 ^ 62 := by
  have e : (2 : Int) ^ 62 = 4611686018427387904 := by decide
  unfold b62 at h
  rw [Nat.ble_eq] at h
  rw [e]
  omega
def items0 (k : IK) (ds : List D) : Option (List D) := match k, ds with
  | .it, [d] => seqD d
  | .rng1, [.int j] => if b62 j then some (rangeD 0 j.toNat) else none
  | .rng2, [.int i, .int j] => if b62 i && b62 j then some (rangeD i (j - i).toNat) else none
  | .enum, [.lst false xs] => some (pairs 0 xs)
  | .zip, [.lst false xs, .lst false ys] => some (zipD xs ys)
  | _, _ => none

def items (k : IK) (ds : List D) : Option (List D) := if noOwn ds then items0 k ds else none
/-! ### expressions -/
def gets (e : Env) (i : Nat) : Option D := (e[i]?).join
def popD : D → Option (D × D)
  | .lst true xs => match xs.getLast? with
    | some d => if d.own then none else some (d, .lst true xs.dropLast)
    | none => none
  | _ => none
def backs : Env → List Nat → List D → Option Env
  | e, [], [] => some e
  | e, i :: is, d :: ds => if (gets e i).isNone then backs (e.set i (some d)) is ds else none
  | _, _, _ => none
def called (w : Bool) (q : Bool) (r : Option Out) (e : Env) (back : List Nat) : Option (R D) := match r with
  | some (.ret d os) => match backs e back os with
    | some e' => fin w d (q && back.isEmpty) e'
    | none => none
  | some (.ex c) => some (.ex c e)
  | none => none
/-- a comprehension's turns: the slot s, the items, what is made so far -/
def turns (s : Nat) (elt : Env → Option (R D)) (tst : Env → Option (R Bool)) : List D → List D → Bool → Env → Option (R (List D))
  | [], acc, q, e => some (.ok acc q e)
  | x :: xs, acc, q, e => match tst (e.set s (some x)) with
    | some (.ok true q1 e1) => match elt e1 with
      | some (.ok y q2 e2) => if y.own || decide (line ≤ acc.length) then none else turns s elt tst xs (acc ++ [y]) (q && q1 && q2) e2
      | _ => none
    | some (.ok false q1 e1) => turns s elt tst xs acc (q && q1) e1
    | _ => none
/-- a slice's part -/
def optR (nop : Bool) (r : Option (R D)) (e : Env) : Option (R (Option Int)) := if nop then some (.ok none true e) else bnd r fun y q e' => match y with
  | .int i => some (.ok (some i) q e')
  | _ => none
mutual
/-- an expression; w: what is new stays owned -/
def ev (G : Gam) : IE → Bool → Env → Option (R D)
  | .nop, _, _ => none
  | .var i, w, e => match gets e i with
    | some d => if w && d.own then none else some (.ok d true e)
    | none => none
  | .shr i, _, e => match gets e i with
    | some d => if d.own then (match d.freeze with
      | some d' => some (.ok d' false (e.set i (some d')))
      | none => none) else some (.ok d true e)
    | none => none
  | .mv i, w, e => match gets e i with
    | some d => if w then some (.ok d false (e.set i none)) else none
    | none => none
  | .non, _, e => some (.ok .non true e)
  | .bl b, _, e => some (.ok (.bl b) true e)
  | .int i, _, e => some (.ok (.int i) true e)
  | .gint _ i, _, e => some (.ok (.int i) true e)
  | .str s, _, e => some (.ok (.str s) true e)
  | .op1 o a, w, e => bnd (ev G a false e) fun x q e1 => match sem1 o x with
    | some d => if d.own then fin w d q e1 else some (.ok d q e1)
    | none => none
  | .op2 o a b, w, e => bnd (ev G a false e) fun x q e1 => if recvOk o x then bnd (ev G b false e1) fun y q2 e2 =>
    if x.own && !q2 then none else match sem2 o x y with
    | some d => if d.own then fin w d (q && q2) e2 else some (.ok d (q && q2) e2)
    | none => none else none
  | .op3 o a b c, w, e => bnd (ev G a false e) fun x q e1 => bnd (ev G b false e1) fun y q2 e2 =>
    if x.own && !q2 || y.own then none else match o with
    | 0 => bnd (ev G c false e2) fun z q3 e3 => if x.own && !q3 || z.own then none else match sem3 0 x y z with
      | some d => if d.own then none else some (.ok d (q && q2 && q3) e3)
      | none => none
    | o => match sem3 o x y .non with
      | some d => if d.own then none else some (.ok d (q && q2) e2)
      | none => none
  | .chain o1 o2 a b c, _, e => bnd (ev G a false e) fun x q e1 => bnd (ev G b false e1) fun y q2 e2 =>
    if x.own || y.own then none else match sem2 o1 x y with
    | some (.bl true) => bnd (ev G c false e2) fun z q3 e3 => if z.own then none else match sem2 o2 y z with
      | some (.bl r) => some (.ok (.bl r) (q && q2 && q3) e3)
      | _ => none
    | some (.bl false) => some (.ok (.bl false) (q && q2) e2)
    | _ => none
  | .isN neg a, _, e => bnd (ev G a false e) fun x q e1 => some (.ok (.bl (match x with | .non => !neg | _ => neg)) q e1)
  | .isi a t, _, e => bnd (ev G a false e) fun x q e1 => match isTy t x with
    | some b => some (.ok (.bl b) q e1)
    | none => none
  | .band a b, _, e => bnd (ev G a false e) fun x q e1 => match x with
    | .bl true => bnd (ev G b false e1) fun y q2 e2 => if y.own then none else some (.ok y (q && q2) e2)
    | .bl false => some (.ok (.bl false) q e1)
    | _ => none
  | .bor a b, _, e => bnd (ev G a false e) fun x q e1 => match x with
    | .bl true => some (.ok (.bl true) q e1)
    | .bl false => bnd (ev G b false e1) fun y q2 e2 => if y.own then none else some (.ok y (q && q2) e2)
    | _ => none
  | .not a, _, e => bnd (ev G a false e) fun d q e1 => match truth d with
    | some b => some (.ok (.bl (!b)) q e1)
    | none => none
  | .ite c a b, w, e => bnd (evt G c e) fun t q e1 => match t with
    | true => bnd (ev G a w e1) fun x q2 e2 => if !w && x.own then none else some (.ok x (q && q2) e2)
    | false => bnd (ev G b w e1) fun x q2 e2 => if !w && x.own then none else some (.ok x (q && q2) e2)
  | .ix a b, w, e => bnd (ev G a false e) fun x q e1 => bnd (ev G b false e1) fun y q2 e2 =>
    if x.own && !q2 || y.own then none else match ixD x y with
    | some d => if w && d.own then none else some (.ok d (q && q2) e2)
    | none => none
  | .slc a lo hi, w, e => bnd (ev G a false e) fun x q e1 => bnd (optR lo.isNop (ev G lo false e1) e1) fun l q2 e2 => bnd (optR hi.isNop (ev G hi false e2) e2) fun h q3 e3 =>
    if x.own && !(q2 && q3) then none else match slcD x l h with
    | some d => if d.own then fin w d (q && (q2 && q3)) e3 else some (.ok d (q && (q2 && q3)) e3)
    | none => none
  | .lst es, w, e => bnd (evs G w es e) fun ds q e1 => fin w (.lst true ds) q e1
  | .tup es, w, e => bnd (evs G w es e) fun ds q e1 => fin w (.tup true ds) q e1
  | .dic k ks vs, w, e => match ks, vs with
    | [], [] => fin w (.dct k true [] []) true e
    | [a], [b] => bnd (ev G a false e) fun x q e1 => bnd (ev G b false e1) fun y q2 e2 => if x.own || y.own then none else match key x with
      | some z => if kyOk k z then fin w (.dct k true [z] [y]) (q && q2) e2 else none
      | none => none
    | _, _ => none
  | .comp s k args elt tst, w, e => bnd (eva G args e) fun ds q e1 => match items k ds with
    | some xs => bnd (turns s (fun e => ev G elt false e) (fun e => if tst.isNop then some (.ok true true e) else evt G tst e) xs [] q (e1.set s none)) fun ys q2 e2 =>
        fin w (.lst true ys) q2 (e2.set s (gets e1 s))
    | none => none
  | .call f args back, w, e => bnd (eva G args e) fun ds q e1 => called w q (G f ds) e1 back
  | .mcall f args back, w, e => bnd (eva G args e) fun ds q e1 => called w q (G f ds) e1 back
  | .fld i j, w, e => match gets e i with
    | some (.ins _ fs) => match fs[j]? with
      | some d => if w && d.own then none else some (.ok d true e)
      | none => none
    | _ => none
  | .pop i, _, e => match gets e i with
    | some d => match popD d with
      | some (x, d') => some (.ok x false (e.set i (some d')))
      | none => none
    | none => none
  | .setd i a b, _, e => bnd (ev G a false e) fun x q e1 => bnd (ev G b false e1) fun y q2 e2 => if x.own || y.own then none else match gets e2 i with
    | some (.dct kd true ks vs) => match key x with
      | some z => if kyOk kd z then match look ks vs z with
          | some d => if d.own then none else some (.ok d (q && q2) e2)
          | none => if ks.length < line then some (.ok y false (e2.set i (some (.dct kd true (put ks vs z y).1 (put ks vs z y).2)))) else none
        else none
      | none => none
    | _ => none
  | .mk _, _, _ => none
  | .sh a, _, e => bnd (ev G a false e) fun d q e1 => if d.own then none else some (.ok d q e1)
  | .brw a, w, e => if pureEnv e then (match ev G a true (eraseEnv e) with
    | some (.ok d _ _) => if d.closed then fin w d true e else none
    | some (.ex c _) => some (.ex c e)
    | none => none) else none
/-- items, each kept owned where it is new (w), or shared -/
def evs (G : Gam) (w : Bool) : List IE → Env → Option (R (List D))
  | [], e => some (.ok [] true e)
  | a :: as, e => bnd (ev G a w e) fun d q e1 => if !w && d.own then none else bnd (evs G w as e1) fun ds q2 e2 => some (.ok (d :: ds) (q && q2) e2)
/-- arguments: shared, or moved -/
def eva (G : Gam) : List IE → Env → Option (R (List D))
  | [], e => some (.ok [] true e)
  | .mv i :: as, e => bnd (ev G (.mv i) true e) fun d q e1 => bnd (eva G as e1) fun ds q2 e2 => some (.ok (d :: ds) (q && q2) e2)
  | a :: as, e => bnd (ev G a false e) fun d q e1 => if d.own then none else bnd (eva G as e1) fun ds q2 e2 => some (.ok (d :: ds) (q && q2) e2)
/-- a test -/
def evt (G : Gam) : IE → Env → Option (R Bool)
  | .not a, e => bnd (evt G a e) fun b q e1 => some (.ok (!b) q e1)
  | .band a b, e => bnd (evt G a e) fun t q e1 => match t with
    | true => bnd (evt G b e1) fun t2 q2 e2 => some (.ok t2 (q && q2) e2)
    | false => some (.ok false q e1)
  | .bor a b, e => bnd (evt G a e) fun t q e1 => match t with
    | true => some (.ok true q e1)
    | false => bnd (evt G b e1) fun t2 q2 e2 => some (.ok t2 (q && q2) e2)
  | .ite _ _ _, _ => none
  | .brw a, e => if pureEnv e then (match evt G a (eraseEnv e) with
    | some (.ok b _ _) => some (.ok b true e)
    | some (.ex c _) => some (.ex c e)
    | none => none) else none
  | a, e => bnd (ev G a false e) fun d q e1 => match truth d with
    | some b => some (.ok b q e1)
    | none => none
end

/-! ### statements -/
inductive IS where
  | pas | never | brk | cont | retN
  | ret (e : IE)
  | exp (e : IE)
  | set (i : Nat) (e : IE)
  | unp (is : List Nat) (e : IE)
  | par (is : List Nat) (es : List IE)
  | sub (p k e : IE)
  | fset (i j : Nat) (e : IE)
  | app (p e : IE)
  | apS (p e : IE)
  | ext (p e : IE)
  | upd (p e : IE)
  | ins (p k e : IE)
  | ite (c : IE) (t u : List IS)
  | forS (tg : List Nat) (one : Bool) (k : IK) (args : List IE) (body : List IS)
  | whl (c : IE) (body : List IS)
  | rais (c : Nat)
  | tri (body : List IS) (c : Nat) (h : List IS)
/-- where a statement ends -/
inductive F where
  | nx (e : Env) | bk (e : Env) | ct (e : Env) | rt (d : D) (e : Env) | ex (c : Nat) (e : Env)
def bndS {α : Type} : Option (R α) → (α → Bool → Env → Option F) → Option F
  | some (.ok a q e), f => f a q e
  | some (.ex c e), _ => some (.ex c e)
  | none, _ => none
def seqS : Option F → (Env → Option F) → Option F
  | some (.nx e), f => f e
  | r, _ => r
/-- a place within a slot: the root slot, then fields and items -/
def place (G : Gam) : IE → Env → Option (Nat × List Nat)
  | .var i, _ => some (i, [])
  | .fld i j, _ => some (i, [j])
  | .ix a b, e => match place G a e, ev G a false e, ev G b false e with
    | some (i, p), some (.ok d _ _), some (.ok (.int k) true _) => match d with
      | .lst true xs => (ixN xs.length k).map fun j => (i, p ++ [j])
      | .tup true xs => (ixN xs.length k).map fun j => (i, p ++ [j])
      | _ => none
    | _, _, _ => none
  | _, _ => none
def atP : D → List Nat → Option D
  | d, [] => some d
  | .lst true xs, j :: p => match xs[j]? with
    | some d => atP d p
    | none => none
  | .tup true xs, j :: p => match xs[j]? with
    | some d => atP d p
    | none => none
  | .ins _ fs, j :: p => match fs[j]? with
    | some d => atP d p
    | none => none
  | _, _ => none
def setP : D → List Nat → D → D
  | _, [], n => n
  | .lst true xs, j :: p, n => match xs[j]? with
    | some d => .lst true (xs.set j (setP d p n))
    | none => .lst true xs
  | .tup true xs, j :: p, n => match xs[j]? with
    | some d => .tup true (xs.set j (setP d p n))
    | none => .tup true xs
  | .ins c fs, j :: p, n => match fs[j]? with
    | some d => .ins c (fs.set j (setP d p n))
    | none => .ins c fs
  | d, _, _ => d
def chgAt (i : Nat) (ps : List Nat) (e1 : Env) (d : D) (f : D → D → Option D) : Option F := match gets e1 i with
  | some r => match atP r ps with
    | some o => match f o d with
      | some n => some (.nx (e1.set i (some (setP r ps n))))
      | none => none
    | none => none
  | none => none
def nodeOk (i : Nat) (ps : List Nat) (e : Env) (ok : D → Bool) : Bool := match gets e i with
  | some r => match atP r ps with
    | some o => ok o
    | none => false
  | none => false
def ownLst : D → Bool
  | .lst true _ => true
  | _ => false
def ownDct : D → Bool
  | .dct .k true _ _ => true
  | _ => false
/-- change what stands at a place; the argument quiet unless the place is a slot itself -/
def chg (G : Gam) (p : IE) (e : Env) (x : Option (R D)) (f : D → D → Option D) (ok : D → Bool) : Option F :=
  match place G p e with
  | some (i, ps) => if nodeOk i ps e ok then bndS x fun d q e1 => if !q && !ps.isEmpty then none else chgAt i ps e1 d f else none
  | none => none
def fApp (o d : D) : Option D := match o with
  | .lst true xs => if xs.length < line then some (.lst true (xs ++ [d])) else none
  | _ => none
def fExt (o d : D) : Option D := match o, d with
  | .lst true xs, .lst false ys => if xs.length + ys.length ≤ line then some (.lst true (xs ++ ys)) else none
  | _, _ => none
def fIns (k : Int) (o d : D) : Option D := match o with
  | .lst true xs => if xs.length < line ∧ 0 ≤ k ∧ k < 2 ^ 62 then some (.lst true (xs.take k.toNat ++ [d] ++ xs.drop k.toNat)) else none
  | _ => none
def putAll : List Ky → List D → List Ky → List D → List Ky × List D
  | ks, vs, q :: qs, d :: ds => putAll (put ks vs q d).1 (put ks vs q d).2 qs ds
  | ks, vs, _, _ => (ks, vs)
def fUpd (o d : D) : Option D := match o, d with
  | .dct .k true ks vs, .dct .k _ qs ds => if noOwn ds && decide (ks.length + qs.length ≤ line) then some (.dct .k true (putAll ks vs qs ds).1 (putAll ks vs qs ds).2) else none
  | _, _ => none
/-- o[k] = d -/
def fSub (k o d : D) : Option D := if d.own then none else match o with
  | .lst true xs => match k with
    | .int i => match ixN xs.length i with
      | some j => match xs[j]? with
        | some x => if x.own then none else some (.lst true (xs.set j d))
        | none => none
      | none => none
    | _ => none
  | .dct kd true ks vs => match key k with
    | some z => if kyOk kd z && noOwn vs && decide (ks.length < line) then some (.dct kd true (put ks vs z d).1 (put ks vs z d).2) else none
    | none => none
  | _ => none
def sets : Env → List Nat → List D → Option Env
  | e, [], [] => some e
  | e, i :: is, d :: ds => sets (e.set i (some d)) is ds
  | _, _, _ => none
def unpD (n : Nat) : D → Option (List D)
  | .tup false xs => if xs.length = n then some xs else none
  | _ => none
def okIO (io is : List Nat) : Bool := is.all fun i => !io.contains i
def forGo (tg : List Nat) (one : Bool) (body : Env → Option F) : List D → Env → Option F
  | [], e => some (.nx e)
  | x :: xs, e => match (if one then some [x] else unpD tg.length x) with
    | some ds => match sets e tg ds with
      | some e1 => match body e1 with
        | some (.nx e2) => forGo tg one body xs e2
        | some (.ct e2) => forGo tg one body xs e2
        | some (.bk e2) => some (.nx e2)
        | r => r
      | none => none
    | none => none
def whlGo (c : Env → Option (R Bool)) (body : Env → Option F) : Nat → Env → Option F
  | 0, _ => none
  | n + 1, e => bndS (c e) fun b _ e1 => if b then (match body e1 with
    | some (.nx e2) => whlGo c body n e2
    | some (.ct e2) => whlGo c body n e2
    | some (.bk e2) => some (.nx e2)
    | r => r) else some (.nx e1)
/-- as many turns as a while may take -/
def most : Nat := 4611686018427387904
mutual
def exS (G : Gam) (io : List Nat) : IS → Env → Option F
  | .pas, e => some (.nx e)
  | .never, _ => none
  | .brk, e => some (.bk e)
  | .cont, e => some (.ct e)
  | .retN, e => some (.rt .non e)
  | .ret a, e => bndS (ev G a true e) fun d _ e1 => some (.rt d e1)
  | .exp a, e => bndS (ev G a false e) fun _ _ e1 => some (.nx e1)
  | .set i a, e => if okIO io [i] then bndS (ev G a true e) fun d _ e1 => some (.nx (e1.set i (some d))) else none
  | .unp is a, e => if okIO io is then bndS (ev G a false e) fun d _ e1 => match unpD is.length d with
      | some ds => (sets e1 is ds).map F.nx
      | none => none else none
  | .par is as, e => if okIO io is then bndS (evs G true as e) fun ds _ e1 => (sets e1 is ds).map F.nx else none
  | .sub p k a, e => bndS (ev G a false e) fun d _ e1 => if d.own then none else match place G p e1 with
    | some (i, ps) => if (gets e1 i).isSome then (match ev G k false e1 with
      | some (.ok y true e2) => if y.own then none else chgAt i ps e2 d (fSub y)
      | _ => none) else none
    | none => none
  | .fset i j a, e => bndS (ev G a true e) fun d _ e1 => match gets e1 i with
    | some (.ins c fs) => if j < fs.length then (match fs[j]? with
        | some x => some (.nx (e1.set i (some (.ins c (fs.set j d)))))
        | none => none) else if j = fs.length then some (.nx (e1.set i (some (.ins c (fs ++ [d]))))) else none
    | _ => none
  | .app p a, e => chg G p e (ev G a true e) fApp ownLst
  | .apS p a, e => chg G p e (match ev G a false e with
    | some (.ok d q e1) => if d.own then none else some (.ok d q e1)
    | r => r) fApp ownLst
  | .ext p a, e => chg G p e (match ev G a false e with
    | some (.ok d q e1) => if d.own then none else some (.ok d q e1)
    | r => r) fExt ownLst
  | .upd p a, e => match ev G a false e with
    | some (.ok d true e1) => chg G p e (some (.ok d true e1)) fUpd ownDct
    | _ => none
  | .ins p k a, e => match ev G k false e with
    | some (.ok (.int j) true e1) => chg G p e1 (ev G a true e1) (fIns j) ownLst
    | _ => none
  | .ite c t u, e => bndS (evt G c e) fun b _ e1 => match b with
    | true => exL G io t e1
    | false => exL G io u e1
  | .forS tg one k args body, e => if okIO io tg then bndS (eva G args e) fun ds _ e1 => match items k ds with
    | some xs => forGo tg one (fun e => exL G io body e) xs e1
    | none => none else none
  | .whl c body, e => whlGo (fun e => evt G c e) (fun e => exL G io body e) most e
  | .rais c, e => some (.ex c e)
  | .tri body c h, e => match exL G io body e with
    | some (.ex c' e1) => if c' = c then exL G io h e1 else some (.ex c' e1)
    | r => r
def exL (G : Gam) (io : List Nat) : List IS → Env → Option F
  | [], e => some (.nx e)
  | s :: r, e => match exS G io s e with
    | some (.nx e1) => exL G io r e1
    | f => f
end
/-! ### functions -/
structure FD where
  np : Nat
  ns : Nat
  io : List Nat
  body : List IS
def outsOf (e : Env) : List Nat → Option (List D)
  | [] => some []
  | i :: is => match gets e i, outsOf e is with
    | some d, some ds => some (d :: ds)
    | _, _ => none
def start (f : FD) (ds : List D) : Env := ds.map some ++ List.replicate (f.ns - f.np) none
def ended (io : List Nat) : Option F → Option Out
  | some (.rt d e) => (outsOf e io).map fun os => .ret d os
  | some (.nx e) => (outsOf e io).map fun os => .ret .non os
  | some (.ex c _) => some (.ex c)
  | _ => none
def call1 (G : Gam) (f : FD) (ds : List D) : Option Out :=
  if ds.length = f.np then ended f.io (exL G f.io f.body (start f ds)) else none
def run (T : List FD) : Nat → Gam
  | 0 => fun _ _ => none
  | n + 1 => fun f ds => match T[f]? with
    | some fd => call1 (run T n) fd ds
    | none => none
end Il
set_option Elab.async false
set_option linter.all false
set_option maxRecDepth 100000
set_option maxHeartbeats 1000000
/-! How the data of Il lie in the abstract heap. -/
namespace Il
open PySem L2
abbrev Fp := Addr → Nat
def zf : Fp := fun _ => 0
def one (a : Addr) : Fp := fun b => if b = a then 1 else 0
def addF (f g : Fp) : Fp := fun a => f a + g a
theorem addF_zf (f : Fp) : addF f zf = f := by funext a; simp [addF, zf]
theorem zf_addF (f : Fp) : addF zf f = f := by funext a; simp [addF, zf]
theorem addF_comm (f g : Fp) : addF f g = addF g f := by funext a; simp only [addF]; omega
theorem addF_assoc (f g h : Fp) : addF (addF f g) h = addF f (addF g h) := by funext a; simp only [addF]; omega
theorem one_self (a : Addr) : one a a = 1 := by simp [one]
theorem one_ne {a b : Addr} (h : b ≠ a) : one a b = 0 := by simp [one, h]

def akV : AK → V
  | .non => .non
  | .int i => .int i
  | .str s => .str ⟨s.toArray⟩
def akK : AK → Key
  | .int i => .inl i
  | .str s => .inr ⟨s.toArray⟩
  | .non => .inl 0
def kyK : Ky → Key
  | .a a => akK a
  | .t _ => .inl 0
def kyT : Ky → List Key
  | .t as => as.map akK
  | .a _ => []
/-- a dict of the kind k at a -/
def dObj (k : DK) (a : Addr) (ks : List Ky) (vs : List V) : HO := match k with
  | .k => .dK ((ks.map kyK).zip vs)
  | .t => .dT ((ks.map kyT).zip vs)
  | _ => .ext fun _ => False
def dOk (k : DK) (ks : List Ky) (n : Nat) : Prop := ks.length = n ∧ (∀ q ∈ ks, kyOk k q = true) ∧ ks.Nodup

section
variable (K : PySem.W.Frag)
mutual
/-- shared data -/
def Sh (Hs : Hp) : D → V → Prop
  | .non, v => v = .non
  | .bl b, v => v = .bl b
  | .int i, v => v = .int i
  | .str s, v => v = .str ⟨s.toArray⟩
  | .lst o xs, v => o = false ∧ ∃ a vs, v = .ref a ∧ Hs a = some (.lst vs) ∧ ShL Hs xs vs
  | .tup o xs, v => o = false ∧ ∃ a vs, v = .ref a ∧ Hs a = some (.tup vs) ∧ ShL Hs xs vs
  | .dct k o ks ds, v => o = false ∧ ∃ a vs, v = .ref a ∧ Hs a = some (dObj k a ks vs) ∧ dOk k ks vs.length ∧ ShL Hs ds vs
  | .ins _ _, _ => False
  | .scr ns, v => ∃ a, v = .ref a ∧ SqL K Hs a (ns.map V.int)
def ShL (Hs : Hp) : List D → List V → Prop
  | [], vs => vs = []
  | d :: ds, vs => ∃ v r, vs = v :: r ∧ Sh Hs d v ∧ ShL Hs ds r
end
/-- the fields of the instance at a, by their names in order -/
def fldNames : Nat → List Str := fun _ => ["signs_at", "behind", "told_at"]
def insFs (c : Nat) (vs : List V) : List (Str × V) := ((fldNames c).take vs.length).zip vs
mutual
/-- data that may be owned; the footprint counts what is owned -/
def Ow (cl : Nat → Addr) (Hs H : Hp) : D → V → Fp → Prop
  | .non, v, f => v = .non ∧ f = zf
  | .bl b, v, f => v = .bl b ∧ f = zf
  | .int i, v, f => v = .int i ∧ f = zf
  | .str s, v, f => v = .str ⟨s.toArray⟩ ∧ f = zf
  | .lst o xs, v, f => match o with
    | true => ∃ a vs g, v = .ref a ∧ H a = some (.lst vs) ∧ OwL cl Hs H xs vs g ∧ f = addF (one a) g
    | false => Sh K Hs (.lst false xs) v ∧ f = zf
  | .tup o xs, v, f => match o with
    | true => ∃ a vs g, v = .ref a ∧ H a = some (.tup vs) ∧ OwL cl Hs H xs vs g ∧ f = addF (one a) g
    | false => Sh K Hs (.tup false xs) v ∧ f = zf
  | .dct k o ks ds, v, f => match o with
    | true => ∃ a vs g, v = .ref a ∧ H a = some (dObj k a ks vs) ∧ dOk k ks vs.length ∧ OwL cl Hs H ds vs g ∧ f = addF (one a) g
    | false => Sh K Hs (.dct k false ks ds) v ∧ f = zf
  | .ins c fs, v, f => ∃ a dx vs g, v = .ref a ∧ H a = some (.ins (cl c) dx (insFs c vs)) ∧ H dx = some (.own a) ∧ vs.length ≤ 3 ∧ OwL cl Hs H fs vs g ∧ f = addF (one a) (addF (one dx) g)
  | .scr ns, v, f => Sh K Hs (.scr ns) v ∧ f = zf
def OwL (cl : Nat → Addr) (Hs H : Hp) : List D → List V → Fp → Prop
  | [], vs, f => vs = [] ∧ f = zf
  | d :: ds, vs, f => ∃ v r g h, vs = v :: r ∧ Ow cl Hs H d v g ∧ OwL cl Hs H ds r h ∧ f = addF g h
end
def EnvOw (cl : Nat → Addr) (Hs H : Hp) : Env → St → Fp → Prop
  | [], σ, f => σ = [] ∧ f = zf
  | none :: e, σ, f => ∃ x r, σ = x :: r ∧ EnvOw cl Hs H e r f
  | some d :: e, σ, f => ∃ v r g h, σ = some v :: r ∧ Ow K cl Hs H d v g ∧ EnvOw cl Hs H e r h ∧ f = addF g h
end
/-- the owned part f stands apart from the shared one Hs -/
structure OkF (Hs H : Hp) (f : Fp) : Prop where
  ex : Same Hs H
  le : ∀ a, f a ≤ 1
  own : ∀ a, 1 ≤ f a → Hs a = none ∧ H a ≠ none

section
variable {K : PySem.W.Frag} {cl : Nat → Addr} {Hs Hs' H H' : Hp}
theorem rd_same {a : Addr} {u : HO} (e : Same Hs Hs') (h : Rd Hs a u) : Rd Hs' a u := by
  rcases h with h | ⟨o, h⟩
  · exact .inl (e _ _ h)
  · exact .inr ⟨o, e _ _ h⟩
theorem seqT_same {a : Addr} {xs : List V} (e : Same Hs Hs') (h : SqT K Hs a xs) : SqT K Hs' a xs := by
  rcases h with h | h
  · exact .inl (rd_same e h)
  · exact .inr h
mutual
theorem Sh.mono (e : Same Hs Hs') : ∀ (d : D) (v : V), Sh K Hs d v → Sh K Hs' d v
  | .non, _, h => by simpa only [Sh] using h
  | .bl _, _, h => by simpa only [Sh] using h
  | .int _, _, h => by simpa only [Sh] using h
  | .str _, _, h => by simpa only [Sh] using h
  | .lst _ xs, _, h => by
    simp only [Sh] at h ⊢
    obtain ⟨h0, a, vs, h1, h2, h3⟩ := h
    exact ⟨h0, a, vs, h1, e _ _ h2, ShL.mono e xs vs h3⟩
  | .tup _ xs, _, h => by
    simp only [Sh] at h ⊢
    obtain ⟨h0, a, vs, h1, h2, h3⟩ := h
    exact ⟨h0, a, vs, h1, e _ _ h2, ShL.mono e xs vs h3⟩
  | .dct _ _ _ ds, _, h => by
    simp only [Sh] at h ⊢
    obtain ⟨h0, a, vs, h1, h2, h3, h4⟩ := h
    exact ⟨h0, a, vs, h1, e _ _ h2, h3, ShL.mono e ds vs h4⟩
  | .ins _ _, _, h => by simp only [Sh] at h
  | .scr _, _, h => by
    simp only [Sh] at h ⊢
    obtain ⟨a, h1, h2⟩ := h
    exact ⟨a, h1, e.seq h2⟩
theorem ShL.mono (e : Same Hs Hs') : ∀ (ds : List D) (vs : List V), ShL K Hs ds vs → ShL K Hs' ds vs
  | [], _, h => by simpa only [ShL] using h
  | d :: ds, _, h => by
    simp only [ShL] at h ⊢
    obtain ⟨v, r, h1, h2, h3⟩ := h
    exact ⟨v, r, h1, Sh.mono e d v h2, ShL.mono e ds r h3⟩
end
/-- what is not owned is shared -/
theorem Ow.sh {d : D} {v : V} {f : Fp} (o : d.own = false) (h : Ow K cl Hs H d v f) : Sh K Hs d v ∧ f = zf := by
  cases d with
  | non => simpa only [Ow, Sh] using h
  | bl _ => simpa only [Ow, Sh] using h
  | int _ => simpa only [Ow, Sh] using h
  | str _ => simpa only [Ow, Sh] using h
  | lst b xs =>
    simp only [D.own] at o
    subst o
    simpa only [Ow] using h
  | tup b xs =>
    simp only [D.own] at o
    subst o
    simpa only [Ow] using h
  | dct k b ks ds =>
    simp only [D.own] at o
    subst o
    simpa only [Ow] using h
  | ins _ _ => simp [D.own] at o
  | scr _ => simpa only [Ow] using h
theorem Sh.own {d : D} {v : V} (h : Sh K Hs d v) : d.own = false := by
  cases d with
  | lst b xs =>
    simp only [Sh] at h
    exact h.1
  | tup b xs =>
    simp only [Sh] at h
    exact h.1
  | dct k b ks ds =>
    simp only [Sh] at h
    exact h.1
  | ins _ _ => simp only [Sh] at h
  | _ => rfl
theorem Sh.ow {d : D} {v : V} (h : Sh K Hs d v) : Ow K cl Hs H d v zf := by
  have o := h.own
  cases d with
  | lst b xs =>
    simp only [D.own] at o
    subst o
    simp only [Ow]
    exact ⟨h, trivial⟩
  | tup b xs =>
    simp only [D.own] at o
    subst o
    simp only [Ow]
    exact ⟨h, trivial⟩
  | dct k b ks ds =>
    simp only [D.own] at o
    subst o
    simp only [Ow]
    exact ⟨h, trivial⟩
  | ins _ _ => simp [D.own] at o
  | scr _ =>
    simp only [Ow]
    exact ⟨h, trivial⟩
  | _ => simpa only [Ow, Sh, and_true] using h
theorem ShL.owl : ∀ {ds : List D} {vs : List V}, ShL K Hs ds vs → OwL K cl Hs H ds vs zf
  | [], _, h => by
    simp only [ShL] at h
    simp only [OwL]
    exact ⟨h, trivial⟩
  | d :: ds, _, h => by
    simp only [ShL] at h
    obtain ⟨v, r, h1, h2, h3⟩ := h
    simp only [OwL]
    exact ⟨v, r, zf, zf, h1, h2.ow, ShL.owl h3, (addF_zf zf).symm⟩
theorem OwL.shl : ∀ {ds : List D} {vs : List V} {f : Fp}, noOwn ds = true → OwL K cl Hs H ds vs f → ShL K Hs ds vs ∧ f = zf
  | [], _, _, _, h => by
    simp only [OwL] at h
    simp only [ShL]
    exact h
  | d :: ds, _, _, o, h => by
    simp only [OwL] at h
    obtain ⟨v, r, g, k, h1, h2, h3, h4⟩ := h
    simp only [noOwn, List.all_cons, Bool.and_eq_true, Bool.not_eq_true'] at o
    obtain ⟨a, b⟩ := h2.sh o.1
    obtain ⟨c, e⟩ := OwL.shl (by simpa only [noOwn] using o.2) h3
    simp only [ShL]
    exact ⟨⟨v, r, h1, a, c⟩, by rw [h4, b, e, addF_zf]⟩
theorem ShL.noOwn : ∀ {ds : List D} {vs : List V}, ShL K Hs ds vs → noOwn ds = true
  | [], _, _ => rfl
  | d :: ds, _, h => by
    simp only [ShL] at h
    obtain ⟨v, r, h1, h2, h3⟩ := h
    have := ShL.noOwn h3
    simp only [Il.noOwn] at this
    simp only [Il.noOwn, List.all_cons, this, h2.own, Bool.not_false, Bool.and_self]
mutual
/-- the owned part left as it was -/
theorem Ow.frame (e : Same Hs Hs') : ∀ (d : D) (v : V) (f : Fp), (∀ a, 1 ≤ f a → H' a = H a) → Ow K cl Hs H d v f → Ow K cl Hs' H' d v f
  | .non, _, _, _, h => by simpa only [Ow] using h
  | .bl _, _, _, _, h => by simpa only [Ow] using h
  | .int _, _, _, _, h => by simpa only [Ow] using h
  | .str _, _, _, _, h => by simpa only [Ow] using h
  | .lst true xs, _, f, k, h => by
    simp only [Ow] at h ⊢
    obtain ⟨a, vs, g, h1, h2, h3, h4⟩ := h
    refine ⟨a, vs, g, h1, ?_, OwL.frame e xs vs g (fun b hb => k b ?_) h3, h4⟩
    · rw [k a (by rw [h4]; simp only [addF, one_self]; omega)]
      exact h2
    · rw [h4]
      simp only [addF]
      omega
  | .lst false xs, _, _, _, h => by
    simp only [Ow] at h ⊢
    exact ⟨Sh.mono e _ _ h.1, h.2⟩
  | .tup true xs, _, f, k, h => by
    simp only [Ow] at h ⊢
    obtain ⟨a, vs, g, h1, h2, h3, h4⟩ := h
    refine ⟨a, vs, g, h1, ?_, OwL.frame e xs vs g (fun b hb => k b ?_) h3, h4⟩
    · rw [k a (by rw [h4]; simp only [addF, one_self]; omega)]
      exact h2
    · rw [h4]
      simp only [addF]
      omega
  | .tup false xs, _, _, _, h => by
    simp only [Ow] at h ⊢
    exact ⟨Sh.mono e _ _ h.1, h.2⟩
  | .dct kd true ks ds, _, f, k, h => by
    simp only [Ow] at h ⊢
    obtain ⟨a, vs, g, h1, h2, h5, h3, h4⟩ := h
    refine ⟨a, vs, g, h1, ?_, h5, OwL.frame e ds vs g (fun b hb => k b ?_) h3, h4⟩
    · rw [k a (by rw [h4]; simp only [addF, one_self]; omega)]
      exact h2
    · rw [h4]
      simp only [addF]
      omega
  | .dct kd false ks ds, _, _, _, h => by
    simp only [Ow] at h ⊢
    exact ⟨Sh.mono e _ _ h.1, h.2⟩
  | .ins c fs, _, f, k, h => by
    simp only [Ow] at h ⊢
    obtain ⟨a, dx, vs, g, h1, h2, h5, h6, h3, h4⟩ := h
    refine ⟨a, dx, vs, g, h1, ?_, ?_, h6, OwL.frame e fs vs g (fun b hb => k b ?_) h3, h4⟩
    · rw [k a (by rw [h4]; simp only [addF, one_self]; omega)]
      exact h2
    · rw [k dx (by rw [h4]; simp only [addF, one_self]; omega)]
      exact h5
    · rw [h4]
      simp only [addF]
      omega
  | .scr _, _, _, _, h => by
    simp only [Ow] at h ⊢
    exact ⟨Sh.mono e _ _ h.1, h.2⟩
theorem OwL.frame (e : Same Hs Hs') : ∀ (ds : List D) (vs : List V) (f : Fp), (∀ a, 1 ≤ f a → H' a = H a) → OwL K cl Hs H ds vs f → OwL K cl Hs' H' ds vs f
  | [], _, _, _, h => by simpa only [OwL] using h
  | d :: ds, _, f, k, h => by
    simp only [OwL] at h ⊢
    obtain ⟨v, r, g, q, h1, h2, h3, h4⟩ := h
    exact ⟨v, r, g, q, h1, Ow.frame e d v g (fun a ha => k a (by rw [h4]; simp only [addF]; omega)) h2, OwL.frame e ds r q (fun a ha => k a (by rw [h4]; simp only [addF]; omega)) h3, h4⟩
end
theorem EnvOw.frame (e : Same Hs Hs') : ∀ (n : Env) (σ : St) (f : Fp), (∀ a, 1 ≤ f a → H' a = H a) → EnvOw K cl Hs H n σ f → EnvOw K cl Hs' H' n σ f
  | [], _, _, _, h => by simpa only [EnvOw] using h
  | none :: n, _, f, k, h => by
    simp only [EnvOw] at h ⊢
    obtain ⟨x, r, h1, h2⟩ := h
    exact ⟨x, r, h1, EnvOw.frame e n r f k h2⟩
  | some d :: n, _, f, k, h => by
    simp only [EnvOw] at h ⊢
    obtain ⟨v, r, g, q, h1, h2, h3, h4⟩ := h
    exact ⟨v, r, g, q, h1, h2.frame e d v g (fun a ha => k a (by rw [h4]; simp only [addF]; omega)), EnvOw.frame e n r q (fun a ha => k a (by rw [h4]; simp only [addF]; omega)) h3, h4⟩
theorem EnvOw.length : ∀ {n : Env} {σ : St} {f : Fp}, EnvOw K cl Hs H n σ f → n.length = σ.length
  | [], _, _, h => by
    simp only [EnvOw] at h
    rw [h.1]
    rfl
  | none :: n, _, _, h => by
    simp only [EnvOw] at h
    obtain ⟨x, r, h1, h2⟩ := h
    rw [h1, List.length_cons, List.length_cons, EnvOw.length h2]
  | some d :: n, _, _, h => by
    simp only [EnvOw] at h
    obtain ⟨v, r, g, q, h1, h2, h3, h4⟩ := h
    rw [h1, List.length_cons, List.length_cons, EnvOw.length h3]
/-- one slot, and the rest -/
theorem EnvOw.focus : ∀ {n : Env} {σ : St} {f : Fp} {i : Nat} {d : D}, EnvOw K cl Hs H n σ f → gets n i = some d →
    ∃ v g h, σ[i]? = some (some v) ∧ Ow K cl Hs H d v g ∧ f = addF g h ∧ EnvOw K cl Hs H (n.set i none) σ h
  | [], _, _, i, _, _, e => by simp [gets] at e
  | none :: n, _, _, 0, _, _, e => by simp [gets] at e
  | some d :: n, _, _, 0, d', h, e => by
    simp only [EnvOw] at h
    obtain ⟨v, r, g, q, rfl, h2, h3, h4⟩ := h
    have ed : d = d' := by simpa [gets] using e
    subst ed
    refine ⟨v, g, q, rfl, h2, h4, ?_⟩
    simp only [List.set_cons_zero, EnvOw]
    exact ⟨some v, r, rfl, h3⟩
  | none :: n, _, _, i + 1, d', h, e => by
    simp only [EnvOw] at h
    obtain ⟨x, r, rfl, h2⟩ := h
    obtain ⟨v, g, q, h3, h4, h5, h6⟩ := EnvOw.focus h2 (i := i) (by simpa [gets] using e)
    refine ⟨v, g, q, by simpa using h3, h4, h5, ?_⟩
    simp only [List.set_cons_succ, EnvOw]
    exact ⟨x, r, rfl, h6⟩
  | some d :: n, _, f, i + 1, d', h, e => by
    simp only [EnvOw] at h
    obtain ⟨v, r, g, q, rfl, h2, h3, h4⟩ := h
    obtain ⟨v', g', q', h5, h6, h7, h8⟩ := EnvOw.focus h3 (i := i) (by simpa [gets] using e)
    refine ⟨v', g', addF g q', by simpa using h5, h6, ?_, ?_⟩
    · rw [h4, h7]
      funext a
      simp only [addF]
      omega
    · simp only [List.set_cons_succ, EnvOw]
      exact ⟨v, r, g, q', rfl, h2, h8, rfl⟩
/-- an empty slot filled: with the value that stands there -/
theorem EnvOw.fill : ∀ {n : Env} {σ : St} {f g : Fp} {i : Nat} {d : D} {v : V}, EnvOw K cl Hs H (n.set i none) σ f → σ[i]? = some (some v) → Ow K cl Hs H d v g → EnvOw K cl Hs H (n.set i (some d)) σ (addF g f)
  | [], _, _, _, i, _, _, h, e, _ => by
    simp only [List.set_nil, EnvOw] at h
    rw [h.1] at e
    simp at e
  | x :: n, _, _, g, 0, d, v, h, e, o => by
    simp only [List.set_cons_zero, EnvOw] at h ⊢
    obtain ⟨y, r, rfl, h2⟩ := h
    have ey : y = some v := by simpa using e
    subst ey
    exact ⟨v, r, g, _, rfl, o, h2, rfl⟩
  | none :: n, _, _, _, i + 1, _, _, h, e, o => by
    simp only [List.set_cons_succ, EnvOw] at h ⊢
    obtain ⟨x, r, rfl, h2⟩ := h
    exact ⟨x, r, rfl, EnvOw.fill h2 (by simpa using e) o⟩
  | some d :: n, _, _, g, i + 1, _, _, h, e, o => by
    simp only [List.set_cons_succ, EnvOw] at h ⊢
    obtain ⟨v, r, g', q, rfl, h2, h3, h4⟩ := h
    refine ⟨v, r, g', addF g q, rfl, h2, EnvOw.fill h3 (by simpa using e) o, ?_⟩
    rw [h4]
    funext a
    simp only [addF]
    omega
/-- a slot emptied -/
theorem EnvOw.drop : ∀ {n : Env} {σ : St} {f : Fp} (i : Nat), EnvOw K cl Hs H n σ f → ∃ g h, f = addF g h ∧ EnvOw K cl Hs H (n.set i none) σ h
  | [], _, f, i, h => ⟨zf, f, (zf_addF f).symm, by simpa only [List.set_nil] using h⟩
  | none :: n, _, f, 0, h => ⟨zf, f, (zf_addF f).symm, by simpa only [List.set_cons_zero] using h⟩
  | some d :: n, _, f, 0, h => by
    simp only [EnvOw] at h
    obtain ⟨v, r, g, q, rfl, h2, h3, h4⟩ := h
    refine ⟨g, q, h4, ?_⟩
    simp only [List.set_cons_zero, EnvOw]
    exact ⟨some v, r, rfl, h3⟩
  | none :: n, _, f, i + 1, h => by
    simp only [EnvOw] at h
    obtain ⟨x, r, rfl, h2⟩ := h
    obtain ⟨g, q, h3, h4⟩ := EnvOw.drop i h2
    refine ⟨g, q, h3, ?_⟩
    simp only [List.set_cons_succ, EnvOw]
    exact ⟨x, r, rfl, h4⟩
  | some d :: n, _, f, i + 1, h => by
    simp only [EnvOw] at h
    obtain ⟨v, r, g, q, rfl, h2, h3, h4⟩ := h
    obtain ⟨g', q', h5, h6⟩ := EnvOw.drop i h3
    refine ⟨g', addF g q', ?_, ?_⟩
    · rw [h4, h5]
      funext a
      simp only [addF]
      omega
    · simp only [List.set_cons_succ, EnvOw]
      exact ⟨v, r, g, q', rfl, h2, h6, rfl⟩
/-- the value of an empty slot does not matter -/
theorem EnvOw.any : ∀ {n : Env} {σ : St} {f : Fp} {i : Nat} (y : Option V), EnvOw K cl Hs H (n.set i none) σ f → EnvOw K cl Hs H (n.set i none) (σ.set i y) f
  | [], σ, _, i, y, h => by
    simp only [List.set_nil, EnvOw] at h ⊢
    rw [h.1]
    simpa using h.2
  | x :: n, _, _, 0, y, h => by
    simp only [List.set_cons_zero, EnvOw] at h ⊢
    obtain ⟨z, r, rfl, h2⟩ := h
    exact ⟨y, r, rfl, h2⟩
  | none :: n, _, _, i + 1, y, h => by
    simp only [List.set_cons_succ, EnvOw] at h ⊢
    obtain ⟨x, r, rfl, h2⟩ := h
    exact ⟨x, r.set i y, rfl, EnvOw.any y h2⟩
  | some d :: n, _, _, i + 1, y, h => by
    simp only [List.set_cons_succ, EnvOw] at h ⊢
    obtain ⟨v, r, g, q, rfl, h2, h3, h4⟩ := h
    exact ⟨v, r.set i y, g, q, rfl, h2, EnvOw.any y h3, h4⟩
theorem OkF.mono {f g : Fp} (h : OkF Hs H f) (k : ∀ a, g a ≤ f a) : OkF Hs H g :=
  ⟨h.ex, fun a => Nat.le_trans (k a) (h.le a), fun a ha => h.own a (Nat.le_trans ha (k a))⟩
theorem OkF.congr {f g : Fp} (h : OkF Hs H f) (k : ∀ a, g a = f a) : OkF Hs H g := h.mono fun a => Nat.le_of_eq (k a)
/-- a new object, owned -/
theorem OkF.new {f : Fp} {p : Addr} {o : HO} (h : OkF Hs H f) (n : H p = none) : OkF Hs (upd H p o) (addF (one p) f) := by
  have z : f p = 0 := by
    rcases Nat.eq_zero_or_pos (f p) with e | e
    · exact e
    · exact absurd n (h.own p e).2
  refine ⟨fun b u e => ?_, fun a => ?_, fun a ha => ?_⟩
  · have q := h.ex b u e
    rw [upd_ne (ne_of_none q n)]
    exact q
  · by_cases e : a = p
    · subst e
      simp only [addF, one_self, z]
      omega
    · simp only [addF, one_ne e]
      have := h.le a
      omega
  · by_cases e : a = p
    · subst e
      refine ⟨?_, by rw [upd_same]; simp⟩
      cases q : Hs a with
      | none => rfl
      | some u =>
        rw [h.ex a u q] at n
        cases n
    · simp only [addF, one_ne e, Nat.zero_add] at ha
      rw [upd_ne e]
      exact h.own a ha
/-- a new object, shared -/
theorem OkF.newS {f : Fp} {p : Addr} {o : HO} (h : OkF Hs H f) (n : H p = none) : OkF (upd Hs p o) (upd H p o) f := by
  have z : f p = 0 := by
    rcases Nat.eq_zero_or_pos (f p) with e | e
    · exact e
    · exact absurd n (h.own p e).2
  refine ⟨fun b u e => ?_, h.le, fun a ha => ?_⟩
  · by_cases q : b = p
    · subst q
      rw [upd_same] at e ⊢
      exact e
    · rw [upd_ne q] at e ⊢
      exact h.ex b u e
  · have q : a ≠ p := fun e => by
      subst e
      omega
    rw [upd_ne q, upd_ne q]
    exact h.own a ha
theorem OkF.nil {f : Fp} {p : Addr} (h : OkF Hs H f) (n : H p = none) : Hs p = none := by
  cases q : Hs p with
  | none => rfl
  | some u =>
    rw [h.ex p u q] at n
    cases n
/-- an owned object changed -/
theorem OkF.put {f : Fp} {p : Addr} {o : HO} (h : OkF Hs H f) (k : 1 ≤ f p) : OkF Hs (upd H p o) f := by
  have n := (h.own p k).1
  refine ⟨fun b u e => ?_, h.le, fun a ha => ⟨(h.own a ha).1, ?_⟩⟩
  · rw [upd_ne (ne_of_none e n)]
    exact h.ex b u e
  · by_cases e : a = p
    · rw [e, upd_same]
      simp
    · rw [upd_ne e]
      exact (h.own a ha).2
/-- what is owned given over to the shared part -/
def give (Hs H : Hp) (g : Fp) : Hp := fun a => if 1 ≤ g a then H a else Hs a
theorem give_same {f g : Fp} (h : OkF Hs H f) (k : ∀ a, g a ≤ f a) : Same Hs (give Hs H g) := fun b u e => by
  unfold give
  split
  · rename_i q
    rw [(h.own b (Nat.le_trans q (k b))).1] at e
    cases e
  · exact e
theorem OkF.give {f g : Fp} (h : OkF Hs H (addF g f)) : OkF (give Hs H g) H f := by
  refine ⟨fun b u e => ?_, fun a => ?_, fun a ha => ?_⟩
  · unfold Il.give at e
    split at e
    · exact e
    · exact h.ex b u e
  · have := h.le a
    simp only [addF] at this
    omega
  · have q := h.le a
    simp only [addF] at q
    unfold Il.give
    rw [if_neg (by omega)]
    exact h.own a (by simp only [addF]; omega)
mutual
theorem Sh.giveSh (e : Same Hs Hs') : ∀ (d : D) (v : V), Sh K Hs d v → Sh K Hs' d.erase v
  | .non, _, h => by simpa only [Sh, D.erase] using h
  | .bl _, _, h => by simpa only [Sh, D.erase] using h
  | .int _, _, h => by simpa only [Sh, D.erase] using h
  | .str _, _, h => by simpa only [Sh, D.erase] using h
  | .lst _ xs, _, h => by
    simp only [Sh] at h
    obtain ⟨h0, a, vs, h1, h2, h3⟩ := h
    simp only [D.erase, Sh, true_and]
    exact ⟨a, vs, h1, e _ _ h2, ShL.giveSh e xs vs h3⟩
  | .tup _ xs, _, h => by
    simp only [Sh] at h
    obtain ⟨h0, a, vs, h1, h2, h3⟩ := h
    simp only [D.erase, Sh, true_and]
    exact ⟨a, vs, h1, e _ _ h2, ShL.giveSh e xs vs h3⟩
  | .dct _ _ _ ds, _, h => by
    simp only [Sh] at h
    obtain ⟨h0, a, vs, h1, h2, h3, h4⟩ := h
    simp only [D.erase, Sh, true_and]
    exact ⟨a, vs, h1, e _ _ h2, h3, ShL.giveSh e ds vs h4⟩
  | .ins _ _, _, h => by simp only [Sh] at h
  | .scr _, _, h => by
    simp only [D.erase]
    exact Sh.mono e _ _ h
theorem ShL.giveSh (e : Same Hs Hs') : ∀ (ds : List D) (vs : List V), ShL K Hs ds vs → ShL K Hs' (eraseL ds) vs
  | [], _, h => by simpa only [ShL, eraseL] using h
  | d :: ds, _, h => by
    simp only [ShL] at h
    obtain ⟨v, r, h1, h2, h3⟩ := h
    simp only [eraseL, ShL]
    exact ⟨v, r, h1, Sh.giveSh e d v h2, ShL.giveSh e ds r h3⟩
end
mutual
/-- owned data, given over, are shared -/
theorem Ow.give {g : Fp} (e : Same Hs (give Hs H g)) : ∀ (d : D) (v : V) (f : Fp), (∀ a, f a ≤ g a) → d.pure = true → Ow K cl Hs H d v f → Sh K (give Hs H g) d.erase v
  | .non, _, _, _, _, h => by simpa only [Ow, Sh, D.erase] using h.1
  | .bl _, _, _, _, _, h => by simpa only [Ow, Sh, D.erase] using h.1
  | .int _, _, _, _, _, h => by simpa only [Ow, Sh, D.erase] using h.1
  | .str _, _, _, _, _, h => by simpa only [Ow, Sh, D.erase] using h.1
  | .lst true xs, _, f, k, p, h => by
    simp only [Ow] at h
    obtain ⟨a, vs, q, h1, h2, h3, h4⟩ := h
    simp only [D.erase, Sh, true_and]
    have ka : 1 ≤ g a := Nat.le_trans (by rw [h4]; simp only [addF, one_self]; omega) (k a)
    refine ⟨a, vs, h1, (by unfold Il.give; rw [if_pos ka]; exact h2), OwL.give e xs vs q (fun b => Nat.le_trans (by rw [h4]; simp only [addF]; omega) (k b)) (by simpa only [D.pure] using p) h3⟩
  | .lst false xs, _, f, k, p, h => by
    simp only [Ow] at h
    exact Sh.giveSh e _ _ h.1
  | .tup true xs, _, f, k, p, h => by
    simp only [Ow] at h
    obtain ⟨a, vs, q, h1, h2, h3, h4⟩ := h
    simp only [D.erase, Sh, true_and]
    have ka : 1 ≤ g a := Nat.le_trans (by rw [h4]; simp only [addF, one_self]; omega) (k a)
    refine ⟨a, vs, h1, (by unfold Il.give; rw [if_pos ka]; exact h2), OwL.give e xs vs q (fun b => Nat.le_trans (by rw [h4]; simp only [addF]; omega) (k b)) (by simpa only [D.pure] using p) h3⟩
  | .tup false xs, _, f, k, p, h => by
    simp only [Ow] at h
    exact Sh.giveSh e _ _ h.1
  | .dct kd true ks ds, _, f, k, p, h => by
    simp only [Ow] at h
    obtain ⟨a, vs, q, h1, h2, h5, h3, h4⟩ := h
    simp only [D.erase, Sh, true_and]
    have ka : 1 ≤ g a := Nat.le_trans (by rw [h4]; simp only [addF, one_self]; omega) (k a)
    refine ⟨a, vs, h1, (by unfold Il.give; rw [if_pos ka]; exact h2), h5, OwL.give e ds vs q (fun b => Nat.le_trans (by rw [h4]; simp only [addF]; omega) (k b)) (by simpa only [D.pure] using p) h3⟩
  | .dct kd false ks ds, _, f, k, p, h => by
    simp only [Ow] at h
    exact Sh.giveSh e _ _ h.1
  | .ins _ _, _, _, _, p, _ => by simp [D.pure] at p
  | .scr _, _, _, _, _, h => by
    simp only [Ow] at h
    exact Sh.giveSh e _ _ h.1
theorem OwL.give {g : Fp} (e : Same Hs (give Hs H g)) : ∀ (ds : List D) (vs : List V) (f : Fp), (∀ a, f a ≤ g a) → pureL ds = true → OwL K cl Hs H ds vs f → ShL K (give Hs H g) (eraseL ds) vs
  | [], _, _, _, _, h => by simpa only [OwL, ShL, eraseL] using h.1
  | d :: ds, _, f, k, p, h => by
    simp only [OwL] at h
    obtain ⟨v, r, q, t, h1, h2, h3, h4⟩ := h
    simp only [pureL, Bool.and_eq_true] at p
    simp only [eraseL, ShL]
    exact ⟨v, r, h1, Ow.give e d v q (fun b => Nat.le_trans (by rw [h4]; simp only [addF]; omega) (k b)) p.1 h2, OwL.give e ds r t (fun b => Nat.le_trans (by rw [h4]; simp only [addF]; omega) (k b)) p.2 h3⟩
end
/-- what is frozen, given over -/
theorem Ow.freeze {g f : Fp} (e : Same Hs (Il.give Hs H g)) {d d' : D} {v : V} (k : ∀ a, f a ≤ g a) (p : d.freeze = some d') (h : Ow K cl Hs H d v f) : Sh K (Il.give Hs H g) d' v := by
  have two : ∀ {xs : List D} {vs : List V} {q : Fp}, (∀ a, q a ≤ g a) → OwL K cl Hs H xs vs q → ∀ ys, (if noOwn xs = true then some xs else if pureL xs = true then some (eraseL xs) else none) = some ys → ShL K (Il.give Hs H g) ys vs := by
    intro xs vs q kq hx ys hy
    split at hy
    · rename_i n
      cases hy
      exact ShL.mono e _ _ (OwL.shl n hx).1
    · split at hy
      · rename_i n
        cases hy
        exact OwL.give e _ _ _ kq n hx
      · cases hy
  cases d with
  | non => cases p; simpa only [Ow, Sh] using h.1
  | bl _ => cases p; simpa only [Ow, Sh] using h.1
  | int _ => cases p; simpa only [Ow, Sh] using h.1
  | str _ => cases p; simpa only [Ow, Sh] using h.1
  | ins _ _ => cases p
  | scr _ =>
    cases p
    simp only [Ow] at h
    exact Sh.mono e _ _ h.1
  | lst b xs =>
    cases b with
    | false =>
      simp only [Ow] at h
      have n : noOwn xs = true := by
        have q := h.1
        simp only [Sh] at q
        obtain ⟨_, a, vs, _, _, q⟩ := q
        exact q.noOwn
      simp only [D.freeze, n, if_true] at p
      cases p
      exact Sh.mono e _ _ h.1
    | true =>
      simp only [Ow] at h
      obtain ⟨a, vs, q, h1, h2, h3, h4⟩ := h
      have ka : 1 ≤ g a := Nat.le_trans (by rw [h4]; simp only [addF, one_self]; omega) (k a)
      have kq : ∀ b, q b ≤ g b := fun b => Nat.le_trans (by rw [h4]; simp only [addF]; omega) (k b)
      have ga : Il.give Hs H g a = some (.lst vs) := (by unfold Il.give; rw [if_pos ka]; exact h2)
      simp only [D.freeze] at p
      split at p
      · rename_i n
        cases p
        simp only [Sh, true_and]
        exact ⟨a, vs, h1, ga, two kq h3 _ (by rw [if_pos n])⟩
      · split at p
        · rename_i n1 n2
          cases p
          simp only [Sh, true_and]
          exact ⟨a, vs, h1, ga, two kq h3 _ (by rw [if_neg n1, if_pos n2])⟩
        · cases p
  | tup b xs =>
    cases b with
    | false =>
      simp only [Ow] at h
      have n : noOwn xs = true := by
        have q := h.1
        simp only [Sh] at q
        obtain ⟨_, a, vs, _, _, q⟩ := q
        exact q.noOwn
      simp only [D.freeze, n, if_true] at p
      cases p
      exact Sh.mono e _ _ h.1
    | true =>
      simp only [Ow] at h
      obtain ⟨a, vs, q, h1, h2, h3, h4⟩ := h
      have ka : 1 ≤ g a := Nat.le_trans (by rw [h4]; simp only [addF, one_self]; omega) (k a)
      have kq : ∀ b, q b ≤ g b := fun b => Nat.le_trans (by rw [h4]; simp only [addF]; omega) (k b)
      have ga : Il.give Hs H g a = some (.tup vs) := (by unfold Il.give; rw [if_pos ka]; exact h2)
      simp only [D.freeze] at p
      split at p
      · rename_i n
        cases p
        simp only [Sh, true_and]
        exact ⟨a, vs, h1, ga, two kq h3 _ (by rw [if_pos n])⟩
      · split at p
        · rename_i n1 n2
          cases p
          simp only [Sh, true_and]
          exact ⟨a, vs, h1, ga, two kq h3 _ (by rw [if_neg n1, if_pos n2])⟩
        · cases p
  | dct kd b ks xs =>
    cases b with
    | false =>
      simp only [Ow] at h
      have n : noOwn xs = true := by
        have q := h.1
        simp only [Sh] at q
        obtain ⟨_, a, vs, _, _, _, q⟩ := q
        exact q.noOwn
      simp only [D.freeze, n, if_true] at p
      cases p
      exact Sh.mono e _ _ h.1
    | true =>
      simp only [Ow] at h
      obtain ⟨a, vs, q, h1, h2, h5, h3, h4⟩ := h
      have ka : 1 ≤ g a := Nat.le_trans (by rw [h4]; simp only [addF, one_self]; omega) (k a)
      have kq : ∀ b, q b ≤ g b := fun b => Nat.le_trans (by rw [h4]; simp only [addF]; omega) (k b)
      have ga : Il.give Hs H g a = some (dObj kd a ks vs) := (by unfold Il.give; rw [if_pos ka]; exact h2)
      simp only [D.freeze] at p
      split at p
      · rename_i n
        cases p
        simp only [Sh, true_and]
        exact ⟨a, vs, h1, ga, h5, two kq h3 _ (by rw [if_pos n])⟩
      · split at p
        · rename_i n1 n2
          cases p
          simp only [Sh, true_and]
          exact ⟨a, vs, h1, ga, h5, two kq h3 _ (by rw [if_neg n1, if_pos n2])⟩
        · cases p
end
end Il
set_option Elab.async false
set_option linter.all false
set_option maxRecDepth 100000
set_option maxHeartbeats 1000000
/-! The operators of Il over the hand layer. -/
namespace Il
open PySem L2 PySem.Spec PyProof.Rows
theorem line_eq : sizeLine = line := by rw [sizeLine_eq]; rfl
section
variable {K : PySem.W.Frag} {cl : Nat → Addr} {Hs H : Hp}
/-- a list, by its items -/
theorem Ow.lst {o : Bool} {xs : List D} {v : V} {f : Fp} (e : Same Hs H) (h : Ow K cl Hs H (.lst o xs) v f) : ∃ a vs g, v = .ref a ∧ H a = some (.lst vs) ∧ OwL K cl Hs H xs vs g ∧ ∀ b, g b ≤ f b := by
  cases o with
  | true =>
    simp only [Ow] at h
    obtain ⟨a, vs, g, h1, h2, h3, h4⟩ := h
    exact ⟨a, vs, g, h1, h2, h3, fun b => by rw [h4]; simp only [addF]; omega⟩
  | false =>
    simp only [Ow, Sh, true_and] at h
    obtain ⟨⟨a, vs, h1, h2, h3⟩, h4⟩ := h
    exact ⟨a, vs, zf, h1, e _ _ h2, h3.owl, fun b => by simp [zf]⟩
theorem Ow.tup {o : Bool} {xs : List D} {v : V} {f : Fp} (e : Same Hs H) (h : Ow K cl Hs H (.tup o xs) v f) : ∃ a vs g, v = .ref a ∧ H a = some (.tup vs) ∧ OwL K cl Hs H xs vs g ∧ ∀ b, g b ≤ f b := by
  cases o with
  | true =>
    simp only [Ow] at h
    obtain ⟨a, vs, g, h1, h2, h3, h4⟩ := h
    exact ⟨a, vs, g, h1, h2, h3, fun b => by rw [h4]; simp only [addF]; omega⟩
  | false =>
    simp only [Ow, Sh, true_and] at h
    obtain ⟨⟨a, vs, h1, h2, h3⟩, h4⟩ := h
    exact ⟨a, vs, zf, h1, e _ _ h2, h3.owl, fun b => by simp [zf]⟩
theorem OwL.length : ∀ {ds : List D} {vs : List V} {f : Fp}, OwL K cl Hs H ds vs f → vs.length = ds.length
  | [], _, _, h => by
    simp only [OwL] at h
    rw [h.1]
    rfl
  | d :: ds, _, _, h => by
    simp only [OwL] at h
    obtain ⟨v, r, g, k, rfl, _, h3, _⟩ := h
    rw [List.length_cons, List.length_cons, OwL.length h3]
theorem OwL.get : ∀ {ds : List D} {vs : List V} {f : Fp} {i : Nat} {d : D}, OwL K cl Hs H ds vs f → ds[i]? = some d → ∃ v g, vs[i]? = some v ∧ Ow K cl Hs H d v g ∧ ∀ b, g b ≤ f b
  | [], _, _, i, _, _, e => by simp at e
  | d :: ds, _, _, 0, d', h, e => by
    simp only [OwL] at h
    obtain ⟨v, r, g, k, rfl, h2, h3, h4⟩ := h
    have ed : d = d' := by simpa using e
    subst ed
    exact ⟨v, g, rfl, h2, fun b => by rw [h4]; simp only [addF]; omega⟩
  | d :: ds, _, _, i + 1, d', h, e => by
    simp only [OwL] at h
    obtain ⟨v, r, g, k, rfl, h2, h3, h4⟩ := h
    obtain ⟨v', g', h5, h6, h7⟩ := OwL.get h3 (i := i) (by simpa using e)
    exact ⟨v', g', by simpa using h5, h6, fun b => Nat.le_trans (h7 b) (by rw [h4]; simp only [addF]; omega)⟩
theorem ShL.length {ds : List D} {vs : List V} (h : ShL K Hs ds vs) : vs.length = ds.length := (h.owl (cl := fun _ => 0) (H := Hs)).length
theorem ShL.append : ∀ {xs ys : List D} {vs us : List V}, ShL K Hs xs vs → ShL K Hs ys us → ShL K Hs (xs ++ ys) (vs ++ us)
  | [], _, _, _, h, k => by
    simp only [ShL] at h
    rw [h]
    exact k
  | d :: ds, _, _, _, h, k => by
    simp only [ShL] at h
    obtain ⟨v, r, rfl, h2, h3⟩ := h
    show ShL K Hs (d :: (ds ++ _)) (v :: (r ++ _))
    simp only [ShL]
    exact ⟨v, r ++ _, rfl, h2, ShL.append h3 k⟩
theorem ShL.take : ∀ {xs : List D} {vs : List V} (n : Nat), ShL K Hs xs vs → ShL K Hs (xs.take n) (vs.take n)
  | _, _, 0, _ => by simp only [List.take_zero, ShL]
  | [], _, n + 1, h => by
    simp only [ShL] at h
    rw [h]
    simp only [List.take_nil, ShL]
  | d :: ds, _, n + 1, h => by
    simp only [ShL] at h
    obtain ⟨v, r, rfl, h2, h3⟩ := h
    simp only [List.take_succ_cons, ShL]
    exact ⟨v, r.take n, rfl, h2, ShL.take n h3⟩
theorem ShL.drop : ∀ {xs : List D} {vs : List V} (n : Nat), ShL K Hs xs vs → ShL K Hs (xs.drop n) (vs.drop n)
  | _, _, 0, h => by simpa using h
  | [], _, n + 1, h => by
    simp only [ShL] at h
    rw [h]
    simp only [List.drop_nil, ShL]
  | d :: ds, _, n + 1, h => by
    simp only [ShL] at h
    obtain ⟨v, r, rfl, h2, h3⟩ := h
    simp only [List.drop_succ_cons]
    exact ShL.drop n h3
theorem ShL.flatten {xs : List D} {vs : List V} (h : ShL K Hs xs vs) : ∀ n : Nat, ShL K Hs (List.replicate n xs).flatten (List.replicate n vs).flatten
  | 0 => by simp only [List.replicate_zero, List.flatten_nil, ShL]
  | n + 1 => by
    simp only [List.replicate_succ, List.flatten_cons]
    exact h.append (ShL.flatten h n)
/-- what a new value is to give -/
def NewQ (K : PySem.W.Frag) (Hs H : Hp) (d : D) (Q : VK) : Prop := match d with
  | .lst true xs => ∀ p vs, H p = none → ShL K Hs xs vs → Q (.ref p) (upd H p (.lst vs))
  | .tup true xs => ∀ p vs, H p = none → ShL K Hs xs vs → Q (.ref p) (upd H p (.tup vs))
  | d => ∀ v, Sh K Hs d v → Q v H
theorem NewQ.bl {Q : VK} {b : Bool} (h : NewQ K Hs H (.bl b) Q) : Q (.bl b) H := h _ (by simp only [Sh])
theorem NewQ.int {Q : VK} {i : Int} (h : NewQ K Hs H (.int i) Q) : Q (.int i) H := h _ (by simp only [Sh])
theorem NewQ.str {Q : VK} {s : List Nat} (h : NewQ K Hs H (.str s) Q) : Q (.str ⟨s.toArray⟩) H := h _ (by simp only [Sh])
/-- two operands and what is reckoned of them -/
def rG (K : PySem.W.Frag) (cl : Nat → Addr) (o : B2) : R2 := fun x y H Q => ∃ Hs da db d fa fb, Same Hs H ∧ Ow K cl Hs H da x fa ∧ Ow K cl Hs H db y fb ∧ sem2 o da db = some d ∧ NewQ K Hs H d Q

mutual
def toPy : D → PyData
  | .non => .none
  | .bl b => .bool b
  | .int i => .int i
  | .str s => .str ⟨s.toArray⟩
  | .lst _ xs => .list (toPyL xs)
  | .tup _ xs => .tuple (toPyL xs)
  | .dct _ _ _ _ => .none
  | .ins _ _ => .none
  | .scr _ => .none
def toPyL : List D → List PyData
  | [] => []
  | d :: ds => toPy d :: toPyL ds
end
mutual
theorem dp_of (e : Same Hs H) : ∀ (d : D) (v : V) (f : Fp), d.flat = true → Ow K cl Hs H d v f → Dp K H v (toPy d)
  | .non, _, _, _, h => by
    simp only [Ow] at h
    rw [h.1]
    exact .non
  | .bl b, _, _, _, h => by
    simp only [Ow] at h
    rw [h.1]
    exact .bl b
  | .int i, _, _, _, h => by
    simp only [Ow] at h
    rw [h.1]
    exact .int i
  | .str s, _, _, _, h => by
    simp only [Ow] at h
    rw [h.1]
    exact .str _
  | .lst o xs, v, f, p, h => by
    simp only [D.flat] at p
    obtain ⟨a, vs, g, rfl, h2, h3, _⟩ := h.lst e
    exact .lst (.of h2) (dpL_of e xs vs g p h3)
  | .tup o xs, v, f, p, h => by
    simp only [D.flat] at p
    obtain ⟨a, vs, g, rfl, h2, h3, _⟩ := h.tup e
    exact .tup (.of h2) (dpL_of e xs vs g p h3)
  | .dct _ _ _ _, _, _, p, _ => by simp [D.flat] at p
  | .ins _ _, _, _, p, _ => by simp [D.flat] at p
  | .scr _, _, _, p, _ => by simp [D.flat] at p
theorem dpL_of (e : Same Hs H) : ∀ (ds : List D) (vs : List V) (f : Fp), flatL ds = true → OwL K cl Hs H ds vs f → DpAll K H vs (toPyL ds)
  | [], _, _, _, h => by
    simp only [OwL] at h
    rw [h.1]
    exact .nil
  | d :: ds, _, _, p, h => by
    simp only [OwL] at h
    obtain ⟨v, r, g, k, rfl, h2, h3, _⟩ := h
    simp only [flatL, Bool.and_eq_true] at p
    exact .cons (dp_of e d v g p.1 h2) (dpL_of e ds r k p.2 h3)
end
theorem strOk_of {s : List Nat} (h : s.all (· < 0x110000) = true) : PyData.strOk ⟨s.toArray⟩ = true := by
  unfold PyData.strOk
  simpa using h
mutual
theorem canLay_of : ∀ d : D, d.flat = true → (toPy d).canLay0 = true
  | .non, _ => by simp [toPy, PyData.canLay0]
  | .bl _, _ => by simp [toPy, PyData.canLay0]
  | .int _, _ => by simp [toPy, PyData.canLay0]
  | .str s, p => by
    simp only [D.flat] at p
    simp only [toPy, PyData.canLay0]
    exact strOk_of p
  | .lst _ xs, p => by
    simp only [D.flat] at p
    simp only [toPy, PyData.canLay0]
    exact canLayL_of xs p
  | .tup _ xs, p => by
    simp only [D.flat] at p
    simp only [toPy, PyData.canLay0]
    exact canLayL_of xs p
  | .dct _ _ _ _, p => by simp [D.flat] at p
  | .ins _ _, p => by simp [D.flat] at p
  | .scr _, p => by simp [D.flat] at p
theorem canLayL_of : ∀ ds : List D, flatL ds = true → PyData.canLayAll0 (toPyL ds) = true
  | [], _ => by simp [toPyL, PyData.canLayAll0]
  | d :: ds, p => by
    simp only [flatL, Bool.and_eq_true] at p
    simp only [toPyL, PyData.canLayAll0, canLay_of d p.1, canLayL_of ds p.2, Bool.and_self]
end
mutual
theorem depth_of : ∀ d : D, (toPy d).depth = d.depth
  | .non => by simp [toPy, PyData.depth, D.depth]
  | .bl _ => by simp [toPy, PyData.depth, D.depth]
  | .int _ => by simp [toPy, PyData.depth, D.depth]
  | .str _ => by simp [toPy, PyData.depth, D.depth]
  | .lst _ xs => by simp only [toPy, PyData.depth, D.depth, depthL_of xs]
  | .tup _ xs => by simp only [toPy, PyData.depth, D.depth, depthL_of xs]
  | .dct _ _ _ _ => by simp [toPy, PyData.depth, D.depth]
  | .ins _ _ => by simp [toPy, PyData.depth, D.depth]
  | .scr _ => by simp [toPy, PyData.depth, D.depth]
theorem depthL_of : ∀ ds : List D, PyData.depthAll (toPyL ds) = depthL ds
  | [] => by simp [toPyL, PyData.depthAll, depthL]
  | d :: ds => by simp only [toPyL, PyData.depthAll, depthL, depth_of d, depthL_of ds]
end
theorem shaped_of {d : D} (h : eqOk d = true) : SeqAt.shaped (toPy d) = true := by
  simp only [eqOk, Bool.and_eq_true, decide_eq_true_eq] at h
  unfold SeqAt.shaped
  rw [canLay_of d h.1, depth_of d]
  simpa using h.2
mutual
theorem eqv_of : ∀ a b : D, a.flat = true → b.flat = true → PyData.eqv (toPy a) (toPy b) = eqb a b
  | .non, b, _, q => by cases b <;> simp_all [toPy, PyData.eqv, eqb, D.flat]
  | .bl _, b, _, q => by cases b <;> simp_all [toPy, PyData.eqv, eqb, D.flat]
  | .int _, b, _, q => by cases b <;> simp_all [toPy, PyData.eqv, eqb, D.flat]
  | .str s, b, _, q => by
    cases b with
    | str t =>
      simp only [toPy, PyData.eqv, eqb]
      rw [Bool.eq_iff_iff]
      simp
    | _ => simp_all [toPy, PyData.eqv, eqb, D.flat]
  | .lst _ xs, b, p, q => by
    cases b with
    | lst o ys =>
      simp only [toPy, PyData.eqv, eqb]
      exact eqvL_of xs ys (by simpa only [D.flat] using p) (by simpa only [D.flat] using q)
    | _ => simp_all [toPy, PyData.eqv, eqb, D.flat]
  | .tup _ xs, b, p, q => by
    cases b with
    | tup o ys =>
      simp only [toPy, PyData.eqv, eqb]
      exact eqvL_of xs ys (by simpa only [D.flat] using p) (by simpa only [D.flat] using q)
    | _ => simp_all [toPy, PyData.eqv, eqb, D.flat]
  | .dct _ _ _ _, _, p, _ => by simp [D.flat] at p
  | .ins _ _, _, p, _ => by simp [D.flat] at p
  | .scr _, _, p, _ => by simp [D.flat] at p
theorem eqvL_of : ∀ xs ys : List D, flatL xs = true → flatL ys = true → PyData.eqvAll (toPyL xs) (toPyL ys) = eqbL xs ys
  | [], ys, _, _ => by cases ys <;> simp [toPyL, PyData.eqvAll, eqbL]
  | x :: xs, ys, p, q => by
    cases ys with
    | nil => simp [toPyL, PyData.eqvAll, eqbL]
    | cons y ys =>
      simp only [flatL, Bool.and_eq_true] at p q
      simp only [toPyL, PyData.eqvAll, eqbL, eqv_of x y p.1 q.1, eqvL_of xs ys p.2 q.2]
end
theorem toD_str {s t : List Nat} : decide (V.str ⟨s.toArray⟩ = V.str ⟨t.toArray⟩) = (s == t) := by
  rw [Bool.eq_iff_iff]
  simp

variable {X : Cx}
theorem opS_add : OpR X (binaryOp .Add) (rG K cl .add) := by
  intro pins s σ H x y v u Q I rx ry h
  obtain ⟨Hs, da, db, d, fa, fb, e, ha, hb, hs, hq⟩ := h
  cases da <;> cases db <;> simp only [sem2] at hs <;> first | cases hs | skip
  · simp only [Ow] at ha hb
    rw [ha.1] at rx
    rw [hb.1] at ry
    exact op_add pins s σ H _ _ v u Q I rx ry ⟨_, _, rfl, rfl, hq.int⟩
  · rename_i s1 s2
    split at hs
    · rename_i hz
      cases hs
      simp only [Ow] at ha hb
      rw [ha.1] at rx
      rw [hb.1] at ry
      refine op_add_str pins s σ H _ _ v u Q I rx ry ⟨_, _, rfl, rfl, ?_, ?_⟩
      · rw [line_eq]
        simpa [Str.length] using hz
      · have := hq.str
        have e : (⟨s1.toArray⟩ ++ ⟨s2.toArray⟩ : Str) = ⟨(s1 ++ s2).toArray⟩ := by
          show Str.append _ _ = _
          unfold Str.append
          simp
        rw [e]
        exact this
    · cases hs
  · rename_i o1 xs o2 ys
    split at hs
    · rename_i hz
      cases hs
      simp only [Bool.and_eq_true, decide_eq_true_eq] at hz
      obtain ⟨a, vs, g, rfl, r1, l1, _⟩ := ha.lst e
      obtain ⟨b, us, g2, rfl, r2, l2, _⟩ := hb.lst e
      obtain ⟨sh1, _⟩ := OwL.shl hz.1.1 l1
      obtain ⟨sh2, _⟩ := OwL.shl hz.1.2 l2
      have k3 := sh1.length
      have k4 := sh2.length
      exact op_cat pins s σ H _ _ v u Q I rx ry ⟨_, _, _, _, rfl, rfl, r1, r2, by rw [line_eq]; omega, fun p hp => hq _ _ hp (sh1.append sh2)⟩
    · cases hs
theorem opS_sub : OpR X (binaryOp .Sub) (rG K cl .sub) := by
  intro pins s σ H x y v u Q I rx ry h
  obtain ⟨Hs, da, db, d, fa, fb, e, ha, hb, hs, hq⟩ := h
  cases da <;> cases db <;> simp only [sem2] at hs <;> first | cases hs | skip
  simp only [Ow] at ha hb
  rw [ha.1] at rx
  rw [hb.1] at ry
  exact op_sub pins s σ H _ _ v u Q I rx ry ⟨_, _, rfl, rfl, hq.int⟩
theorem opS_mul : OpR X (binaryOp .Mult) (rG K cl .mul) := by
  intro pins s σ H x y v u Q I rx ry h
  obtain ⟨Hs, da, db, d, fa, fb, e, ha, hb, hs, hq⟩ := h
  cases da <;> cases db <;> simp only [sem2] at hs <;> first | cases hs | skip
  · split at hs
    · rename_i hz
      cases hs
      simp only [Bool.or_eq_true, small64_iff] at hz
      simp only [Ow] at ha hb
      rw [ha.1] at rx
      rw [hb.1] at ry
      exact op_mul pins s σ H _ _ v u Q I rx ry ⟨_, _, rfl, rfl, hz, hq.int⟩
    · cases hs
  · rename_i s0 n0
    split at hs
    · rename_i hz
      cases hs
      simp only [Bool.and_eq_true, decide_eq_true_eq] at hz
      obtain ⟨⟨h0, h1⟩, h2⟩ := hz
      simp only [Ow] at ha hb
      rw [ha.1] at rx
      rw [hb.1] at ry
      obtain ⟨t1, rfl⟩ := rx
      obtain ⟨t2, rfl⟩ := ry
      have q0 := hq.str
      have ln : (⟨s0.toArray⟩ : Str).length = s0.length := by simp [Str.length]
      have fold : ∀ (m : Nat) (b : Array Nat), (List.replicate m s0.toArray).foldl (· ++ ·) b = b ++ (List.replicate m s0).flatten.toArray := by
        intro m
        induction m with
        | zero => intro b; simp
        | succ m ih =>
          intro b
          rw [List.replicate_succ, List.foldl_cons, ih, List.replicate_succ, List.flatten_cons]
          simp
      refine PySem.P.mul_str ?_ ?_ ?_ ?_
      · rw [decide_eq_false (by omega), decide_eq_false (by omega)]
        rfl
      · intro a1 a2 a3
        have : n0 ≥ 2 := by
          have : ¬ n0 = 1 := by
            intro z
            rw [z] at a2
            simp at a2
          omega
        have b1 : ((s0.length : Int)) * n0 ≤ 16777216 := by
          have c1 : ((s0.length * n0.toNat : Nat) : Int) ≤ ((16777216 : Nat) : Int) := Int.ofNat_le.mpr h2
          rw [Int.natCast_mul, Int.toNat_of_nonneg h0] at c1
          exact c1
        rw [ln] at a3
        have b2 : ((2 ^ 63 - 1) / n0 + 1) * n0 ≤ (s0.length : Int) * n0 := Int.mul_le_mul_of_nonneg_right (by omega) h0
        have b3 : (2 ^ 63 - 1 : Int) < ((2 ^ 63 - 1) / n0 + 1) * n0 := Int.lt_ediv_add_one_mul_self _ (by omega)
        omega
      · intro _ _
        unfold Builtin.Str.tooLong
        rw [ln, line_eq]
        simpa using h2
      · by_cases c0 : n0 < 1
        · rw [if_pos c0]
          have z0 : n0 = 0 := by omega
          subst z0
          exact ⟨by decide, .str Str.empty, H, I.tok _, ⟨_, rfl⟩, (by have q1 := q0; simp at q1; exact q1)⟩
        · rw [if_neg c0]
          by_cases c1 : (n0 == 1 || (⟨s0.toArray⟩ : Str).length == 0) = true
          · rw [if_pos c1]
            rw [ln] at c1
            simp only [Bool.or_eq_true, beq_iff_eq] at c1
            have e0 : (List.replicate n0.toNat s0).flatten = s0 := by
              rcases c1 with rfl | c1
              · simp
              · have : s0 = [] := List.eq_nil_of_length_eq_zero c1
                subst this
                simp
            rw [e0] at q0
            exact ⟨.str ⟨s0.toArray⟩, H, I, ⟨_, rfl⟩, q0⟩
          · rw [if_neg c1]
            have e0 : ((List.replicate n0.toNat (⟨s0.toArray⟩ : Str).cps).foldl (· ++ ·) #[]) = (List.replicate n0.toNat s0).flatten.toArray := by
              rw [fold]
              simp
            rw [e0]
            refine ⟨?_, .str ⟨(List.replicate n0.toNat s0).flatten.toArray⟩, H, I.tok _, ⟨_, rfl⟩, q0⟩
            show (List.replicate n0.toNat s0).flatten.toArray.size ≤ sizeLine
            rw [line_eq]
            simpa [Nat.mul_comm] using h2
    · cases hs
  · rename_i o1 xs k
    split at hs
    · rename_i hz
      cases hs
      simp only [Bool.and_eq_true, decide_eq_true_eq] at hz
      obtain ⟨⟨⟨hn, hk1⟩, hk2⟩, hk3⟩ := hz
      obtain ⟨a, vs, g, rfl, r1, l1, _⟩ := ha.lst e
      obtain ⟨sh1, _⟩ := OwL.shl hn l1
      simp only [Ow] at hb
      rw [hb.1] at ry
      have k3 := sh1.length
      exact op_rep pins s σ H _ _ v u Q I rx ry ⟨_, _, _, rfl, rfl, r1, hk1, hk2, by rw [line_eq, k3]; exact hk3, fun p hp => hq _ _ hp (sh1.flatten _)⟩
    · cases hs
theorem opS_fdiv : OpR X (binaryOp .FloorDiv) (rG K cl .fdiv) := by
  intro pins s σ H x y v u Q I rx ry h
  obtain ⟨Hs, da, db, d, fa, fb, e, ha, hb, hs, hq⟩ := h
  cases da <;> cases db <;> simp only [sem2] at hs <;> first | cases hs | skip
  split at hs
  · rename_i hz
    cases hs
    simp only [Ow] at ha hb
    rw [ha.1] at rx
    rw [hb.1] at ry
    exact op_fdiv pins s σ H _ _ v u Q I rx ry ⟨_, _, rfl, rfl, hz, hq.int⟩
  · cases hs
theorem opS_mod : OpR X (binaryOp .Mod) (rG K cl .mod) := by
  intro pins s σ H x y v u Q I rx ry h
  obtain ⟨Hs, da, db, d, fa, fb, e, ha, hb, hs, hq⟩ := h
  cases da <;> cases db <;> simp only [sem2] at hs <;> first | cases hs | skip
  split at hs
  · rename_i hz
    cases hs
    simp only [Ow] at ha hb
    rw [ha.1] at rx
    rw [hb.1] at ry
    exact op_mod pins s σ H _ _ v u Q I rx ry ⟨_, _, rfl, rfl, hz, hq.int⟩
  · cases hs
theorem opS_pow : OpR X (binaryOp .Pow) (rG K cl .pow) := by
  intro pins s σ H x y v u Q I rx ry h
  obtain ⟨Hs, da, db, d, fa, fb, e, ha, hb, hs, hq⟩ := h
  cases da <;> cases db <;> simp only [sem2] at hs <;> first | cases hs | skip
  split at hs
  · rename_i hz
    cases hs
    simp only [Ow] at ha hb
    rw [ha.1] at rx
    rw [hb.1] at ry
    exact op_pow pins s σ H _ _ v u Q I rx ry ⟨_, _, rfl, rfl, hz, hq.int⟩
  · cases hs
theorem opS_cmp {op : CmpOp} {o : B2} {g : Int → Int → Bool} (ho : OpR X (compareOp op) (rI0 fun i j => .bl (g i j))) (hs0 : ∀ a b, sem2 o a b = match a, b with | .int i, .int j => some (.bl (g i j)) | _, _ => none) : OpR X (compareOp op) (rG K cl o) := by
  intro pins s σ H x y v u Q I rx ry h
  obtain ⟨Hs, da, db, d, fa, fb, e, ha, hb, hs, hq⟩ := h
  rw [hs0] at hs
  cases da <;> cases db <;> first | cases hs | skip
  simp only [Ow] at ha hb
  rw [ha.1] at rx
  rw [hb.1] at ry
  exact ho pins s σ H _ _ v u Q I rx ry ⟨_, _, rfl, rfl, hq.bl⟩
theorem opS_lt : OpR X (compareOp .Lt) (rG K cl .lt) := opS_cmp (g := fun i j => decide (i < j)) op_lt (fun a b => by cases a <;> cases b <;> rfl)
theorem opS_le : OpR X (compareOp .LtE) (rG K cl .le) := opS_cmp (g := fun i j => decide (i ≤ j)) op_le (fun a b => by cases a <;> cases b <;> rfl)
theorem opS_gt : OpR X (compareOp .Gt) (rG K cl .gt) := opS_cmp (g := fun i j => decide (j < i)) op_gt (fun a b => by cases a <;> cases b <;> rfl)
theorem opS_ge : OpR X (compareOp .GtE) (rG K cl .ge) := opS_cmp (g := fun i j => decide (j ≤ i)) op_ge (fun a b => by cases a <;> cases b <;> rfl)
/-- == of two data: the scalars, or data at any depth -/
theorem scalD_ok {a b : D} {x y : V} {fa fb : Fp} {r : Bool} (e : Same Hs H) (ha : Ow K cl Hs H a x fa) (hb : Ow K cl Hs H b y fb) (h : scalD a b = some r) :
    (scal x y = true ∧ decide (x = y) = r) ∨ (∃ d e, Dp K H x d ∧ Dp K H y e ∧ SeqAt.shaped d = true ∧ SeqAt.shaped e = true ∧ PyData.eqv d e = r) := by
  have deep : ∀ {a b : D}, Ow K cl Hs H a x fa → Ow K cl Hs H b y fb → eqD a b = some r → ∃ d e, Dp K H x d ∧ Dp K H y e ∧ SeqAt.shaped d = true ∧ SeqAt.shaped e = true ∧ PyData.eqv d e = r := by
    intro a b ha hb h
    unfold eqD at h
    split at h
    · rename_i hz
      cases h
      simp only [Bool.and_eq_true] at hz
      have f1 := hz.1
      have f2 := hz.2
      simp only [eqOk, Bool.and_eq_true] at f1 f2
      exact ⟨_, _, dp_of e _ _ _ f1.1 ha, dp_of e _ _ _ f2.1 hb, shaped_of hz.1, shaped_of hz.2, eqv_of _ _ f1.1 f2.1⟩
    · cases h
  unfold scalD at h
  split at h
  · cases h
    simp only [Ow] at ha hb
    rw [ha.1, hb.1]
    exact .inl ⟨rfl, rfl⟩
  · cases h
    simp only [Ow] at ha hb
    rw [ha.1, hb.1]
    exact .inl ⟨rfl, by simp⟩
  · cases h
    simp only [Ow] at ha hb
    rw [ha.1, hb.1]
    exact .inl ⟨rfl, by simp⟩
  · cases h
    simp only [Ow] at ha hb
    rw [ha.1, hb.1]
    exact .inl ⟨rfl, by simp⟩
  · cases h
    simp only [Ow] at ha hb
    rw [ha.1, hb.1]
    exact .inl ⟨rfl, by simp⟩
  · cases h
    simp only [Ow] at ha hb
    rw [ha.1, hb.1]
    exact .inl ⟨rfl, dec_bl⟩
  · cases h
    simp only [Ow] at ha hb
    rw [ha.1, hb.1]
    exact .inl ⟨rfl, dec_int⟩
  · cases h
    simp only [Ow] at ha hb
    rw [ha.1, hb.1]
    exact .inl ⟨rfl, toD_str⟩
  · exact .inr (deep ha hb h)
theorem opS_eq (hu : X.A.units + 64 < cLine) : OpR X (compareOp .Eq) (rG X.K cl .eq) := by
  intro pins s σ H x y v u Q I rx ry h
  obtain ⟨Hs, da, db, d, fa, fb, e, ha, hb, hs, hq⟩ := h
  simp only [sem2] at hs
  cases hr : scalD da db with
  | none =>
    rw [hr] at hs
    cases hs
  | some r =>
    rw [hr] at hs
    cases hs
    rcases scalD_ok e ha hb hr with ⟨h1, h2⟩ | ⟨d, e', h1, h2, h3, h4, h5⟩
    · exact op_eq pins s σ H _ _ v u Q I rx ry ⟨h1, by rw [h2]; exact hq.bl⟩
    · exact op_eqD hu pins s σ H _ _ v u Q I rx ry ⟨d, e', h1, h2, h3, h4, by rw [h5]; exact hq.bl⟩
theorem opS_ne (hu : X.A.units + 64 < cLine) : OpR X (compareOp .NotEq) (rG X.K cl .ne) := by
  intro pins s σ H x y v u Q I rx ry h
  obtain ⟨Hs, da, db, d, fa, fb, e, ha, hb, hs, hq⟩ := h
  simp only [sem2] at hs
  cases hr : scalD da db with
  | none =>
    rw [hr] at hs
    cases hs
  | some r =>
    rw [hr] at hs
    cases hs
    rcases scalD_ok e ha hb hr with ⟨h1, h2⟩ | ⟨d, e', h1, h2, h3, h4, h5⟩
    · exact op_ne pins s σ H _ _ v u Q I rx ry ⟨h1, by rw [h2]; exact hq.bl⟩
    · exact op_neD hu pins s σ H _ _ v u Q I rx ry ⟨d, e', h1, h2, h3, h4, by rw [h5]; exact hq.bl⟩
theorem scalar_v {d : D} {v : V} {f : Fp} (p : scalar d = true) (h : Ow K cl Hs H d v f) : flatV v = true := by
  cases d <;> simp_all [scalar, Ow] <;> rfl
theorem scalar_vs : ∀ {ds : List D} {vs : List V} {f : Fp}, ds.all scalar = true → OwL K cl Hs H ds vs f → vs.all flatV = true
  | [], _, _, _, h => by
    simp only [OwL] at h
    rw [h.1]
    rfl
  | d :: ds, _, _, p, h => by
    simp only [OwL] at h
    obtain ⟨v, r, g, k, rfl, h2, h3, _⟩ := h
    simp only [List.all_cons, Bool.and_eq_true] at p ⊢
    exact ⟨scalar_v p.1 h2, scalar_vs p.2 h3⟩
theorem eqV_of {a b : D} {x y : V} {f g : Fp} (p : scalar a = true) (q : scalar b = true) (ha : Ow K cl Hs H a x f) (hb : Ow K cl Hs H b y g) : eqV x y = eqb a b := by
  cases a <;> cases b <;> simp_all [scalar, Ow, eqb, eqV]
  rw [Bool.eq_iff_iff]
  simp
theorem inV_of {a : D} {x : V} {f : Fp} (p : scalar a = true) (ha : Ow K cl Hs H a x f) : ∀ {ds : List D} {vs : List V} {g : Fp}, ds.all scalar = true → OwL K cl Hs H ds vs g → inV x vs = ds.any fun z => eqb z a
  | [], _, _, _, h => by
    simp only [OwL] at h
    rw [h.1]
    rfl
  | d :: ds, _, _, q, h => by
    simp only [OwL] at h
    obtain ⟨v, r, g, k, rfl, h2, h3, _⟩ := h
    simp only [List.all_cons, Bool.and_eq_true] at q
    have ih := inV_of p ha q.2 h3
    unfold inV at ih ⊢
    simp only [List.any_cons, eqV_of q.1 p h2 ha, ih]

/-! ### keys and dicts -/
theorem akV_of {d : D} {a : AK} {v : V} {f : Fp} (h : akey d = some a) (o : Ow K cl Hs H d v f) : v = akV a := by
  cases d <;> simp only [akey] at h <;> first | cases h | skip
  all_goals
    simp only [Ow] at o
    exact o.1
theorem kV_akK {a : AK} (h : akPlain a = true) : kV (akK a) = akV a := by
  cases a with
  | non => cases h
  | int _ => rfl
  | str _ => rfl
theorem akK_inj {a b : AK} (p : akPlain a = true) (q : akPlain b = true) (h : akK a = akK b) : a = b := by
  cases a <;> cases b <;> simp_all [akPlain, akK]
theorem akVs_of : ∀ {ds : List D} {as : List AK} {vs : List V} {f : Fp}, akeys ds = some as → OwL K cl Hs H ds vs f → vs = as.map akV
  | [], _, _, _, h, o => by
    simp only [akeys] at h
    cases h
    simp only [OwL] at o
    exact o.1
  | d :: ds, _, _, _, h, o => by
    simp only [akeys] at h
    split at h
    · rename_i k ks h1 h2
      cases h
      simp only [OwL] at o
      obtain ⟨v, r, g, k', rfl, o2, o3, _⟩ := o
      rw [akV_of h1 o2, akVs_of h2 o3]
      rfl
    · cases h
theorem kVs_akK : ∀ {as : List AK}, as.all akPlain = true → (as.map akK).map kV = as.map akV
  | [], _ => rfl
  | a :: as, h => by
    simp only [List.all_cons, Bool.and_eq_true] at h
    simp only [List.map_cons, kV_akK h.1, kVs_akK h.2]
theorem akKs_inj : ∀ {as bs : List AK}, as.all akPlain = true → bs.all akPlain = true → as.map akK = bs.map akK → as = bs
  | [], [], _, _, _ => rfl
  | [], b :: bs, _, _, h => by simp at h
  | a :: as, [], _, _, h => by simp at h
  | a :: as, b :: bs, p, q, h => by
    simp only [List.all_cons, Bool.and_eq_true] at p q
    simp only [List.map_cons, List.cons.injEq] at h
    rw [akK_inj p.1 q.1 h.1, akKs_inj p.2 q.2 h.2]
theorem kyK_inj {a b : Ky} (p : kyOk .k a = true) (q : kyOk .k b = true) (h : kyK a = kyK b) : a = b := by
  cases a <;> cases b <;> simp only [kyOk, kyK] at p q h <;> first | (rw [akK_inj p q h]) | cases p | cases q
theorem kyT_inj {a b : Ky} (p : kyOk .t a = true) (q : kyOk .t b = true) (h : kyT a = kyT b) : a = b := by
  cases a <;> cases b <;> simp only [kyOk, kyT] at p q h <;> first | (rw [akKs_inj p q h]) | cases p | cases q
/-- a dict looked up by a key -/
theorem look_ok {κ : Type} [DecidableEq κ] {g : Ky → κ} {P : Ky → Prop} (inj : ∀ a b, P a → P b → g a = g b → a = b) {q : Ky} (hq : P q) :
    ∀ {ks : List Ky} {ds : List D} {vs : List V} {f : Fp}, (∀ k ∈ ks, P k) → OwL K cl Hs H ds vs f →
    match look ks ds q with
    | some d => ∃ v f', valV ((ks.map g).zip vs) (g q) = some v ∧ Ow K cl Hs H d v f' ∧ ∀ b, f' b ≤ f b
    | none => ks.length = ds.length → valV ((ks.map g).zip vs) (g q) = none
  | [], ds, vs, f, _, _ => by
    simp only [look]
    intro _
    rfl
  | k :: ks, [], vs, f, _, h => by
    simp only [look]
    intro e
    simp at e
  | k :: ks, d :: ds, vs, f, hk, h => by
    simp only [OwL] at h
    obtain ⟨v, r, g1, g2, rfl, h2, h3, h4⟩ := h
    simp only [look, List.map_cons, List.zip_cons_cons]
    by_cases e : k = q
    · subst e
      rw [if_pos rfl]
      exact ⟨v, g1, valV_pos rfl, h2, fun b => by rw [h4]; simp only [addF]; omega⟩
    · rw [if_neg e]
      have ne : ¬ g k = g q := fun z => e (inj _ _ (hk _ (List.mem_cons_self ..)) hq z)
      have ih := look_ok inj hq (ks := ks) (fun k' m => hk k' (List.mem_cons_of_mem _ m)) h3
      rw [valV_neg (by exact ne)]
      cases z : look ks ds q with
      | some d' =>
        rw [z] at ih
        obtain ⟨v', f', i1, i2, i3⟩ := ih
        exact ⟨v', f', i1, i2, fun b => Nat.le_trans (i3 b) (by rw [h4]; simp only [addF]; omega)⟩
      | none =>
        rw [z] at ih
        intro el
        exact ih (by simpa using el)
theorem Ow.dct {kd : DK} {o : Bool} {ks : List Ky} {ds : List D} {v : V} {f : Fp} (e : Same Hs H) (h : Ow K cl Hs H (.dct kd o ks ds) v f) : ∃ a vs g, v = .ref a ∧ H a = some (dObj kd a ks vs) ∧ dOk kd ks vs.length ∧ OwL K cl Hs H ds vs g ∧ ∀ b, g b ≤ f b := by
  cases o with
  | true =>
    simp only [Ow] at h
    obtain ⟨a, vs, g, h1, h2, h5, h3, h4⟩ := h
    exact ⟨a, vs, g, h1, h2, h5, h3, fun b => by rw [h4]; simp only [addF]; omega⟩
  | false =>
    simp only [Ow, Sh, true_and] at h
    obtain ⟨⟨a, vs, h1, h2, h5, h3⟩, h4⟩ := h
    exact ⟨a, vs, zf, h1, e _ _ h2, h5, h3.owl, fun b => by simp [zf]⟩
/-- d[k], k in d: what stands in the heap -/
theorem dget_ok {kd : DK} {o : Bool} {ks : List Ky} {ds : List D} {dk : D} {q : Ky} {x y : V} {f g : Fp} (e : Same Hs H) (h : Ow K cl Hs H (.dct kd o ks ds) x f) (hy : Ow K cl Hs H dk y g) (hq : key dk = some q) (ok : kyOk kd q = true) :
    ∃ a r, x = .ref a ∧ DGet H a y r ∧ IsD H a ∧ match look ks ds q with
    | some d => ∃ v f', r = some v ∧ Ow K cl Hs H d v f' ∧ ∀ b, f' b ≤ f b
    | none => r = none := by
  obtain ⟨a, vs, f1, rfl, h2, ⟨h3, h4, h5⟩, h6, h7⟩ := h.dct e
  have hlen : ks.length = ds.length := by rw [h3, h6.length]
  cases kd with
  | k =>
    cases q with
    | t as => simp [kyOk] at ok
    | a ak =>
      have hv : y = kV (akK ak) := by
        have pl : akPlain ak = true := by simpa only [kyOk] using ok
        rw [kV_akK pl]
        have hk : akey dk = some ak := by
          unfold key at hq
          split at hq
          · cases hz : akeys _ <;> rw [hz] at hq <;> simp at hq
          · cases hz : akey dk <;> rw [hz] at hq <;> simp at hq
            rw [hq]
        exact akV_of hk hy
      have L := look_ok (K := K) (cl := cl) (Hs := Hs) (H := H) (g := kyK) (P := fun k => kyOk .k k = true) (fun _ _ => kyK_inj) ok h4 h6
      refine ⟨a, valV ((ks.map kyK).zip vs) (akK ak), rfl, by rw [hv]; exact .k h2, .inl ⟨_, .inl h2⟩, ?_⟩
      cases z : look ks ds (.a ak) with
      | some d =>
        rw [z] at L
        obtain ⟨v, f', i1, i2, i3⟩ := L
        exact ⟨v, f', i1, i2, fun b => Nat.le_trans (i3 b) (h7 b)⟩
      | none =>
        rw [z] at L
        exact L hlen
  | t =>
    cases q with
    | a ak => simp [kyOk] at ok
    | t as =>
      have pl : as.all akPlain = true := by simpa only [kyOk] using ok
      have hk : ∃ xs, dk = .tup false xs ∧ akeys xs = some as := by
        unfold key at hq
        split at hq
        · rename_i xs
          refine ⟨xs, rfl, ?_⟩
          cases hz : akeys xs <;> rw [hz] at hq <;> simp at hq
          rw [hq]
        · cases hz : akey dk <;> rw [hz] at hq <;> simp at hq
      obtain ⟨xs, rfl, hx⟩ := hk
      obtain ⟨b, us, g1, rfl, t2, t3, _⟩ := hy.tup e
      have ev := akVs_of hx t3
      have L := look_ok (K := K) (cl := cl) (Hs := Hs) (H := H) (g := kyT) (P := fun k => kyOk .t k = true) (fun _ _ => kyT_inj) ok h4 h6
      refine ⟨a, valV ((ks.map kyT).zip vs) (as.map akK), rfl, .t h2 (by rw [t2, ev, kVs_akK pl]), .inr ⟨_, .inl h2⟩, ?_⟩
      cases z : look ks ds (.t as) with
      | some d =>
        rw [z] at L
        obtain ⟨v, f', i1, i2, i3⟩ := L
        exact ⟨v, f', i1, i2, fun b => Nat.le_trans (i3 b) (h7 b)⟩
      | none =>
        rw [z] at L
        exact L hlen
  | x =>
    cases q <;> simp [kyOk] at ok
  | y =>
    cases q <;> simp [kyOk] at ok
theorem opR_din (hu : X.A.units + 1 < cLine) : OpR X (compareOp .In) (fun y x H Q => ∃ a o, x = .ref a ∧ DGet H a y o ∧ Q (.bl o.isSome) H) := by
  intro pins s σ H y x v u Q I ry rx h
  obtain ⟨a, o, rfl, g, q⟩ := h
  cases rx
  exact d_in hu I g ry fun s' I' => ⟨.bl _, H, I', rfl, q⟩
theorem opR_dnotin (hu : X.A.units + 1 < cLine) : OpR X (compareOp .NotIn) (fun y x H Q => ∃ a o, x = .ref a ∧ DGet H a y o ∧ Q (.bl (!o.isSome)) H) := by
  intro pins s σ H y x v u Q I ry rx h
  obtain ⟨a, o, rfl, g, q⟩ := h
  cases rx
  exact d_notIn hu I g ry fun s' I' => ⟨.bl _, H, I', rfl, q⟩
/-- what «in» is told by -/
theorem inD_ok {da db : D} {x y : V} {fa fb : Fp} {r : Bool} (e : Same Hs H) (ha : Ow K cl Hs H da x fa) (hb : Ow K cl Hs H db y fb) (h : inD da db = some r) :
    (∃ p xs, y = .ref p ∧ (H p = some (.lst xs) ∨ H p = some (.tup xs)) ∧ flatV x = true ∧ xs.all flatV = true ∧ inV x xs = r) ∨ (∃ (c : Nat) (z : Str), x = .str ⟨#[c]⟩ ∧ y = .str z ∧ decide (c ∈ z.cps.toList) = r) ∨
    (∃ a o, y = .ref a ∧ DGet H a x o ∧ o.isSome = r) := by
  cases db with
  | lst o xs =>
    simp only [inD, inL] at h
    split at h
    · rename_i hz
      cases h
      simp only [Bool.and_eq_true] at hz
      obtain ⟨a, vs, g, rfl, h2, h3, _⟩ := hb.lst e
      exact .inl ⟨a, vs, rfl, .inl h2, scalar_v hz.1 ha, scalar_vs hz.2 h3, inV_of hz.1 ha hz.2 h3⟩
    · cases h
  | tup o xs =>
    simp only [inD, inL] at h
    split at h
    · rename_i hz
      cases h
      simp only [Bool.and_eq_true] at hz
      obtain ⟨a, vs, g, rfl, h2, h3, _⟩ := hb.tup e
      exact .inl ⟨a, vs, rfl, .inr h2, scalar_v hz.1 ha, scalar_vs hz.2 h3, inV_of hz.1 ha hz.2 h3⟩
    · cases h
  | str s =>
    simp only [inD] at h
    split at h
    · cases h
      simp only [Ow] at ha hb
      exact .inr (.inl ⟨_, _, ha.1, hb.1, by simp⟩)
    · cases h
  | dct kd o ks ds =>
    simp only [inD] at h
    split at h
    · rename_i q hq
      split at h
      · rename_i ok
        cases h
        obtain ⟨a, r, rfl, h1, h2, h3⟩ := dget_ok e hb ha hq ok
        refine .inr (.inr ⟨a, r, rfl, h1, ?_⟩)
        cases z : look ks ds q with
        | some d =>
          rw [z] at h3
          obtain ⟨v, _, rfl, _⟩ := h3
          rfl
        | none =>
          rw [z] at h3
          rw [h3]
          rfl
      · cases h
    · cases h
  | non => simp [inD] at h
  | bl _ => simp [inD] at h
  | int _ => simp [inD] at h
  | ins _ _ => simp [inD] at h
  | scr _ => simp [inD] at h
theorem opS_in (hu : X.A.units + 1 < cLine) : OpR X (compareOp .In) (rG X.K cl .isIn) := by
  intro pins s σ H x y v u Q I rx ry h
  obtain ⟨Hs, da, db, d, fa, fb, e, ha, hb, hs, hq⟩ := h
  simp only [sem2] at hs
  cases hr : inD da db with
  | none =>
    rw [hr] at hs
    cases hs
  | some r =>
    rw [hr] at hs
    cases hs
    rcases inD_ok e ha hb hr with ⟨p, xs, rfl, h1, h2, h3, h4⟩ | ⟨c, z, rfl, rfl, h4⟩ | ⟨a, o, rfl, h1, h4⟩
    · refine op_in_seq pins s σ H _ _ v u Q I rx ry ⟨p, xs, rfl, h1.imp .of .of, h2, h3, ?_⟩
      simp only [Bool.false_eq_true, if_false]
      rw [h4]
      exact hq.bl
    · exact op_in_sign pins s σ H _ _ v u Q I rx ry ⟨c, z, rfl, rfl, by rw [h4]; exact hq.bl⟩
    · exact opR_din hu pins s σ H _ _ v u Q I rx ry ⟨a, o, rfl, h1, by rw [h4]; exact hq.bl⟩
theorem opS_notin (hu : X.A.units + 1 < cLine) : OpR X (compareOp .NotIn) (rG X.K cl .notIn) := by
  intro pins s σ H x y v u Q I rx ry h
  obtain ⟨Hs, da, db, d, fa, fb, e, ha, hb, hs, hq⟩ := h
  simp only [sem2] at hs
  cases hr : inD da db with
  | none =>
    rw [hr] at hs
    cases hs
  | some r =>
    rw [hr] at hs
    cases hs
    rcases inD_ok e ha hb hr with ⟨p, xs, rfl, h1, h2, h3, h4⟩ | ⟨c, z, rfl, rfl, h4⟩ | ⟨a, o, rfl, h1, h4⟩
    · refine op_notIn_seq pins s σ H _ _ v u Q I rx ry ⟨p, xs, rfl, h1.imp .of .of, h2, h3, ?_⟩
      simp only [if_true]
      rw [h4]
      exact hq.bl
    · exact op_notIn_sign pins s σ H _ _ v u Q I rx ry ⟨c, z, rfl, rfl, by rw [h4]; exact hq.bl⟩
    · exact opR_dnotin hu pins s σ H _ _ v u Q I rx ry ⟨a, o, rfl, h1, by rw [h4]; exact hq.bl⟩
end
end Il
set_option Elab.async false
set_option linter.all false
set_option maxRecDepth 100000
set_option maxHeartbeats 1000000
/-! Methods, built-ins, items: the operators of Il over the hand layer, continued. -/
namespace Il
open PySem L2 PySem.Spec PyProof.Rows
theorem idxOf_some {c : Nat} : ∀ {s : List Nat} {i : Nat}, idxOf? c s = some i → s[i]? = some c ∧ ∀ k, k < i → s[k]? ≠ some c
  | [], i, h => by simp [idxOf?] at h
  | x :: xs, i, h => by
    simp only [idxOf?] at h
    split at h
    · rename_i e
      cases h
      subst e
      exact ⟨rfl, fun k hk => absurd hk (Nat.not_lt_zero _)⟩
    · rename_i e
      cases z : idxOf? c xs with
      | none =>
        rw [z] at h
        simp at h
      | some j =>
        rw [z] at h
        simp at h
        subst h
        obtain ⟨h1, h2⟩ := idxOf_some z
        refine ⟨by simpa using h1, fun k hk => ?_⟩
        cases k with
        | zero => simpa using e
        | succ k => simpa using h2 k (by omega)
theorem idxOf_none {c : Nat} : ∀ {s : List Nat}, idxOf? c s = none → ∀ k : Nat, s[k]? ≠ some c
  | [], _, k => by simp
  | x :: xs, h, k => by
    simp only [idxOf?] at h
    split at h
    · cases h
    · rename_i e
      cases z : idxOf? c xs with
      | some j =>
        rw [z] at h
        simp at h
      | none =>
        cases k with
        | zero => simpa using e
        | succ k => simpa using idxOf_none z k
theorem find_idx (c : Nat) (s : List Nat) : Txt.find ⟨s.toArray⟩ ⟨#[c]⟩ = findI c s := by
  unfold findI
  have key : ∀ i, StrLaws.At ⟨s.toArray⟩ ⟨#[c]⟩ (⟨s.toArray⟩ : Str).length i ↔ s[i]? = some c := fun i => by
    have q := StrLaws.subAt_one ⟨s.toArray⟩ c i
    simpa [StrLaws.At] using q
  rcases find_whole ⟨s.toArray⟩ ⟨#[c]⟩ with ⟨h1, h2⟩ | ⟨i, h1, h2, h3⟩
  · rw [h1]
    cases z : idxOf? c s with
    | none => rfl
    | some j => exact absurd ((key j).mpr (idxOf_some z).1) (h2 j)
  · rw [h1]
    cases z : idxOf? c s with
    | none => exact absurd ((key i).mp h2) (idxOf_none z i)
    | some j =>
      obtain ⟨z1, z2⟩ := idxOf_some z
      have e : i = j := by
        rcases Nat.lt_trichotomy i j with q | q | q
        · exact absurd ((key i).mp h2) (z2 i q)
        · exact q
        · exact absurd ((key j).mpr z1) (h3 j q)
      simp [e]
theorem occ_idx {c i : Nat} {s : List Nat} (h : idxOf? c s = some i) : ∃ rest, Builtin.Str.occurrences ⟨s.toArray⟩ ⟨#[c]⟩ 0 (⟨s.toArray⟩ : Str).length 1 = i :: rest := by
  have q := find_idx c s
  unfold findI at q
  rw [h] at q
  unfold Txt.find at q
  cases z : Builtin.Str.occurrences ⟨s.toArray⟩ ⟨#[c]⟩ 0 (⟨s.toArray⟩ : Str).length 1 with
  | nil =>
    rw [z] at q
    simp at q
  | cons a r =>
    rw [z] at q
    have e : a = i := by
      have q2 : (a : Int) = i := by simpa using q
      omega
    exact ⟨r, by rw [e]⟩
theorem one_of {d : D} {c : Nat} (h : one? d = some c) : d = .str [c] := by
  cases d with
  | str s =>
    simp only [one?] at h
    split at h
    · cases h
      rfl
    · cases h
  | _ => simp [one?] at h
section
variable {K : PySem.W.Frag} {cl : Nat → Addr} {Hs H : Hp}
theorem strs_of : ∀ {ds : List D} {ss : List (List Nat)} {vs : List V} {f : Fp}, strsD ds = some ss → OwL K cl Hs H ds vs f → vs = (ss.map fun s => (⟨s.toArray⟩ : Str)).map V.str
  | [], _, _, _, h, o => by
    simp only [strsD] at h
    cases h
    simp only [OwL] at o
    exact o.1
  | d :: ds, ss, vs, f, h, o => by
    cases d with
    | str s =>
      simp only [strsD] at h
      cases z : strsD ds with
      | none =>
        rw [z] at h
        cases h
      | some r =>
        rw [z] at h
        cases h
        simp only [OwL] at o
        obtain ⟨v, r', g, k, rfl, o2, o3, _⟩ := o
        simp only [Ow] at o2
        rw [o2.1, strs_of z o3]
        rfl
    | _ => simp [strsD] at h
theorem ints_of : ∀ {ds : List D} {ns : List Int} {vs : List V} {f : Fp}, intsD ds = some ns → OwL K cl Hs H ds vs f → vs = ns.map V.int
  | [], _, _, _, h, o => by
    simp only [intsD] at h
    cases h
    simp only [OwL] at o
    exact o.1
  | d :: ds, ss, vs, f, h, o => by
    cases d with
    | int s =>
      simp only [intsD] at h
      cases z : intsD ds with
      | none =>
        rw [z] at h
        cases h
      | some r =>
        rw [z] at h
        cases h
        simp only [OwL] at o
        obtain ⟨v, r', g, k, rfl, o2, o3, _⟩ := o
        simp only [Ow] at o2
        rw [o2.1, ints_of z o3]
        rfl
    | _ => simp [intsD] at h
theorem bools_of : ∀ {ds : List D} {bs : List Bool} {vs : List V} {f : Fp}, boolsD ds = some bs → OwL K cl Hs H ds vs f → vs = bs.map V.bl
  | [], _, _, _, h, o => by
    simp only [boolsD] at h
    cases h
    simp only [OwL] at o
    exact o.1
  | d :: ds, ss, vs, f, h, o => by
    cases d with
    | bl s =>
      simp only [boolsD] at h
      cases z : boolsD ds with
      | none =>
        rw [z] at h
        cases h
      | some r =>
        rw [z] at h
        cases h
        simp only [OwL] at o
        obtain ⟨v, r', g, k, rfl, o2, o3, _⟩ := o
        simp only [Ow] at o2
        rw [o2.1, bools_of z o3]
        rfl
    | _ => simp [boolsD] at h
theorem shl_strs : ∀ ss : List (List Nat), ShL K Hs (ss.map D.str) ((ss.map fun s => (⟨s.toArray⟩ : Str)).map V.str)
  | [] => by simp only [List.map_nil, ShL]
  | s :: ss => by
    simp only [List.map_cons, ShL, Sh]
    exact ⟨_, _, rfl, rfl, shl_strs ss⟩
theorem shl_ints : ∀ ss : List Int, ShL K Hs (ss.map D.int) (ss.map V.int)
  | [] => by simp only [List.map_nil, ShL]
  | s :: ss => by
    simp only [List.map_cons, ShL, Sh]
    exact ⟨_, _, rfl, rfl, shl_ints ss⟩
/-- a method with one argument -/
def rM (K : PySem.W.Frag) (cl : Nat → Addr) (o : B2) : V → List V → Hp → VK → Prop := fun x xs H Q => ∃ y, xs = [y] ∧ rG K cl o x y H Q
variable {X : Cx}
theorem mtS_find : MtR X "str.find" (rM K cl .find) := by
  intro pins s σ H x xs v us Q I rx rs h
  obtain ⟨y, rfl, Hs, da, db, d, fa, fb, e, ha, hb, hs, hq⟩ := h
  simp only [sem2] at hs
  split at hs
  · rename_i s0 c z
    cases hs
    have z := one_of z
    subst z
    simp only [Ow] at ha hb
    rw [ha.1] at rx
    rw [hb.1] at rs
    refine mt_find pins s σ H _ _ v us Q I rx rs ⟨_, _, rfl, rfl, ?_⟩
    rw [show ([c] : List Nat).toArray = #[c] from rfl, find_idx]
    exact hq.int
  · cases hs
theorem mtS_index : MtR X "str.index" (rM K cl .index) := by
  intro pins s σ H x xs v us Q I rx rs h
  obtain ⟨y, rfl, Hs, da, db, d, fa, fb, e, ha, hb, hs, hq⟩ := h
  simp only [sem2] at hs
  split at hs
  · rename_i s0 c z
    have z := one_of z
    subst z
    cases z : idxOf? c s0 with
    | none =>
      rw [z] at hs
      cases hs
    | some i =>
      rw [z] at hs
      cases hs
      simp only [Ow] at ha hb
      rw [ha.1] at rx
      rw [hb.1] at rs
      obtain ⟨rest, ho⟩ := occ_idx z
      exact mt_sindex pins s σ H _ _ v us Q I rx rs ⟨_, _, i, rest, rfl, rfl, ho, hq.int⟩
  · cases hs
theorem join_nil (ss : List (List Nat)) : Txt.join ⟨([] : List Nat).toArray⟩ (ss.map fun s => (⟨s.toArray⟩ : Str)) = ⟨ss.flatten.toArray⟩ := by
  rw [TL.join_eq]
  have app : ∀ a b : List Nat, (⟨a.toArray⟩ ++ ⟨b.toArray⟩ : Str) = ⟨(a ++ b).toArray⟩ := fun a b => by
    show Str.append _ _ = _
    unfold Str.append
    simp
  induction ss with
  | nil => rfl
  | cons s ss ih =>
    cases ss with
    | nil =>
      show (⟨s.toArray⟩ : Str) = _
      simp
    | cons t r =>
      show ((⟨s.toArray⟩ : Str) ++ (⟨([] : List Nat).toArray⟩ : Str) ++ Str.join _ ((t :: r).map _)) = _
      rw [ih, app, app]
      simp
theorem mtS_join : MtR X "str.join" (rM X.K cl .join) := by
  intro pins s σ H x xs v us Q I rx rs h
  obtain ⟨y, rfl, Hs, da, db, d, fa, fb, e, ha, hb, hs, hq⟩ := h
  simp only [sem2] at hs
  split at hs
  · rename_i s0 o ds
    split at hs
    · rename_i e0
      subst e0
      cases z : strsD ds with
      | none =>
        rw [z] at hs
        cases hs
      | some ss =>
        rw [z] at hs
        dsimp only at hs
        split at hs
        · rename_i hl
          cases hs
          obtain ⟨a, vs, g, rfl, h2, h3, _⟩ := hb.lst e
          have ev := strs_of z h3
          simp only [Ow] at ha
          rw [ha.1] at rx
          refine mt_join pins s σ H _ _ v us Q I rx rs ⟨_, a, _, rfl, rfl, .inl (.of (by rw [h2, ev])), ?_, ?_⟩
          · rw [List.map_map, List.length_map]
            have e1 : ((fun x : Str => x.length) ∘ fun s : List Nat => (⟨s.toArray⟩ : Str)) = List.length := by
              funext s
              simp [Str.length]
            rw [e1]
            have : (⟨([] : List Nat).toArray⟩ : Str).length = 0 := rfl
            rw [this, Nat.mul_zero, Nat.add_zero]
            exact hl
          · rw [join_nil]
            exact hq.str
        · cases hs
    · cases hs
  · cases hs
end
end Il
set_option Elab.async false
set_option linter.all false
set_option maxRecDepth 100000
set_option maxHeartbeats 1000000
/-! Il's expressions over the hand layer: what a text's expression and a term have to do with one another. -/
namespace Il
open PySem L2 PySem.Spec PyProof.Rows
/-! ### readings -/
section
variable (K : PySem.W.Frag) (cl : Nat → Addr) (xc : Nat → Value) (G : Gam)
/-- from a state on: the shared part grown, the slots as the new environment tells, the frame as it was -/
structure Go (Hs H : Hp) (n : Env) (fe fr : Fp) (σ : L2.St) (q : Bool) (n' : Env) (Hs' H' : Hp) (fe' fv : Fp) : Prop where
  same : Same Hs Hs'
  env : EnvOw K cl Hs' H' n' σ fe'
  ok : OkF Hs' H' (addF fe' (addF fv fr))
  frm : ∀ a, 1 ≤ fr a → H' a = H a
  qt : q = true → n' = n ∧ fe' = fe ∧ ∀ a, 1 ≤ fe a → H' a = H a
/-- a value: w: owned by itself; else shared, or lent by the slots -/
def VR (Hs H : Hp) (fe : Fp) (w : Bool) (d : D) (v : V) (fv : Fp) : Prop := match w with
  | true => Ow K cl Hs H d v fv
  | false => fv = zf ∧ ∃ g, Ow K cl Hs H d v g ∧ ∀ a, g a ≤ fe a
/-- the start of a reading -/
structure Be (Hs H : Hp) (n : Env) (fe fr : Fp) (σ : L2.St) : Prop where
  env : EnvOw K cl Hs H n σ fe
  ok : OkF Hs H (addF fe fr)
/-- what is wanted of a result -/
def WX1 (W : WX) (σ : L2.St) (Hs H : Hp) (n : Env) (fe fr : Fp) (c : Nat) (n' : Env) : Prop := ∀ Hs' H' fe', Go K cl Hs H n fe fr σ false n' Hs' H' fe' zf → W (xc c) none σ H'
def WE1 (W : WX) (σ : L2.St) (Hs H : Hp) (n : Env) (fe fr : Fp) (w : Bool) (Q : VK) : R D → Prop
  | .ok d q n' => ∀ v Hs' H' fe' fv, Go K cl Hs H n fe fr σ q n' Hs' H' fe' fv → VR K cl Hs' H' fe' w d v fv → Q v H'
  | .ex c n' => WX1 K cl xc W σ Hs H n fe fr c n'
def WT1 (W : WX) (σ : L2.St) (Hs H : Hp) (n : Env) (fe fr : Fp) (Q : Bool → Hp → Prop) : R Bool → Prop
  | .ok b q n' => ∀ Hs' H' fe', Go K cl Hs H n fe fr σ q n' Hs' H' fe' zf → Q b H'
  | .ex c n' => WX1 K cl xc W σ Hs H n fe fr c n'
def WL1 (W : WX) (σ : L2.St) (Hs H : Hp) (n : Env) (fe fr : Fp) (Q : List V → Hp → Prop) : R (List D) → Prop
  | .ok ds q n' => ∀ vs Hs' H' fe' fv, Go K cl Hs H n fe fr σ q n' Hs' H' fe' fv → OwL K cl Hs' H' ds vs fv → Q vs H'
  | .ex c n' => WX1 K cl xc W σ Hs H n fe fr c n'
def tI (W : WX) (a : IE) (w : Bool) : TE := fun σ H Q => ∃ Hs n fe fr r, Be K cl Hs H n fe fr σ ∧ ev G a w n = some r ∧ WE1 K cl xc W σ Hs H n fe fr w Q r
def tTs (W : WX) (a : IE) : TT := fun σ H Q => ∃ Hs n fe fr r, Be K cl Hs H n fe fr σ ∧ evt G a n = some r ∧ WT1 K cl xc W σ Hs H n fe fr Q r
/-- items -/
def tEs (W : WX) (ev' : Env → Option (R (List D))) : TA := fun σ H Q => ∃ Hs n fe fr r, Be K cl Hs H n fe fr σ ∧ ev' n = some r ∧ WL1 K cl xc W σ Hs H n fe fr Q r
end
section
variable {K : PySem.W.Frag} {cl : Nat → Addr} {xc : Nat → Value} {G : Gam} {W : WX}
theorem Be.go {Hs H : Hp} {n : Env} {fe fr : Fp} {σ : L2.St} (b : Be K cl Hs H n fe fr σ) : Go K cl Hs H n fe fr σ true n Hs H fe zf :=
  ⟨Same.refl _, b.env, by rw [zf_addF]; exact b.ok, fun _ _ => rfl, fun _ => ⟨rfl, rfl, fun _ _ => rfl⟩⟩
/-- go on: what stood aside (fv) is part of the new frame -/
theorem Go.be {Hs H : Hp} {n : Env} {fe fr : Fp} {σ : L2.St} {q : Bool} {n' : Env} {Hs' H' : Hp} {fe' fv : Fp} (g : Go K cl Hs H n fe fr σ q n' Hs' H' fe' fv) : Be K cl Hs' H' n' fe' (addF fv fr) σ := ⟨g.env, g.ok⟩
theorem Go.trans {Hs H : Hp} {n : Env} {fe fr : Fp} {σ : L2.St} {q q2 : Bool} {n' n'' : Env} {Hs' H' Hs'' H'' : Hp} {fe' fv fe'' fv2 : Fp} (a : Go K cl Hs H n fe fr σ q n' Hs' H' fe' fv)
    (b : Go K cl Hs' H' n' fe' (addF fv fr) σ q2 n'' Hs'' H'' fe'' fv2) : Go K cl Hs H n fe fr σ (q && q2) n'' Hs'' H'' fe'' (addF fv fv2) := by
  refine ⟨a.same.trans b.same, b.env, b.ok.congr fun x => by simp only [addF]; omega, fun x hx => ?_, fun h => ?_⟩
  · rw [b.frm x (by simp only [addF]; omega), a.frm x hx]
  · rw [Bool.and_eq_true] at h
    obtain ⟨h1, h2⟩ := h
    obtain ⟨a1, a2, a3⟩ := a.qt h1
    obtain ⟨b1, b2, b3⟩ := b.qt h2
    refine ⟨b1.trans a1, b2.trans a2, fun x hx => ?_⟩
    rw [b3 x (by rw [a2]; exact hx), a3 x hx]
/-- an exception behind a part: what stood aside is dropped -/
theorem Go.transX {Hs H : Hp} {n : Env} {fe fr : Fp} {σ : L2.St} {q q2 : Bool} {n' n'' : Env} {Hs' H' Hs'' H'' : Hp} {fe' fv fe'' fv2 : Fp} (a : Go K cl Hs H n fe fr σ q n' Hs' H' fe' fv)
    (b : Go K cl Hs' H' n' fe' (addF fv fr) σ q2 n'' Hs'' H'' fe'' fv2) : Go K cl Hs H n fe fr σ false n'' Hs'' H'' fe'' zf := by
  have t := a.trans b
  exact ⟨t.same, t.env, t.ok.mono fun x => by simp only [addF, zf]; omega, t.frm, fun h => by cases h⟩
theorem Go.drop {Hs H : Hp} {n : Env} {fe fr : Fp} {σ : L2.St} {q : Bool} {n' : Env} {Hs' H' : Hp} {fe' fv : Fp} (a : Go K cl Hs H n fe fr σ q n' Hs' H' fe' fv) : Go K cl Hs H n fe fr σ q n' Hs' H' fe' zf :=
  ⟨a.same, a.env, a.ok.mono fun x => by simp only [addF, zf]; omega, a.frm, a.qt⟩
theorem Go.loud {Hs H : Hp} {n : Env} {fe fr : Fp} {σ : L2.St} {q : Bool} {n' : Env} {Hs' H' : Hp} {fe' fv : Fp} (a : Go K cl Hs H n fe fr σ q n' Hs' H' fe' fv) : Go K cl Hs H n fe fr σ false n' Hs' H' fe' fv :=
  ⟨a.same, a.env, a.ok, a.frm, fun h => by cases h⟩
theorem Go.zf2 {Hs H : Hp} {n : Env} {fe fr : Fp} {σ : L2.St} {q : Bool} {n' : Env} {Hs' H' : Hp} {fe' : Fp} (a : Go K cl Hs H n fe fr σ q n' Hs' H' fe' (addF zf zf)) : Go K cl Hs H n fe fr σ q n' Hs' H' fe' zf := by
  rw [zf_addF] at a
  exact a
/-- a lent or shared value, behind a further part -/
theorem VR.keep {Hs H Hs' H' : Hp} {n n' : Env} {fe fe' fr fv2 fv : Fp} {σ : L2.St} {q2 : Bool} {d : D} {v : V} (h : VR K cl Hs H fe false d v fv) (b : Go K cl Hs H n fe fr σ q2 n' Hs' H' fe' fv2) (o : (d.own && !q2) = false) :
    VR K cl Hs' H' fe' false d v zf := by
  obtain ⟨_, g, h1, h2⟩ := h
  by_cases ho : d.own = true
  · have hq : q2 = true := by
      rw [ho] at o
      simpa using o
    obtain ⟨_, b2, b3⟩ := b.qt hq
    exact ⟨rfl, g, h1.frame b.same _ _ _ (fun a ha => b3 a (Nat.le_trans ha (h2 a))), fun a => by rw [b2]; exact h2 a⟩
  · have hf : d.own = false := by simpa using ho
    obtain ⟨s1, s2⟩ := h1.sh hf
    exact ⟨rfl, zf, (s1.mono b.same _ _).ow, fun a => by simp [zf]⟩
theorem VR.ow {Hs H : Hp} {fe fv : Fp} {w : Bool} {d : D} {v : V} (h : VR K cl Hs H fe w d v fv) : ∃ g, Ow K cl Hs H d v g := by
  cases w with
  | true => exact ⟨_, h⟩
  | false => exact ⟨_, h.2.choose_spec.1⟩
theorem VR.shared {Hs H : Hp} {fe fv : Fp} {w : Bool} {d : D} {v : V} (h : VR K cl Hs H fe w d v fv) (o : d.own = false) : Sh K Hs d v ∧ fv = zf := by
  cases w with
  | true => exact Ow.sh o h
  | false => exact ⟨(h.2.choose_spec.1.sh o).1, h.1⟩
theorem VR.of_sh {Hs H : Hp} {fe : Fp} {d : D} {v : V} (h : Sh K Hs d v) : ∀ w, VR K cl Hs H fe w d v zf
  | true => h.ow
  | false => ⟨rfl, zf, h.ow, fun a => by simp [zf]⟩
end
/-! ### weakening -/
section
variable {X : Cx}
theorem PEi {e : Expr} {t t' : TE} (h : PE X e t) (k : ∀ σ H Q, t' σ H Q → t σ H Q) : PE X e t' := ⟨fun pins s σ H Q I hw => h.run pins s σ H Q I (k σ H Q hw)⟩
theorem PTi {e : Expr} {t t' : TT} (h : PT X e t) (k : ∀ σ H Q, t' σ H Q → t σ H Q) : PT X e t' := ⟨fun pins s σ H Q I hw => h.run pins s σ H Q I (k σ H Q hw)⟩
theorem PWi {e : Expr} {t t' : TT} (h : PW X e t) (k : ∀ σ H Q, t' σ H Q → t σ H Q) : PW X e t' := ⟨fun wh pins s σ H Q I hw => h.run wh pins s σ H Q I (k σ H Q hw)⟩
theorem PAi {e : List Expr} {t t' : TA} (h : PA X e t) (k : ∀ σ H Q, t' σ H Q → t σ H Q) : PA X e t' := ⟨fun pos pins s σ H Q I hw => h.run pos pins s σ H Q I (k σ H Q hw)⟩
/-- by cases of what is known -/
theorem PEc {e : Expr} {t : TE} (k : ∀ σ H Q, t σ H Q → ∃ t', PE X e t' ∧ t' σ H Q) : PE X e t := ⟨fun pins s σ H Q I hw => by
  obtain ⟨t', h, q⟩ := k σ H Q hw
  exact h.run pins s σ H Q I q⟩
theorem PTc {e : Expr} {t : TT} (k : ∀ σ H Q, t σ H Q → ∃ t', PT X e t' ∧ t' σ H Q) : PT X e t := ⟨fun pins s σ H Q I hw => by
  obtain ⟨t', h, q⟩ := k σ H Q hw
  exact h.run pins s σ H Q I q⟩
end
/-! ### parts of a reading -/
section
variable {K : PySem.W.Frag} {cl : Nat → Addr} {xc : Nat → Value} {G : Gam} {W : WX} {σ : L2.St} {H : Hp}
theorem bnd_some {α β : Type} {x : Option (R α)} {f : α → Bool → Env → Option (R β)} {r : R β} (h : bnd x f = some r) : (∃ a q n, x = some (.ok a q n) ∧ f a q n = some r) ∨ ∃ c n, x = some (.ex c n) ∧ r = .ex c n := by
  unfold bnd at h
  split at h
  · exact .inl ⟨_, _, _, rfl, h⟩
  · cases h
    exact .inr ⟨_, _, rfl, rfl⟩
  · cases h
/-- a new object at p, that the slots and the frame do not know -/
theorem Go.newO {Hs Hs' H' : Hp} {n n' : Env} {fe fr fe' fv : Fp} {q : Bool} {p : Addr} {o : HO} (g : Go K cl Hs H n fe fr σ q n' Hs' H' fe' fv) (hp : H' p = none) :
    Go K cl Hs H n fe fr σ q n' Hs' (upd H' p o) fe' (addF (one p) fv) := by
  have away : ∀ a, 1 ≤ fe' a → (upd H' p o) a = H' a := fun a ha => by
    have := (g.ok.own a (by simp only [addF]; omega)).2
    rw [upd_ne]
    intro e
    rw [e] at this
    exact this hp
  refine ⟨g.same, g.env.frame (Same.refl _) _ _ _ away, (g.ok.new (o := o) hp).congr fun a => by simp only [addF]; omega, fun a ha => ?_, fun h => ?_⟩
  · have e := g.frm a ha
    have := (g.ok.own a (by simp only [addF]; omega)).2
    rw [upd_ne, e]
    intro z
    rw [z] at this
    exact this hp
  · obtain ⟨h1, h2, h3⟩ := g.qt h
    refine ⟨h1, h2, fun a ha => ?_⟩
    rw [away a (by rw [h2]; exact ha), h3 a ha]
theorem Go.newS {Hs Hs' H' : Hp} {n n' : Env} {fe fr fe' fv : Fp} {q : Bool} {p : Addr} {o : HO} (g : Go K cl Hs H n fe fr σ q n' Hs' H' fe' fv) (hp : H' p = none) :
    Go K cl Hs H n fe fr σ q n' (upd Hs' p o) (upd H' p o) fe' fv := by
  have sm : Same Hs' (upd Hs' p o) := fun b u e => by
    rw [upd_ne]
    · exact e
    · intro z
      rw [z, g.ok.nil hp] at e
      cases e
  have away : ∀ a, 1 ≤ fe' a → (upd H' p o) a = H' a := fun a ha => by
    have := (g.ok.own a (by simp only [addF]; omega)).2
    rw [upd_ne]
    intro e
    rw [e] at this
    exact this hp
  refine ⟨g.same.trans sm, g.env.frame sm _ _ _ away, g.ok.newS hp, fun a ha => ?_, fun h => ?_⟩
  · have e := g.frm a ha
    have := (g.ok.own a (by simp only [addF]; omega)).2
    rw [upd_ne, e]
    intro z
    rw [z] at this
    exact this hp
  · obtain ⟨h1, h2, h3⟩ := g.qt h
    refine ⟨h1, h2, fun a ha => ?_⟩
    rw [away a (by rw [h2]; exact ha), h3 a ha]
theorem fin_some {w : Bool} {d : D} {q : Bool} {n : Env} {r : R D} (h : fin w d q n = some r) : (w = true ∧ r = .ok d q n) ∨ (w = false ∧ ∃ d', d.freeze = some d' ∧ r = .ok d' q n) := by
  unfold fin at h
  split at h
  · rename_i e
    cases h
    exact .inl ⟨e, rfl⟩
  · rename_i e
    split at h
    · rename_i d' hd
      cases h
      exact .inr ⟨by simpa using e, d', hd, rfl⟩
    · cases h
/-- an owned temporary value given over -/
theorem Go.give {Hs Hs' H' : Hp} {n n' : Env} {fe fr fe' fv : Fp} {q : Bool} (g : Go K cl Hs H n fe fr σ q n' Hs' H' fe' fv) : Go K cl Hs H n fe fr σ q n' (Il.give Hs' H' fv) H' fe' zf := by
  have ok : OkF Hs' H' (addF fv (addF fe' fr)) := g.ok.congr fun a => by simp only [addF]; omega
  have sm : Same Hs' (Il.give Hs' H' fv) := give_same ok fun a => by simp only [addF]; omega
  exact ⟨g.same.trans sm, g.env.frame sm _ _ _ (fun _ _ => rfl), (ok.give).congr fun a => by simp only [addF, zf]; omega, g.frm, g.qt⟩
/-- the end of what makes a value: kept owned, or given over -/
theorem fin_end {Hs Hs' H' : Hp} {n n' : Env} {fe fr fe' fv : Fp} {q w : Bool} {d : D} {v : V} {r : R D} {Q : VK} (e : fin w d q n' = some r) (g : Go K cl Hs H n fe fr σ q n' Hs' H' fe' fv) (hv : Ow K cl Hs' H' d v fv)
    (h : WE1 K cl xc W σ Hs H n fe fr w Q r) : Q v H' := by
  rcases fin_some e with ⟨rfl, rfl⟩ | ⟨rfl, d', hd, rfl⟩
  · exact h v Hs' H' fe' fv g hv
  · have g2 := g.give
    have ok : OkF Hs' H' (addF fv (addF fe' fr)) := g.ok.congr fun a => by simp only [addF]; omega
    have sm : Same Hs' (Il.give Hs' H' fv) := give_same ok fun a => by simp only [addF]; omega
    exact h v _ H' fe' zf g2 (.of_sh (Ow.freeze sm (fun _ => Nat.le_refl _) hd hv) false)
/-- what an operator gives: a flat value, or a new list or tuple of shared items -/
theorem new_end {Hs Hs' H' : Hp} {n n' : Env} {fe fr fe' : Fp} {q w : Bool} {d : D} {r : R D} {Q : VK} (e : (if d.own then fin w d q n' else some (.ok d q n')) = some r) (nq : d.own = true → (∃ xs, d = .lst true xs) ∨ ∃ xs, d = .tup true xs)
    (g : Go K cl Hs H n fe fr σ q n' Hs' H' fe' zf)
    (h : WE1 K cl xc W σ Hs H n fe fr w Q r) : NewQ K Hs' H' d Q := by
  by_cases ho : d.own = true
  · rw [if_pos ho] at e
    rcases nq ho with ⟨xs, rfl⟩ | ⟨xs, rfl⟩
    · intro p vs hp hs
      refine fin_end e (g.newO hp) ?_ h
      simp only [Ow]
      exact ⟨p, vs, zf, rfl, upd_same, hs.owl, by rw [addF_zf]⟩
    · intro p vs hp hs
      refine fin_end e (g.newO hp) ?_ h
      simp only [Ow]
      exact ⟨p, vs, zf, rfl, upd_same, hs.owl, by rw [addF_zf]⟩
  · rw [if_neg ho] at e
    cases e
    have hf : d.own = false := by simpa using ho
    have goal : ∀ v, Sh K Hs' d v → Q v H' := fun v hv => h v Hs' H' fe' zf g (.of_sh hv w)
    unfold NewQ
    split
    · simp [D.own] at hf
    · simp [D.own] at hf
    · exact goal
theorem sem2_new {o : B2} {a b d : D} (h : sem2 o a b = some d) : d.own = true → (∃ xs, d = .lst true xs) ∨ ∃ xs, d = .tup true xs := by
  intro ho
  cases o <;> simp only [sem2] at h
  all_goals first
    | (repeat' split at h) <;> first | cases h | skip
    | skip
  all_goals first
    | (simp [D.own] at ho; done)
    | exact .inl ⟨_, rfl⟩
    | (cases z : scalD a b <;> rw [z] at h <;> simp at h <;> subst h <;> simp [D.own] at ho; done)
    | (cases z : inD a b <;> rw [z] at h <;> simp at h <;> subst h <;> simp [D.own] at ho; done)
    | (rename_i h1; exact absurd ho h1)
    | skip
  · rename_i s c z0
    cases z : idxOf? c s <;> rw [z] at h <;> simp at h
    subst h
    simp [D.own] at ho
end
end Il
set_option Elab.async false
set_option linter.all false
set_option maxRecDepth 100000
set_option maxHeartbeats 1000000
/-! Il's expressions over the hand layer, construct by construct. -/
namespace Il
open PySem L2 PySem.Spec PyProof.Rows
/-! ### a text's expression is a term's -/
structure Mc where
  N : List Str
  sc : Scope
  fn : List Str
  gi : List (Str × Int)
  io : List (List Nat)
def visB (sc : Scope) (x : Str) : Bool := match sc.names.lookup x with
  | some .local => true
  | some .cell => true
  | some .free => true
  | _ => false
def glB (sc : Scope) (x : Str) : Bool := match sc.names.lookup x with
  | some .globalImplicit => true
  | _ => false
def dunB (x : Str) : Bool := !(x == ("__debug__" : Str)) && !(x == ("__classdict__" : Str))
def nmB (M : Mc) (i : Nat) (x : Str) : Bool := decide (M.N[i]? = some x) && (visB M.sc x && dunB x)
def bltB (M : Mc) (x name : Str) : Bool := decide (x = name) && glB M.sc x
def notStar : Expr → Bool
  | .Starred _ _ => false
  | _ => true
def notSlice : Expr → Bool
  | .Slice _ _ _ _ => false
  | _ => true
def notBase : Expr → Bool
  | .Call _ _ _ _ => false
  | _ => true
def notSet : Expr → Bool
  | .Set _ _ _ => false
  | _ => true
/-- a test whose truth is asked of its value -/
def tstB : Expr → Bool
  | .UnaryOp .Not _ _ => false
  | .BoolOp _ _ _ => false
  | .IfExp _ _ _ _ => false
  | .Compare _ _ _ _ => false
  | _ => true
def bopB : B2 → Operator → Bool
  | .add, .Add => true
  | .sub, .Sub => true
  | .mul, .Mult => true
  | .fdiv, .FloorDiv => true
  | .mod, .Mod => true
  | .pow, .Pow => true
  | _, _ => false
def copB : B2 → CmpOp → Bool
  | .eq, .Eq => true
  | .ne, .NotEq => true
  | .lt, .Lt => true
  | .le, .LtE => true
  | .gt, .Gt => true
  | .ge, .GtE => true
  | .isIn, .In => true
  | .notIn, .NotIn => true
  | _, _ => false
def mthB : B2 → Str → Bool
  | .find, m => decide (m = "find")
  | .index, m => decide (m = "index")
  | .join, m => decide (m = "join")
  | _, _ => false
theorem star_ok {e : Expr} (h : notStar e = true) (es : List Expr) (env : PySem.Env) : starEach (e :: es) env = (false, eval e env) :: starEach es env := by
  cases e <;> first | rfl | cases h
theorem base_ok {e : Expr} {f : Str} (h : notBase e = true) (env : PySem.Env) (w : Sem Value) : attributeBase e f env w = w := by
  cases e <;> first | rfl | cases h
theorem slice_ok {e : Expr} (h : notSlice e = true) : PlainIx e := by
  intro o i
  cases e <;> first | rfl | cases h
theorem tst_ok {e : Expr} (h : tstB e = true) (env : PySem.Env) (whole : Sem Value) : PySem.isTrue e env whole = (do let v ← whole; standAt e.pos; holding [v] (truthy v)) := by
  cases e <;> first | rfl | (cases h; done) | (rename_i op _ _; cases op <;> first | rfl | cases h)
theorem vis_ok {sc : Scope} {x : Str} (h : visB sc x = true) : Vis sc x := by
  unfold visB at h
  unfold Vis
  split at h <;> first | (rename_i e; simp [e]; done) | cases h
theorem dun_ok {x : Str} (h : dunB x = true) : (x == ("__debug__" : Str)) = false ∧ (x == ("__classdict__" : Str)) = false := by
  unfold dunB at h
  simpa using h

def tyB (M : Mc) : Ty → Str → Bool
  | .int, x => bltB M x "int"
  | .bool, x => bltB M x "bool"
  | .str, x => bltB M x "str"
  | .tuple, x => bltB M x "tuple"
  | .list, x => bltB M x "list"
/-- the arguments that come back are moved ones -/
def backB : List Nat → List IE → List Nat → Bool
  | [], _, [] => true
  | p :: ps, as, b :: bs => (match as[p]? with
    | some (.mv i) => i == b
    | _ => false) && backB ps as bs
  | _, _, _ => false
def negB : B1 → Bool
  | .neg => true
  | _ => false
def c1B (M : Mc) : B1 → Str → Bool
  | .len, x => bltB M x "len"
  | .int, x => bltB M x "int"
  | .any, x => bltB M x "any"
  | .list, x => bltB M x "list"
  | .tuple, x => bltB M x "tuple"
  | .max1, x => bltB M x "max"
  | .min1, x => bltB M x "min"
  | .sorted, x => bltB M x "sorted"
  | _, _ => false
def setB : B1 → Bool
  | .lenset => true
  | _ => false
/-- what a set is made of -/
def unset (M : Mc) : Expr → Option Expr
  | .Call (.Name y _) [f] [] _ => if bltB M y "set" && notStar f then some f else none
  | _ => none
def isMvB : IE → Bool
  | .mv _ => true
  | _ => false
def notLcB : Expr → Bool
  | .ListComp _ _ _ _ => false
  | .SetComp _ _ _ _ => false
  | .DictComp _ _ _ _ _ => false
  | _ => true
mutual
/-- the expression is the term's -/
def mE : IE → Mc → Expr → Bool
  | .var i, M, .Name x _ => nmB M i x
  | .shr i, M, .Name x _ => nmB M i x
  | .mv i, M, .Name x _ => nmB M i x
  | .non, M, .Constant .none _ _ => true
  | .bl b, M, .Constant (.bool c) _ _ => b == c
  | .int i, M, .Constant (.int j) _ _ => decide (i = j)
  | .str s, M, .Constant (.str x) _ _ => decide (x = ⟨s.toArray⟩)
  | .gint k i, M, .Name x _ => decide (M.gi[k]? = some (x, i)) && (glB M.sc x && dunB x)
  | .op1 o a, M, .UnaryOp .USub e _ => negB o && mE a M e
  | .op1 o a, M, .Call (.Name x _) [e] [] _ => if setB o then (match unset M e with
    | some f => bltB M x "len" && mE a M f
    | none => false) else c1B M o x && (notStar e && mE a M e)
  | .op2 o a b, M, .BinOp e op f _ => bopB o op && (mE a M e && mE b M f)
  | .op2 o a b, M, .Compare e [op] [f] _ => copB o op && (!behindInMarks op f && (mE a M e && mE b M f))
  | .op2 o a b, M, .Call (.Attribute e m apos) [f] [] cpos => mthB o m && ((apos.endLine == cpos.line) && (notStar f && (notBase e && (mE a M e && mE b M f))))
  | .chain o1 o2 a b c, M, .Compare e [op, op'] [f, g] _ => copB o1 op && ((copB o2 op' && !lastMarks [op, op'] [f, g]) && (mE a M e && (mE b M f && mE c M g)))
  | .isN false a, M, .Compare e [.Is] [.Constant .none _ _] _ => mE a M e
  | .isN true a, M, .Compare e [.IsNot] [.Constant .none _ _] _ => mE a M e
  | .isi a t, M, .Call (.Name x _) [e, .Name y _] [] _ => bltB M x "isinstance" && (tyB M t y && (notStar e && mE a M e))
  | .band a b, M, .BoolOp .And [e, f] _ => mE a M e && mE b M f
  | .band a b, M, .BoolOp .And (e :: f :: g :: r) p => mE a M e && mE b M (.BoolOp .And (f :: g :: r) p)
  | .bor a b, M, .BoolOp .Or [e, f] _ => mE a M e && mE b M f
  | .bor a b, M, .BoolOp .Or (e :: f :: g :: r) p => mE a M e && mE b M (.BoolOp .Or (f :: g :: r) p)
  | .not a, M, .UnaryOp .Not e _ => mE a M e
  | .ite c a b, M, .IfExp t e f _ => mE c M t && (mE a M e && mE b M f)
  | .ix a b, M, .Subscript e f _ => notSlice f && (mE a M e && mE b M f)
  | .slc a lo hi, M, .Subscript e (.Slice l h none _) _ => mE a M e && ((match l with | some l' => !lo.isNop && mE lo M l' | none => lo.isNop) && (match h with | some h' => !hi.isNop && mE hi M h' | none => hi.isNop))
  | .lst es, M, .List xs _ => decide (es.length ≤ 1000) && mEs es M xs
  | .tup es, M, .Tuple xs _ _ => decide (es.length ≤ 1000) && mEs es M xs
  | .call f as back, M, .Call (.Name x _) (e :: es) [] _ => decide (M.fn[f]? = some x) && (glB M.sc x && (dunB x && (backB (M.io.getD f []) as back && mEs as M (e :: es))))
  | .op3 o a b c, M, .Call (.Name x _) [e, f] [] _ => decide (o = 1) && (c.isNop && (bltB M x "min" && (notStar e && (notStar f && (mE a M e && mE b M f)))))
  | .op3 o a b c, M, .Call (.Name x _) [e] [⟨some kw, f, _⟩] _ => decide (o = 2) && (c.isNop && (bltB M x "max" && (decide (kw = "default") && (notStar e && (mE a M e && mE b M f)))))
  | .pop i, M, .Call (.Attribute (.Name x _) m apos) [] [] cpos => decide (m = "pop") && ((apos.endLine == cpos.line) && nmB M i x)
  | .dic kd ks vs, M, .Dict [] [] _ => ks.isEmpty && (vs.isEmpty && (match kd with
    | .k => true
    | .t => true
    | _ => false))
  | .brw a, M, e => notLcB e && mE a M e
  | .sh a, M, e => notLcB e && (tstB e && mE a M e)
  | .comp s k as elt tst, M, .ListComp f [⟨.Name x _, it, ifs, 0⟩] scope _ => blkC M.N M.sc scope [(x, s)] && (decide ((relS scope M.sc).names.lookup x = some .local) && (mIt as M false k it &&
      (mE elt { M with sc := relS scope M.sc } f && (match ifs with
        | [] => tst.isNop
        | [c] => !tst.isNop && mE tst { M with sc := relS scope M.sc } c
        | _ => false))))
  | _, _, _ => false
/-- what a loop walks -/
def mIt : List IE → Mc → Bool → IK → Expr → Bool
  | [a], M, tup, .it, e => !isMvB a && (notSet e && mE a M e)
  | [a], M, tup, .rng1, .Call (.Name x _) [e] [] _ => bltB M x "range" && (notStar e && mE a M e)
  | [a, b], M, tup, .rng2, .Call (.Name x _) [e, f] [] _ => bltB M x "range" && (notStar e && (mE a M e && (notStar f && mE b M f)))
  | [a], M, tup, .enum, .Call (.Name x _) [e] [] _ => tup && (bltB M x "enumerate" && (notStar e && mE a M e))
  | [a, b], M, tup, .zip, .Call (.Name x _) [e, f] [] _ => tup && (bltB M x "zip" && (notStar e && (mE a M e && (notStar f && mE b M f))))
  | _, _, _, _, _ => false
def mEs : List IE → Mc → List Expr → Bool
  | [], _, [] => true
  | a :: as, M, e :: es => notStar e && (mE a M e && mEs as M es)
  | _, _, _ => false
end
end Il
set_option Elab.async false
set_option linter.all false
set_option maxRecDepth 100000
set_option maxHeartbeats 1000000
/-! Il's expressions over the hand layer, construct by construct. -/
namespace Il
open PySem L2 PySem.Spec PyProof.Rows
/-! ### what a call of an own function promises -/
/-- the function f of G at its arguments: owned ones come back at the places io -/
def spIl (K : PySem.W.Frag) (cl : Nat → Addr) (xc : Nat → Value) (G : Gam) (f : Nat) (io : List Nat) : Sp := fun vs H Q E =>
  ∃ (Hs : Hp) (ds : List D) (fa fr : Fp) (out : Out), OwL K cl Hs H ds vs fa ∧ OkF Hs H (addF fa fr) ∧ G f ds = some out ∧ match out with
    | .ret d os => ∀ v Hs' H' fv fo us, Same Hs Hs' → Ow K cl Hs' H' d v fv → OwL K cl Hs' H' os us fo → io.mapM (fun i => vs[i]?) = some us → OkF Hs' H' (addF fv (addF fo fr)) → (∀ a, 1 ≤ fr a → H' a = H a) → Q v H'
    | .ex c => ∀ Hs' H', Same Hs Hs' → OkF Hs' H' fr → (∀ a, 1 ≤ fr a → H' a = H a) → E (xc c) none H'
/-- what stands around a def's body: the names, the functions of the text, the built-ins -/
structure XOk (X : Cx) (M : Mc) (cl : Nat → Addr) (xc : Nat → Value) (G : Gam) (k : Nat) : Prop where
  N : X.N = M.N
  sc : X.env.scope = M.sc
  nd : X.N.Nodup
  calm : X.calm = true
  kind : X.env.scope.kind = .function
  room : Room k X.A
  free : ∀ x ∈ (["len", "int", "isinstance", "bool", "str", "tuple", "list", "range", "sorted", "any", "min", "max", "set", "enumerate", "zip"] : List Str), X.mg x = none
  gi : ∀ x i, (x, i) ∈ M.gi → ∃ t, X.mg x = some (.int i t)
  fns : ∀ f x, M.fn[f]? = some x → ∃ (a : Addr) (fd : FuncData) (ps : List Str) (j : Nat), j ≤ k ∧ X.mg x = some (.ref a) ∧ PySem.W.keepIn X.K (.ref a) = true ∧ Binds X.K fd ps [] ∧
    FnOk X.prog X.w X.K X.mg X.base (L2.CX X.prog X.w) j a fd ps (spIl X.K cl xc G f (M.io.getD f []))
section
variable {X : Cx} {M : Mc} {cl : Nat → Addr} {xc : Nat → Value} {G : Gam} {k : Nat}
def GoodE (cl : Nat → Addr) (xc : Nat → Value) (G : Gam) (k : Nat) (a : IE) : Prop :=
  ∀ (X : Cx) (M : Mc) (W : WX), XOk X M cl xc G k → Takes X W → ∀ e, mE a M e = true → ∀ w, PE X e (tI X.K cl xc G W a w)
theorem XOk.units (h : XOk X M cl xc G k) : X.A.units + 64 < cLine := h.room.units
theorem gl_ok (h : XOk X M cl xc G k) {x : Str} (g : glB M.sc x = true) : Gl X x := by
  unfold Gl
  unfold glB at g
  show X.env.scope.names.lookup x = _
  rw [h.sc]
  split at g
  · assumption
  · cases g
theorem nm_ok (h : XOk X M cl xc G k) {i : Nat} {x : Str} {p : Pos} (g : nmB M i x = true) : PE X (.Name x p) (tVar i) := by
  unfold nmB at g
  simp only [Bool.and_eq_true, decide_eq_true_eq] at g
  obtain ⟨g1, g2, g3⟩ := g
  obtain ⟨d1, d2⟩ := dun_ok g3
  exact pe_var (by rw [h.N]; exact g1) (by rw [h.sc]; exact vis_ok g2) d1 d2
theorem good_var (i : Nat) : GoodE cl xc G k (.var i) := by
  intro X M W hx tk e hm w
  cases e <;> simp only [mE] at hm <;> first | cases hm | skip
  refine PEi (nm_ok hx hm) fun σ H Q h => ?_
  obtain ⟨Hs, n, fe, fr, r, be, he, hw⟩ := h
  simp only [ev] at he
  cases z : gets n i with
  | none =>
    rw [z] at he
    cases he
  | some d =>
    rw [z] at he
    obtain ⟨v, g, h', h1, h2, h3, h4⟩ := be.env.focus z
    dsimp only at he
    split at he
    · cases he
    · rename_i hwo
      cases he
      refine ⟨v, h1, hw v Hs H fe zf be.go ?_⟩
      cases w with
      | false => exact ⟨rfl, g, h2, fun a => by rw [h3]; simp only [addF]; omega⟩
      | true =>
        have ho : d.own = false := by simpa using hwo
        exact (h2.sh ho).1.ow
theorem good_non : GoodE cl xc G k .non := by
  intro X M W hx tk e hm w
  cases e with
  | Constant c j p =>
    cases c <;> simp only [mE] at hm <;> first | cases hm | skip
    refine PEi pe_non fun σ H Q h => ?_
    obtain ⟨Hs, n, fe, fr, r, be, he, hw⟩ := h
    simp only [ev] at he
    cases he
    exact hw _ Hs H fe zf be.go (.of_sh (by simp only [Sh]) w)
  | _ => simp only [mE] at hm <;> cases hm
theorem good_bl (b : Bool) : GoodE cl xc G k (.bl b) := by
  intro X M W hx tk e hm w
  cases e with
  | Constant c j p =>
    cases c <;> simp only [mE] at hm <;> first | cases hm | skip
    have e : b = _ := eq_of_beq hm
    refine PEi pe_bl fun σ H Q h => ?_
    obtain ⟨Hs, n, fe, fr, r, be, he, hw⟩ := h
    simp only [ev] at he
    cases he
    exact hw _ Hs H fe zf be.go (.of_sh (by simp only [Sh]; rw [e]) w)
  | _ => simp only [mE] at hm <;> cases hm
theorem good_int (i : Int) : GoodE cl xc G k (.int i) := by
  intro X M W hx tk e hm w
  cases e with
  | Constant c j p =>
    cases c <;> simp only [mE] at hm <;> first | cases hm | skip
    have e : i = _ := of_decide_eq_true hm
    refine PEi pe_int fun σ H Q h => ?_
    obtain ⟨Hs, n, fe, fr, r, be, he, hw⟩ := h
    simp only [ev] at he
    cases he
    exact hw _ Hs H fe zf be.go (.of_sh (by simp only [Sh]; rw [e]) w)
  | _ => simp only [mE] at hm <;> cases hm
theorem good_str (s : List Nat) : GoodE cl xc G k (.str s) := by
  intro X M W hx tk e hm w
  cases e with
  | Constant c j p =>
    cases c <;> simp only [mE] at hm <;> first | cases hm | skip
    have e := of_decide_eq_true hm
    refine PEi pe_str fun σ H Q h => ?_
    obtain ⟨Hs, n, fe, fr, r, be, he, hw⟩ := h
    simp only [ev] at he
    cases he
    exact hw _ Hs H fe zf be.go (.of_sh (by simp only [Sh]; rw [e]) w)
  | _ => simp only [mE] at hm <;> cases hm
theorem good_gint (j : Nat) (i : Int) : GoodE cl xc G k (.gint j i) := by
  intro X M W hx tk e hm w
  cases e <;> simp only [mE] at hm <;> first | cases hm | skip
  simp only [Bool.and_eq_true, decide_eq_true_eq] at hm
  obtain ⟨h1, h2, h3⟩ := hm
  obtain ⟨t, ht⟩ := hx.gi _ _ (List.mem_of_getElem? h1)
  refine PEi (pe_glob (v := .int i) (gl_ok hx h2) ht ⟨t, rfl⟩ (dun_ok h3).1) fun σ H Q h => ?_
  obtain ⟨Hs, n, fe, fr, r, be, he, hw⟩ := h
  simp only [ev] at he
  cases he
  exact hw _ Hs H fe zf be.go (.of_sh (by simp only [Sh]) w)
/-- two operands: the second is asked behind the first, then the operator -/
theorem op2_part {W : WX} {o : B2} {a b : IE} {w : Bool} {σ : L2.St} {H : Hp} {Q : VK} {K : PySem.W.Frag} (h : tI K cl xc G W (.op2 o a b) w σ H Q) :
    tI K cl xc G W a false σ H fun x H1 => (∃ Hs da fa, Same Hs H1 ∧ Ow K cl Hs H1 da x fa ∧ recvOk o da = true) ∧ tI K cl xc G W b false σ H1 fun y H2 => rG K cl o x y H2 Q := by
  obtain ⟨Hs, n, fe, fr, r, be, he, hw⟩ := h
  simp only [ev] at he
  rcases bnd_some he with ⟨da, q, n1, h1, h2⟩ | ⟨c, n1, h1, rfl⟩
  · refine ⟨Hs, n, fe, fr, _, be, h1, fun x Hs1 H1 fe1 fv1 g1 v1 => ?_⟩
    split at h2
    · rename_i hrec
      obtain ⟨ga, oa⟩ := v1.ow
      refine ⟨⟨Hs1, da, ga, g1.ok.ex, oa, hrec⟩, ?_⟩
      have z1 : fv1 = zf := v1.1
      subst z1
      have g1' := g1.be
      rw [zf_addF] at g1'
      rcases bnd_some h2 with ⟨db, q2, n2, h3, h4⟩ | ⟨c, n2, h3, rfl⟩
      · refine ⟨Hs1, n1, fe1, fr, _, g1', h3, fun y Hs2 H2 fe2 fv2 g2 v2 => ?_⟩
        have z2 : fv2 = zf := v2.1
        subst z2
        split at h4
        · cases h4
        · rename_i ho
          have ho : (da.own && !q2) = false := by simpa using ho
          have v1' := v1.keep g2 ho
          obtain ⟨ga', oa'⟩ := v1'.ow
          obtain ⟨gb, ob⟩ := v2.ow
          have gt := (g1.trans (by rw [zf_addF]; exact g2)).zf2
          cases hs : sem2 o da db with
          | none =>
            rw [hs] at h4
            cases h4
          | some d =>
            rw [hs] at h4
            exact ⟨Hs2, da, db, d, ga', gb, g2.ok.ex, oa', ob, hs, new_end h4 (sem2_new hs) gt hw⟩
      · refine ⟨Hs1, n1, fe1, fr, _, g1', h3, fun Hs2 H2 fe2 g2 => ?_⟩
        exact hw Hs2 H2 fe2 (g1.transX (by rw [zf_addF]; exact g2))
    · cases h2
  · exact ⟨Hs, n, fe, fr, _, be, h1, hw⟩
theorem bop_ok (hx : XOk X M cl xc G k) {o : B2} {op : Operator} (h : bopB o op = true) : OpR X (binaryOp op) (rG X.K cl o) := by
  cases o <;> cases op <;> simp only [bopB] at h <;> first | cases h | skip
  · exact opS_add
  · exact opS_sub
  · exact opS_mul
  · exact opS_fdiv
  · exact opS_mod
  · exact opS_pow
theorem cop_ok (hx : XOk X M cl xc G k) {o : B2} {op : CmpOp} (h : copB o op = true) : OpR X (compareOp op) (rG X.K cl o) := by
  have hu := hx.units
  cases o <;> cases op <;> simp only [copB] at h <;> first | cases h | skip
  · exact opS_eq hu
  · exact opS_ne hu
  · exact opS_lt
  · exact opS_le
  · exact opS_gt
  · exact opS_ge
  · exact opS_in (by omega)
  · exact opS_notin (by omega)
theorem tyV_str {K : PySem.W.Frag} {Hs H : Hp} {da : D} {x : V} {fa : Fp} (h : Ow K cl Hs H da x fa) (r : recvOk .find da = true) : tyV K "str" x H := by
  cases da <;> simp only [recvOk] at r <;> first | cases r | skip
  simp only [Ow] at h
  rw [h.1]
  rfl
theorem few1 {e : Expr} (h : notStar e = true) (env : PySem.Env) (cpos : Pos) : ((backTo cpos (starEach [e] env)).all (fun x => !x.1) && (backToKw cpos (keywordEach [] env)).all (fun x => x.1.isSome)
    && decide (([e] : List Expr).length + ([] : List Keyword).length + (if ([] : List Keyword).isEmpty then 0 else 1) < 30)) = true := by
  rw [star_ok h]
  rfl
theorem good_op2 (o : B2) {a b : IE} (ha : GoodE cl xc G k a) (hb : GoodE cl xc G k b) : GoodE cl xc G k (.op2 o a b) := by
  intro X M W hx tk e hm w
  cases e with
  | BinOp e op f p =>
    simp only [mE, Bool.and_eq_true] at hm
    obtain ⟨h1, h2, h3⟩ := hm
    refine PEi (pe_op (bop_ok hx h1) (ha X M W hx tk e h2 false) (hb X M W hx tk f h3 false)) fun σ H Q h => ?_
    obtain ⟨Hs, n, fe, fr, r, be, he, hw⟩ := op2_part h
    refine ⟨Hs, n, fe, fr, r, be, he, ?_⟩
    cases r with
    | ok d q n' => exact fun v Hs' H' fe' fv g vr => (hw v Hs' H' fe' fv g vr).2
    | ex c n' => exact hw
  | Compare e ops fs p =>
    cases ops with
    | nil => cases fs <;> simp only [mE] at hm <;> cases hm
    | cons op ops =>
      cases ops with
      | cons _ _ => cases fs <;> simp only [mE] at hm <;> cases hm
      | nil =>
        cases fs with
        | nil => simp only [mE] at hm <;> cases hm
        | cons f fs =>
          cases fs with
          | cons _ _ => simp only [mE] at hm <;> cases hm
          | nil =>
            simp only [mE, Bool.and_eq_true, Bool.not_eq_true'] at hm
            obtain ⟨h1, h4, h2, h3⟩ := hm
            refine PEi (pe_cmpR (cop_ok hx h1) (ha X M W hx tk e h2 false) (hb X M W hx tk f h3 false) h4) fun σ H Q h => ?_
            obtain ⟨Hs, n, fe, fr, r, be, he, hw⟩ := op2_part h
            refine ⟨Hs, n, fe, fr, r, be, he, ?_⟩
            cases r with
            | ok d q n' => exact fun v Hs' H' fe' fv g vr => (hw v Hs' H' fe' fv g vr).2
            | ex c n' => exact hw
  | Call f args kws p =>
    cases f with
    | Attribute e m apos =>
      cases args with
      | nil => simp only [mE] at hm <;> cases hm
      | cons f fs =>
        cases fs with
        | cons _ _ => simp only [mE] at hm <;> cases hm
        | nil =>
          cases kws with
          | cons _ _ => simp only [mE] at hm <;> cases hm
          | nil =>
            simp only [mE, Bool.and_eq_true] at hm
            obtain ⟨h1, h4, h5, h6, h2, h3⟩ := hm
            have pa1 : PA X [f] (tCons (tI X.K cl xc G W b false) tNil) := pa_cons (hb X M W hx tk f h3 false) pa_nil (star_ok h5 _ _)
            have fin : ∀ {id : String} {name : Str}, recvOk o = recvOk .find → m = name → PlainAttrs "str" → Slot "str" name id → typeOf (.builtin id) = pure (.type "method_descriptor") → MtR X id (rM X.K cl o) → PE X (.Call (.Attribute e m apos) [f] [] p) (tI X.K cl xc G W (.op2 o a b) w) := by
              intro id name hr hn hp hsl hty hmt
              subst hn
              refine PEi (pe_bm hp hsl hty hmt (ha X M W hx tk e h2 false) pa1 (base_ok h6 _ _) (few1 h5 _ _) h4 (star_ok h5 _ _) rfl) fun σ H Q h => ?_
              obtain ⟨Hs, n, fe, fr, r, be, he, hw⟩ := op2_part h
              refine ⟨Hs, n, fe, fr, r, be, he, ?_⟩
              cases r with
              | ok d q n' =>
                intro v Hs' H' fe' fv g vr
                obtain ⟨⟨Hs2, da, fa, sm, oa, rc⟩, q2⟩ := hw v Hs' H' fe' fv g vr
                rw [hr] at rc
                refine ⟨tyV_str oa rc, ?_⟩
                obtain ⟨Hs, n, fe, fr, r, be, he, hw2⟩ := q2
                refine ⟨Hs, n, fe, fr, r, be, he, ?_⟩
                cases r with
                | ok d q n' => exact fun y Hs' H' fe' fv g vr => ⟨y, rfl, hw2 y Hs' H' fe' fv g vr⟩
                | ex c n' => exact hw2
              | ex c n' => exact hw
            cases o <;> simp only [mthB] at h1 <;> first | cases h1 | skip
            · exact fin rfl (of_decide_eq_true h1) PySem.F.plainAttrs_str PySem.F.slot_str_find PySem.F.type_str_find mtS_find
            · exact fin rfl (of_decide_eq_true h1) PySem.F.plainAttrs_str PySem.F.slot_str_index PySem.F.type_str_index mtS_index
            · exact fin rfl (of_decide_eq_true h1) PySem.F.plainAttrs_str PySem.F.slot_str_join PySem.F.type_str_join mtS_join
    | _ => simp only [mE] at hm <;> cases hm
  | _ => simp only [mE] at hm <;> cases hm
end
end Il
set_option Elab.async false
set_option linter.all false
set_option maxRecDepth 100000
set_option maxHeartbeats 1000000
/-! Il's expressions over the hand layer, construct by construct: names moved and shared, displays, calls, items. -/
namespace Il
open PySem L2 PySem.Spec PyProof.Rows
section
variable {X : Cx} {M : Mc} {cl : Nat → Addr} {xc : Nat → Value} {G : Gam} {k : Nat}
theorem WX1.trans {K : PySem.W.Frag} {W : WX} {σ : L2.St} {Hs H : Hp} {n : Env} {fe fr : Fp} {q : Bool} {n' : Env} {Hs' H' : Hp} {fe' fv : Fp} {c : Nat} {n2 : Env} (g : Go K cl Hs H n fe fr σ q n' Hs' H' fe' fv) (h : WX1 K cl xc W σ Hs H n fe fr c n2) :
    WX1 K cl xc W σ Hs' H' n' fe' (addF fv fr) c n2 := fun Hs2 H2 fe2 g2 => h Hs2 H2 fe2 (g.transX g2)
theorem good_mv (i : Nat) : GoodE cl xc G k (.mv i) := by
  intro X M W hx tk e hm w
  cases e <;> simp only [mE] at hm <;> first | cases hm | skip
  refine PEi (nm_ok hx hm) fun σ H Q h => ?_
  obtain ⟨Hs, n, fe, fr, r, be, he, hw⟩ := h
  simp only [ev] at he
  cases z : gets n i with
  | none =>
    rw [z] at he
    cases he
  | some d =>
    rw [z] at he
    obtain ⟨v, g, h', h1, h2, h3, h4⟩ := be.env.focus z
    dsimp only at he
    split at he
    · rename_i hwt
      cases he
      subst hwt
      refine ⟨v, h1, hw v Hs H h' g ⟨Same.refl _, h4, be.ok.congr fun a => by rw [h3]; simp only [addF]; omega, fun _ _ => rfl, fun h => by cases h⟩ h2⟩
    · cases he
theorem good_shr (i : Nat) : GoodE cl xc G k (.shr i) := by
  intro X M W hx tk e hm w
  cases e <;> simp only [mE] at hm <;> first | cases hm | skip
  refine PEi (nm_ok hx hm) fun σ H Q h => ?_
  obtain ⟨Hs, n, fe, fr, r, be, he, hw⟩ := h
  simp only [ev] at he
  cases z : gets n i with
  | none =>
    rw [z] at he
    cases he
  | some d =>
    rw [z] at he
    obtain ⟨v, g, h', h1, h2, h3, h4⟩ := be.env.focus z
    dsimp only at he
    split at he
    · cases zf' : d.freeze with
      | none =>
        rw [zf'] at he
        cases he
      | some d' =>
        rw [zf'] at he
        cases he
        have ok : OkF Hs H (addF g (addF h' fr)) := be.ok.congr fun a => by rw [h3]; simp only [addF]; omega
        have sm : Same Hs (Il.give Hs H g) := give_same ok fun a => by simp only [addF]; omega
        have sh := Ow.freeze sm (fun _ => Nat.le_refl _) zf' h2
        refine ⟨v, h1, hw v (Il.give Hs H g) H h' zf ⟨sm, ?_, (ok.give).congr fun a => by simp only [addF, zf]; omega, fun _ _ => rfl, fun h => by cases h⟩ (.of_sh sh w)⟩
        have := (h4.frame sm _ _ _ (fun _ _ => rfl)).fill h1 (sh.ow (cl := cl) (H := H))
        rw [zf_addF] at this
        exact this
    · rename_i ho
      cases he
      have ho : d.own = false := by simpa using ho
      exact ⟨v, h1, hw v Hs H fe zf be.go (.of_sh (h2.sh ho).1 w)⟩
/-! ### items and arguments -/
theorem OwL.cons {K : PySem.W.Frag} {Hs H : Hp} {d : D} {ds : List D} {v : V} {vs : List V} {f g : Fp} (a : Ow K cl Hs H d v f) (b : OwL K cl Hs H ds vs g) : OwL K cl Hs H (d :: ds) (v :: vs) (addF f g) := by
  simp only [OwL]
  exact ⟨v, vs, f, g, rfl, a, b, rfl⟩
theorem OwL.nil {K : PySem.W.Frag} {Hs H : Hp} : OwL K cl Hs H [] [] zf := by
  simp only [OwL]
  exact ⟨trivial, trivial⟩
theorem pa_evs {W : WX} (w : Bool) (hx : XOk X M cl xc G k) (tk : Takes X W) : ∀ (as : List IE) (es : List Expr), (∀ a ∈ as, GoodE cl xc G k a) → mEs as M es = true → PA X es (tEs X.K cl xc W (fun n => evs G w as n))
  | [], [], _, _ => PAi pa_nil fun σ H Q h => by
    obtain ⟨Hs, n, fe, fr, r, be, he, hw⟩ := h
    simp only [evs] at he
    cases he
    exact hw [] Hs H fe zf be.go .nil
  | [], _ :: _, _, hm => by simp only [mEs] at hm <;> cases hm
  | _ :: _, [], _, hm => by simp only [mEs] at hm <;> cases hm
  | a :: as, e :: es, hg, hm => by
    simp only [mEs, Bool.and_eq_true] at hm
    obtain ⟨h1, h2, h3⟩ := hm
    have ih := pa_evs w hx tk as es (fun a m => hg a (List.mem_cons_of_mem _ m)) h3
    refine PAi (pa_cons (hg a (List.mem_cons_self ..) X M W hx tk e h2 w) ih (star_ok h1 _ _)) fun σ H Q h => ?_
    obtain ⟨Hs, n, fe, fr, r, be, he, hw⟩ := h
    simp only [evs] at he
    rcases bnd_some he with ⟨d, q, n1, e1, e2⟩ | ⟨c, n1, e1, rfl⟩
    · refine ⟨Hs, n, fe, fr, _, be, e1, fun x Hs1 H1 fe1 fv1 g1 v1 => ?_⟩
      split at e2
      · cases e2
      · rename_i ho
        rcases bnd_some e2 with ⟨ds, q2, n2, e3, e4⟩ | ⟨c, n2, e3, rfl⟩
        · refine ⟨Hs1, n1, fe1, addF fv1 fr, _, g1.be, e3, fun xs Hs2 H2 fe2 fv2 g2 v2 => ?_⟩
          cases e4
          refine hw (x :: xs) Hs2 H2 fe2 (addF fv1 fv2) (g1.trans g2) (.cons ?_ v2)
          cases w with
          | true => exact Ow.frame g2.same _ _ _ (fun a ha => g2.frm a (by simp only [addF]; omega)) v1
          | false =>
            have ho : d.own = false := by simpa using ho
            obtain ⟨s1, s2⟩ := v1.shared ho
            rw [s2]
            exact (s1.mono g2.same _ _).ow
        · exact ⟨Hs1, n1, fe1, addF fv1 fr, _, g1.be, e3, hw.trans g1⟩
    · exact ⟨Hs, n, fe, fr, _, be, e1, hw⟩
/-- what was moved is what stood in its slot -/
def MvOk (as : List IE) (vs : List V) (σ : L2.St) : Prop := ∀ (j i : Nat), as[j]? = some (IE.mv i) → ∃ v, vs[j]? = some v ∧ σ[i]? = some (some v)
def tEa (K : PySem.W.Frag) (cl : Nat → Addr) (xc : Nat → Value) (G : Gam) (W : WX) (as : List IE) : TA := fun σ H Q => ∃ Hs n fe fr r, Be K cl Hs H n fe fr σ ∧ eva G as n = some r ∧ WL1 K cl xc W σ Hs H n fe fr (fun vs H' => MvOk as vs σ → Q vs H') r
theorem eva_mv {i : Nat} {as : List IE} {n : Env} : eva G (.mv i :: as) n = bnd (ev G (.mv i) true n) fun d q e1 => bnd (eva G as e1) fun ds q2 e2 => some (.ok (d :: ds) (q && q2) e2) := by simp only [eva]
theorem eva_one {a : IE} {as : List IE} {n : Env} (h : ∀ i, a ≠ IE.mv i) : eva G (a :: as) n = bnd (ev G a false n) fun d q e1 => if d.own then none else bnd (eva G as e1) fun ds q2 e2 => some (.ok (d :: ds) (q && q2) e2) := by
  cases a <;> first | (simp only [eva]; done) | exact absurd rfl (h _)
theorem isMv (a : IE) : (∃ i, a = IE.mv i) ∨ ∀ i, a ≠ IE.mv i := by
  cases a <;> first | exact .inl ⟨_, rfl⟩ | exact .inr fun _ h => by cases h
theorem pa_eva {W : WX} (hx : XOk X M cl xc G k) (tk : Takes X W) : ∀ (as : List IE) (es : List Expr), (∀ a ∈ as, GoodE cl xc G k a) → mEs as M es = true → PA X es (tEa X.K cl xc G W as)
  | [], [], _, _ => PAi pa_nil fun σ H Q h => by
    obtain ⟨Hs, n, fe, fr, r, be, he, hw⟩ := h
    simp only [eva] at he
    cases he
    exact hw [] Hs H fe zf be.go .nil fun j i h => by simp at h
  | [], _ :: _, _, hm => by simp only [mEs] at hm <;> cases hm
  | _ :: _, [], _, hm => by simp only [mEs] at hm <;> cases hm
  | a :: as, e :: es, hg, hm => by
    simp only [mEs, Bool.and_eq_true] at hm
    obtain ⟨h1, h2, h3⟩ := hm
    have ih := pa_eva hx tk as es (fun a m => hg a (List.mem_cons_of_mem _ m)) h3
    rcases isMv a with ⟨i, rfl⟩ | hn
    · -- moved
      cases e <;> simp only [mE] at h2 <;> first | cases h2 | skip
      refine PAi (pa_cons (nm_ok hx h2) ih (star_ok h1 _ _)) fun σ H Q h => ?_
      obtain ⟨Hs, n, fe, fr, r, be, he, hw⟩ := h
      rw [eva_mv] at he
      simp only [ev] at he
      cases z : gets n i with
      | none =>
        rw [z] at he
        cases he
      | some d =>
        rw [z] at he
        simp only [if_true, bnd] at he
        obtain ⟨v, g, h', f1, f2, f3, f4⟩ := be.env.focus z
        refine ⟨v, f1, ?_⟩
        have g1 : Go X.K cl Hs H n fe fr σ false (n.set i none) Hs H h' g := ⟨Same.refl _, f4, be.ok.congr fun a => by rw [f3]; simp only [addF]; omega, fun _ _ => rfl, fun h => by cases h⟩
        rcases bnd_some he with ⟨ds, q2, n2, e3, e4⟩ | ⟨c, n2, e3, rfl⟩
        · refine ⟨Hs, n.set i none, h', addF g fr, _, g1.be, e3, fun xs Hs2 H2 fe2 fv2 g2 v2 mv => ?_⟩
          cases e4
          refine hw (v :: xs) Hs2 H2 fe2 (addF g fv2) (g1.trans g2) (.cons (Ow.frame g2.same _ _ _ (fun a ha => g2.frm a (by simp only [addF]; omega)) f2) v2) fun j i' hj => ?_
          cases j with
          | zero =>
            simp at hj
            subst hj
            exact ⟨v, rfl, f1⟩
          | succ j =>
            obtain ⟨v', m1, m2⟩ := mv j i' (by simpa using hj)
            exact ⟨v', by simpa using m1, m2⟩
        · exact ⟨Hs, n.set i none, h', addF g fr, _, g1.be, e3, WX1.trans g1 hw⟩
    · refine PAi (pa_cons (hg a (List.mem_cons_self ..) X M W hx tk e h2 false) ih (star_ok h1 _ _)) fun σ H Q h => ?_
      obtain ⟨Hs, n, fe, fr, r, be, he, hw⟩ := h
      rw [eva_one hn] at he
      rcases bnd_some he with ⟨d, q, n1, e1, e2⟩ | ⟨c, n1, e1, rfl⟩
      · refine ⟨Hs, n, fe, fr, _, be, e1, fun x Hs1 H1 fe1 fv1 g1 v1 => ?_⟩
        split at e2
        · cases e2
        · rename_i ho
          have ho : d.own = false := by simpa using ho
          obtain ⟨s1, s2⟩ := v1.shared ho
          rcases bnd_some e2 with ⟨ds, q2, n2, e3, e4⟩ | ⟨c, n2, e3, rfl⟩
          · refine ⟨Hs1, n1, fe1, addF fv1 fr, _, g1.be, e3, fun xs Hs2 H2 fe2 fv2 g2 v2 mv => ?_⟩
            cases e4
            refine hw (x :: xs) Hs2 H2 fe2 (addF fv1 fv2) (g1.trans g2) (.cons (by rw [s2]; exact (s1.mono g2.same _ _).ow) v2) fun j i' hj => ?_
            cases j with
            | zero =>
              simp at hj
              exact absurd hj (hn i')
            | succ j =>
              obtain ⟨v', m1, m2⟩ := mv j i' (by simpa using hj)
              exact ⟨v', by simpa using m1, m2⟩
          · exact ⟨Hs1, n1, fe1, addF fv1 fr, _, g1.be, e3, WX1.trans g1 hw⟩
      · exact ⟨Hs, n, fe, fr, _, be, e1, hw⟩
/-! ### displays -/
theorem evs_length {w : Bool} : ∀ {as : List IE} {n : Env} {ds : List D} {q : Bool} {n' : Env}, evs G w as n = some (.ok ds q n') → ds.length = as.length
  | [], _, _, _, _, h => by
    simp only [evs] at h
    cases h
    rfl
  | a :: as, n, ds, q, n', h => by
    simp only [evs] at h
    rcases bnd_some h with ⟨d, q1, n1, e1, e2⟩ | ⟨c, n1, e1, e2⟩
    · split at e2
      · cases e2
      · rcases bnd_some e2 with ⟨ds2, q2, n2, e3, e4⟩ | ⟨c, n2, e3, e4⟩
        · cases e4
          rw [List.length_cons, List.length_cons, evs_length e3]
        · cases e4
    · cases e2
theorem le_line {n : Nat} (h : n ≤ 1000) : n ≤ sizeLine := Nat.le_trans h (by decide)
theorem good_lst {as : List IE} (hg : ∀ a ∈ as, GoodE cl xc G k a) : GoodE cl xc G k (.lst as) := by
  intro X M W hx tk e hm w
  cases e <;> simp only [mE] at hm <;> first | cases hm | skip
  simp only [Bool.and_eq_true, decide_eq_true_eq] at hm
  refine PEi (pe_lst (pa_evs w hx tk as _ hg hm.2)) fun σ H Q h => ?_
  obtain ⟨Hs, n, fe, fr, r, be, he, hw⟩ := h
  simp only [ev] at he
  rcases bnd_some he with ⟨ds, q, n1, e1, e2⟩ | ⟨c, n1, e1, rfl⟩
  · refine ⟨Hs, n, fe, fr, _, be, e1, fun xs Hs1 H1 fe1 fv1 g1 v1 => ⟨le_line (by rw [v1.length, evs_length e1]; exact hm.1), fun p hp => ?_⟩⟩
    refine fin_end e2 (g1.newO (p := p) (o := .lst xs) hp) ?_ hw
    simp only [Ow]
    exact ⟨p, xs, fv1, rfl, upd_same, v1.frame (Same.refl _) _ _ _ (fun a ha => upd_ne fun z => (g1.ok.own a (by simp only [addF]; omega)).2 (by rw [z]; exact hp)), rfl⟩
  · exact ⟨Hs, n, fe, fr, _, be, e1, hw⟩
theorem good_tup {as : List IE} (hg : ∀ a ∈ as, GoodE cl xc G k a) : GoodE cl xc G k (.tup as) := by
  intro X M W hx tk e hm w
  cases e <;> simp only [mE] at hm <;> first | cases hm | skip
  simp only [Bool.and_eq_true, decide_eq_true_eq] at hm
  refine PEi (pe_tup (pa_evs w hx tk as _ hg hm.2)) fun σ H Q h => ?_
  obtain ⟨Hs, n, fe, fr, r, be, he, hw⟩ := h
  simp only [ev] at he
  rcases bnd_some he with ⟨ds, q, n1, e1, e2⟩ | ⟨c, n1, e1, rfl⟩
  · refine ⟨Hs, n, fe, fr, _, be, e1, fun xs Hs1 H1 fe1 fv1 g1 v1 => ⟨le_line (by rw [v1.length, evs_length e1]; exact hm.1), fun p hp => ?_⟩⟩
    refine fin_end e2 (g1.newO (p := p) (o := .tup xs) hp) ?_ hw
    simp only [Ow]
    exact ⟨p, xs, fv1, rfl, upd_same, v1.frame (Same.refl _) _ _ _ (fun a ha => upd_ne fun z => (g1.ok.own a (by simp only [addF]; omega)).2 (by rw [z]; exact hp)), rfl⟩
  · exact ⟨Hs, n, fe, fr, _, be, e1, hw⟩
/-! ### calls -/
theorem backB_get : ∀ {ps : List Nat} {as : List IE} {bs : List Nat}, backB ps as bs = true → ∀ {vs : List V} {σ : L2.St} {us : List V}, MvOk as vs σ → ps.mapM (fun i => vs[i]?) = some us → ∀ (j b : Nat), bs[j]? = some b → ∃ u, us[j]? = some u ∧ σ[b]? = some (some u)
  | [], _, [], _, _, _, _, _, _, j, b, h => by simp at h
  | [], _, _ :: _, h, _, _, _, _, _, _, _, _ => by simp [backB] at h
  | _ :: _, _, [], h, _, _, _, _, _, _, _, _ => by simp [backB] at h
  | p :: ps, as, b0 :: bs, h, vs, σ, us, mv, hm, j, b, hj => by
    simp only [backB, Bool.and_eq_true] at h
    obtain ⟨h1, h2⟩ := h
    split at h1
    · rename_i i hp
      have ei : i = b0 := by simpa using h1
      subst ei
      obtain ⟨v, m1, m2⟩ := mv p i hp
      rw [List.mapM_cons, m1] at hm
      cases hr : ps.mapM (fun i => vs[i]?) with
      | none =>
        rw [hr] at hm
        cases hm
      | some rs =>
        rw [hr] at hm
        cases hm
        cases j with
        | zero =>
          simp at hj
          subst hj
          exact ⟨v, rfl, m2⟩
        | succ j =>
          obtain ⟨u, k1, k2⟩ := backB_get h2 mv hr j b (by simpa using hj)
          exact ⟨u, by simpa using k1, k2⟩
    · cases h1
theorem set_none_self {n : Env} {i : Nat} (h : (gets n i).isNone = true) : n.set i none = n := by
  apply List.ext_getElem?
  intro j
  rw [List.getElem?_set]
  split
  · rename_i e
    subst e
    split
    · rename_i hl
      unfold gets at h
      rw [List.getElem?_eq_getElem hl] at h ⊢
      cases z : n[i] with
      | none => rfl
      | some d =>
        rw [z] at h
        simp at h
    · rename_i hl
      rw [List.getElem?_eq_none (by omega)]
  · rfl
theorem backs_ok {K : PySem.W.Frag} {Hs H : Hp} {σ : L2.St} : ∀ {bs : List Nat} {os : List D} {us : List V} {n n' : Env} {f g : Fp}, backs n bs os = some n' → EnvOw K cl Hs H n σ f → OwL K cl Hs H os us g → (∀ (j b : Nat), bs[j]? = some b → ∃ u, us[j]? = some u ∧ σ[b]? = some (some u)) → EnvOw K cl Hs H n' σ (addF f g)
  | [], [], us, n, n', f, g, h, he, ho, _ => by
    simp only [backs] at h
    cases h
    simp only [OwL] at ho
    rw [ho.2, addF_zf]
    exact he
  | [], _ :: _, _, _, _, _, _, h, _, _, _ => by simp [backs] at h
  | _ :: _, [], _, _, _, _, _, h, _, _, _ => by simp [backs] at h
  | b :: bs, d :: os, us, n, n', f, g, h, he, ho, hk => by
    simp only [backs] at h
    split at h
    · rename_i hn
      simp only [OwL] at ho
      obtain ⟨v, r, g1, g2, rfl, o1, o2, rfl⟩ := ho
      obtain ⟨u, u1, u2⟩ := hk 0 b rfl
      have eu : v = u := by simpa using u1
      subst eu
      have he' : EnvOw K cl Hs H (n.set b none) σ f := by
        rw [set_none_self hn]
        exact he
      have := backs_ok h (he'.fill u2 o1) o2 fun j b' hj => by
        obtain ⟨u', k1, k2⟩ := hk (j + 1) b' (by simpa using hj)
        exact ⟨u', by simpa using k1, k2⟩
      have e : addF (addF g1 f) g2 = addF f (addF g1 g2) := by
        funext a
        simp only [addF]
        omega
      rw [e] at this
      exact this
    · cases h
theorem backs_nil {n n' : Env} {os : List D} (h : backs n [] os = some n') : n' = n ∧ os = [] := by
  cases os with
  | nil =>
    simp only [backs] at h
    cases h
    exact ⟨rfl, rfl⟩
  | cons _ _ => simp [backs] at h
/-- a call by its promise, behind its arguments -/
theorem called_end {K : PySem.W.Frag} {W : WX} {σ : L2.St} {Hs H Hs1 H1 : Hp} {n n1 : Env} {fe fr fe1 fv1 : Fp} {q w : Bool} {f : Nat} {ds : List D} {vs : List V} {as : List IE} {iof back : List Nat} {r : R D} {Q : VK}
    (e : called w q (G f ds) n1 back = some r) (g : Go K cl Hs H n fe fr σ q n1 Hs1 H1 fe1 fv1) (o : OwL K cl Hs1 H1 ds vs fv1) (mv : MvOk as vs σ) (bk : backB iof as back = true) (hw : WE1 K cl xc W σ Hs H n fe fr w Q r) :
    spIl K cl xc G f iof vs H1 Q (WE W σ) := by
  unfold called at e
  cases hG : G f ds with
  | none =>
    rw [hG] at e
    cases e
  | some out =>
    rw [hG] at e
    refine ⟨Hs1, ds, fv1, addF fe1 fr, out, o, g.ok.congr fun a => by simp only [addF]; omega, hG, ?_⟩
    cases out with
    | ret d os =>
      dsimp only at e ⊢
      split at e
      · rename_i n2 hb
        intro v Hs2 H2 fv fo us sm ov oo hio ok fr2
        have env1 : EnvOw K cl Hs2 H2 n1 σ fe1 := g.env.frame sm _ _ _ fun a ha => fr2 a (by simp only [addF]; omega)
        have env2 := backs_ok hb env1 oo (backB_get bk mv hio)
        refine fin_end e (fe' := addF fe1 fo) (fv := fv) ⟨g.same.trans sm, env2, ok.congr fun a => by simp only [addF]; omega, fun a ha => ?_, fun hq => ?_⟩ ov hw
        · rw [fr2 a (by simp only [addF]; omega), g.frm a ha]
        · simp only [Bool.and_eq_true, List.isEmpty_iff] at hq
          obtain ⟨hq1, hq2⟩ := hq
          subst hq2
          obtain ⟨q1, q2⟩ := backs_nil hb
          subst q1 q2
          obtain ⟨k1, k2, k3⟩ := g.qt hq1
          simp only [OwL] at oo
          refine ⟨k1, by rw [oo.2, addF_zf, k2], fun a ha => ?_⟩
          rw [fr2 a (by rw [k2]; simp only [addF]; omega), k3 a ha]
      · cases e
    | ex c =>
      dsimp only at e ⊢
      cases e
      intro Hs2 H2 sm ok fr2
      refine hw Hs2 H2 fe1 ⟨g.same.trans sm, g.env.frame sm _ _ _ fun a ha => fr2 a (by simp only [addF]; omega), ok.congr fun a => by simp only [addF, zf]; omega, fun a ha => ?_, fun h => by cases h⟩
      rw [fr2 a (by simp only [addF]; omega), g.frm a ha]
theorem noStars : ∀ {as : List IE} {es : List Expr}, mEs as M es = true → ∀ (env : PySem.Env) (pos : Pos), (backTo pos (starEach es env)).any (·.1) = false
  | [], [], _, _, _ => rfl
  | [], _ :: _, h, _, _ => by simp only [mEs] at h <;> cases h
  | _ :: _, [], h, _, _ => by simp only [mEs] at h <;> cases h
  | a :: as, e :: es, h, env, pos => by
    simp only [mEs, Bool.and_eq_true] at h
    rw [star_ok h.1]
    have ih := noStars h.2.2 env pos
    simp only [backTo, List.map_cons, List.any_cons, Bool.false_or] at ih ⊢
    exact ih
theorem good_call {f : Nat} {as : List IE} {back : List Nat} (hg : ∀ a ∈ as, GoodE cl xc G k a) : GoodE cl xc G k (.call f as back) := by
  intro X M W hx tk e hm w
  cases e with
  | Call fn args kws p =>
    cases fn with
    | Name x p2 =>
      cases args with
      | nil => simp only [mE] at hm <;> cases hm
      | cons e es =>
        cases kws with
        | cons _ _ => simp only [mE] at hm <;> cases hm
        | nil =>
          simp only [mE, Bool.and_eq_true, decide_eq_true_eq] at hm
          obtain ⟨h1, h2, h3, h4, h5⟩ := hm
          obtain ⟨a, fd, ps, j, hj, mg, kp, bn, F⟩ := hx.fns f x h1
          cases as with
          | nil => simp only [mEs] at h5 <;> cases h5
          | cons a0 as0 =>
            have h6 := h5
            simp only [mEs, Bool.and_eq_true] at h6
            refine PEi (pe_callS F (hx.room.mono hj) (gl_ok hx h2) mg kp bn (passAt tk) (pa_eva hx tk _ _ hg h5) (dun_ok h3).1 (star_ok h6.1 _ _) (noStars h6.2.2 _ _)) fun σ H Q h => ?_
            obtain ⟨Hs, n, fe, fr, r, be, he, hw⟩ := h
            simp only [ev] at he
            rcases bnd_some he with ⟨ds, q, n1, e1, e2⟩ | ⟨c, n1, e1, rfl⟩
            · exact ⟨Hs, n, fe, fr, _, be, e1, fun vs Hs1 H1 fe1 fv1 g1 v1 mv => called_end e2 g1 v1 mv h4 hw⟩
            · exact ⟨Hs, n, fe, fr, _, be, e1, hw⟩
    | _ => simp only [mE] at hm <;> cases hm
  | _ => simp only [mE] at hm <;> cases hm
end
end Il
set_option Elab.async false
set_option linter.all false
set_option maxRecDepth 100000
set_option maxHeartbeats 1000000
/-! Il's expressions over the hand layer: built-ins, tests, items, slices. -/
namespace Il
open PySem L2 PySem.Spec PyProof.Rows
section
variable {X : Cx} {M : Mc} {cl : Nat → Addr} {xc : Nat → Value} {G : Gam} {k : Nat}
/-- is None: its reading -/
theorem isN_part {K : PySem.W.Frag} {W : WX} {neg : Bool} {a : IE} {w : Bool} {σ : L2.St} {H : Hp} {Q : VK} (h : tI K cl xc G W (.isN neg a) w σ H Q) : tI K cl xc G W a false σ H fun x H1 => Q (.bl (if neg then !decide (x = .non) else decide (x = .non))) H1 := by
  obtain ⟨Hs, n, fe, fr, r, be, he, hw⟩ := h
  simp only [ev] at he
  rcases bnd_some he with ⟨d, q, n1, e1, e2⟩ | ⟨c, n1, e1, rfl⟩
  · refine ⟨Hs, n, fe, fr, _, be, e1, fun x Hs1 H1 fe1 fv1 g1 v1 => ?_⟩
    have z1 : fv1 = zf := v1.1
    subst z1
    cases e2
    refine hw _ Hs1 H1 fe1 zf g1 (.of_sh ?_ w)
    simp only [Sh]
    obtain ⟨g, og⟩ := v1.ow
    have key : decide (x = V.non) = (match d with | .non => true | _ => false) := by
      cases d with
      | non =>
        simp only [Ow] at og
        simp [og.1]
      | bl _ =>
        simp only [Ow] at og
        simp [og.1]
      | int _ =>
        simp only [Ow] at og
        simp [og.1]
      | str _ =>
        simp only [Ow] at og
        simp [og.1]
      | lst _ _ =>
        obtain ⟨_, _, _, rfl, _⟩ := og.lst g1.ok.ex
        simp
      | tup _ _ =>
        obtain ⟨_, _, _, rfl, _⟩ := og.tup g1.ok.ex
        simp
      | dct _ _ _ _ =>
        obtain ⟨_, _, _, rfl, _⟩ := og.dct g1.ok.ex
        simp
      | ins _ _ =>
        simp only [Ow] at og
        obtain ⟨_, _, _, _, rfl, _⟩ := og
        simp
      | scr _ =>
        simp only [Ow, Sh] at og
        obtain ⟨⟨_, rfl, _⟩, _⟩ := og
        simp
    rw [key]
    cases d <;> cases neg <;> rfl
  · exact ⟨Hs, n, fe, fr, _, be, e1, hw⟩
/-- one operand: its reading, then what follows -/
theorem good_isN (neg : Bool) {a : IE} (ha : GoodE cl xc G k a) : GoodE cl xc G k (.isN neg a) := by
  intro X M W hx tk e hm w
  have fin : ∀ {σ : L2.St} {H : Hp} {Q : VK}, tI X.K cl xc G W (.isN neg a) w σ H Q → tI X.K cl xc G W a false σ H fun x H1 => Q (.bl (if neg then !decide (x = .non) else decide (x = .non))) H1 := fun h => isN_part h
  cases neg with
  | false =>
    unfold mE at hm
    split at hm <;> first | cases hm | skip
    all_goals (rename_i h1; cases h1)
    refine PEi (pe_cmp (pc_isN (ha X _ W hx tk _ hm false))) fun σ H Q h => ?_
    exact fin h
  | true =>
    unfold mE at hm
    split at hm <;> first | cases hm | skip
    all_goals (rename_i h1; cases h1)
    refine PEi (pe_cmp (pc_notN (ha X _ W hx tk _ hm false))) fun σ H Q h => ?_
    exact fin h
/-! ### built-ins by one value -/
def rC (K : PySem.W.Frag) (cl : Nat → Addr) (o : B1) : List V → Hp → VK → Prop := fun xs H Q => ∃ x Hs da d fa, xs = [x] ∧ Same Hs H ∧ Ow K cl Hs H da x fa ∧ sem1 o da = some d ∧ NewQ K Hs H d Q
theorem sem1_new {o : B1} {a d : D} (h : sem1 o a = some d) : d.own = true → (∃ xs, d = .lst true xs) ∨ ∃ xs, d = .tup true xs := by
  intro ho
  cases o <;> simp only [sem1] at h
  all_goals first
    | (repeat' split at h) <;> first | cases h | skip
    | skip
  all_goals first
    | (simp [D.own] at ho; done)
    | exact .inl ⟨_, rfl⟩
    | exact .inr ⟨_, rfl⟩
    | skip
  all_goals first
    | (rename_i xs; cases z : boolsD xs <;> rw [z] at h <;> simp at h <;> subst h <;> simp [D.own] at ho; done)
    | (rename_i xs _ _; cases z : strsD _ <;> rw [z] at h <;> simp at h; subst h; exact .inl ⟨_, rfl⟩)
    | (cases z : strsD _ <;> rw [z] at h <;> simp at h; subst h; exact .inl ⟨_, rfl⟩)
    | (cases z : intsD _ <;> rw [z] at h <;> simp at h; subst h; exact .inl ⟨_, rfl⟩)
    | skip

theorem vals_one {x : V} {us : List Value} (r : Vals [x] us) : ∃ u, us = [u] ∧ RelV x u := vals1 r
theorem crS_len : CallR X (.builtin "len") (rC X.K cl .len) := by
  intro pins s σ H xs us Q I r h
  obtain ⟨x, Hs, da, d, fa, rfl, e, o, hs, hq⟩ := h
  cases da <;> simp only [sem1] at hs <;> first | cases hs | skip
  · split at hs
    · rename_i hl
      cases hs
      simp only [Ow] at o
      rw [o.1] at r
      refine call_len_str pins s σ H _ us Q I r ⟨_, rfl, ?_, ?_⟩
      · rw [line_eq]
        simpa [Str.length] using hl
      · have := hq.int
        simpa [Str.length] using this
    · cases hs
  · obtain ⟨a, vs, g, rfl, h2, h3, _⟩ := o.lst e
    refine call_len_seq pins s σ H _ us Q I r ⟨a, vs, rfl, .inl (.of h2), ?_⟩
    rw [h3.length]
    exact hq.int
  · obtain ⟨a, vs, g, rfl, h2, h3, _⟩ := o.tup e
    refine call_len_seq pins s σ H _ us Q I r ⟨a, vs, rfl, .inr (.of h2), ?_⟩
    rw [h3.length]
    exact hq.int
  · rename_i kd b ks ds
    obtain ⟨a, vs, g, rfl, h2, h4, h3, _⟩ := o.dct e
    have hl : ks.length = vs.length := h4.1
    cases kd with
    | k =>
      refine call_lenD pins s σ H _ us Q I r ⟨a, _, rfl, h2, ?_⟩
      rw [List.length_zip, List.length_map, ← hl, Nat.min_self]
      exact hq.int
    | t =>
      refine call_len_dT pins s σ H _ us Q I r ⟨a, _, rfl, h2, ?_⟩
      rw [List.length_zip, List.length_map, ← hl, Nat.min_self]
      exact hq.int
    | x => exact absurd (I.hok _ _ h2).1 id
    | y => exact absurd (I.hok _ _ h2).1 id
  · simp only [Ow, Sh] at o
    obtain ⟨⟨a, rfl, h2⟩, _⟩ := o
    refine call_len_seq pins s σ H _ us Q I r ⟨a, _, rfl, .inl (e.seq h2), ?_⟩
    rw [List.length_map]
    exact hq.int
theorem crS_int : CallR X (.type "int") (rC X.K cl .int) := by
  intro pins s σ H xs us Q I r h
  obtain ⟨x, Hs, da, d, fa, rfl, e, o, hs, hq⟩ := h
  cases da <;> simp only [sem1] at hs <;> first | cases hs | skip
  · simp only [Ow] at o
    rw [o.1] at r
    exact call_int1 pins s σ H _ us Q I r (.inr ⟨_, rfl, hq.int⟩)
  · simp only [Ow] at o
    rw [o.1] at r
    exact call_int1 pins s σ H _ us Q I r (.inl ⟨_, rfl, hq.int⟩)
/-- one value, then what is reckoned of it -/
theorem op1_part {W : WX} {o : B1} {a : IE} {w : Bool} {σ : L2.St} {H : Hp} {Q : VK} {K : PySem.W.Frag} (h : tI K cl xc G W (.op1 o a) w σ H Q) :
    tI K cl xc G W a false σ H fun x H1 => rC K cl o [x] H1 Q := by
  obtain ⟨Hs, n, fe, fr, r, be, he, hw⟩ := h
  simp only [ev] at he
  rcases bnd_some he with ⟨da, q, n1, h1, h2⟩ | ⟨c, n1, h1, rfl⟩
  · refine ⟨Hs, n, fe, fr, _, be, h1, fun x Hs1 H1 fe1 fv1 g1 v1 => ?_⟩
    have z1 : fv1 = zf := v1.1
    subst z1
    obtain ⟨ga, oa⟩ := v1.ow
    cases hs : sem1 o da with
    | none =>
      rw [hs] at h2
      cases h2
    | some d =>
      rw [hs] at h2
      exact ⟨x, Hs1, da, d, ga, rfl, g1.ok.ex, oa, hs, new_end h2 (sem1_new hs) g1 hw⟩
  · exact ⟨Hs, n, fe, fr, _, be, h1, hw⟩
theorem blt_ok (hx : XOk X M cl xc G k) {x n : Str} (h : bltB M x n = true) : x = n ∧ Gl X n := by
  unfold bltB at h
  simp only [Bool.and_eq_true, decide_eq_true_eq] at h
  obtain ⟨rfl, g⟩ := h
  exact ⟨rfl, gl_ok hx g⟩
theorem call1_mk {W : WX} {o : B1} {a : IE} {w : Bool} {e : Expr} {n : Str} {p p2 : Pos} (ha : PE X e (tI X.K cl xc G W a false)) (hs : notStar e = true)
    (hk : ∀ t, PA X [e] t → PE X (.Call (.Name n p2) [e] [] p) (tCB (rC X.K cl o) t)) : PE X (.Call (.Name n p2) [e] [] p) (tI X.K cl xc G W (.op1 o a) w) := by
  refine PEi (hk _ (pa_cons ha pa_nil (star_ok hs _ _))) fun σ H Q h => ?_
  obtain ⟨Hs, n, fe, fr, r, be, he, hw⟩ := op1_part h
  refine ⟨Hs, n, fe, fr, r, be, he, ?_⟩
  cases r with
  | ok d q n' => exact hw
  | ex c n' => exact hw
end
end Il
set_option Elab.async false
set_option linter.all false
set_option maxRecDepth 100000
set_option maxHeartbeats 1000000
/-! Il's expressions over the hand layer: isinstance, chains, and, or, not, items, slices, tests. -/
namespace Il
open PySem L2 PySem.Spec PyProof.Rows
section
variable {X : Cx} {M : Mc} {cl : Nat → Addr} {xc : Nat → Value} {G : Gam} {k : Nat}
def tyName : Ty → String
  | .int => "int"
  | .bool => "bool"
  | .str => "str"
  | .tuple => "tuple"
  | .list => "list"
theorem tyB_ok (hx : XOk X M cl xc G k) {t : Ty} {y : Str} (h : tyB M t y = true) : Gl X y ∧ X.mg y = none ∧ bootBuiltins y = some (.type (tyName t)) ∧ y ≠ "__name__" ∧ (y == ("__debug__" : Str)) = false := by
  cases t <;> (
    simp only [tyB] at h
    obtain ⟨rfl, g⟩ := blt_ok hx h
    exact ⟨g, hx.free _ (by simp), by decide +kernel, by decide +kernel, by decide +kernel⟩)
theorem isTy_ok {K : PySem.W.Frag} {Hs H : Hp} {t : Ty} {d : D} {x : V} {f : Fp} {b : Bool} (e : Same Hs H) (o : Ow K cl Hs H d x f) (h : isTy t d = some b) : ∃ s : String, TyX K H x (.type s) ∧ PySem.W.kitOne K (.type s) (.type (tyName t)) = some b := by
  cases d <;> simp only [isTy] at h <;> first | cases h | skip
  · simp only [Ow] at o
    rw [o.1]
    refine ⟨_, .base .non, kit_ty ?_⟩
    cases t <;> decide +kernel
  · simp only [Ow] at o
    rw [o.1]
    refine ⟨_, .base (.bl _), kit_ty ?_⟩
    cases t <;> decide +kernel
  · simp only [Ow] at o
    rw [o.1]
    refine ⟨_, .base (.int _), kit_ty ?_⟩
    cases t <;> decide +kernel
  · simp only [Ow] at o
    rw [o.1]
    refine ⟨_, .base (.str _), kit_ty ?_⟩
    cases t <;> decide +kernel
  · obtain ⟨a, vs, g, rfl, h2, h3, _⟩ := o.lst e
    refine ⟨_, .base (.lst h2), kit_ty ?_⟩
    cases t <;> decide +kernel
  · obtain ⟨a, vs, g, rfl, h2, h3, _⟩ := o.tup e
    refine ⟨_, .base (.tup h2), kit_ty ?_⟩
    cases t <;> decide +kernel
theorem good_isi (t : Ty) {a : IE} (ha : GoodE cl xc G k a) : GoodE cl xc G k (.isi a t) := by
  intro X M W hx tk e hm w
  unfold mE at hm
  split at hm <;> first | cases hm | skip
  all_goals (rename_i h1; cases h1)
  simp only [Bool.and_eq_true] at hm
  obtain ⟨h1, h2, h3, h4⟩ := hm
  obtain ⟨rfl, g⟩ := blt_ok hx h1
  obtain ⟨t1, t2, t3, t4, t5⟩ := tyB_ok hx h2
  refine PEi (pe_callB call_isi g (hx.free _ (by simp)) (by decide +kernel) (pa_cons (ha X _ W hx tk _ h4 false) (pa_cons (pe_bltn (v := .ty (tyName t)) t1 t2 t3 rfl t4 t5) pa_nil) (star_ok h3 _ _)) (by decide) (by decide) (star_ok h3 _ _) rfl) fun σ H Q h => ?_
  obtain ⟨Hs, n, fe, fr, r, be, he, hw⟩ := h
  simp only [ev] at he
  rcases bnd_some he with ⟨da, q, n1, e1, e2⟩ | ⟨c, n1, e1, rfl⟩
  · refine ⟨Hs, n, fe, fr, _, be, e1, fun x Hs1 H1 fe1 fv1 g1 v1 => ?_⟩
    have z1 : fv1 = zf := v1.1
    subst z1
    obtain ⟨ga, oa⟩ := v1.ow
    cases hs : isTy t da with
    | none =>
      rw [hs] at e2
      cases e2
    | some b =>
      rw [hs] at e2
      cases e2
      obtain ⟨s, k1, k2⟩ := isTy_ok g1.ok.ex oa hs
      exact ⟨x, .ty (tyName t), _, _, b, rfl, .ty _, k1, k2, hw _ Hs1 H1 fe1 zf g1 (.of_sh (by simp only [Sh]) w)⟩
  · exact ⟨Hs, n, fe, fr, _, be, e1, hw⟩
/-! ### tests -/
def GoodT (cl : Nat → Addr) (xc : Nat → Value) (G : Gam) (k : Nat) (a : IE) : Prop :=
  ∀ (X : Cx) (M : Mc) (W : WX), XOk X M cl xc G k → Takes X W → ∀ e, mE a M e = true → PT X e (tTs X.K cl xc G W a)
def isBop : Expr → Bool
  | .BoolOp _ _ _ => true
  | _ => false
def GoodW (cl : Nat → Addr) (xc : Nat → Value) (G : Gam) (k : Nat) (a : IE) : Prop :=
  ∀ (X : Cx) (M : Mc) (W : WX), XOk X M cl xc G k → Takes X W → ∀ e, mE a M e = true → isBop e = true → PW X e (tTs X.K cl xc G W a)
theorem emp_len {α β : Type} {xs : List α} {ys : List β} (h : xs.length = ys.length) : (!ys.isEmpty) = !xs.isEmpty := by
  cases xs <;> cases ys <;> simp_all
theorem truth_ok {K : PySem.W.Frag} {Hs H : Hp} {d : D} {x : V} {f : Fp} {b : Bool} (e : Same Hs H) (o : Ow K cl Hs H d x f) (h : truth d = some b) : TruV K x H b := by
  cases d <;> simp only [truth] at h <;> first | cases h | skip
  · simp only [Ow] at o
    rw [o.1]
    rfl
  · simp only [Ow] at o
    rw [o.1]
    rfl
  · simp only [Ow] at o
    rw [o.1]
    rfl
  · rename_i s
    split at h
    · rename_i hl
      cases h
      simp only [Ow] at o
      rw [o.1]
      refine ⟨by rw [line_eq]; simpa [Str.length] using hl, ?_⟩
      cases s <;> simp [Str.length]
      omega
    · cases h
  · obtain ⟨a, vs, g, rfl, h2, h3, _⟩ := o.lst e
    refine .inl ⟨vs, .of h2, ?_⟩
    have := h3.length
    exact emp_len this
  · obtain ⟨a, vs, g, rfl, h2, h3, _⟩ := o.tup e
    refine .inr (.inl ⟨vs, .of h2, ?_⟩)
    have := h3.length
    exact emp_len this
def plainT : IE → Bool
  | .not _ => false
  | .band _ _ => false
  | .bor _ _ => false
  | .ite _ _ _ => false
  | .brw _ => false
  | _ => true
theorem evt_plain {a : IE} (h : plainT a = true) (n : Env) : evt G a n = bnd (ev G a false n) fun d q e1 => match truth d with
    | some b => some (.ok b q e1)
    | none => none := by
  cases a <;> first | (unfold evt; rfl) | (cases h; done)
/-- a test by its value -/
theorem tst_part {a : IE} {W : WX} {σ : L2.St} {H : Hp} {Q : Bool → Hp → Prop} {K : PySem.W.Frag} (hp : plainT a = true) (h : tTs K cl xc G W a σ H Q) : tI K cl xc G W a false σ H fun x H1 => ∃ b, TruV K x H1 b ∧ Q b H1 := by
  obtain ⟨Hs, n, fe, fr, r, be, he, hw⟩ := h
  rw [evt_plain hp] at he
  rcases bnd_some he with ⟨d, q, n1, e1, e2⟩ | ⟨c, n1, e1, rfl⟩
  · refine ⟨Hs, n, fe, fr, _, be, e1, fun x Hs1 H1 fe1 fv1 g1 v1 => ?_⟩
    have z1 : fv1 = zf := v1.1
    subst z1
    obtain ⟨ga, oa⟩ := v1.ow
    cases hs : truth d with
    | none =>
      rw [hs] at e2
      cases e2
    | some b =>
      rw [hs] at e2
      cases e2
      exact ⟨b, truth_ok g1.ok.ex oa hs, hw Hs1 H1 fe1 g1⟩
  · exact ⟨Hs, n, fe, fr, _, be, e1, hw⟩
theorem goodT_plain {a : IE} (hp : plainT a = true) (ha : GoodE cl xc G k a) (X : Cx) (M : Mc) (W : WX) (hx : XOk X M cl xc G k) (tk : Takes X W) (e : Expr) (hm : mE a M e = true) (ht : tstB e = true) : PT X e (tTs X.K cl xc G W a) :=
  PTi (pt_truth (ha X _ W hx tk e hm false) (tst_ok ht X.env)) fun σ H Q h => tst_part hp h
theorem truV_bl {K : PySem.W.Frag} {H : Hp} {c b : Bool} (h : TruV K (.bl c) H b) : b = c := h
theorem chain_part {W : WX} {o1 o2 : B2} {a b c : IE} {w : Bool} {σ : L2.St} {H : Hp} {Q : VK} {K : PySem.W.Frag} (h : tI K cl xc G W (.chain o1 o2 a b c) w σ H Q) :
    tChain (rG K cl o1) (rG K cl o2) (tI K cl xc G W a false) (tI K cl xc G W b false) (tI K cl xc G W c false) σ H Q := by
  obtain ⟨Hs, n, fe, fr, r, be, he, hw⟩ := h
  simp only [ev] at he
  rcases bnd_some he with ⟨da, q, n1, h1, h2⟩ | ⟨c, n1, h1, rfl⟩
  · refine ⟨Hs, n, fe, fr, _, be, h1, fun x Hs1 H1 fe1 fv1 g1 v1 => ?_⟩
    obtain ⟨ga, oa⟩ := v1.ow
    have z1 : fv1 = zf := v1.1
    subst z1
    have g1' := g1.be
    rw [zf_addF] at g1'
    rcases bnd_some h2 with ⟨db, q2, n2, h3, h4⟩ | ⟨c, n2, h3, rfl⟩
    · refine ⟨Hs1, n1, fe1, fr, _, g1', h3, fun y Hs2 H2 fe2 fv2 g2 v2 => ?_⟩
      have z2 : fv2 = zf := v2.1
      subst z2
      split at h4
      · cases h4
      · rename_i ho
        simp only [Bool.or_eq_true, not_or, Bool.not_eq_true] at ho
        obtain ⟨o1', o2'⟩ := ho
        have sx := ((v1.shared o1').1).mono g2.same _ _
        have sy := (v2.shared o2').1
        have gt := (g1.trans (by rw [zf_addF]; exact g2)).zf2
        split at h4
        · rename_i hs
          refine ⟨Hs2, da, db, _, zf, zf, g2.ok.ex, sx.ow, sy.ow, hs, ?_⟩
          intro z hz
          simp only [Sh] at hz
          refine ⟨true, hz, ?_⟩
          rw [if_pos rfl]
          have g2' := gt.be
          rw [zf_addF] at g2'
          rcases bnd_some h4 with ⟨dc, q3, n3, h5, h6⟩ | ⟨c, n3, h5, rfl⟩
          · refine ⟨Hs2, n2, fe2, fr, _, g2', h5, fun z' Hs3 H3 fe3 fv3 g3 v3 => ?_⟩
            have z3 : fv3 = zf := v3.1
            subst z3
            split at h6
            · cases h6
            · rename_i ho3
              have ho3 : dc.own = false := by simpa using ho3
              have sz := (v3.shared ho3).1
              have sy' := sy.mono g3.same _ _
              have gt3 := (gt.trans (by rw [zf_addF]; exact g3)).zf2
              split at h6
              · rename_i rr hs2
                cases h6
                refine ⟨Hs3, db, dc, _, zf, zf, g3.ok.ex, sy'.ow, sz.ow, hs2, ?_⟩
                intro v hv
                exact hw v Hs3 H3 fe3 zf gt3 (.of_sh hv w)
              · cases h6
          · refine ⟨Hs2, n2, fe2, fr, _, g2', h5, fun Hs3 H3 fe3 g3 => ?_⟩
            exact hw Hs3 H3 fe3 (gt.transX (by rw [zf_addF]; exact g3))
        · rename_i hs
          cases h4
          refine ⟨Hs2, da, db, _, zf, zf, g2.ok.ex, sx.ow, sy.ow, hs, ?_⟩
          intro z hz
          simp only [Sh] at hz
          refine ⟨false, hz, ?_⟩
          rw [if_neg Bool.false_ne_true]
          exact hw _ Hs2 H2 fe2 zf gt (.of_sh (by simp only [Sh]) w)
        · cases h4
    · refine ⟨Hs1, n1, fe1, fr, _, g1', h3, fun Hs2 H2 fe2 g2 => ?_⟩
      exact hw Hs2 H2 fe2 (g1.transX (by rw [zf_addF]; exact g2))
  · exact ⟨Hs, n, fe, fr, _, be, h1, hw⟩
theorem good_chain (o1 o2 : B2) {a b c : IE} (ha : GoodE cl xc G k a) (hb : GoodE cl xc G k b) (hc : GoodE cl xc G k c) : GoodE cl xc G k (.chain o1 o2 a b c) := by
  intro X M W hx tk e hm w
  unfold mE at hm
  split at hm <;> first | cases hm | skip
  all_goals (rename_i h1; cases h1)
  simp only [Bool.and_eq_true, Bool.not_eq_true'] at hm
  obtain ⟨h1, ⟨h2, h6⟩, h3, h4, h5⟩ := hm
  refine PEi (pe_chain (cop_ok hx h1) (cop_ok hx h2) (ha X _ W hx tk _ h3 false) (hb X _ W hx tk _ h4 false) (hc X _ W hx tk _ h5 false) h6) fun σ H Q h => chain_part h
theorem goodT_cmp {a : IE} (hp : plainT a = true) {X : Cx} {W : WX} {e : Expr} {t : TE} (h : PT X e (tTest t)) (k : ∀ σ H Q, tI X.K cl xc G W a false σ H Q → t σ H Q) (hb : ∀ σ H (P : Bool → Hp → Prop), tI X.K cl xc G W a false σ H (fun x H1 => ∃ b, TruV X.K x H1 b ∧ P b H1) → tI X.K cl xc G W a false σ H (fun x H1 => ∃ b, x = .bl b ∧ P b H1)) : PT X e (tTs X.K cl xc G W a) :=
  PTi h fun σ H Q q => k σ H _ (hb σ H Q (tst_part hp q))
/-- a comparison's value is a bool -/
theorem cmp_bool {K : PySem.W.Frag} {W : WX} {a : IE} (ht : ∀ n r, ev G a false n = some r → ∀ d q n', r = .ok d q n' → ∃ b, d = .bl b) (σ : L2.St) (H : Hp) (P : Bool → Hp → Prop) (h : tI K cl xc G W a false σ H (fun x H1 => ∃ b, TruV K x H1 b ∧ P b H1)) :
    tI K cl xc G W a false σ H (fun x H1 => ∃ b, x = .bl b ∧ P b H1) := by
  obtain ⟨Hs, n, fe, fr, r, be, he, hw⟩ := h
  refine ⟨Hs, n, fe, fr, r, be, he, ?_⟩
  cases r with
  | ex c n' => exact hw
  | ok d q n' =>
    intro v Hs' H' fe' fv g vr
    obtain ⟨b, rfl⟩ := ht n _ he d q n' rfl
    obtain ⟨ga, oa⟩ := vr.ow
    simp only [Ow] at oa
    obtain ⟨b', h1, h2⟩ := hw v Hs' H' fe' fv g vr
    rw [oa.1] at h1
    have e : b' = b := truV_bl h1
    subst e
    exact ⟨_, oa.1, h2⟩
theorem lent0 {K : PySem.W.Frag} {Hs H : Hp} {fe fv : Fp} {d : D} {v : V} (h : VR K cl Hs H fe false d v fv) : fv = zf := h.1
end
end Il
set_option Elab.async false
set_option linter.all false
set_option maxRecDepth 100000
set_option maxHeartbeats 1000000
/-! Il's expressions over the hand layer: tests, and, or, not, items, slices. -/
namespace Il
open PySem L2 PySem.Spec PyProof.Rows
section
variable {X : Cx} {M : Mc} {cl : Nat → Addr} {xc : Nat → Value} {G : Gam} {k : Nat}
theorem op2_tOp {W : WX} {o : B2} {a b : IE} {w : Bool} {σ : L2.St} {H : Hp} {Q : VK} {K : PySem.W.Frag} (h : tI K cl xc G W (.op2 o a b) w σ H Q) : tOp (rG K cl o) (tI K cl xc G W a false) (tI K cl xc G W b false) σ H Q := by
  obtain ⟨Hs, n, fe, fr, r, be, he, hw⟩ := op2_part h
  refine ⟨Hs, n, fe, fr, r, be, he, ?_⟩
  cases r with
  | ok d q n' => exact fun v Hs' H' fe' fv g vr => (hw v Hs' H' fe' fv g vr).2
  | ex c n' => exact hw
theorem cop_bool {o : B2} {op : CmpOp} {a b d : D} (h : copB o op = true) (hs : sem2 o a b = some d) : ∃ b, d = .bl b := by
  cases o <;> cases op <;> simp only [copB] at h <;> first | (cases h; done) | skip
  all_goals simp only [sem2] at hs
  all_goals first
    | (cases z : scalD a b <;> rw [z] at hs <;> simp at hs; exact ⟨_, hs.symm⟩)
    | (cases z : inD a b <;> rw [z] at hs <;> simp at hs; exact ⟨_, hs.symm⟩)
    | (cases a <;> cases b <;> simp at hs; exact ⟨_, hs.symm⟩)
theorem fin_bool {w : Bool} {b : Bool} {q : Bool} {n : Env} {r : R D} (h : (if (D.bl b).own then fin w (.bl b) q n else some (.ok (.bl b) q n)) = some r) : r = .ok (.bl b) q n := by
  simp [D.own] at h
  exact h.symm
theorem goodT_op2 (o : B2) {a b : IE} (ha : GoodE cl xc G k a) (hb : GoodE cl xc G k b) : GoodT cl xc G k (.op2 o a b) := by
  intro X M W hx tk e hm
  by_cases ht : tstB e = true
  · exact goodT_plain rfl (good_op2 o ha hb) X _ W hx tk e hm ht
  · unfold mE at hm
    split at hm <;> first | cases hm | skip
    all_goals first
      | (rename_i h1; cases h1; done)
      | (exact absurd rfl ht)
      | skip
    rename_i h1
    cases h1
    simp only [Bool.and_eq_true, Bool.not_eq_true'] at hm
    obtain ⟨h1, h4, h2, h3⟩ := hm
    refine goodT_cmp rfl (pt_cmpR (cop_ok hx h1) (ha X _ W hx tk _ h2 false) (hb X _ W hx tk _ h3 false) h4) (fun σ H Q h => op2_tOp h) (cmp_bool ?_)
    intro n r he d q n' hr
    subst hr
    simp only [ev] at he
    rcases bnd_some he with ⟨da, q1, n1, e1, e2⟩ | ⟨c, n1, e1, e2⟩
    · split at e2
      · rcases bnd_some e2 with ⟨db, q2, n2, e3, e4⟩ | ⟨c, n2, e3, e4⟩
        · split at e4
          · cases e4
          · cases hs : sem2 o da db with
            | none =>
              rw [hs] at e4
              cases e4
            | some d2 =>
              rw [hs] at e4
              obtain ⟨bb, rfl⟩ := cop_bool h1 hs
              have := fin_bool e4
              cases this
              exact ⟨bb, rfl⟩
        · cases e4
      · cases e2
    · cases e2
theorem goodT_isN (neg : Bool) {a : IE} (ha : GoodE cl xc G k a) : GoodT cl xc G k (.isN neg a) := by
  intro X M W hx tk e hm
  have kb : ∀ n r, ev G (.isN neg a) false n = some r → ∀ d q n', r = .ok d q n' → ∃ b, d = .bl b := by
    intro n r he d q n' hr
    subst hr
    simp only [ev] at he
    rcases bnd_some he with ⟨da, q1, n1, e1, e2⟩ | ⟨c, n1, e1, e2⟩
    · cases e2
      exact ⟨_, rfl⟩
    · cases e2
  cases neg with
  | false =>
    unfold mE at hm
    split at hm <;> first | cases hm | skip
    all_goals (rename_i h1; cases h1)
    exact goodT_cmp rfl (pt_cmp (pc_isN (ha X _ W hx tk _ hm false))) (fun σ H Q h => isN_part h) (cmp_bool kb)
  | true =>
    unfold mE at hm
    split at hm <;> first | cases hm | skip
    all_goals (rename_i h1; cases h1)
    exact goodT_cmp rfl (pt_cmp (pc_notN (ha X _ W hx tk _ hm false))) (fun σ H Q h => isN_part h) (cmp_bool kb)
theorem goodT_chain (o1 o2 : B2) {a b c : IE} (ha : GoodE cl xc G k a) (hb : GoodE cl xc G k b) (hc : GoodE cl xc G k c) : GoodT cl xc G k (.chain o1 o2 a b c) := by
  intro X M W hx tk e hm
  have kb : ∀ n r, ev G (.chain o1 o2 a b c) false n = some r → ∀ d q n', r = .ok d q n' → ∃ b, d = .bl b := by
    intro n r he d q n' hr
    subst hr
    simp only [ev] at he
    rcases bnd_some he with ⟨da, q1, n1, e1, e2⟩ | ⟨c, n1, e1, e2⟩
    · rcases bnd_some e2 with ⟨db, q2, n2, e3, e4⟩ | ⟨c, n2, e3, e4⟩
      · split at e4
        · cases e4
        · split at e4
          · rcases bnd_some e4 with ⟨dc, q3, n3, e5, e6⟩ | ⟨c, n3, e5, e6⟩
            · split at e6
              · cases e6
              · split at e6
                · cases e6
                  exact ⟨_, rfl⟩
                · cases e6
            · cases e6
          · cases e4
            exact ⟨_, rfl⟩
          · cases e4
      · cases e4
    · cases e2
  unfold mE at hm
  split at hm <;> first | cases hm | skip
  all_goals (rename_i h1; cases h1)
  simp only [Bool.and_eq_true, Bool.not_eq_true'] at hm
  obtain ⟨h1, ⟨h2, h6⟩, h3, h4, h5⟩ := hm
  exact goodT_cmp rfl (pt_chain (cop_ok hx h1) (cop_ok hx h2) (ha X _ W hx tk _ h3 false) (hb X _ W hx tk _ h4 false) (hc X _ W hx tk _ h5 false) h6) (fun σ H Q h => chain_part h) (cmp_bool kb)
theorem goodT_not {a : IE} (ha : GoodT cl xc G k a) : GoodT cl xc G k (.not a) := by
  intro X M W hx tk e hm
  unfold mE at hm
  split at hm <;> first | cases hm | skip
  all_goals (rename_i h1; cases h1)
  refine PTi (pt_not (ha X _ W hx tk _ hm)) fun σ H Q h => ?_
  obtain ⟨Hs, n, fe, fr, r, be, he, hw⟩ := h
  simp only [evt] at he
  rcases bnd_some he with ⟨b, q, n1, e1, e2⟩ | ⟨c, n1, e1, rfl⟩
  · refine ⟨Hs, n, fe, fr, _, be, e1, fun Hs1 H1 fe1 g1 => ?_⟩
    cases e2
    exact hw Hs1 H1 fe1 g1
  · exact ⟨Hs, n, fe, fr, _, be, e1, hw⟩
/-- the other tests -/
theorem goodT_val {a : IE} (hp : plainT a = true) (h : ∀ M e, mE a M e = true → tstB e = true) (ha : GoodE cl xc G k a) : GoodT cl xc G k a := fun X M W hx tk e hm => goodT_plain hp ha X _ W hx tk e hm (h M e hm)
theorem and_part {W : WX} {a b : IE} {σ : L2.St} {H : Hp} {Q : Bool → Hp → Prop} {K : PySem.W.Frag} (h : tTs K cl xc G W (.band a b) σ H Q) : tAnd (tTs K cl xc G W a) (tTs K cl xc G W b) σ H Q := by
  obtain ⟨Hs, n, fe, fr, r, be, he, hw⟩ := h
  simp only [evt] at he
  rcases bnd_some he with ⟨t, q, n1, e1, e2⟩ | ⟨c, n1, e1, rfl⟩
  · refine ⟨Hs, n, fe, fr, _, be, e1, fun Hs1 H1 fe1 g1 => ?_⟩
    cases t with
    | true =>
      rw [if_pos rfl]
      have g1' := g1.be
      rw [zf_addF] at g1'
      rcases bnd_some e2 with ⟨t2, q2, n2, e3, e4⟩ | ⟨c, n2, e3, rfl⟩
      · refine ⟨Hs1, n1, fe1, fr, _, g1', e3, fun Hs2 H2 fe2 g2 => ?_⟩
        cases e4
        exact hw Hs2 H2 fe2 (g1.trans (by rw [zf_addF]; exact g2)).zf2
      · refine ⟨Hs1, n1, fe1, fr, _, g1', e3, fun Hs2 H2 fe2 g2 => ?_⟩
        exact hw Hs2 H2 fe2 (g1.transX (by rw [zf_addF]; exact g2))
    | false =>
      rw [if_neg Bool.false_ne_true]
      cases e2
      exact hw Hs1 H1 fe1 g1
  · exact ⟨Hs, n, fe, fr, _, be, e1, hw⟩
theorem or_part {W : WX} {a b : IE} {σ : L2.St} {H : Hp} {Q : Bool → Hp → Prop} {K : PySem.W.Frag} (h : tTs K cl xc G W (.bor a b) σ H Q) : L2.tOr (tTs K cl xc G W a) (tTs K cl xc G W b) σ H Q := by
  obtain ⟨Hs, n, fe, fr, r, be, he, hw⟩ := h
  simp only [evt] at he
  rcases bnd_some he with ⟨t, q, n1, e1, e2⟩ | ⟨c, n1, e1, rfl⟩
  · refine ⟨Hs, n, fe, fr, _, be, e1, fun Hs1 H1 fe1 g1 => ?_⟩
    cases t with
    | false =>
      rw [if_neg Bool.false_ne_true]
      have g1' := g1.be
      rw [zf_addF] at g1'
      rcases bnd_some e2 with ⟨t2, q2, n2, e3, e4⟩ | ⟨c, n2, e3, rfl⟩
      · refine ⟨Hs1, n1, fe1, fr, _, g1', e3, fun Hs2 H2 fe2 g2 => ?_⟩
        cases e4
        exact hw Hs2 H2 fe2 (g1.trans (by rw [zf_addF]; exact g2)).zf2
      · refine ⟨Hs1, n1, fe1, fr, _, g1', e3, fun Hs2 H2 fe2 g2 => ?_⟩
        exact hw Hs2 H2 fe2 (g1.transX (by rw [zf_addF]; exact g2))
    | true =>
      rw [if_pos rfl]
      cases e2
      exact hw Hs1 H1 fe1 g1
  · exact ⟨Hs, n, fe, fr, _, be, e1, hw⟩
theorem goodW_band {a b : IE} (ha : GoodT cl xc G k a) (hb : GoodT cl xc G k b) (hw : GoodW cl xc G k b) : GoodW cl xc G k (.band a b) := by
  intro X M W hx tk e hm hbo
  clear hbo
  unfold mE at hm
  split at hm <;> first | cases hm | skip
  all_goals (rename_i h1; cases h1)
  · simp only [Bool.and_eq_true] at hm
    exact PWi (pw_and (ha X _ W hx tk _ hm.1) (pw_and1 (hb X _ W hx tk _ hm.2))) fun σ H Q h => and_part h
  · simp only [Bool.and_eq_true] at hm
    exact PWi (pw_and (ha X _ W hx tk _ hm.1) (hw X _ W hx tk _ hm.2 rfl)) fun σ H Q h => and_part h
theorem goodW_bor {a b : IE} (ha : GoodT cl xc G k a) (hb : GoodT cl xc G k b) (hw : GoodW cl xc G k b) : GoodW cl xc G k (.bor a b) := by
  intro X M W hx tk e hm hbo
  clear hbo
  unfold mE at hm
  split at hm <;> first | cases hm | skip
  all_goals (rename_i h1; cases h1)
  · simp only [Bool.and_eq_true] at hm
    exact PWi (pw_or (ha X _ W hx tk _ hm.1) (pw_or1 (hb X _ W hx tk _ hm.2))) fun σ H Q h => or_part h
  · simp only [Bool.and_eq_true] at hm
    exact PWi (pw_or (ha X _ W hx tk _ hm.1) (hw X _ W hx tk _ hm.2 rfl)) fun σ H Q h => or_part h
theorem bop_band {M : Mc} {a b : IE} {e : Expr} (hm : mE (.band a b) M e = true) : isBop e = true := by
  unfold mE at hm
  split at hm <;> first | cases hm | skip
  all_goals first | (rename_i h1; cases h1; done) | rfl
theorem bop_bor {M : Mc} {a b : IE} {e : Expr} (hm : mE (.bor a b) M e = true) : isBop e = true := by
  unfold mE at hm
  split at hm <;> first | cases hm | skip
  all_goals first | (rename_i h1; cases h1; done) | rfl
theorem goodT_band {a b : IE} (ha : GoodT cl xc G k a) (hb : GoodT cl xc G k b) (hw : GoodW cl xc G k b) : GoodT cl xc G k (.band a b) := fun X M W hx tk e hm => (goodW_band ha hb hw X _ W hx tk e hm (bop_band hm)).pt
theorem goodT_bor {a b : IE} (ha : GoodT cl xc G k a) (hb : GoodT cl xc G k b) (hw : GoodW cl xc G k b) : GoodT cl xc G k (.bor a b) := fun X M W hx tk e hm => (goodW_bor ha hb hw X _ W hx tk e hm (bop_bor hm)).pt

/-! ### and, or, not as values -/
theorem good_not {a : IE} (ha : GoodE cl xc G k a) : GoodE cl xc G k (.not a) := by
  intro X M W hx tk e hm w
  unfold mE at hm
  split at hm <;> first | cases hm | skip
  all_goals (rename_i h1; cases h1)
  refine PEi (pe_notT (ha X _ W hx tk _ hm false)) fun σ H Q h => ?_
  obtain ⟨Hs, n, fe, fr, r, be, he, hw⟩ := h
  simp only [ev] at he
  rcases bnd_some he with ⟨d, q, n1, e1, e2⟩ | ⟨c, n1, e1, rfl⟩
  · refine ⟨Hs, n, fe, fr, _, be, e1, fun x Hs1 H1 fe1 fv1 g1 v1 => ?_⟩
    have z1 : fv1 = zf := v1.1
    subst z1
    obtain ⟨ga, oa⟩ := v1.ow
    cases hs : truth d with
    | none =>
      rw [hs] at e2
      cases e2
    | some b =>
      rw [hs] at e2
      cases e2
      exact ⟨b, truth_ok g1.ok.ex oa hs, hw _ Hs1 H1 fe1 zf g1 (.of_sh (by simp only [Sh]) w)⟩
  · exact ⟨Hs, n, fe, fr, _, be, e1, hw⟩
theorem vbl {K : PySem.W.Frag} {Hs H : Hp} {fe fv : Fp} {w : Bool} {b : Bool} {v : V} (h : VR K cl Hs H fe w (.bl b) v fv) : v = .bl b := by
  obtain ⟨g, o⟩ := h.ow
  simp only [Ow] at o
  exact o.1
theorem andV_part {W : WX} {a b : IE} {w : Bool} {σ : L2.St} {H : Hp} {Q : VK} {K : PySem.W.Frag} (h : tI K cl xc G W (.band a b) w σ H Q) : tAndV (tI K cl xc G W a false) (tI K cl xc G W b false) σ H Q := by
  obtain ⟨Hs, n, fe, fr, r, be, he, hw⟩ := h
  simp only [ev] at he
  rcases bnd_some he with ⟨d, q, n1, e1, e2⟩ | ⟨c, n1, e1, rfl⟩
  · refine ⟨Hs, n, fe, fr, _, be, e1, fun x Hs1 H1 fe1 fv1 g1 v1 => ?_⟩
    have z1 : fv1 = zf := v1.1
    subst z1
    split at e2
    · refine ⟨true, vbl v1, ?_⟩
      rw [if_pos rfl]
      have g1' := g1.be
      rw [zf_addF] at g1'
      rcases bnd_some e2 with ⟨d2, q2, n2, e3, e4⟩ | ⟨c, n2, e3, rfl⟩
      · refine ⟨Hs1, n1, fe1, fr, _, g1', e3, fun y Hs2 H2 fe2 fv2 g2 v2 => ?_⟩
        have z2 : fv2 = zf := v2.1
        subst z2
        split at e4
        · cases e4
        · rename_i ho
          cases e4
          exact hw y Hs2 H2 fe2 zf (g1.trans (by rw [zf_addF]; exact g2)).zf2 (.of_sh (v2.shared (by simpa using ho)).1 w)
      · refine ⟨Hs1, n1, fe1, fr, _, g1', e3, fun Hs2 H2 fe2 g2 => ?_⟩
        exact hw Hs2 H2 fe2 (g1.transX (by rw [zf_addF]; exact g2))
    · refine ⟨false, vbl v1, ?_⟩
      rw [if_neg Bool.false_ne_true]
      cases e2
      exact hw _ Hs1 H1 fe1 zf g1 (.of_sh (by simp only [Sh]) w)
    · cases e2
  · exact ⟨Hs, n, fe, fr, _, be, e1, hw⟩
theorem orV_part {W : WX} {a b : IE} {w : Bool} {σ : L2.St} {H : Hp} {Q : VK} {K : PySem.W.Frag} (h : tI K cl xc G W (.bor a b) w σ H Q) : tOrV (tI K cl xc G W a false) (tI K cl xc G W b false) σ H Q := by
  obtain ⟨Hs, n, fe, fr, r, be, he, hw⟩ := h
  simp only [ev] at he
  rcases bnd_some he with ⟨d, q, n1, e1, e2⟩ | ⟨c, n1, e1, rfl⟩
  · refine ⟨Hs, n, fe, fr, _, be, e1, fun x Hs1 H1 fe1 fv1 g1 v1 => ?_⟩
    have z1 : fv1 = zf := v1.1
    subst z1
    split at e2
    · refine ⟨true, vbl v1, ?_⟩
      rw [if_pos rfl]
      cases e2
      exact hw _ Hs1 H1 fe1 zf g1 (.of_sh (by simp only [Sh]) w)
    · refine ⟨false, vbl v1, ?_⟩
      rw [if_neg Bool.false_ne_true]
      have g1' := g1.be
      rw [zf_addF] at g1'
      rcases bnd_some e2 with ⟨d2, q2, n2, e3, e4⟩ | ⟨c, n2, e3, rfl⟩
      · refine ⟨Hs1, n1, fe1, fr, _, g1', e3, fun y Hs2 H2 fe2 fv2 g2 v2 => ?_⟩
        have z2 : fv2 = zf := v2.1
        subst z2
        split at e4
        · cases e4
        · rename_i ho
          cases e4
          exact hw y Hs2 H2 fe2 zf (g1.trans (by rw [zf_addF]; exact g2)).zf2 (.of_sh (v2.shared (by simpa using ho)).1 w)
      · refine ⟨Hs1, n1, fe1, fr, _, g1', e3, fun Hs2 H2 fe2 g2 => ?_⟩
        exact hw Hs2 H2 fe2 (g1.transX (by rw [zf_addF]; exact g2))
    · cases e2
  · exact ⟨Hs, n, fe, fr, _, be, e1, hw⟩
theorem good_band {a b : IE} (ha : GoodE cl xc G k a) (hb : GoodE cl xc G k b) : GoodE cl xc G k (.band a b) := by
  intro X M W hx tk e hm w
  unfold mE at hm
  split at hm <;> first | cases hm | skip
  all_goals (rename_i h1; cases h1)
  · simp only [Bool.and_eq_true] at hm
    exact PEi (pe_and (ha X _ W hx tk _ hm.1 false) (pe_one (hb X _ W hx tk _ hm.2 false))) fun σ H Q h => andV_part h
  · simp only [Bool.and_eq_true] at hm
    exact PEi (pe_and (ha X _ W hx tk _ hm.1 false) (hb X _ W hx tk _ hm.2 false)) fun σ H Q h => andV_part h
theorem good_bor {a b : IE} (ha : GoodE cl xc G k a) (hb : GoodE cl xc G k b) : GoodE cl xc G k (.bor a b) := by
  intro X M W hx tk e hm w
  unfold mE at hm
  split at hm <;> first | cases hm | skip
  all_goals (rename_i h1; cases h1)
  · simp only [Bool.and_eq_true] at hm
    exact PEi (pe_or (ha X _ W hx tk _ hm.1 false) (pe_one (hb X _ W hx tk _ hm.2 false))) fun σ H Q h => orV_part h
  · simp only [Bool.and_eq_true] at hm
    exact PEi (pe_or (ha X _ W hx tk _ hm.1 false) (hb X _ W hx tk _ hm.2 false)) fun σ H Q h => orV_part h
/-- behind a first part: the wish of the rest -/
theorem WE1.trans {K : PySem.W.Frag} {W : WX} {σ : L2.St} {Hs H : Hp} {n : Env} {fe fr : Fp} {q q2 : Bool} {n' : Env} {Hs' H' : Hp} {fe' : Fp} {w : Bool} {Q : VK} {d : D} {n2 : Env} (g : Go K cl Hs H n fe fr σ q n' Hs' H' fe' zf) (h : WE1 K cl xc W σ Hs H n fe fr w Q (.ok d (q && q2) n2)) :
    WE1 K cl xc W σ Hs' H' n' fe' fr w Q (.ok d q2 n2) := fun v Hs2 H2 fe2 fv2 g2 v2 => by
  have t := g.trans (by rw [zf_addF]; exact g2)
  rw [zf_addF] at t
  exact h v Hs2 H2 fe2 fv2 t v2
theorem good_ite {c a b : IE} (hc : GoodT cl xc G k c) (ha : GoodE cl xc G k a) (hb : GoodE cl xc G k b) : GoodE cl xc G k (.ite c a b) := by
  intro X M W hx tk e hm w
  unfold mE at hm
  split at hm <;> first | cases hm | skip
  all_goals (rename_i h1; cases h1)
  simp only [Bool.and_eq_true] at hm
  obtain ⟨h1, h2, h3⟩ := hm
  refine PEi (pe_ifExp (hc X _ W hx tk _ h1) (ha X _ W hx tk _ h2 w) (hb X _ W hx tk _ h3 w)) fun σ H Q h => ?_
  obtain ⟨Hs, n, fe, fr, r, be, he, hw⟩ := h
  simp only [ev] at he
  rcases bnd_some he with ⟨t, q, n1, e1, e2⟩ | ⟨c, n1, e1, rfl⟩
  · refine ⟨Hs, n, fe, fr, _, be, e1, fun Hs1 H1 fe1 g1 => ?_⟩
    have g1' := g1.be
    rw [zf_addF] at g1'
    cases t with
    | true =>
      show tI X.K cl xc G W a w σ H1 Q
      rcases bnd_some e2 with ⟨d, q2, n2, e3, e4⟩ | ⟨c, n2, e3, rfl⟩
      · split at e4
        · cases e4
        · cases e4
          exact ⟨Hs1, n1, fe1, fr, _, g1', e3, WE1.trans g1 hw⟩
      · refine ⟨Hs1, n1, fe1, fr, _, g1', e3, fun Hs2 H2 fe2 g2 => ?_⟩
        exact hw Hs2 H2 fe2 (g1.transX (by rw [zf_addF]; exact g2))
    | false =>
      show tI X.K cl xc G W b w σ H1 Q
      rcases bnd_some e2 with ⟨d, q2, n2, e3, e4⟩ | ⟨c, n2, e3, rfl⟩
      · split at e4
        · cases e4
        · cases e4
          exact ⟨Hs1, n1, fe1, fr, _, g1', e3, WE1.trans g1 hw⟩
      · refine ⟨Hs1, n1, fe1, fr, _, g1', e3, fun Hs2 H2 fe2 g2 => ?_⟩
        exact hw Hs2 H2 fe2 (g1.transX (by rw [zf_addF]; exact g2))
  · exact ⟨Hs, n, fe, fr, _, be, e1, hw⟩
end
end Il
set_option Elab.async false
set_option linter.all false
set_option maxRecDepth 100000
set_option maxHeartbeats 1000000
/-! Il's expressions over the hand layer: items, slices. -/
namespace Il
open PySem L2 PySem.Spec PyProof.Rows
section
variable {X : Cx} {M : Mc} {cl : Nat → Addr} {xc : Nat → Value} {G : Gam} {k : Nat}
theorem atI_eq {α : Type} (xs : List α) (i : Int) : Il.atI xs i = L2.atI xs i := rfl
theorem atI_some {α : Type} {xs : List α} {i : Int} {d : α} (h : Il.atI xs i = some d) : ∃ j, Il.ixN xs.length i = some j ∧ xs[j]? = some d := by
  unfold Il.atI at h
  cases z : Il.ixN xs.length i with
  | none =>
    rw [z] at h
    cases h
  | some j =>
    rw [z] at h
    exact ⟨j, rfl, h⟩
theorem atI_get {K : PySem.W.Frag} {Hs H : Hp} {xs : List D} {vs : List V} {f : Fp} {i : Int} {d : D} (o : OwL K cl Hs H xs vs f) (h : Il.atI xs i = some d) : ∃ v g, L2.atI vs i = some v ∧ Ow K cl Hs H d v g ∧ ∀ b, g b ≤ f b := by
  obtain ⟨j, h1, h2⟩ := atI_some h
  obtain ⟨v, g, k1, k2, k3⟩ := o.get h2
  refine ⟨v, g, ?_, k2, k3⟩
  unfold L2.atI
  rw [o.length]
  show (Il.ixN xs.length i).bind _ = _
  rw [h1]
  exact k1
theorem atI_map {α β : Type} (f : α → β) (xs : List α) (i : Int) : L2.atI (xs.map f) i = (Il.atI xs i).map f := by
  unfold L2.atI Il.atI
  rw [List.length_map]
  show (Il.ixN xs.length i).bind _ = _
  cases Il.ixN xs.length i with
  | none => rfl
  | some j => simp
/-- items of a sequence -/
theorem ix_seq_ok {K : PySem.W.Frag} {Hs H : Hp} {da db d : D} {x y : V} {fa fb : Fp} {Q : VK} (e : Same Hs H) (ha : Ow K cl Hs H da x fa) (hb : Ow K cl Hs H db y fb) (h : ixD da db = some d) (nd : ∀ kd o ks ds, da ≠ .dct kd o ks ds)
    (q : ∀ v g, Ow K cl Hs H d v g → (∀ b, g b ≤ fa b) → Q v H) : rIx K x y H Q := by
  cases da with
  | dct kd o ks ds => exact absurd rfl (nd kd o ks ds)
  | str s =>
    cases db <;> simp only [ixD] at h <;> first | (cases h; done) | skip
    rename_i i
    split at h
    · rename_i hl
      cases z : Il.atI s i with
      | none =>
        rw [z] at h
        cases h
      | some c =>
        rw [z] at h
        cases h
        simp only [Ow] at ha hb
        refine .inr (.inr ⟨_, i, c, ha.1, hb.1, ?_, ?_, q _ zf (by simp only [Ow]; exact ⟨trivial, trivial⟩) fun b => by simp [zf]⟩)
        · rw [line_eq]
          simpa [Str.length] using hl
        · exact z
    · cases h
  | lst o xs =>
    cases db <;> simp only [ixD] at h <;> first | (cases h; done) | skip
    rename_i i
    obtain ⟨a, vs, g, rfl, h2, h3, h4⟩ := ha.lst e
    simp only [Ow] at hb
    obtain ⟨v, g', k1, k2, k3⟩ := atI_get h3 h
    exact .inl ⟨a, vs, i, v, rfl, hb.1, .of h2, k1, q v g' k2 fun b => Nat.le_trans (k3 b) (h4 b)⟩
  | tup o xs =>
    cases db <;> simp only [ixD] at h <;> first | (cases h; done) | skip
    rename_i i
    obtain ⟨a, vs, g, rfl, h2, h3, h4⟩ := ha.tup e
    simp only [Ow] at hb
    obtain ⟨v, g', k1, k2, k3⟩ := atI_get h3 h
    exact .inr (.inl ⟨a, vs, i, v, rfl, hb.1, .of h2, k1, q v g' k2 fun b => Nat.le_trans (k3 b) (h4 b)⟩)
  | scr ns =>
    cases db <;> simp only [ixD] at h <;> first | (cases h; done) | skip
    rename_i i
    cases z : Il.atI ns i with
    | none =>
      rw [z] at h
      cases h
    | some c =>
      rw [z] at h
      cases h
      simp only [Ow, Sh] at ha hb
      obtain ⟨⟨a, rfl, h2⟩, _⟩ := ha
      exact .inl ⟨a, _, i, .int c, rfl, hb.1, e.seq h2, by rw [atI_map, z]; rfl, q _ zf (by simp only [Ow]; exact ⟨trivial, trivial⟩) fun b => by simp [zf]⟩
  | non => cases db <;> simp [ixD] at h
  | bl _ => cases db <;> simp [ixD] at h
  | int _ => cases db <;> simp [ixD] at h
  | ins _ _ => cases db <;> simp [ixD] at h
theorem good_ix {a b : IE} (ha : GoodE cl xc G k a) (hb : GoodE cl xc G k b) : GoodE cl xc G k (.ix a b) := by
  intro X M W hx tk e hm w
  unfold mE at hm
  split at hm <;> first | cases hm | skip
  all_goals (rename_i h1; cases h1)
  simp only [Bool.and_eq_true] at hm
  obtain ⟨h1, h2, h3⟩ := hm
  have pseq := fun p => pe_ix (pos := p) ix_seq (ha X _ W hx tk _ h2 false) (hb X _ W hx tk _ h3 false) (slice_ok h1)
  refine PEc fun σ H Q h => ?_
  obtain ⟨Hs, n, fe, fr, r, be, he, hw⟩ := h
  simp only [ev] at he
  rcases bnd_some he with ⟨da, q, n1, e1, e2⟩ | ⟨c, n1, e1, rfl⟩
  · -- the two operands, then R
    have part : ∀ (P : V → V → Hp → Prop), (∀ (x y : V) (Hs2 H2 : Hp) (db d : D) (q' : Bool) (n2 : Env) (fe2 fa fb : Fp), Ow X.K cl Hs2 H2 da x fa → (∀ b, fa b ≤ fe2 b) → Ow X.K cl Hs2 H2 db y fb → ixD da db = some d → Go X.K cl Hs H n fe fr σ q' n2 Hs2 H2 fe2 zf → (∀ v g, Ow X.K cl Hs2 H2 d v g → (∀ b, g b ≤ fa b) → Q v H2) → P x y H2) →
        tI X.K cl xc G W a false σ H fun x H1 => tI X.K cl xc G W b false σ H1 fun y H2 => P x y H2 := by
      intro P hP
      refine ⟨Hs, n, fe, fr, _, be, e1, fun x Hs1 H1 fe1 fv1 g1 v1 => ?_⟩
      have z1 : fv1 = zf := v1.1
      subst z1
      have g1' := g1.be
      rw [zf_addF] at g1'
      rcases bnd_some e2 with ⟨db, q2, n2, e3, e4⟩ | ⟨c, n2, e3, rfl⟩
      · refine ⟨Hs1, n1, fe1, fr, _, g1', e3, fun y Hs2 H2 fe2 fv2 g2 v2 => ?_⟩
        have z2 : fv2 = zf := v2.1
        subst z2
        split at e4
        · cases e4
        · rename_i ho
          simp only [Bool.or_eq_true, not_or, Bool.not_eq_true] at ho
          obtain ⟨_, ga, oa, la⟩ := v1.keep g2 ho.1
          obtain ⟨gb, ob⟩ := v2.ow
          have gt := (g1.trans (by rw [zf_addF]; exact g2)).zf2
          cases hs : ixD da db with
          | none =>
            rw [hs] at e4
            cases e4
          | some d =>
            rw [hs] at e4
            dsimp only at e4
            split at e4
            · cases e4
            · rename_i hwo
              cases e4
              refine hP x y Hs2 H2 db d _ n2 fe2 ga gb oa la ob hs gt fun v g og lg => hw v Hs2 H2 fe2 zf gt ?_
              cases w with
              | false => exact ⟨rfl, g, og, fun b => Nat.le_trans (lg b) (la b)⟩
              | true => exact (og.sh (by simpa using hwo)).1.ow
      · refine ⟨Hs1, n1, fe1, fr, _, g1', e3, fun Hs2 H2 fe2 g2 => ?_⟩
        exact hw Hs2 H2 fe2 (g1.transX (by rw [zf_addF]; exact g2))
    by_cases nd : ∃ kd o ks ds, da = .dct kd o ks ds
    · obtain ⟨kd, o, ks, ds, rfl⟩ := nd
      refine ⟨_, pe_dget (by have := hx.units; omega) (ha X _ W hx tk _ h2 false) (hb X _ W hx tk _ h3 false) (slice_ok h1), part _ fun x y Hs2 H2 db d q' n2 fe2 fa fb oa la ob hs gt kk => ?_⟩
      simp only [ixD] at hs
      have hs' : ∃ q, key db = some q ∧ kyOk kd q = true ∧ look ks ds q = some d := by
        split at hs
        · rename_i q hq
          split at hs
          · rename_i hok
            exact ⟨q, hq, hok, hs⟩
          · cases hs
        · cases hs
      obtain ⟨q, k1, k2, k3⟩ := hs'
      obtain ⟨ad, r, rfl, d1, d2, d3⟩ := dget_ok gt.ok.ex oa ob k1 k2
      rw [k3] at d3
      obtain ⟨v, f', rfl, d4, d5⟩ := d3
      exact ⟨ad, v, rfl, d1, kk v f' d4 d5⟩
    · refine ⟨_, pseq _, part _ fun x y Hs2 H2 db d q' n2 fe2 fa fb oa la ob hs gt kk => ?_⟩
      exact ix_seq_ok gt.ok.ex oa ob hs (fun kd o ks ds e => nd ⟨kd, o, ks, ds, e⟩) kk
  · exact ⟨_, pseq _, Hs, n, fe, fr, _, be, e1, hw⟩

/-! ### slices -/
def tOi (K : PySem.W.Frag) (cl : Nat → Addr) (xc : Nat → Value) (G : Gam) (W : WX) (a : IE) : TO := fun σ H Q => ∃ Hs n fe fr r, Be K cl Hs H n fe fr σ ∧ optR a.isNop (ev G a false n) n = some r ∧ match r with
  | .ok o q n' => ∀ Hs' H' fe', Go K cl Hs H n fe fr σ q n' Hs' H' fe' zf → Q o H'
  | .ex c n' => WX1 K cl xc W σ Hs H n fe fr c n'
theorem po_ok {a : IE} (ha : GoodE cl xc G k a) {W : WX} (hx : XOk X M cl xc G k) (tk : Takes X W) {o : Option Expr} (hm : (match o with | some e => !a.isNop && mE a M e | none => a.isNop) = true) : PO X o (tOi X.K cl xc G W a) := by
  cases o with
  | none =>
    dsimp only at hm
    refine ⟨fun pins s σ H Q I h => po_none.run pins s σ H Q I ?_⟩
    obtain ⟨Hs, n, fe, fr, r, be, he, hw⟩ := h
    rw [hm] at he
    simp only [optR, if_true] at he
    cases he
    exact hw Hs H fe be.go
  | some e =>
    simp only [Bool.and_eq_true, Bool.not_eq_true'] at hm
    refine ⟨fun pins s σ H Q I h => (po_some (ha X _ W hx tk e hm.2 false)).run pins s σ H Q I ?_⟩
    obtain ⟨Hs, n, fe, fr, r, be, he, hw⟩ := h
    rw [hm.1] at he
    simp only [optR, Bool.false_eq_true, if_false] at he
    rcases bnd_some he with ⟨d, q, n1, e1, e2⟩ | ⟨c, n1, e1, rfl⟩
    · refine ⟨Hs, n, fe, fr, _, be, e1, fun x Hs1 H1 fe1 fv1 g1 v1 => ?_⟩
      have z1 : fv1 = zf := v1.1
      subst z1
      split at e2
      · cases e2
        obtain ⟨g, o⟩ := v1.ow
        simp only [Ow] at o
        exact ⟨_, o.1, hw Hs1 H1 fe1 g1⟩
      · cases e2
    · exact ⟨Hs, n, fe, fr, _, be, e1, hw⟩
theorem slcD_new {a d : D} {lo hi : Option Int} (h : slcD a lo hi = some d) : d.own = true → (∃ xs, d = .lst true xs) ∨ ∃ xs, d = .tup true xs := by
  intro ho
  cases a <;> simp only [slcD] at h <;> first | (cases h; done) | skip
  · split at h
    · cases h
      simp [D.own] at ho
    · cases h
  · split at h
    · cases h
      exact .inl ⟨_, rfl⟩
    · cases h
theorem slc_ok {K : PySem.W.Frag} {Hs H : Hp} {da d : D} {x : V} {fa : Fp} {lo hi : Option Int} {Q : VK} (e : Same Hs H) (ha : Ow K cl Hs H da x fa) (h : slcD da lo hi = some d) (q : NewQ K Hs H d Q) : rSlL K x lo hi H Q ∨ rSlS x lo hi H Q := by
  cases da <;> simp only [slcD] at h <;> first | (cases h; done) | skip
  · rename_i s
    split at h
    · rename_i hl
      cases h
      simp only [Ow] at ha
      refine .inr ⟨_, ha.1, by rw [line_eq]; simpa [Str.length] using hl, ?_⟩
      have e2 : L2.cutS ⟨s.toArray⟩ lo hi = ⟨(cutL s lo hi).toArray⟩ := by
        unfold L2.cutS cutL
        simp [Str.length]
        rfl
      rw [e2]
      exact q.str
    · cases h
  · rename_i o xs
    split at h
    · rename_i hn
      cases h
      obtain ⟨a, vs, g, rfl, h2, h3, _⟩ := ha.lst e
      obtain ⟨sh, _⟩ := OwL.shl hn h3
      refine .inl ⟨a, vs, rfl, .of h2, fun p hp => q p _ hp ?_⟩
      unfold L2.cutV cutL
      rw [sh.length]
      exact (sh.drop _).take _
    · cases h
theorem good_slc {a lo hi : IE} (ha : GoodE cl xc G k a) (hl : GoodE cl xc G k lo) (hh : GoodE cl xc G k hi) : GoodE cl xc G k (.slc a lo hi) := by
  intro X M W hx tk e hm w
  unfold mE at hm
  split at hm <;> first | cases hm | skip
  all_goals (rename_i h1; cases h1)
  simp only [Bool.and_eq_true] at hm
  obtain ⟨h1, h2, h3⟩ := hm
  refine PEi (pe_slice (SlR.or sl_list sl_str) (ha X _ W hx tk _ h1 false) (po_ok hl hx tk h2) (po_ok hh hx tk h3)) fun σ H Q h => ?_
  obtain ⟨Hs, n, fe, fr, r, be, he, hw⟩ := h
  simp only [ev] at he
  rcases bnd_some he with ⟨da, q, n1, e1, e2⟩ | ⟨c, n1, e1, rfl⟩
  · refine ⟨Hs, n, fe, fr, _, be, e1, fun x Hs1 H1 fe1 fv1 g1 v1 => ?_⟩
    have z1 : fv1 = zf := v1.1
    subst z1
    have g1' := g1.be
    rw [zf_addF] at g1'
    rcases bnd_some e2 with ⟨l, q2, n2, e3, e4⟩ | ⟨c, n2, e3, rfl⟩
    · refine ⟨Hs1, n1, fe1, fr, _, g1', e3, fun Hs2 H2 fe2 g2 => ?_⟩
      have gt := (g1.trans (by rw [zf_addF]; exact g2)).zf2
      have g2' := gt.be
      rw [zf_addF] at g2'
      rcases bnd_some e4 with ⟨h, q3, n3, e5, e6⟩ | ⟨c, n3, e5, rfl⟩
      · refine ⟨Hs2, n2, fe2, fr, _, g2', e5, fun Hs3 H3 fe3 g3 => ?_⟩
        have g23 := (g2.trans (by rw [zf_addF]; exact g3)).zf2
        have gt3 := (g1.trans (by rw [zf_addF]; exact g23)).zf2
        split at e6
        · cases e6
        · rename_i ho
          obtain ⟨_, ga, oa, la⟩ := v1.keep g23 (by simpa using ho)
          cases hs : slcD da l h with
          | none =>
            rw [hs] at e6
            cases e6
          | some d =>
            rw [hs] at e6
            exact slc_ok g3.ok.ex oa hs (new_end e6 (slcD_new hs) gt3 hw)
      · refine ⟨Hs2, n2, fe2, fr, _, g2', e5, fun Hs3 H3 fe3 g3 => ?_⟩
        exact hw Hs3 H3 fe3 (gt.transX (by rw [zf_addF]; exact g3))
    · refine ⟨Hs1, n1, fe1, fr, _, g1', e3, fun Hs2 H2 fe2 g2 => ?_⟩
      exact hw Hs2 H2 fe2 (g1.transX (by rw [zf_addF]; exact g2))
  · exact ⟨Hs, n, fe, fr, _, be, e1, hw⟩
end
end Il
set_option Elab.async false
set_option linter.all false
set_option maxRecDepth 100000
set_option maxHeartbeats 1000000
/-! Il's expressions over the hand layer: what is lent as a whole. -/
namespace Il
open PySem L2 PySem.Spec PyProof.Rows
section
variable {K : PySem.W.Frag} {cl : Nat → Addr} {Hs Hs' H : Hp}
mutual
/-- what has nothing shared within does not ask for the shared part -/
theorem Ow.closed : ∀ (d : D) (v : V) (f : Fp), d.closed = true → Ow K cl Hs H d v f → Ow K cl Hs' H d v f
  | .non, _, _, _, h => by simpa only [Ow] using h
  | .bl _, _, _, _, h => by simpa only [Ow] using h
  | .int _, _, _, _, h => by simpa only [Ow] using h
  | .str _, _, _, _, h => by simpa only [Ow] using h
  | .lst true xs, _, f, c, h => by
    simp only [Ow] at h ⊢
    obtain ⟨a, vs, g, h1, h2, h3, h4⟩ := h
    simp only [D.closed, Bool.true_and] at c
    exact ⟨a, vs, g, h1, h2, OwL.closed xs vs g c h3, h4⟩
  | .lst false xs, _, _, c, h => by simp [D.closed] at c
  | .tup true xs, _, f, c, h => by
    simp only [Ow] at h ⊢
    obtain ⟨a, vs, g, h1, h2, h3, h4⟩ := h
    simp only [D.closed, Bool.true_and] at c
    exact ⟨a, vs, g, h1, h2, OwL.closed xs vs g c h3, h4⟩
  | .tup false xs, _, _, c, h => by simp [D.closed] at c
  | .dct kd true ks ds, _, f, c, h => by
    simp only [Ow] at h ⊢
    obtain ⟨a, vs, g, h1, h2, h5, h3, h4⟩ := h
    simp only [D.closed, Bool.true_and] at c
    exact ⟨a, vs, g, h1, h2, h5, OwL.closed ds vs g c h3, h4⟩
  | .dct kd false ks ds, _, _, c, h => by simp [D.closed] at c
  | .ins _ _, _, _, c, _ => by simp [D.closed] at c
  | .scr _, _, _, c, _ => by simp [D.closed] at c
theorem OwL.closed : ∀ (ds : List D) (vs : List V) (f : Fp), closedL ds = true → OwL K cl Hs H ds vs f → OwL K cl Hs' H ds vs f
  | [], _, _, _, h => by simpa only [OwL] using h
  | d :: ds, _, f, c, h => by
    simp only [OwL] at h ⊢
    simp only [closedL, Bool.and_eq_true] at c
    obtain ⟨v, r, g, q, h1, h2, h3, h4⟩ := h
    exact ⟨v, r, g, q, h1, Ow.closed d v g c.1 h2, OwL.closed ds r q c.2 h3, h4⟩
end
/-- all slots given over -/
theorem EnvOw.erase {g : Fp} (e : Same Hs (Il.give Hs H g)) : ∀ (n : Env) (σ : L2.St) (f : Fp), (∀ a, f a ≤ g a) → pureEnv n = true → EnvOw K cl Hs H n σ f → EnvOw K cl (Il.give Hs H g) H (eraseEnv n) σ zf
  | [], _, _, _, _, h => by
    simp only [EnvOw] at h
    simp only [eraseEnv, List.map_nil, EnvOw]
    exact ⟨h.1, trivial⟩
  | none :: n, _, f, k, p, h => by
    simp only [EnvOw] at h
    obtain ⟨x, r, h1, h2⟩ := h
    simp only [pureEnv, List.all_cons, Bool.true_and] at p
    simp only [eraseEnv, List.map_cons, EnvOw]
    exact ⟨x, r, h1, EnvOw.erase e n r f k p h2⟩
  | some d :: n, _, f, k, p, h => by
    simp only [EnvOw] at h
    obtain ⟨v, r, g', q, h1, h2, h3, h4⟩ := h
    simp only [pureEnv, List.all_cons, Bool.and_eq_true] at p
    simp only [eraseEnv, List.map_cons, EnvOw]
    have ih := EnvOw.erase e n r q (fun a => Nat.le_trans (by rw [h4]; simp only [addF]; omega) (k a)) p.2 h3
    exact ⟨v, r, zf, zf, h1, (Ow.give e d v g' (fun a => Nat.le_trans (by rw [h4]; simp only [addF]; omega) (k a)) p.1 h2).ow, ih, (addF_zf zf).symm⟩
end
section
variable {X : Cx} {M : Mc} {cl : Nat → Addr} {xc : Nat → Value} {G : Gam} {k : Nat}
/-- the start of a part that all slots are lent to -/
theorem Be.lend {K : PySem.W.Frag} {Hs H : Hp} {n : Env} {fe fr : Fp} {σ : L2.St} (b : Be K cl Hs H n fe fr σ) (p : pureEnv n = true) : Be K cl (Il.give Hs H fe) H (eraseEnv n) zf fr σ := by
  have sm : Same Hs (Il.give Hs H fe) := give_same b.ok fun a => by simp only [addF]; omega
  exact ⟨EnvOw.erase sm n σ fe (fun _ => Nat.le_refl _) p b.env, (OkF.give b.ok).congr fun a => by simp only [addF, zf]; omega⟩
/-- behind it: the slots are as they were -/
theorem Go.back {K : PySem.W.Frag} {Hs H : Hp} {n : Env} {fe fr : Fp} {σ : L2.St} {q : Bool} {n' : Env} {Hs' H' : Hp} {fe' fv : Fp} (b : Be K cl Hs H n fe fr σ) (g : Go K cl (Il.give Hs H fe) H (eraseEnv n) zf fr σ q n' Hs' H' fe' fv) :
    Go K cl Hs H n fe fr σ true n Hs H' fe fv := by
  have sm : Same Hs (Il.give Hs H fe) := give_same b.ok fun a => by simp only [addF]; omega
  have at1 : ∀ a, 1 ≤ fe a → ∃ u, H a = some u ∧ Hs' a = some u ∧ H' a = some u := fun a ha => by
    have := (b.ok.own a (by simp only [addF]; omega)).2
    cases z : H a with
    | none => exact absurd z this
    | some u =>
      have e1 : Il.give Hs H fe a = some u := by
        unfold Il.give
        rw [if_pos ha]
        exact z
      exact ⟨u, rfl, g.same _ _ e1, g.ok.ex _ _ (g.same _ _ e1)⟩
  have st : ∀ a, 1 ≤ fe a → H' a = H a := fun a ha => by
    obtain ⟨u, h1, _, h3⟩ := at1 a ha
    rw [h1, h3]
  refine ⟨Same.refl _, b.env.frame (Same.refl _) _ _ _ st, ⟨(sm.trans g.same).trans g.ok.ex, fun a => ?_, fun a ha => ?_⟩, g.frm, fun _ => ⟨rfl, rfl, st⟩⟩
  · by_cases h1 : 1 ≤ fe a
    · obtain ⟨u, _, h2, _⟩ := at1 a h1
      have z1 : fv a = 0 := by
        rcases Nat.eq_zero_or_pos (fv a) with e | e
        · exact e
        · have := (g.ok.own a (by simp only [addF]; omega)).1
          rw [h2] at this
          cases this
      have := b.ok.le a
      simp only [addF] at this ⊢
      omega
    · have := g.ok.le a
      simp only [addF] at this ⊢
      omega
  · by_cases h1 : 1 ≤ fe a
    · obtain ⟨u, h0, h2, h3⟩ := at1 a h1
      exact ⟨(b.ok.own a (by simp only [addF]; omega)).1, by rw [h3]; simp⟩
    · simp only [addF] at ha
      obtain ⟨q1, q2⟩ := g.ok.own a (by simp only [addF]; omega)
      refine ⟨?_, q2⟩
      cases z : Hs a with
      | none => rfl
      | some u =>
        rw [(sm.trans g.same) a u z] at q1
        cases q1
theorem good_brw {a : IE} (ha : GoodE cl xc G k a) : GoodE cl xc G k (.brw a) := by
  intro X M W hx tk e hm w
  simp only [mE, Bool.and_eq_true] at hm
  refine PEi (ha X M W hx tk e hm.2 true) fun σ H Q h => ?_
  obtain ⟨Hs, n, fe, fr, r, be, he, hw⟩ := h
  simp only [ev] at he
  split at he
  · rename_i hp
    split at he
    · rename_i d q n' e1
      split at he
      · rename_i hc
        refine ⟨_, _, _, _, _, be.lend hp, e1, fun v Hs' H' fe' fv g vr => ?_⟩
        exact fin_end he (Go.back be g) (Ow.closed d v fv hc vr) hw
      · cases he
    · rename_i c n' e1
      cases he
      refine ⟨_, _, _, _, _, be.lend hp, e1, fun Hs' H' fe' g => ?_⟩
      exact hw Hs H' fe (Go.back be g).loud
    · cases he
  · cases he
theorem good_sh {a : IE} (ha : GoodE cl xc G k a) : GoodE cl xc G k (.sh a) := by
  intro X M W hx tk e hm w
  simp only [mE, Bool.and_eq_true] at hm
  refine PEi (ha X M W hx tk e hm.2.2 false) fun σ H Q h => ?_
  obtain ⟨Hs, n, fe, fr, r, be, he, hw⟩ := h
  simp only [ev] at he
  rcases bnd_some he with ⟨d, q, n1, e1, e2⟩ | ⟨c, n1, e1, rfl⟩
  · refine ⟨Hs, n, fe, fr, _, be, e1, fun v Hs1 H1 fe1 fv1 g1 v1 => ?_⟩
    split at e2
    · cases e2
    · rename_i od
      cases e2
      obtain ⟨sv, zz⟩ := v1.shared (by simpa using od)
      subst zz
      exact hw v Hs1 H1 fe1 zf g1 (.of_sh sv w)
  · exact ⟨Hs, n, fe, fr, _, be, e1, hw⟩
theorem brwT_part {a : IE} {W : WX} {σ : L2.St} {H : Hp} {Q : Bool → Hp → Prop} {K : PySem.W.Frag} (h : tTs K cl xc G W (.brw a) σ H Q) : tTs K cl xc G W a σ H Q := by
  obtain ⟨Hs, n, fe, fr, r, be, he, hw⟩ := h
  simp only [evt] at he
  split at he
  · rename_i hp
    split at he
    · rename_i b q n' e1
      cases he
      refine ⟨_, _, _, _, _, be.lend hp, e1, fun Hs' H' fe' g => ?_⟩
      exact hw Hs H' fe (Go.back be g)
    · rename_i c n' e1
      cases he
      refine ⟨_, _, _, _, _, be.lend hp, e1, fun Hs' H' fe' g => ?_⟩
      exact hw Hs H' fe (Go.back be g).loud
    · cases he
  · cases he
theorem goodT_brw {a : IE} (ha : GoodT cl xc G k a) : GoodT cl xc G k (.brw a) := by
  intro X M W hx tk e hm
  simp only [mE, Bool.and_eq_true] at hm
  exact PTi (ha X M W hx tk e hm.2) fun σ H Q h => brwT_part h
theorem goodW_brw {a : IE} (ha : GoodW cl xc G k a) : GoodW cl xc G k (.brw a) := by
  intro X M W hx tk e hm hb
  simp only [mE, Bool.and_eq_true] at hm
  exact PWi (ha X M W hx tk e hm.2 hb) fun σ H Q h => brwT_part h
end
end Il
set_option Elab.async false
set_option linter.all false
set_option maxRecDepth 100000
set_option maxHeartbeats 4000000
/-! Il: the set of a text's signs, and how many they are. -/
namespace Il
open PySem L2 PySem.Spec PyProof.Rows
theorem dup_snoc (l : List Str) (x : Str) : (l ++ [x]).eraseDups.length = if decide (x ∈ l) = true then l.eraseDups.length else l.eraseDups.length + 1 := by
  rw [List.eraseDups_append, List.length_append]
  by_cases h : x ∈ l
  · rw [if_pos (by simpa using h)]
    have : ([x] : List Str).removeAll l = [] := by simp [List.removeAll, h]
    rw [this]
    rfl
  · rw [if_neg (by simpa using h)]
    have : ([x] : List Str).removeAll l = [x] := by simp [List.removeAll, h]
    rw [this]
    rfl
theorem dup_le (l : List Str) : l.eraseDups.length ≤ l.length := by
  have key : ∀ r : List Str, r.reverse.eraseDups.length ≤ r.length := by
    intro r
    induction r with
    | nil => simp
    | cons x r ih =>
      rw [List.reverse_cons, dup_snoc, List.length_cons]
      split <;> omega
  have := key l.reverse
  rwa [List.reverse_reverse, List.length_reverse] at this
section
variable {P : Program} {w : World} {A : Around} {R : Result → Shared → Prop} {it S : Addr} {fp wr : List Addr} {Gn : Array GenState → Array GenState → Prop} {n : Nat} {Pv : Nat → Value → Prop} {St : Nat → Shared → Prop}
/-- the signs put in, one by one -/
theorem set_signs (W : WalksS P w A.in1 it fp wr Gn n Pv St) (far : S ∉ fp) (xs : List Str) (hn : xs.length = n) (room : n + 1 < scanBound) (val : ∀ i v, Pv i v → ∃ x t, xs[i]? = some x ∧ v = .str x t) :
    ∀ (m i : Nat) (s : Shared), n - i = m → i ≤ n → St i s → s.heap.SetOf (strKind P w) S (fun j => decide (j ∈ xs.take i)) (xs.take i).eraseDups.length →
      (∀ s2, Moved (S :: wr) Gn s s2 → s2.heap.SetOf (strKind P w) S (fun j => decide (j ∈ xs)) xs.eraseDups.length → R (.ok (.ret .none)) s2) →
      codeAny (model P w) A (.builtin "set.update.loop" ⟨[.ref S, .ref it], []⟩) R s := by
  have farw : S ∉ wr := fun z => far (W.sub _ z)
  have wider : ∀ b ∈ wr, b ∈ S :: wr := fun b z => List.mem_cons_of_mem _ z
  have keep : ∀ {s s2 : Shared} {T : Str → Bool} {c : Nat}, Moved wr Gn s s2 → s.heap.SetOf (strKind P w) S T c → s2.heap.SetOf (strKind P w) S T c := by
    intro s s2 T c mv z
    obtain ⟨o, es, ep, tb, e0, more⟩ := z
    exact ⟨o, es, ep, tb, mv.heap S _ farw e0, more⟩
  intro m
  induction m with
  | zero =>
    intro i s e0 le st hS fin
    obtain rfl : i = n := by omega
    refine codeAny_builtin F.entry_set_update_loop ?_
    rw [Around.under_plainId F.plain_set_update_loop _]
    show wpAny _ A.in1 (pyNext (.ref it) >>= _) _ _ s
    refine wpAny_bind (W.done s _ _ st fun s2 mv => ?_)
    show wpAny _ A.in1 (ret Value.none) _ _ s2
    have hS2 := keep mv hS
    rw [← hn, List.take_length] at hS2
    exact wpAny_pure (fin s2 (mv.mono wider) hS2)
  | succ m ih =>
    intro i s e0 le st hS fin
    have lt : i < n := by omega
    refine codeAny_builtin F.entry_set_update_loop ?_
    rw [Around.under_plainId F.plain_set_update_loop _]
    show wpAny _ A.in1 (pyNext (.ref it) >>= _) _ _ s
    refine wpAny_bind (W.item i s _ _ lt st fun v s2 pv st2 mv => ?_)
    obtain ⟨x, t, hx, rfl⟩ := val i v pv
    have hS2 := keep mv hS
    have small : (xs.take i).eraseDups.length + 1 < scanBound := by
      have h1 := dup_le (xs.take i)
      have h2 : (xs.take i).length ≤ i := by
        rw [List.length_take]
        omega
      omega
    show wpAny _ A.in1 (holding [Value.str x t] (setAdd S (.str x t)) >>= _) _ _ s2
    refine wpAny_bind (wpAny_holding ?_)
    unfold setAdd
    refine wpAny_holding (wpAny_bind ((strKind P w).pyHash (k := x) (strKind_is _ _ _ _) ?_))
    refine wpAny_setAddHashed_of (knd := strKind P w) (s := { s2 with toks := s2.toks + 1 }) (strKind_is _ _ _ _) rfl hS2 small fun h2 but hS3 => ?_
    have tk : xs.take (i + 1) = xs.take i ++ [x] := by rw [List.take_add_one, hx]; rfl
    have hS4 : h2.SetOf (strKind P w) S (fun j => decide (j ∈ xs.take (i + 1))) (xs.take (i + 1)).eraseDups.length :=
      SetOf_congr hS3 (fun j => by rw [tk]; simp [List.mem_append]) (by rw [tk, dup_snoc])
    refine wpAny_pure ⟨plainId_quiet F.plain_set_update_loop _, ih (i + 1) _ (by omega) lt (W.frame _ s2 _ _ st2 (Nat.le_succ _) fun b z o e => ?_) hS4 fun s3 mv3 hS5 => fin s3 ?_ hS5⟩
    · rw [but.2 b fun q : b = S => far (q ▸ z)]
      exact e
    · refine Moved.trans W.gtrans ((mv.mono wider).then_heap (Nat.le_succ _) fun b o z e => ?_) mv3
      rw [but.2 b fun q : b = S => z (by rw [q]; exact List.mem_cons_self)]
      exact e
end
section
variable {P : Program} {w : World} {A : Around} {E : Value → Shared → Prop} {s : Shared}
def freshSet (led : Bool) : Obj := { cls := .type "set", dict := none, data := .set #[] 0 (.fresh 0 0 led) }
/-- the signs of a text -/
def signsOf (x : Str) : List Str := x.cps.toList.map fun c => ⟨#[c]⟩
theorem sub_str_set : isSubtype (.type "str") (.type "set") = pure false := by rw [isSubtype_type]; kernel_rfl
theorem sub_str_frozen : isSubtype (.type "str") (.type "frozenset") = pure false := by rw [isSubtype_type]; kernel_rfl
theorem sign_at {x : Str} {i : Nat} {v : Value} (h : SignAt x i v) : ∃ y t, (signsOf x)[i]? = some y ∧ v = .str y t := by
  obtain ⟨c, u, h1, rfl⟩ := h
  refine ⟨_, u, ?_, rfl⟩
  unfold signsOf
  rw [List.getElem?_map, Array.getElem?_toList, h1]
  rfl
/-- set(x), x a text -/
theorem call_set_text {x : Str} {t : Tok} {Q : Value → Shared → Prop} (calm : A.handled = none) (room : x.cps.size + 1 < scanBound)
    (q : ∀ (h2 : Heap) (tk : Nat), h2.SetOf (strKind P w) s.heap.objs.size (fun j => decide (j ∈ signsOf x)) (signsOf x).eraseDups.length → (∀ b o, b < s.heap.objs.size → s.heap.get? b = some o → h2.get? b = some o) → Q (.ref s.heap.objs.size) { s with heap := h2, toks := tk }) :
    wpAny (model P w) A (call (.type "set") [.str x t]) Q E s := by
  obtain ⟨c, tl, hmro⟩ := F.called_set.mro
  have hmade := F.called_set.made
  have hsub := F.called_set.sub
  refine wpAny_call (codeAny_of_tree ?_)
  show wpAny _ _ (callAny (.type "set") _) _ _ _
  refine wpAny_pure ⟨Code.quiet_builtin _ (by decide +kernel), codeAny_builtin F.entry_type_call ?_⟩
  rw [Around.under_plain (weight_type_call_type "set" [.str x t] []) rfl]
  have h1 := F.called_set.notType
  have h2 := F.called_set.canCreate
  have hct := F.typeCall_set_1 (.str x t)
  repeat (any_goals (first | assumption | wp_step))
  refine codeAny_mono (code_set_new_1 (.str x t) (E := E) (Q₁ := fun o s1 => ∃ led : Bool, o = .ref s.heap.objs.size ∧ s1 = { s with heap := s.heap.push (freshSet led) }) fun led => ⟨led, rfl, rfl⟩) fun r s1 hr => ?_
  cases r with
  | error e => exact hr
  | ok fl =>
    cases fl with
    | ret o =>
      obtain ⟨led, rfl, rfl⟩ := hr
      generalize hH : s.heap.push (freshSet led) = H1
      have hS : H1.get? s.heap.objs.size = some (freshSet led) := hH ▸ Heap.get?_push_size _ rfl
      have hsz : H1.objs.size = s.heap.objs.size + 1 := by rw [← hH, Heap.size_push]
      have hold : ∀ b o, s.heap.get? b = some o → H1.get? b = some o := fun b o e => hH ▸ Heap.get?_push_of_some _ e
      have hT : Shared.TypeIs { s with heap := H1 } (.ref s.heap.objs.size) "set" := ⟨_, hS, rfl⟩
      have hli := F.called_set.init.lookup
      have hbi := F.called_set.init.bind (.ref s.heap.objs.size)
      repeat (any_goals (first | assumption | wp_step))
      refine codeAny_mono (codeAny_call_builtin (R := wants (fun r s2 => r = .none ∧ ∃ h3 tk, s2 = { s with heap := h3, toks := tk } ∧ h3.SetOf (strKind P w) s.heap.objs.size (fun j => decide (j ∈ signsOf x)) (signsOf x).eraseDups.length ∧
          (∀ b o, b < s.heap.objs.size → s.heap.get? b = some o → h3.get? b = some o)) E) F.called_set.init.plain F.entry_set_init (check_set_init_1 hT ?_)) fun r2 s2 hr2 => ?_
      · have e1 := sub_str_set
        have e2 := sub_str_frozen
        have e3 : (Value.type "str" == Value.type "dict") = false := by decide
        have e4 : Shared.TypeIs { s with heap := H1 } (.str x t) "str" := typeIs_str _ _ _
        unfold Builtin.«set.__init__» noKeywords Builtin.Frozenset.updateFrom
        generalize hPI : pyIter = PI
        wp_walk
        subst hPI
        refine wpAny_pyIter_str fun ob Sv Wk st0 => ?_
        refine wpAny_bind (wpAny_runValue ?_)
        have calm3 : A.in1.in1.in1.handled = none := by simp [calm]
        have e5 : (freshSet led).data = .set #[] 0 (.fresh 0 0 led) := rfl
        have hS2 : (H1.push ob).get? s.heap.objs.size = some (freshSet led) := Heap.get?_push_of_some _ hS
        refine set_signs (Wk _ calm3).toS (S := s.heap.objs.size) (fun z => ?_) (signsOf x) (by simp [signsOf]) room (fun i v => sign_at) (x.cps.size - 0) 0 _ (by omega) (Nat.zero_le _) st0 ?_ fun s2 mv hS3 => ?_
        · rw [List.mem_singleton] at z
          have z : s.heap.objs.size = H1.objs.size := z
          omega
        · exact SetOf_congr ((setObjOf_fresh (knd := strKind P w) led).setOf hS2 (by unfold scanBound; omega)) (fun j => by simp) rfl
        · obtain ⟨h3, g3, d3, tk3, os3⟩ := s2
          obtain rfl : g3 = s.gens := mv.gens
          obtain rfl : d3 = s.drawn := mv.drawn
          obtain rfl : os3 = s.os := mv.os
          show wpAny _ _ _ _ _ _
          refine wpAny_pure ?_
          show wpAny _ _ (ret Value.none) _ _ _
          refine wpAny_pure ⟨rfl, h3, tk3, rfl, hS3, fun b o lt e => mv.heap b o (fun z => ?_) (Heap.get?_push_of_some _ (hold b o e))⟩
          rcases List.mem_cons.mp z with z | z
          · exact absurd z (Nat.ne_of_lt lt)
          · rw [List.mem_singleton] at z
            have z : b = H1.objs.size := z
            rw [z, hsz] at lt
            exact absurd lt (by omega)
      · cases r2 with
        | error e => exact hr2
        | ok fl2 =>
          cases fl2 with
          | ret r =>
            obtain ⟨rfl, h3, tk, rfl, hS3, hk3⟩ := hr2
            repeat (any_goals (first | assumption | wp_step))
            exact q _ _ hS3 hk3
          | _ => exact hr2.elim
    | _ => exact hr.elim
end
end Il
set_option Elab.async false
set_option linter.all false
set_option maxRecDepth 100000
set_option maxHeartbeats 4000000
/-! Il: the list of a text's signs; sorted texts, any number of them. -/
namespace Il
open PySem L2 PySem.Spec PyProof.Rows
section
variable {P : Program} {w : World} {A : Around} {E : Value → Shared → Prop} {s : Shared}
/-- list(x), x a text -/
theorem call_list_text {x : Str} {t : Tok} {Q : Value → Shared → Prop} (calm : A.handled = none) (room : x.cps.size ≤ sizeLine)
    (q : ∀ (s2 : Shared) (acc : Array Value) (c : Nat), (∀ b o, s.heap.get? b = some o → s2.heap.get? b = some o) → s2.gens = s.gens → s2.drawn = s.drawn → s2.os = s.os →
      s2.heap.get? s.heap.objs.size = some (seqObj "list" acc c) → ItemsOf (SignAt x) acc x.cps.size → Q (.ref s.heap.objs.size) s2) :
    wpAny (model P w) A (call (.type "list") [.str x t]) Q E s := by
  refine callType_codes (Q₁ := fun o s1 => o = .ref s.heap.objs.size ∧ s1 = { s with heap := s.heap.push (seqObj "list" #[] 0) }) F.called_list (F.typeCall_list_1 _) F.entry_list_init (code_list_new _ ⟨rfl, rfl⟩) fun o s1 h1 => ?_
  obtain ⟨rfl, rfl⟩ := h1
  generalize hH : s.heap.push (seqObj "list" #[] 0) = H1
  have hS : H1.get? s.heap.objs.size = some (seqObj "list" #[] 0) := hH ▸ Heap.get?_push_size _ rfl
  have hz : H1.objs.size = s.heap.objs.size + 1 := by rw [← hH, Heap.size_push]
  have hold : ∀ b o, s.heap.get? b = some o → H1.get? b = some o := fun b o e => hH ▸ Heap.get?_push_of_some _ e
  refine ⟨⟨_, hS, rfl⟩, F.args_list_init_2 _ _, ?_⟩
  generalize hn : s.heap.objs.size = n0 at hS hz ⊢
  show wpAny _ _ (do let old ← Builtin.List.listItems (.ref n0); Builtin.List.listUpdate (.ref n0) (fun _ => #[]); letGo old.toList.reverse; Builtin.List.listExtendWith (.ref n0) (.str x t) .none) _ _ _
  refine wpAny_bind ?_
  unfold Builtin.List.listItems
  refine wpAny_bind (wpAny_seqItems hS rfl (wpAny_pure ?_))
  show wpAny _ _ (updateSeq n0 (fun _ => #[]) >>= fun _ => letGo (#[] : Array Value).toList.reverse >>= fun _ => Builtin.List.listExtendWith (.ref n0) (.str x t) .none) _ _ _
  refine wpAny_bind (wpAny_updateSeq hS rfl ?_)
  have hS2 := Heap.get?_update_self (Obj.mapSeq (fun _ => (#[] : Array Value))) hS rfl
  have away : ∀ b o, b ≠ n0 → H1.get? b = some o → (H1.update n0 (Obj.mapSeq (fun _ => (#[] : Array Value)))).get? b = some o := fun b o z e => (Heap.get?_update_other _ _ (Ne.symm z)).trans e
  have hz2 : (H1.update n0 (Obj.mapSeq (fun _ => (#[] : Array Value)))).objs.size = n0 + 1 := by rw [Heap.size_update, hz]
  refine wpAny_bind (wpAny_letGo ?_)
  generalize H1.update n0 (Obj.mapSeq (fun _ => (#[] : Array Value))) = H2 at hS2 away hz2
  unfold Builtin.List.listExtendWith
  refine wpAny_bind (wpAny_typeOf (T := "str") (v := .str x t) rfl ?_)
  have b1 : Builtin.List.listSameRef (.ref n0) (.str x t) = false := rfl
  have b2 : (Value.type "str" == Value.type "list") = false := by decide
  have b3 : (Value.type "str" == Value.type "tuple") = false := by decide
  simp only [b1, b2, b3, Bool.or_false, Bool.false_eq_true, if_false]
  refine wpAny_bind (wpAny_pyIter_str fun ob Sv Wk st0 => ?_)
  refine wpAny_bind (wpAny_holding ?_)
  unfold Builtin.List.listLengthHint
  refine wpAny_bind (wpAny_specialOf (T := "str") (v := .str x t) rfl F.str_len ?_)
  wp_delta
  refine wpAny_bind (wpAny_isInstance (T := "str") (v := .str x t) (b := true) rfl (by rw [isSubtype_type]; kernel_rfl) ?_)
  show wpAny _ _ (typeOf (Value.str x t) >>= _) _ _ _
  refine wpAny_bind (wpAny_typeOf (T := "str") (v := .str x t) rfl ?_)
  refine wpAny_pure ?_
  rw [if_neg (by decide)]
  have far : n0 ∉ [H2.objs.size] := fun z => by
    rw [List.mem_singleton, hz2] at z
    omega
  have hS3 := Heap.get?_push_of_some ob hS2
  have calm4 : A.in1.in1.handled = none := by simp [calm]
  refine wpAny_pure ⟨plainId_quiet F.plain_extend_loop _, codeAny_extend_loopS (Wk _ calm4).toS room n0 far .none x.cps.size 0 _ #[] _ rfl (Nat.zero_le _) st0 hS3 (ItemsOf.nil _) fun s2 acc c mv hS4 items => ?_⟩
  refine ⟨rfl, hn ▸ q s2 acc c (fun b o e => ?_) mv.gens mv.drawn mv.os (by rw [hn]; exact hS4) items⟩
  have lt : b < n0 := hn ▸ Heap.lt_size e
  refine mv.heap b o (fun z => ?_) (Heap.get?_push_of_some _ (away b o (Nat.ne_of_lt lt) (hold b o e)))
  rcases List.mem_cons.mp z with z | z
  · exact absurd z (Nat.ne_of_lt lt)
  · rw [List.mem_singleton] at z
    have z : b = H2.objs.size := z
    rw [z, hz2] at lt
    exact absurd lt (Nat.not_lt.mpr (Nat.le_succ _))
end
section
variable {X : Cx}
/-- list(x) of a text, as a rule -/
theorem cr_list_text (hc : X.calm = true) : CallR X (.type "list") (fun xs H Q => ∃ x : Str, xs = [.str x] ∧ x.length ≤ sizeLine ∧ ∀ p, H p = none → Q (.ref p) (upd H p (.lst ((signsOf x).map V.str)))) := by
  intro pins s σ H xs us Q I r h
  obtain ⟨x, rfl, hl, q⟩ := h
  obtain ⟨u, rfl, t, rfl⟩ := vals1 r
  refine call_list_text (I.ok.hd hc) hl fun s2 acc c keep e1 e2 e3 hS items => ?_
  have new : H s.heap.objs.size = none := I.hok.fresh (Nat.le_refl _)
  obtain ⟨h2, g2, d2, t2, o2⟩ := s2
  obtain rfl : g2 = s.gens := e1
  obtain rfl : d2 = s.drawn := e2
  obtain rfl : o2 = s.os := e3
  refine ⟨.ref s.heap.objs.size, upd H s.heap.objs.size (.lst ((signsOf x).map V.str)), I.laid keep (Nat.le_refl _) (show ObjOk X.prog X.w _ _ _ (.lst ((signsOf x).map V.str)) from ⟨?_, acc.toList, c, ?_, ?_⟩), rfl, q _ new⟩
  · rw [List.length_map]
    unfold signsOf
    rw [List.length_map, Array.length_toList]
    exact hl
  · refine vals_of_at (by simp [signsOf, items.1]) fun j a v k1 k2 => ?_
    obtain ⟨c2, u2, k3, rfl⟩ := items.2 j v (by rw [← Array.getElem?_toList]; exact k2)
    simp only [signsOf, List.getElem?_map, Array.getElem?_toList, k3, Option.map_some, Option.some.injEq] at k1
    subst k1
    exact ⟨u2, rfl⟩
  · rw [Array.toArray_toList]
    exact hS
/-- sorted(xs) of texts, any number -/
theorem cr_sorted_texts : CallR X (.builtin "sorted") (fun vs H Q => ∃ (a : Addr) (ts : List Str), vs = [V.ref a] ∧ SqL X.K H a (ts.map V.str) ∧ ∀ (ys : List Str) (p : Addr), ys.Perm ts → sortedS ys = true → H p = none → Q (.ref p) (upd H p (.lst (ys.map V.str)))) := by
  intro pins s σ H vs us Q I r h
  obtain ⟨a, ts, rfl, hs, q⟩ := h
  obtain ⟨its, rv, hl, hz⟩ := I.list hs
  rw [Vals.ref1 r]
  refine sorted_strsAny hl.isList rv.strs (by rw [← rv.length]; exact hz) fun out ys h1 h2 h3 => ?_
  obtain ⟨ep, he⟩ := sortedAll_at s.heap its out
  have len : (ys.map V.str).length ≤ sizeLine := by
    rw [List.length_map] at hz ⊢
    rw [h2.length_eq]
    exact hz
  refine ⟨.ref (s.heap.objs.size + 1), upd H (s.heap.objs.size + 1) (.lst (ys.map V.str)), I.laid (t' := s.toks) (fun _ _ => sortedAll_old) (Nat.le_succ _) (show ObjOk X.prog X.w _ _ _ (.lst (ys.map V.str)) from ⟨len, out.toList, ep, vals_of_strs h1, he⟩), rfl, ?_⟩
  exact q ys _ h2 h3 (I.hok.fresh (Nat.le_succ _))
end
end Il
set_option Elab.async false
set_option linter.all false
set_option maxRecDepth 100000
set_option maxHeartbeats 4000000
/-! Il: max(xs, default=d) of ints. -/
namespace Il
open PySem L2 PySem.Spec PyProof.Rows
theorem maxI_mem : ∀ (is : List Int) (m : Int), maxI m is ∈ m :: is
  | [], m => by simp [maxI]
  | i :: is, m => by
    simp only [maxI]
    have := maxI_mem is (if i > m then i else m)
    rcases List.mem_cons.mp this with h | h
    · rw [h]
      split <;> simp
    · exact List.mem_cons_of_mem _ (List.mem_cons_of_mem _ h)
theorem maxI_ge : ∀ (is : List Int) (m : Int), ∀ x ∈ m :: is, x ≤ maxI m is
  | [], m, x, h => by
    simp at h
    simp [maxI, h]
  | i :: is, m, x, h => by
    simp only [maxI]
    by_cases c : i > m
    · rw [if_pos c]
      have hh := maxI_ge is i
      have h0 := hh i (List.mem_cons_self ..)
      rcases List.mem_cons.mp h with rfl | h
      · omega
      · exact hh x h
    · rw [if_neg c]
      have hh := maxI_ge is m
      have h0 := hh m (List.mem_cons_self ..)
      rcases List.mem_cons.mp h with rfl | h
      · exact h0
      · rcases List.mem_cons.mp h with rfl | h
        · omega
        · exact hh x (List.mem_cons_of_mem _ h)
/-- what max(xs, default=d) gives -/
def MaxOr (d : Value) : List Int → Value → Prop
  | [], v => v = d
  | k :: ks, v => ∃ u, v = .int (maxI k ks) u
section
variable {P : Program} {w : World} {A : Around} {R : Result → Shared → Prop} {it S : Addr} {fp wr : List Addr} {n : Nat} {Pv : Nat → Value → Prop} {Sv : Nat → Heap → Prop}
def kwD (d : Value) : List (Str × Value) := [(Str.ofString "default", d)]
/-- the turns behind the first -/
theorem max_on (Wk : Walks P w A.in1 it fp wr n Pv Sv) (far : S ∉ fp) (d : Value) (ns : List Int) (hn : ns.length = n) (val : ∀ i v, Pv i v → ∃ k t, ns[i]? = some k ∧ v = .int k t) :
    ∀ (m j : Nat) (s : Shared) (b : Int) (u : Tok) (c : Nat), n - j = m → j ≤ n → Sv j s.heap → s.heap.get? S = some (seqObj "list" #[.int b u, .int b u] c) →
      (∀ (h2 : Heap) (tk : Nat) (u2 : Tok), (∀ a o, a ∉ wr → a ≠ S → s.heap.get? a = some o → h2.get? a = some o) → R (.ok (.ret (.int (maxI b (ns.drop j)) u2))) { s with heap := h2, toks := tk }) →
      codeAny (model P w) A (.builtin "max.loop" ⟨[.ref it, .none, .ref S], kwD d⟩) R s := by
  have farw : S ∉ wr := fun z => far (Wk.sub _ z)
  have nm : (toString "max" ++ toString ".loop" : String) = "max.loop" := by decide
  intro m
  induction m with
  | zero =>
    intro j s b u c e0 le st hS fin
    obtain rfl : j = n := by omega
    refine codeAny_builtin F.entry_max_loop ?_
    rw [Around.under_plainId F.plain_max_loop _]
    show wpAny _ A.in1 (seqItems? (.ref S) >>= _) _ _ s
    refine wpAny_bind (wpAny_seqItems hS rfl ?_)
    show wpAny _ A.in1 (tryCatch (pyNext (.ref it)) _ >>= _) _ _ s
    refine wpAny_bind (wpAny_tryCatch (Wk.done s _ _ st fun h2 tk keep => ?_))
    have hS2 := keep S _ farw hS
    show wpAny _ A.in1 (updateSeq S (fun _ => #[]) >>= _) _ _ _
    refine wpAny_bind (wpAny_updateSeq hS2 rfl (wpAny_bind (wpAny_letGo (wpAny_pure ?_))))
    have e1 : ns.drop j = [] := List.drop_eq_nil_of_le (by omega)
    rw [e1] at fin
    exact fin _ tk u fun a o z1 z2 e => (Heap.get?_update_other _ _ (Ne.symm z2)).trans (keep a o z1 e)
  | succ m ih =>
    intro j s b u c e0 le st hS fin
    have lt : j < n := by omega
    refine codeAny_builtin F.entry_max_loop ?_
    rw [Around.under_plainId F.plain_max_loop _]
    show wpAny _ A.in1 (seqItems? (.ref S) >>= _) _ _ s
    refine wpAny_bind (wpAny_seqItems hS rfl ?_)
    show wpAny _ A.in1 (tryCatch (pyNext (.ref it)) _ >>= _) _ _ s
    refine wpAny_bind (wpAny_tryCatch (Wk.item j s _ _ lt st fun v h2 tk pv st2 keep => ?_))
    obtain ⟨k, t, hk, rfl⟩ := val j v pv
    have hS2 := keep S _ farw hS
    have hd : ns.drop j = k :: ns.drop (j + 1) := by
      have hl : j < ns.length := by omega
      rw [List.drop_eq_getElem_cons hl]
      rw [List.getElem?_eq_getElem hl] at hk
      cases hk
      rfl
    rw [hd] at fin
    simp only [maxI] at fin
    show wpAny _ A.in1 (tryCatch (holding [Value.int k t, Value.int k t] (richCompare .Gt (.int k t) (.int b u) >>= _)) _ >>= _) _ _ _
    refine wpAny_bind (wpAny_tryCatch (wpAny_holding (wpAny_bind (richCompare_gives (op := .Gt) (typeIs_int _ _ t) (typeIs_int _ _ u) F.slot_int_gt F.entry_int_gt (F.args_int_gt_2 _ _) (gives_int_gt _ _ t u) (fun z => nomatch z) ?_))))
    refine wpAny_bind (wpAny_holding (wpAny_truthy_bool ?_))
    refine wpAny_bind (wpAny_letGo (wpAny_pure ?_))
    by_cases hb : k > b
    · rw [if_pos hb] at fin
      rw [decide_eq_true hb]
      simp only [if_true]
      refine wpAny_bind (wpAny_updateSeq hS2 rfl (wpAny_bind (wpAny_letGo ?_)))
      rw [nm]
      refine wpAny_pure ⟨plainId_quiet F.plain_max_loop _, ih (j + 1) _ k t _ (by omega) lt (Wk.frame _ _ _ st2 fun a z o e => ?_) (Heap.get?_update_self _ hS2 rfl) fun h3 tk3 u3 keep3 => ?_⟩
      · exact (Heap.get?_update_other _ _ (fun z2 : S = a => far (z2 ▸ z))).trans e
      · exact fin h3 tk3 u3 fun a o z1 z2 e => keep3 a o z1 z2 ((Heap.get?_update_other _ _ (Ne.symm z2)).trans (keep a o z1 e))
    · rw [if_neg hb] at fin
      rw [decide_eq_false hb]
      simp only [Bool.false_eq_true, if_false]
      refine wpAny_bind (wpAny_letGo ?_)
      rw [nm]
      refine wpAny_pure ⟨plainId_quiet F.plain_max_loop _, ih (j + 1) _ b u c (by omega) lt st2 hS2 fun h3 tk3 u3 keep3 => ?_⟩
      exact fin h3 tk3 u3 fun a o z1 z2 e => keep3 a o z1 z2 (keep a o z1 e)
/-- the whole walk -/
theorem max_all (Wk : Walks P w A.in1 it fp wr n Pv Sv) (far : S ∉ fp) (d : Value) (ns : List Int) (hn : ns.length = n) (val : ∀ i v, Pv i v → ∃ k t, ns[i]? = some k ∧ v = .int k t) {s : Shared} {c : Nat} (st : Sv 0 s.heap) (hS : s.heap.get? S = some (seqObj "list" #[] c))
    (fin : ∀ (h2 : Heap) (tk : Nat) (v : Value), (∀ a o, a ∉ wr → a ≠ S → s.heap.get? a = some o → h2.get? a = some o) → MaxOr d ns v → R (.ok (.ret v)) { s with heap := h2, toks := tk }) :
    codeAny (model P w) A (.builtin "max.loop" ⟨[.ref it, .none, .ref S], kwD d⟩) R s := by
  have farw : S ∉ wr := fun z => far (Wk.sub _ z)
  have nm : (toString "max" ++ toString ".loop" : String) = "max.loop" := by decide
  refine codeAny_builtin F.entry_max_loop ?_
  rw [Around.under_plainId F.plain_max_loop _]
  show wpAny _ A.in1 (seqItems? (.ref S) >>= _) _ _ s
  refine wpAny_bind (wpAny_seqItems hS rfl ?_)
  show wpAny _ A.in1 (tryCatch (pyNext (.ref it)) _ >>= _) _ _ s
  cases ns with
  | nil =>
    have z0 : n = 0 := hn.symm
    subst z0
    refine wpAny_bind (wpAny_tryCatch (Wk.done s _ _ st fun h2 tk keep => ?_))
    show wpAny _ A.in1 (rule _ >>= fun _ => ret d) _ _ _
    refine wpAny_bind (wpAny_rule (wpAny_pure ?_))
    exact fin h2 tk d (fun a o z1 _ e => keep a o z1 e) rfl
  | cons k ks =>
    have lt : 0 < n := by
      rw [← hn]
      exact Nat.succ_pos _
    refine wpAny_bind (wpAny_tryCatch (Wk.item 0 s _ _ lt st fun v h2 tk pv st2 keep => ?_))
    obtain ⟨k', t, hk, rfl⟩ := val 0 v pv
    have ek : k = k' := by simpa using hk
    subst ek
    have hS2 := keep S _ farw hS
    show wpAny _ A.in1 (updateSeq S (fun _ => #[Value.int k t, Value.int k t]) >>= _) _ _ _
    refine wpAny_bind (wpAny_updateSeq hS2 rfl ?_)
    rw [nm]
    refine wpAny_pure ⟨plainId_quiet F.plain_max_loop _, max_on Wk far d (k :: ks) hn val (n - 1) 1 _ k t _ rfl (by omega) (Wk.frame _ _ _ st2 fun a z o e => ?_) (Heap.get?_update_self _ hS2 rfl) fun h3 tk3 u3 keep3 => ?_⟩
    · exact (Heap.get?_update_other _ _ (fun z2 : S = a => far (z2 ▸ z))).trans e
    · exact fin h3 tk3 _ (fun a o z1 z2 e => keep3 a o z1 z2 ((Heap.get?_update_other _ _ (Ne.symm z2)).trans (keep a o z1 e))) ⟨u3, rfl⟩
end
section
variable {P : Program} {w : World} {A : Around} {E : Value → Shared → Prop} {s : Shared}
theorem args_max_d (a d : Value) : argsOk "max" ⟨[a], kwD d⟩ := by unfold argsOk kwD; kernel_rfl
theorem call_max_default {l : Addr} {its : List Value} {ns : List Int} {d : Value} {Q : Value → Shared → Prop} (calm : A.handled = none) (hl : s.heap.IsList l its.toArray) (hi : IntsAre its ns)
    (q : ∀ (h2 : Heap) (tk : Nat) (v : Value), (∀ a o, s.heap.get? a = some o → h2.get? a = some o) → MaxOr d ns v → Q v { s with heap := h2, toks := tk }) :
    wpAny (model P w) A (call (.builtin "max") [.ref l] (kwD d)) Q E s := by
  have nm : (toString "max" ++ toString ".loop" : String) = "max.loop" := by decide
  refine wpAny_call (codeAny_call_builtin F.plain_max F.entry_max ?_)
  have chk : checkBuiltinCall "max" ⟨[.ref l], kwD d⟩ = pure () := by
    have ha := args_max_d (.ref l) d
    unfold checkBuiltinCall
    rw [F.kind_max]
    cases hsig : Manifest.signature? "max" with
    | none => rfl
    | some sig =>
      simp only [argsOk, hsig] at ha
      exact ha
  rw [chk]
  refine wpAny_pure ?_
  show wpAny _ A.in1 (Builtin.Builtins.bindParams "max" ["key", "default"] 0 ⟨[], kwD d⟩ >>= _) _ _ s
  refine wpAny_bind (wpAny_of_eq (show Builtin.Builtins.bindParams "max" ["key", "default"] 0 ⟨[], kwD d⟩ = pure [none, some d] from rfl) ?_)
  refine wpAny_bind (wpAny_pure ?_)
  have ll : l < s.heap.objs.size := by
    obtain ⟨_, e, _⟩ := hl
    exact Heap.lt_size e
  have calm1 : A.in1.handled = none := by simp [calm]
  refine wpAny_bind (wpAny_pyIter_list hl ?_)
  generalize hI : s.heap.push { cls := .type "list_iterator", data := .fields #[.ref l, .int 0 0] } = H1
  have z1 : H1.objs.size = s.heap.objs.size + 1 := by rw [← hI, Heap.size_push]
  have i1 : H1.IsListIter s.heap.objs.size l 0 := hI ▸ ⟨_, Heap.get?_push_size _ rfl, rfl, rfl⟩
  have l1 : H1.IsList l its.toArray := hI ▸ hl.push _
  have old1 : ∀ a o, s.heap.get? a = some o → H1.get? a = some o := fun a o e => hI ▸ Heap.get?_push_of_some _ e
  refine wpAny_bind (wpAny_newObj_type ?_)
  have far : H1.objs.size ∉ [s.heap.objs.size, l] := fun z => by
    rw [z1] at z
    rcases List.mem_cons.mp z with z | z
    · exact absurd z (Nat.succ_ne_self _)
    · rw [List.mem_singleton] at z
      rw [← z] at ll
      exact absurd ll (Nat.not_lt.mpr (Nat.le_succ _))
  have hS : (H1.push (seqObj "list" #[] 0)).get? H1.objs.size = some (seqObj "list" #[] 0) := Heap.get?_push_size _ rfl
  rw [nm]
  have val : ∀ (i : Nat) (v : Value), its.toArray[i]? = some v → ∃ k t, ns[i]? = some k ∧ v = .int k t := fun i v hv => by
    have hv2 : its[i]? = some v := by simpa using hv
    have hl2 : i < ns.length := by
      rw [← IntsAre.length hi]
      exact (List.getElem?_eq_some_iff.mp hv2).1
    obtain ⟨t, e⟩ := IntsAre.int_at hi i v hv2
    exact ⟨ns[i], t, List.getElem?_eq_getElem hl2, by rw [e, List.getD_eq_getElem?_getD, List.getElem?_eq_getElem hl2]; rfl⟩
  refine wpAny_pure ⟨plainId_quiet F.plain_max_loop _, max_all (Walks.list calm1 _ l (Nat.ne_of_lt ll) its.toArray) far d ns (by rw [List.size_toArray]; exact (IntsAre.length hi).symm) val ⟨i1.at fun o e => Heap.get?_push_of_some _ e, l1.push _⟩ hS fun h2 tk v keep e => ?_⟩
  refine q h2 tk v (fun a o ea => keep a o (fun z => ?_) (fun z => ?_) (Heap.get?_push_of_some _ (old1 a o ea))) e
  · rw [List.mem_singleton] at z
    have := Heap.lt_size ea
    rw [z] at this
    exact absurd this (Nat.lt_irrefl _)
  · have := Heap.lt_size ea
    rw [z, z1] at this
    exact absurd this (Nat.not_lt.mpr (Nat.le_succ _))
end
/-- max(xs, default=d), as a rule -/
def rMaxD (K : PySem.W.Frag) : List V → List V → Hp → VK → Prop := fun vs zs H Q => ∃ (a : Addr) (ns : List Int) (d : V), vs = [V.ref a] ∧ zs = [d] ∧ SqL K H a (ns.map V.int) ∧ Q (match ns with | [] => d | k :: ks => .int (maxI k ks)) H
theorem cr_max_default {X : Cx} (hc : X.calm = true) : CallRK X (.builtin "max") [Str.ofString "default"] (rMaxD X.K) := by
  intro pins s σ H vs zs us ws Q I r rz h
  obtain ⟨a, ns, d, rfl, rfl, hs, q⟩ := h
  obtain rfl := Vals.ref1 r
  obtain ⟨w1, rfl, e1⟩ := vals1 rz
  obtain ⟨its, rv, hl, hz⟩ := I.list hs
  refine call_max_default (I.ok.hd hc) hl.isList rv.ints fun h2 tk v keep e => ?_
  cases ns with
  | nil =>
    cases e
    exact ⟨d, H, I.kept keep, e1, q⟩
  | cons k ks =>
    obtain ⟨u, rfl⟩ := e
    exact ⟨.int (maxI k ks), H, I.kept keep, ⟨u, rfl⟩, q⟩
end Il
set_option Elab.async false
set_option linter.all false
set_option maxRecDepth 100000
set_option maxHeartbeats 1000000
/-! Il's expressions over the hand layer: further built-ins. -/
namespace Il
open PySem L2 PySem.Spec PyProof.Rows
/-! ### sorted -/
theorem insI_perm (i : Int) : ∀ l : List Int, (insI i l).Perm (i :: l)
  | [] => .refl _
  | j :: js => by
    simp only [insI]
    split
    · exact .refl _
    · exact ((insI_perm i js).cons j).trans (.swap i j js)
theorem sortI_perm : ∀ l : List Int, (sortI l).Perm l
  | [] => .refl _
  | i :: is => (insI_perm i (sortI is)).trans ((sortI_perm is).cons i)
theorem insI_sorted (i : Int) : ∀ l : List Int, l.Pairwise (· ≤ ·) → (insI i l).Pairwise (· ≤ ·)
  | [], _ => List.pairwise_singleton _ _
  | j :: js, h => by
    simp only [insI]
    obtain ⟨h1, h2⟩ := List.pairwise_cons.mp h
    split
    · rename_i hij
      refine List.pairwise_cons.mpr ⟨fun x hx => ?_, h⟩
      rcases List.mem_cons.mp hx with rfl | hx
      · exact hij
      · exact Int.le_trans hij (h1 x hx)
    · rename_i hij
      refine List.pairwise_cons.mpr ⟨fun x hx => ?_, insI_sorted i js h2⟩
      rcases List.mem_cons.mp ((insI_perm i js).mem_iff.mp hx) with rfl | hx
      · omega
      · exact h1 x hx
theorem sortI_sorted : ∀ l : List Int, (sortI l).Pairwise (· ≤ ·)
  | [] => .nil
  | i :: is => insI_sorted i _ (sortI_sorted is)
theorem sorted_one : ∀ {a b : List Int}, a.Perm b → a.Pairwise (· ≤ ·) → b.Pairwise (· ≤ ·) → a = b
  | [], b, p, _, _ => (List.nil_perm.mp p).symm
  | x :: a, [], p, _, _ => absurd p.length_eq (by simp)
  | x :: a, y :: b, p, ha, hb => by
    obtain ⟨a1, a2⟩ := List.pairwise_cons.mp ha
    obtain ⟨b1, b2⟩ := List.pairwise_cons.mp hb
    have e : x = y := by
      have h1 : y ≤ x := by
        rcases List.mem_cons.mp (p.mem_iff.mp (List.mem_cons_self ..)) with e | h
        · omega
        · exact b1 x h
      have h2 : x ≤ y := by
        rcases List.mem_cons.mp (p.mem_iff.mpr (List.mem_cons_self ..)) with e | h
        · omega
        · exact a1 y h
      omega
    subst e
    rw [sorted_one ((List.perm_cons x).mp p) a2 b2]
theorem maxI_one {i : Int} {is : List Int} {m : Int} (h1 : m ∈ i :: is) (h2 : ∀ y, y ∈ i :: is → y ≤ m) : m = maxI i is := by
  have a := maxI_ge is i m h1
  have b := h2 _ (maxI_mem is i)
  omega
theorem minI_mem : ∀ (is : List Int) (m : Int), minI m is ∈ m :: is
  | [], m => by simp [minI]
  | i :: is, m => by
    simp only [minI]
    have := minI_mem is (if i < m then i else m)
    rcases List.mem_cons.mp this with h | h
    · rw [h]
      split <;> simp
    · exact List.mem_cons_of_mem _ (List.mem_cons_of_mem _ h)
theorem minI_le : ∀ (is : List Int) (m : Int), ∀ x ∈ m :: is, minI m is ≤ x
  | [], m, x, h => by
    simp at h
    simp [minI, h]
  | i :: is, m, x, h => by
    simp only [minI]
    by_cases c : i < m
    · rw [if_pos c]
      have hh := minI_le is i
      have h0 := hh i (List.mem_cons_self ..)
      rcases List.mem_cons.mp h with rfl | h
      · omega
      · exact hh x h
    · rw [if_neg c]
      have hh := minI_le is m
      have h0 := hh m (List.mem_cons_self ..)
      rcases List.mem_cons.mp h with rfl | h
      · exact h0
      · rcases List.mem_cons.mp h with rfl | h
        · omega
        · exact hh x (List.mem_cons_of_mem _ h)
theorem minI_one {i : Int} {is : List Int} {m : Int} (h1 : m ∈ i :: is) (h2 : ∀ y, y ∈ i :: is → m ≤ y) : m = minI i is := by
  have a := minI_le is i m h1
  have b := h2 _ (minI_mem is i)
  omega
/-! ### texts, sorted -/
theorem insS_perm (i : List Nat) : ∀ l : List (List Nat), (insS i l).Perm (i :: l)
  | [] => .refl _
  | j :: js => by
    simp only [insS]
    split
    · exact .refl _
    · exact ((insS_perm i js).cons j).trans (.swap i j js)
theorem sortS_perm : ∀ l : List (List Nat), (sortS l).Perm l
  | [] => .refl _
  | i :: is => (insS_perm i (sortS is)).trans ((sortS_perm is).cons i)
theorem leS_total (a b : List Nat) : leS a b = true ∨ leS b a = true := by
  unfold leS
  simp only [Bool.not_eq_true', decide_eq_false_iff_not]
  rcases List.le_total a b with h | h
  · exact .inl (List.not_lt.mpr h)
  · exact .inr (List.not_lt.mpr h)
theorem leS_trans {a b c : List Nat} (h1 : leS a b = true) (h2 : leS b c = true) : leS a c = true := by
  unfold leS at *
  simp only [Bool.not_eq_true', decide_eq_false_iff_not] at *
  exact List.not_lt.mpr (List.le_trans (List.not_lt.mp h1) (List.not_lt.mp h2))
theorem leS_anti {a b : List Nat} (h1 : leS a b = true) (h2 : leS b a = true) : a = b := by
  unfold leS at *
  simp only [Bool.not_eq_true', decide_eq_false_iff_not] at *
  exact List.le_antisymm (List.not_lt.mp h1) (List.not_lt.mp h2)
theorem insS_sorted (i : List Nat) : ∀ l : List (List Nat), l.Pairwise (fun a b => leS a b = true) → (insS i l).Pairwise (fun a b => leS a b = true)
  | [], _ => List.pairwise_singleton _ _
  | j :: js, h => by
    simp only [insS]
    obtain ⟨h1, h2⟩ := List.pairwise_cons.mp h
    split
    · rename_i hij
      refine List.pairwise_cons.mpr ⟨fun x hx => ?_, h⟩
      rcases List.mem_cons.mp hx with rfl | hx
      · exact hij
      · exact leS_trans hij (h1 x hx)
    · rename_i hij
      refine List.pairwise_cons.mpr ⟨fun x hx => ?_, insS_sorted i js h2⟩
      rcases List.mem_cons.mp ((insS_perm i js).mem_iff.mp hx) with rfl | hx
      · rcases leS_total j x with q | q
        · exact q
        · exact absurd q hij
      · exact h1 x hx
theorem sortS_sorted : ∀ l : List (List Nat), (sortS l).Pairwise (fun a b => leS a b = true)
  | [] => .nil
  | i :: is => insS_sorted i _ (sortS_sorted is)
theorem sortedS_one : ∀ {a b : List (List Nat)}, a.Perm b → a.Pairwise (fun a b => leS a b = true) → b.Pairwise (fun a b => leS a b = true) → a = b
  | [], b, p, _, _ => (List.nil_perm.mp p).symm
  | x :: a, [], p, _, _ => absurd p.length_eq (by simp)
  | x :: a, y :: b, p, ha, hb => by
    obtain ⟨a1, a2⟩ := List.pairwise_cons.mp ha
    obtain ⟨b1, b2⟩ := List.pairwise_cons.mp hb
    have e : x = y := by
      rcases List.mem_cons.mp (p.mem_iff.mp (List.mem_cons_self ..)) with e | h
      · exact e
      · rcases List.mem_cons.mp (p.mem_iff.mpr (List.mem_cons_self ..)) with e | h'
        · exact e.symm
        · exact leS_anti (a1 y h') (b1 x h)
    subst e
    rw [sortedS_one ((List.perm_cons x).mp p) a2 b2]
theorem ltCps_eq : ∀ a b : List Nat, ltCps a b = decide (a < b)
  | [], [] => by simp [ltCps]
  | [], _ :: _ => by simp [ltCps]
  | _ :: _, [] => by simp [ltCps]
  | a :: r, b :: t => by
    simp only [ltCps, ltCps_eq r t]
    rw [Bool.eq_iff_iff]
    simp only [Bool.or_eq_true, decide_eq_true_eq, Bool.and_eq_true, beq_iff_eq, List.cons_lt_cons_iff]
theorem rising_pair : ∀ {ys : List Str} {p : Str}, risingS p ys = true → (∀ y ∈ ys, leS p.cps.toList y.cps.toList = true) ∧ (ys.map fun y => y.cps.toList).Pairwise (fun a b => leS a b = true)
  | [], _, _ => ⟨by simp, .nil⟩
  | y :: ys, p, h => by
    simp only [risingS, Bool.and_eq_true, Bool.not_eq_true', ltCps_eq] at h
    have h1 : leS p.cps.toList y.cps.toList = true := by
      unfold leS
      rw [h.1]
      rfl
    obtain ⟨i1, i2⟩ := rising_pair h.2
    refine ⟨fun z hz => ?_, ?_⟩
    · rcases List.mem_cons.mp hz with rfl | hz
      · exact h1
      · exact leS_trans h1 (i1 z hz)
    · rw [List.map_cons]
      refine List.pairwise_cons.mpr ⟨fun z hz => ?_, i2⟩
      obtain ⟨u, hu, rfl⟩ := List.mem_map.mp hz
      exact i1 u hu
theorem sortedS_pair : ∀ {ys : List Str}, sortedS ys = true → (ys.map fun y => y.cps.toList).Pairwise (fun a b => leS a b = true)
  | [], _ => .nil
  | y :: ys, h => by
    obtain ⟨i1, i2⟩ := rising_pair (show risingS y ys = true from h)
    rw [List.map_cons]
    refine List.pairwise_cons.mpr ⟨fun z hz => ?_, i2⟩
    obtain ⟨u, hu, rfl⟩ := List.mem_map.mp hz
    exact i1 u hu
section
variable {X : Cx} {M : Mc} {cl : Nat → Addr} {xc : Nat → Value} {G : Gam} {k : Nat}
theorem crS_any (hc : X.calm = true) : CallR X (.builtin "any") (rC X.K cl .any) := by
  intro pins s σ H xs us Q I r h
  obtain ⟨x, Hs, da, d, fa, rfl, e, o, hs, hq⟩ := h
  cases da <;> simp only [sem1] at hs <;> first | cases hs | skip
  rename_i ow ds
  cases z : boolsD ds with
  | none =>
    rw [z] at hs
    cases hs
  | some bs =>
    rw [z] at hs
    cases hs
    obtain ⟨a, vs, g, rfl, h2, h3, _⟩ := o.lst e
    rw [bools_of z h3] at h2
    exact cr_any hc pins s σ H _ us Q I r ⟨a, bs, rfl, .of h2, hq.bl⟩
theorem crS_tuple : CallR X (.type "tuple") (rC X.K cl .tuple) := by
  intro pins s σ H xs us Q I r h
  obtain ⟨x, Hs, da, d, fa, rfl, e, o, hs, hq⟩ := h
  cases da <;> simp only [sem1] at hs <;> first | cases hs | skip
  split at hs
  · rename_i hn
    cases hs
    obtain ⟨a, vs, g, rfl, h2, h3, _⟩ := o.lst e
    obtain ⟨sh, _⟩ := OwL.shl hn h3
    exact call_tuple_of pins s σ H _ us Q I r ⟨a, vs, rfl, .inl ⟨.of h2, fun l hl => hq l vs hl sh⟩⟩
  · cases hs
theorem crS_list (hc : X.calm = true) : CallR X (.type "list") (rC X.K cl .list) := by
  intro pins s σ H xs us Q I r h
  obtain ⟨x, Hs, da, d, fa, rfl, e, o, hs, hq⟩ := h
  cases da <;> simp only [sem1] at hs <;> first | cases hs | skip
  · rename_i t
    split at hs
    · rename_i hl
      cases hs
      simp only [Ow] at o
      rw [o.1] at r
      have e1 : (t.map fun c => D.str [c]) = (t.map fun c => [c]).map D.str := by rw [List.map_map]; rfl
      have e2 : (signsOf ⟨t.toArray⟩).map V.str = ((t.map fun c => [c]).map fun s => (⟨s.toArray⟩ : Str)).map V.str := by
        unfold signsOf
        rw [List.map_map, List.map_map]
        simp
      refine cr_list_text hc pins s σ H _ us Q I r ⟨_, rfl, by rw [line_eq]; simpa [Str.length] using hl, fun p hp => hq p _ hp ?_⟩
      rw [e1, e2]
      exact shl_strs _
    · cases hs
  · split at hs
    · rename_i hn
      cases hs
      obtain ⟨a, vs, g, rfl, h2, h3, _⟩ := o.lst e
      obtain ⟨sh, _⟩ := OwL.shl hn h3
      exact call_list_of pins s σ H _ us Q I r ⟨a, vs, rfl, .inl (.of h2), fun l hl => hq l vs hl sh⟩
    · cases hs
  · split at hs
    · rename_i hn
      cases hs
      obtain ⟨a, vs, g, rfl, h2, h3, _⟩ := o.tup e
      obtain ⟨sh, _⟩ := OwL.shl hn h3
      exact call_list_of pins s σ H _ us Q I r ⟨a, vs, rfl, .inr (.of h2), fun l hl => hq l vs hl sh⟩
    · cases hs
theorem crS_max (hc : X.calm = true) : CallR X (.builtin "max") (rC X.K cl .max1) := by
  intro pins s σ H xs us Q I r h
  obtain ⟨x, Hs, da, d, fa, rfl, e, o, hs, hq⟩ := h
  cases da <;> simp only [sem1] at hs <;> first | cases hs | skip
  rename_i ow ds
  split at hs
  · rename_i i is z
    cases hs
    obtain ⟨a, vs, g, rfl, h2, h3, _⟩ := o.lst e
    rw [ints_of z h3] at h2
    refine cr_max hc pins s σ H _ us Q I r ⟨a, _, rfl, .of h2, by simp, fun m m1 m2 => ?_⟩
    rw [maxI_one m1 m2]
    exact hq.int
  · cases hs
theorem crS_min (hc : X.calm = true) : CallR X (.builtin "min") (rC X.K cl .min1) := by
  intro pins s σ H xs us Q I r h
  obtain ⟨x, Hs, da, d, fa, rfl, e, o, hs, hq⟩ := h
  cases da <;> simp only [sem1] at hs <;> first | cases hs | skip
  rename_i ow ds
  split at hs
  · rename_i i is z
    cases hs
    obtain ⟨a, vs, g, rfl, h2, h3, _⟩ := o.lst e
    rw [ints_of z h3] at h2
    refine cr_min hc pins s σ H _ us Q I r ⟨a, _, rfl, .of h2, by simp, fun m m1 m2 => ?_⟩
    rw [minI_one m1 m2]
    exact hq.int
  · cases hs
/-- sorted(d), the keys texts, any number of them -/
theorem cr_sorted_dict (hc : X.calm = true) : CallR X (.builtin "sorted") (fun xs H Q => ∃ (a : Addr) (kvs : List (Key × V)) (ts : List Str), xs = [.ref a] ∧ Rd H a (.dK kvs) ∧ kvs.map (·.1) = ts.map Sum.inr ∧
    ∀ ys p, ys.Perm ts → sortedS ys = true → H p = none → Q (.ref p) (upd H p (.lst (ys.map V.str)))) := by
  intro pins s σ H xs us Q I r h
  obtain ⟨a, kvs, ts, rfl, hd, hk, q⟩ := h
  obtain ⟨u, rfl, rx⟩ := vals1 r
  cases rx
  obtain ⟨z, lo, vs, rel, dd⟩ := dk_rd I.hok hd
  obtain ⟨ep, hat⟩ := dd.dictAt
  have keys : vs.map (·.1) = ts.map Sum.inr := rel.keys.symm.trans hk
  have len : vs.length = ts.length := by
    have e := congrArg List.length keys
    rwa [List.length_map, List.length_map] at e
  have len2 : vs.length ≤ sizeLine := by
    have e := congrArg List.length hk
    rw [List.length_map, List.length_map] at e
    rw [len, ← e]
    exact z
  refine Calls.call_function_entry kind_sorted plain_sorted entry_sorted (args_sorted1 _) ?_
  unfold Builtin.«sorted»
  refine wpAny_bind (m := checkCount "sorted" 1 1 _) (wpAny_pure ?_)
  refine wpAny_bind (PySem.W.kdu_collect (A := X.A.in1) (PySem.W.kdl_dict (knd := mixKind X.prog X.w) (kvs := vs) (ep := ep) lo) (I.ok.hd hc) hat len2 fun h2 tk acc keep items => ?_)
  have len3 : acc.toList.length = ts.length := by rw [Array.length_toList, items.1, len]
  have all : StrsAre acc.toList ts := strs_at len3 fun j v e => by
    obtain ⟨k, x, e1, e2⟩ := items.2 j v (by rw [← Array.getElem?_toList]; exact e)
    have e3 : (vs.map (·.1))[j]? = some k := by
      rw [List.getElem?_map, e1]
      rfl
    rw [keys, List.getElem?_map] at e3
    cases e4 : ts[j]? with
    | none =>
      rw [e4] at e3
      cases e3
    | some y =>
      rw [e4] at e3
      obtain rfl : Sum.inr y = k := Option.some.inj e3
      obtain ⟨t, ev⟩ := Value.isStrOf_shape (x := y) (v := v) e2
      exact ⟨y, t, rfl, ev⟩
  have I1 : Inv X pins σ H { s with heap := h2, toks := tk } := I.kept keep
  refine wpAny_bind (wpAny_newList ?_ (by rw [len3, ← len]; exact len2))
  have hoL : (h2.push (seqObj "list" acc.toList.toArray 0)).get? h2.objs.size = some (seqObj "list" acc.toList.toArray 0) := Heap.get?_push_size _ rfl
  show wpAny _ _ _ _ _ { s with heap := h2.push (seqObj "list" acc.toList.toArray 0), toks := tk }
  refine wpAny_bind (wpAny_holding (wpAny_call_entry slot_list_sort ⟨_, hoL, rfl⟩ entry_list_sort
    (list_sort_treeKAny strKind_oneLt (s := { s with heap := h2.push (seqObj "list" acc.toList.toArray 0), toks := tk }) hoL all.keysOf (fun v₁ v₂ rest e => keyKind_strs (by rw [← e]; exact all)) (by rw [len3, ← len]; exact len2) fun st' hp hs => ⟨_, rfl, ?_⟩)
    (args_list_sort _)))
  obtain ⟨ys, g1, g2, g3⟩ := sorted_out_str all hp hs
  obtain ⟨e', he'⟩ := sortedHeap_at (vs := acc.toList) (out := (arrOf st').map (·.2)) hoL
  have len4 : (ys.map V.str).length ≤ sizeLine := by
    rw [List.length_map, g2.length_eq, ← len]
    exact len2
  refine wpAny_pure ⟨_, rfl, .ref h2.objs.size, upd H h2.objs.size (.lst (ys.map V.str)), I1.laid (t' := tk) (fun b u e => ?_) (Nat.le_refl _)
    (show ObjOk X.prog X.w _ _ _ (.lst (ys.map V.str)) from ⟨len4, ((arrOf st').map (·.2)).toList, e', vals_of_strs g1, by rw [Array.toArray_toList]; exact he'⟩), rfl, q ys _ g2 g3 (I1.hok.fresh (Nat.le_refl _))⟩
  have lt : b < h2.objs.size := Heap.lt_size e
  rw [sortedHeap_old (Nat.ne_of_lt lt) (by rw [size_push']; exact Nat.lt_succ_of_lt lt)]
  exact Heap.get?_push_of_some _ e
theorem strs_sorted {ts ys : List Str} (p : ys.Perm ts) (s : sortedS ys = true) : ys = (sortS (ts.map fun y => y.cps.toList)).map fun c => (⟨c.toArray⟩ : Str) := by
  have e := sortedS_one ((p.map fun y : Str => y.cps.toList).trans (sortS_perm _).symm) (sortedS_pair s) (sortS_sorted _)
  rw [← e, List.map_map]
  have : ((fun c : List Nat => (⟨c.toArray⟩ : Str)) ∘ fun y : Str => y.cps.toList) = id := by
    funext y
    simp
  rw [this, List.map_id]
theorem strs_list : ∀ {ds : List D} {ss : List (List Nat)}, strsD ds = some ss → ds = ss.map D.str
  | [], ss, h => by
    simp only [strsD] at h
    cases h
    rfl
  | d :: ds, ss, h => by
    cases d with
    | str s =>
      simp only [strsD] at h
      cases z : strsD ds with
      | none =>
        rw [z] at h
        cases h
      | some r =>
        rw [z] at h
        cases h
        rw [strs_list z]
        rfl
    | _ => simp [strsD] at h
theorem crS_sorted (hc : X.calm = true) : CallR X (.builtin "sorted") (rC X.K cl .sorted) := by
  intro pins s σ H xs us Q I r h
  obtain ⟨x, Hs, da, d, fa, rfl, e, o, hs, hq⟩ := h
  have un : ∀ ss : List (List Nat), ((ss.map fun s => (⟨s.toArray⟩ : Str)).map fun y => y.cps.toList) = ss := fun ss => by
    rw [List.map_map]
    have : ((fun y : Str => y.cps.toList) ∘ fun s : List Nat => (⟨s.toArray⟩ : Str)) = id := by
      funext y
      simp
    rw [this, List.map_id]
  have texts : ∀ (ds : List D) (ss : List (List Nat)), strsD ds = some ss → ∀ ow, Ow X.K cl Hs H (.lst ow ds) x fa → NewQ X.K Hs H (.lst true ((sortS ss).map D.str)) Q → wpAny (model X.prog X.w) X.A (call (.builtin "sorted") us) (EP X pins σ Q) X.xe s := by
    intro ds ss z ow o hq
    obtain ⟨a, vs, g, rfl, h2, h3, _⟩ := o.lst e
    rw [strs_of z h3] at h2
    refine cr_sorted_texts pins s σ H _ us Q I r ⟨a, _, rfl, .of h2, fun ys p yp sy hp => ?_⟩
    have ey := strs_sorted yp sy
    rw [un] at ey
    rw [ey]
    exact hq p _ hp (shl_strs _)
  cases da <;> simp only [sem1] at hs <;> first | cases hs | skip
  · rename_i ow ds
    split at hs
    · rename_i s0 ds0
      cases z : strsD (.str s0 :: ds0) with
      | none =>
        rw [z] at hs
        cases hs
      | some ss =>
        rw [z] at hs
        cases hs
        exact texts _ ss z ow o hq
    · cases z : intsD ds with
      | none =>
        rw [z] at hs
        cases hs
      | some is =>
        rw [z] at hs
        cases hs
        obtain ⟨a, vs, g, rfl, h2, h3, _⟩ := o.lst e
        rw [ints_of z h3] at h2
        refine cr_sortedI pins s σ H _ us Q I r ⟨a, is, rfl, .of h2, fun ns p yp sy hp => ?_⟩
        rw [sorted_one (yp.trans (sortI_perm is).symm) sy (sortI_sorted is)]
        exact hq p _ hp (shl_ints _)
  · rename_i kd ow ks ds
    cases kd <;> simp only at hs <;> first | (cases hs; done) | skip
    split at hs
    · rename_i ss z
      cases hs
      obtain ⟨a, vs, g, rfl, h2, ⟨h4, h5, h6⟩, h3, _⟩ := o.dct e
      have kk : ((ks.map kyK).zip vs).map (·.1) = (ss.map fun s => (⟨s.toArray⟩ : Str)).map Sum.inr := by
        rw [List.map_fst_zip (by rw [List.length_map, h4]; exact Nat.le_refl _)]
        have e1 := strs_list z
        clear h2 h3 h4 h5 h6 z hq o
        induction ks generalizing ss with
        | nil =>
          cases ss with
          | nil => rfl
          | cons _ _ => simp at e1
        | cons q ks ih =>
          cases ss with
          | nil => simp at e1
          | cons t ss =>
            simp only [List.map_cons, List.cons.injEq] at e1
            obtain ⟨e2, e3⟩ := e1
            have e4 : kyK q = Sum.inr (⟨t.toArray⟩ : Str) := by
              cases q with
              | a k =>
                cases k <;> simp only [kyD] at e2 <;> first | (cases e2; done) | skip
                cases e2
                rfl
              | t _ => simp [kyD] at e2
            simp only [List.map_cons, e4, ih ss e3]
      refine cr_sorted_dict hc pins s σ H _ us Q I r ⟨a, _, _, rfl, .inl h2, kk, fun ys p yp sy hp => ?_⟩
      have ey := strs_sorted yp sy
      rw [un] at ey
      rw [ey]
      exact hq p _ hp (shl_strs _)
    · cases hs
/-! ### len(set(text)) -/
theorem signs_dup (t : List Nat) : (signsOf ⟨t.toArray⟩).eraseDups.length = t.eraseDups.length := by
  have e0 : signsOf ⟨t.toArray⟩ = t.map fun c => (⟨#[c]⟩ : Str) := by unfold signsOf; simp
  rw [e0]
  have key : ∀ r : List Nat, ((r.reverse).map fun c => (⟨#[c]⟩ : Str)).eraseDups.length = r.reverse.eraseDups.length := by
    intro r
    induction r with
    | nil => rfl
    | cons c r ih =>
      have nat : (r.reverse ++ [c]).eraseDups.length = if decide (c ∈ r.reverse) = true then r.reverse.eraseDups.length else r.reverse.eraseDups.length + 1 := by
        rw [List.eraseDups_append, List.length_append]
        by_cases h : c ∈ r.reverse
        · rw [if_pos (by simpa using h)]
          have : ([c] : List Nat).removeAll r.reverse = [] := by
            have h' : c ∈ r := by simpa using h
            simp [List.removeAll, h']
          rw [this]
          rfl
        · rw [if_neg (by simpa using h)]
          have : ([c] : List Nat).removeAll r.reverse = [c] := by
            have h' : c ∉ r := by simpa using h
            simp [List.removeAll, h']
          rw [this]
          rfl
      rw [List.reverse_cons, List.map_append, nat, List.map_cons, List.map_nil, dup_snoc, ih]
      have iff : decide ((⟨#[c]⟩ : Str) ∈ (r.reverse).map fun c => (⟨#[c]⟩ : Str)) = decide (c ∈ r.reverse) := by
        rw [decide_eq_decide]
        constructor
        · intro h
          obtain ⟨d, hd, e⟩ := List.mem_map.mp h
          have : d = c := by
            injection e with e
            simpa using e
          rw [← this]
          exact hd
        · intro h
          exact List.mem_map.mpr ⟨c, h, rfl⟩
      rw [iff]
  have := key t.reverse
  rwa [List.reverse_reverse] at this
def tLenTxt (ta : TE) : TE := fun σ H Q => ta σ H fun x H1 => ∃ t : List Nat, x = .str ⟨t.toArray⟩ ∧ t.length ≤ 1000 ∧ Q (.int t.eraseDups.length) H1
theorem pe_lenTxt {a : Expr} {ta : TE} {p p2 q pos : Pos} (hc : X.calm = true) (hg : Gl X "len") (hm : X.mg "len" = none) (hg2 : Gl X "set") (hm2 : X.mg "set" = none) (ha : PE X a ta)
    (na : starEach [a] X.env = (false, eval a X.env) :: starEach [] X.env) : PE X (.Call (.Name "len" p) [.Call (.Name "set" p2) [a] [] q] [] pos) (tLenTxt ta) := by
  refine ⟨fun pins s σ H Q I h => Call_ (ld_blt I hg hm boot_len (callWith_builtin1 (args_cons (Call_ (ld_blt I hg2 hm2 boot_set (callWith_type1 (args_cons (thn (ha.run pins s σ H _ I h) fun v s1 g => args_nil ?_) na) na rfl))) rfl) rfl rfl))⟩
  obtain ⟨x, H1, I1, r1, t, rfl, lt, q1⟩ := g
  obtain ⟨tk0, rfl⟩ := r1
  have sz : (⟨t.toArray⟩ : Str).cps.size = t.length := by simp
  refine call_set_text (I1.ok.hd hc) (by rw [sz]; unfold scanBound; omega) fun h2 tk hS keep => ?_
  refine args_nil ?_
  obtain ⟨o, es, ep, tb, ho, hex, hd, _, _, _, hf, hn⟩ := hS
  have hn2 : es.size = t.eraseDups.length := by rw [hn, signs_dup]
  have le : t.eraseDups.length ≤ t.length := by
    rw [← signs_dup]
    refine Nat.le_trans (dup_le _) ?_
    unfold signsOf
    simp
  have I2 : Inv X pins σ H1 { s1 with heap := h2, toks := tk } := I1.kept fun b o e => keep b o (Heap.lt_size e) e
  exact call_len_set ho hex hd hf (by rw [hn2]; omega) ⟨.int t.eraseDups.length, H1, I2.tok _, ⟨_, by rw [hn2]⟩, q1⟩
theorem unset_ok {e f : Expr} (h : unset M e = some f) : ∃ y p2 q, e = .Call (.Name y p2) [f] [] q ∧ bltB M y "set" = true ∧ notStar f = true := by
  unfold unset at h
  split at h
  · split at h
    · rename_i hh
      cases h
      simp only [Bool.and_eq_true] at hh
      exact ⟨_, _, _, rfl, hh.1, hh.2⟩
    · cases h
  · cases h
theorem good_op1 (o : B1) {a : IE} (ha : GoodE cl xc G k a) : GoodE cl xc G k (.op1 o a) := by
  intro X M W hx tk e hm w
  unfold mE at hm
  split at hm <;> first | cases hm | skip
  all_goals (rename_i h1; cases h1)
  · simp only [Bool.and_eq_true] at hm
    obtain ⟨h1, h2⟩ := hm
    cases o <;> simp only [negB] at h1 <;> first | (cases h1; done) | skip
    refine PEi (pe_un (r := fun x H Q => rC X.K cl .neg [x] H Q) ?_ (ha X _ W hx tk _ h2 false)) fun σ H Q h => op1_part h
    intro pins s σ H x v Q I r h
    obtain ⟨x', Hs, da, d, fa, e, sm, o, hs, hq⟩ := h
    cases e
    cases da <;> simp only [sem1] at hs <;> first | cases hs | skip
    simp only [Ow] at o
    rw [o.1] at r
    exact un_neg pins s σ H _ v Q I r ⟨_, rfl, hq.int⟩
  · split at hm
    · rename_i hset
      split at hm
      · rename_i f hu
        obtain ⟨y, p2, q, rfl, hy, hst⟩ := unset_ok hu
        simp only [Bool.and_eq_true] at hm
        obtain ⟨rfl, g⟩ := blt_ok hx hm.1
        obtain ⟨rfl, g2⟩ := blt_ok hx hy
        refine PEi (pe_lenTxt hx.calm g (hx.free _ (by simp)) g2 (hx.free _ (by simp)) (ha X _ W hx tk _ hm.2 false) (star_ok hst _ _)) fun σ H Q h => ?_
        obtain ⟨Hs, n, fe, fr, r, be, he, hw⟩ := op1_part h
        refine ⟨Hs, n, fe, fr, r, be, he, ?_⟩
        cases r with
        | ex c n' => exact hw
        | ok d q n' =>
          intro v Hs' H' fe' fv g vr
          obtain ⟨x', Hs2, da, d2, fa, e0, sm, o2, hs, hq⟩ := hw v Hs' H' fe' fv g vr
          cases e0
          cases o <;> simp only [setB] at hset <;> first | (cases hset; done) | skip
          cases da <;> simp only [sem1] at hs <;> first | (cases hs; done) | skip
          split at hs
          · rename_i hl
            cases hs
            simp only [Ow] at o2
            exact ⟨_, o2.1, hl, hq.int⟩
          · cases hs
      · cases hm
    simp only [Bool.and_eq_true] at hm
    obtain ⟨h1, h2, h3⟩ := hm
    cases o <;> simp only [c1B] at h1 <;> first | (cases h1; done) | skip
    · obtain ⟨rfl, g⟩ := blt_ok hx h1
      exact call1_mk (ha X _ W hx tk _ h3 false) h2 fun t pt => pe_callB crS_len g (hx.free _ (by simp)) PySem.boot_len pt (by decide) (by decide) (star_ok h2 _ _) rfl
    · obtain ⟨rfl, g⟩ := blt_ok hx h1
      exact call1_mk (ha X _ W hx tk _ h3 false) h2 fun t pt => pe_callTy crS_int g (hx.free _ (by simp)) (by decide +kernel) pt (by decide) (by decide) (star_ok h2 _ _) rfl
    · obtain ⟨rfl, g⟩ := blt_ok hx h1
      exact call1_mk (ha X _ W hx tk _ h3 false) h2 fun t pt => pe_callB (crS_any hx.calm) g (hx.free _ (by simp)) (by decide +kernel) pt (by decide) (by decide) (star_ok h2 _ _) rfl
    · obtain ⟨rfl, g⟩ := blt_ok hx h1
      exact call1_mk (ha X _ W hx tk _ h3 false) h2 fun t pt => pe_callB (crS_sorted hx.calm) g (hx.free _ (by simp)) (by decide +kernel) pt (by decide) (by decide) (star_ok h2 _ _) rfl
    · obtain ⟨rfl, g⟩ := blt_ok hx h1
      exact call1_mk (ha X _ W hx tk _ h3 false) h2 fun t pt => pe_callTy (crS_list hx.calm) g (hx.free _ (by simp)) (by decide +kernel) pt (by decide) (by decide) (star_ok h2 _ _) rfl
    · obtain ⟨rfl, g⟩ := blt_ok hx h1
      exact call1_mk (ha X _ W hx tk _ h3 false) h2 fun t pt => pe_callTy crS_tuple g (hx.free _ (by simp)) (by decide +kernel) pt (by decide) (by decide) (star_ok h2 _ _) rfl
    · obtain ⟨rfl, g⟩ := blt_ok hx h1
      exact call1_mk (ha X _ W hx tk _ h3 false) h2 fun t pt => pe_callB (crS_max hx.calm) g (hx.free _ (by simp)) (by decide +kernel) pt (by decide) (by decide) (star_ok h2 _ _) rfl
    · obtain ⟨rfl, g⟩ := blt_ok hx h1
      exact call1_mk (ha X _ W hx tk _ h3 false) h2 fun t pt => pe_callB (crS_min hx.calm) g (hx.free _ (by simp)) (by decide +kernel) pt (by decide) (by decide) (star_ok h2 _ _) rfl
/-! ### two values: min(i, j), max(xs, default=d) -/
theorem op3_part {W : WX} {o : Nat} {a b c : IE} {w : Bool} {σ : L2.St} {H : Hp} {Q : VK} {K : PySem.W.Frag} (ho : o ≠ 0) (h : tI K cl xc G W (.op3 o a b c) w σ H Q) :
    tI K cl xc G W a false σ H fun x H1 => tI K cl xc G W b false σ H1 fun y H2 => ∃ Hs da db d fa, Same Hs H2 ∧ Ow K cl Hs H2 da x fa ∧ Sh K Hs db y ∧ sem3 o da db .non = some d ∧ d.own = false ∧ ∀ v, Sh K Hs d v → Q v H2 := by
  obtain ⟨Hs, n, fe, fr, r, be, he, hw⟩ := h
  simp only [ev] at he
  rcases bnd_some he with ⟨da, q, n1, h1, h2⟩ | ⟨c, n1, h1, rfl⟩
  · refine ⟨Hs, n, fe, fr, _, be, h1, fun x Hs1 H1 fe1 fv1 g1 v1 => ?_⟩
    have z1 : fv1 = zf := v1.1
    subst z1
    have g1' := g1.be
    rw [zf_addF] at g1'
    rcases bnd_some h2 with ⟨db, q2, n2, h3, h4⟩ | ⟨c, n2, h3, rfl⟩
    · refine ⟨Hs1, n1, fe1, fr, _, g1', h3, fun y Hs2 H2 fe2 fv2 g2 v2 => ?_⟩
      have z2 : fv2 = zf := v2.1
      subst z2
      split at h4
      · cases h4
      · rename_i hoo
        simp only [Bool.or_eq_true, not_or, Bool.not_eq_true] at hoo
        obtain ⟨_, ga, oa, _⟩ := v1.keep g2 hoo.1
        have sy := (v2.shared hoo.2).1
        have gt := (g1.trans (by rw [zf_addF]; exact g2)).zf2
        cases hs : sem3 o da db .non with
        | none =>
          rw [hs] at h4
          cases h4
        | some d =>
          rw [hs] at h4
          dsimp only at h4
          split at h4
          · cases h4
          · rename_i hd
            cases h4
            exact ⟨Hs2, da, db, d, ga, g2.ok.ex, oa, sy, hs, by simpa using hd, fun v hv => hw v Hs2 H2 fe2 zf gt (.of_sh hv w)⟩
    · refine ⟨Hs1, n1, fe1, fr, _, g1', h3, fun Hs2 H2 fe2 g2 => ?_⟩
      exact hw Hs2 H2 fe2 (g1.transX (by rw [zf_addF]; exact g2))
  · exact ⟨Hs, n, fe, fr, _, be, h1, hw⟩
theorem good_op3 (o : Nat) {a b c : IE} (ha : GoodE cl xc G k a) (hb : GoodE cl xc G k b) : GoodE cl xc G k (.op3 o a b c) := by
  intro X M W hx tk e hm w
  unfold mE at hm
  split at hm <;> first | cases hm | skip
  all_goals (rename_i h1; cases h1)
  · simp only [Bool.and_eq_true, decide_eq_true_eq] at hm
    obtain ⟨rfl, _, h3, h4, h5, h6, h7⟩ := hm
    obtain ⟨rfl, g⟩ := blt_ok hx h3
    refine PEi (pe_callB (call_min2 hx.calm) g (hx.free _ (by simp)) (by decide +kernel) (pa_cons (ha X _ W hx tk _ h6 false) (pa_cons (hb X _ W hx tk _ h7 false) pa_nil (star_ok h5 _ _)) (star_ok h4 _ _)) (by decide) (by decide) (star_ok h4 _ _) (by rw [star_ok h5]; rfl)) fun σ H Q h => ?_
    obtain ⟨Hs, n, fe, fr, r, be, he, hw⟩ := op3_part (by decide) h
    refine ⟨Hs, n, fe, fr, r, be, he, ?_⟩
    cases r with
    | ex c n' => exact hw
    | ok d q n' =>
      intro x Hs1 H1 fe1 fv1 g1 v1
      obtain ⟨Hs, n, fe, fr, r, be, he, hw2⟩ := hw x Hs1 H1 fe1 fv1 g1 v1
      refine ⟨Hs, n, fe, fr, r, be, he, ?_⟩
      cases r with
      | ex c n' => exact hw2
      | ok d q n' =>
        intro y Hs2 H2 fe2 fv2 g2 v2
        obtain ⟨Hs, da, db, d, fa, sm, oa, sb, hs, hd, fin⟩ := hw2 y Hs2 H2 fe2 fv2 g2 v2
        cases da <;> cases db <;> simp only [sem3] at hs <;> first | (cases hs; done) | skip
        cases hs
        simp only [Ow] at oa
        simp only [Sh] at sb
        exact ⟨_, _, by rw [oa.1, sb], fin _ (by simp only [Sh])⟩
  · simp only [Bool.and_eq_true, decide_eq_true_eq] at hm
    obtain ⟨rfl, _, h3, rfl, h5, h6, h7⟩ := hm
    obtain ⟨rfl, g⟩ := blt_ok hx h3
    refine PEi (pe_callBK (ks := [Str.ofString "default"]) (cr_max_default hx.calm) g (hx.free _ (by simp)) (by decide +kernel) (pa_cons (ha X _ W hx tk _ h6 false) pa_nil (star_ok h5 _ _)) (pk_cons (hb X _ W hx tk _ h7 false) pk_nil) (by decide) (by decide) (by rw [star_ok h5]; rfl) (by rw [star_ok h5]; rfl) rfl rfl rfl) fun σ H Q h => ?_
    obtain ⟨Hs, n, fe, fr, r, be, he, hw⟩ := op3_part (by decide) h
    refine ⟨Hs, n, fe, fr, r, be, he, ?_⟩
    cases r with
    | ex c n' => exact hw
    | ok d q n' =>
      intro x Hs1 H1 fe1 fv1 g1 v1
      obtain ⟨Hs, n, fe, fr, r, be, he, hw2⟩ := hw x Hs1 H1 fe1 fv1 g1 v1
      refine ⟨Hs, n, fe, fr, r, be, he, ?_⟩
      cases r with
      | ex c n' => exact hw2
      | ok d q n' =>
        intro y Hs2 H2 fe2 fv2 g2 v2
        obtain ⟨Hs, da, db, d, fa, sm, oa, sb, hs, hd, fin⟩ := hw2 y Hs2 H2 fe2 fv2 g2 v2
        cases da <;> simp only [sem3] at hs <;> first | (cases hs; done) | skip
        rename_i ow ds
        obtain ⟨ad, vs, gg, rfl, k2, k3, _⟩ := oa.lst sm
        split at hs
        · rename_i z
          cases hs
          rw [ints_of z k3] at k2
          exact ⟨ad, [], y, rfl, rfl, .of k2, fin _ sb⟩
        · rename_i i is z
          cases hs
          rw [ints_of z k3] at k2
          exact ⟨ad, i :: is, y, rfl, rfl, .of k2, fin _ (by simp only [Sh])⟩
        · cases hs
/-! ### xs.pop(), {} -/
theorem OwL.unsnoc {K : PySem.W.Frag} {Hs H : Hp} : ∀ {xs : List D} {vs : List V} {f : Fp} {d : D}, OwL K cl Hs H xs vs f → xs.getLast? = some d → ∃ v g h, vs[vs.length - 1]? = some v ∧ Ow K cl Hs H d v g ∧ OwL K cl Hs H xs.dropLast vs.dropLast h ∧ f = addF h g
  | [], _, _, _, _, e => by simp at e
  | [x], _, f, d, o, e => by
    simp only [OwL] at o
    obtain ⟨v, r, g, h, rfl, o1, ⟨rfl, rfl⟩, rfl⟩ := o
    have : x = d := by simpa using e
    subst this
    exact ⟨v, g, zf, rfl, o1, by simp only [List.dropLast_singleton, OwL]; exact ⟨trivial, trivial⟩, by rw [addF_zf, zf_addF]⟩
  | x :: y :: xs, _, f, d, o, e => by
    simp only [OwL] at o
    obtain ⟨v, r, g, h, rfl, o1, o2, rfl⟩ := o
    have o2' : OwL K cl Hs H (y :: xs) r h := by simpa only [OwL] using o2
    obtain ⟨v2, g2, h2, p1, p2, p3, rfl⟩ := OwL.unsnoc o2' (by simpa using e)
    have hr : r ≠ [] := by
      have := o2'.length
      intro z
      rw [z] at this
      simp at this
    obtain ⟨r0, r1, rfl⟩ : ∃ r0 r1, r = r0 :: r1 := by
      cases r with
      | nil => exact absurd rfl hr
      | cons r0 r1 => exact ⟨r0, r1, rfl⟩
    refine ⟨v2, g2, addF g h2, by simpa using p1, p2, ?_, by rw [addF_assoc]⟩
    simp only [List.dropLast_cons₂, OwL]
    exact ⟨v, _, g, h2, rfl, o1, p3, rfl⟩
theorem good_pop (i : Nat) : GoodE cl xc G k (.pop i) := by
  intro X M W hx tk e hm w
  unfold mE at hm
  split at hm <;> first | cases hm | skip
  all_goals (rename_i h1; cases h1)
  simp only [Bool.and_eq_true, decide_eq_true_eq] at hm
  obtain ⟨rfl, h2, h3⟩ := hm
  refine PEi (pe_bm0 PySem.F.plainAttrs_list PySem.F.slot_list_pop PySem.F.type_list_pop mt_pop (nm_ok hx h3) rfl h2) fun σ H Q h => ?_
  obtain ⟨Hs, n, fe, fr, r, be, he, hw⟩ := h
  simp only [ev] at he
  cases z : gets n i with
  | none =>
    rw [z] at he
    cases he
  | some d0 =>
    rw [z] at he
    dsimp only at he
    cases hp : popD d0 with
    | none =>
      rw [hp] at he
      cases he
    | some pr =>
      obtain ⟨d, d1⟩ := pr
      rw [hp] at he
      cases he
      unfold popD at hp
      split at hp
      · rename_i xs
        split at hp
        · rename_i dl hl
          split at hp
          · cases hp
          · rename_i od
            cases hp
            obtain ⟨v, g, f1, e1, e2, e3, e4⟩ := be.env.focus z
            simp only [Ow] at e2
            obtain ⟨ad, vs, g0, rfl, l1, l2, l3⟩ := e2
            obtain ⟨x, gx, gr, p1, p2, p3, p4⟩ := l2.unsnoc hl
            obtain ⟨sx, zx⟩ := p2.sh (by simpa using od)
            subst zx
            rw [addF_zf] at p4
            subst p4
            refine ⟨.ref ad, e1, .inl ⟨rfl, vs, .of l1⟩, ad, vs, x, rfl, rfl, l1, p1, ?_⟩
            have tot := be.ok
            rw [e3, l3] at tot
            have ne : ∀ b, 1 ≤ addF f1 fr b → b ≠ ad := fun b hA e => by
              subst e
              have := tot.le b
              simp only [addF, one_self] at this hA
              omega
            have nex : ∀ b, 1 ≤ g0 b → b ≠ ad := fun b hA e => by
              subst e
              have := tot.le b
              simp only [addF, one_self] at this hA
              omega
            have env2 := (e4.frame (H' := upd H ad (.lst vs.dropLast)) (Same.refl _) _ _ _ (fun b hA => upd_ne (ne b (by simp only [addF]; omega)))).fill (d := .lst true xs.dropLast) (g := addF (one ad) g0) e1 (by
              simp only [Ow]
              exact ⟨ad, vs.dropLast, g0, rfl, upd_same, p3.frame (Same.refl _) _ _ _ (fun b hA => upd_ne (nex b hA)), rfl⟩)
            refine hw x Hs _ _ zf ⟨Same.refl _, env2, ?_, fun b hA => upd_ne (ne b (by simp only [addF]; omega)), fun h => by cases h⟩ (.of_sh sx w)
            have ok2 := be.ok.put (p := ad) (o := .lst vs.dropLast) (by rw [e3, l3]; simp only [addF, one_self]; omega)
            exact ok2.congr fun b => by rw [e3, l3]; simp only [addF, zf]; omega
        · cases hp
      · cases hp
theorem good_dic (kd : DK) (ks vs : List IE) : GoodE cl xc G k (.dic kd ks vs) := by
  intro X M W hx tk e hm w
  unfold mE at hm
  split at hm <;> first | cases hm | skip
  all_goals (rename_i h1; cases h1)
  simp only [Bool.and_eq_true, List.isEmpty_iff] at hm
  obtain ⟨rfl, rfl, hk⟩ := hm
  have fin : ∀ {σ : L2.St} {H : Hp} {Q : VK} (o : HO), tI X.K cl xc G W (.dic kd [] []) w σ H Q → (∀ p, dObj kd p [] [] = o) → ∀ p, H p = none → Q (.ref p) (upd H p o) := by
    intro σ H Q o h ho p hp
    obtain ⟨Hs, n, fe, fr, r, be, he, hw⟩ := h
    simp only [ev] at he
    refine fin_end he (be.go.newO (p := p) (o := o) hp) ?_ hw
    simp only [Ow]
    exact ⟨p, [], zf, rfl, by rw [upd_same, ho], ⟨rfl, by simp, List.nodup_nil⟩, .nil, rfl⟩
  cases kd <;> first | (cases hk; done) | skip
  · exact PEi pe_dnewK fun σ H Q h => fin (.dK []) h fun _ => rfl
  · exact PEi pe_dnewT fun σ H Q h => fin (.dT []) h fun _ => rfl
end
end Il
set_option Elab.async false
set_option linter.all false
set_option maxRecDepth 100000
set_option maxHeartbeats 1000000
/-! What a loop walks. -/
namespace Il
open PySem L2 PySem.Spec PyProof.Rows
section
variable {X : Cx} {M : Mc} {cl : Nat → Addr} {xc : Nat → Value} {G : Gam} {k : Nat}
/-- J gives the items xs, one by one: a flat or shared thing, or a new tuple -/
def Walks (K : PySem.W.Frag) (J : It) (xs : List D) (Hs : Hp) : Prop := ∀ (i : Nat) (Hs1 H : Hp), Same Hs Hs1 → Same Hs1 H →
  (i = xs.length → J.stop i H) ∧ (∀ d, xs[i]? = some d → J.go i H ∧ ∀ x H', J.yld i H x H' → (H' = H ∧ Sh K Hs1 d x) ∨ ∃ p o, H p = none ∧ H' = upd H p o ∧ Sh K (upd Hs1 p o) d x)
theorem ShL.get {K : PySem.W.Frag} {Hs : Hp} {ds : List D} {vs : List V} {i : Nat} {d : D} (h : ShL K Hs ds vs) (e : ds[i]? = some d) : ∃ v, vs[i]? = some v ∧ Sh K Hs d v := by
  obtain ⟨v, g, h1, h2, h3⟩ := (h.owl (cl := fun _ => 0) (H := Hs)).get e
  refine ⟨v, h1, (h2.sh ?_).1⟩
  have := h.noOwn
  unfold Il.noOwn at this
  have q := List.all_eq_true.mp this d (List.mem_of_getElem? e)
  simpa using q
theorem walks_list {K : PySem.W.Frag} {Hs : Hp} {a : Addr} {vs : List V} {xs : List D} (h : Hs a = some (.lst vs)) (s : ShL K Hs xs vs) : Walks K (Itl K a) xs Hs := by
  intro i Hs1 H s1 s2
  have hq : SqL K H a vs := .of (s2 _ _ (s1 _ _ h))
  refine ⟨fun e => ⟨vs, hq, by rw [s.length]; omega⟩, fun d hd => ?_⟩
  obtain ⟨v, h1, h2⟩ := s.get hd
  refine ⟨⟨vs, v, hq, h1⟩, fun x H' y => ?_⟩
  obtain ⟨e, y⟩ := y
  have ex := y vs hq
  rw [h1] at ex
  cases ex
  exact .inl ⟨e, h2.mono s1 _ _⟩
theorem walks_tup {K : PySem.W.Frag} {Hs : Hp} {a : Addr} {vs : List V} {xs : List D} (h : Hs a = some (.tup vs)) (s : ShL K Hs xs vs) : Walks K (Itt K a) xs Hs := by
  intro i Hs1 H s1 s2
  have hq : SqT K H a vs := .of (s2 _ _ (s1 _ _ h))
  refine ⟨fun e => ⟨vs, hq, by rw [s.length]; omega⟩, fun d hd => ?_⟩
  obtain ⟨v, h1, h2⟩ := s.get hd
  refine ⟨⟨vs, v, hq, h1⟩, fun x H' y => ?_⟩
  obtain ⟨e, y⟩ := y
  have ex := y vs hq
  rw [h1] at ex
  cases ex
  exact .inl ⟨e, h2.mono s1 _ _⟩
theorem walks_str {K : PySem.W.Frag} {Hs : Hp} (s : List Nat) : Walks K (Its ⟨s.toArray⟩) (s.map fun c => .str [c]) Hs := by
  intro i Hs1 H s1 s2
  refine ⟨fun e => by
    rw [List.length_map] at e
    show (⟨s.toArray⟩ : Str).cps.size ≤ i
    simp
    omega, fun d hd => ?_⟩
  rw [List.getElem?_map] at hd
  cases z : s[i]? with
  | none =>
    rw [z] at hd
    cases hd
  | some c =>
    rw [z] at hd
    cases hd
    refine ⟨?_, fun x H' y => ?_⟩
    · show i < (⟨s.toArray⟩ : Str).cps.size
      have := (List.getElem?_eq_some_iff.mp z).1
      simpa using this
    · obtain ⟨e, c', hc, rfl⟩ := y
      have : c' = c := by
        have h2 : s[i]? = some c' := by simpa using hc
        rw [z] at h2
        exact (Option.some.inj h2).symm
      subst this
      exact .inl ⟨e, by simp only [Sh]⟩
theorem walks_range {K : PySem.W.Frag} {Hs : Hp} (lo : Int) (n : Nat) : Walks K (Itr lo n) (rangeD lo n) Hs := by
  intro i Hs1 H s1 s2
  refine ⟨fun e => by
    simp only [rangeD, List.length_map, List.length_range] at e
    show n ≤ i
    omega, fun d hd => ?_⟩
  have hi : i < n := by
    have := (List.getElem?_eq_some_iff.mp hd).1
    simpa [rangeD] using this
  refine ⟨hi, fun x H' y => ?_⟩
  obtain ⟨e, rfl⟩ := y
  refine .inl ⟨e, ?_⟩
  have : d = .int (lo + (i : Int)) := by
    simp only [rangeD, List.getElem?_map, List.getElem?_range hi] at hd
    simpa using hd.symm
  subst this
  simp only [Sh]
theorem pairs_get : ∀ (xs : List D) (n i : Nat), (pairs n xs)[i]? = (xs[i]?).map fun d => .tup false [.int ((n + i : Nat) : Int), d]
  | [], n, i => by simp [pairs]
  | x :: xs, n, 0 => by simp [pairs]
  | x :: xs, n, i + 1 => by
    simp only [pairs, List.getElem?_cons_succ]
    rw [pairs_get xs (n + 1) i]
    have : n + 1 + i = n + (i + 1) := by omega
    rw [this]
theorem pairs_length : ∀ (xs : List D) (n : Nat), (pairs n xs).length = xs.length
  | [], n => rfl
  | x :: xs, n => by simp only [pairs, List.length_cons, pairs_length xs]
theorem zip_get : ∀ (xs ys : List D) (i : Nat), (zipD xs ys)[i]? = match xs[i]?, ys[i]? with
    | some a, some b => some (.tup false [a, b])
    | _, _ => none
  | [], ys, i => by simp [zipD]
  | x :: xs, [], i => by
    simp only [zipD, List.getElem?_nil]
    cases (x :: xs)[i]? <;> rfl
  | x :: xs, y :: ys, 0 => by simp [zipD]
  | x :: xs, y :: ys, i + 1 => by
    simp only [zipD, List.getElem?_cons_succ]
    exact zip_get xs ys i
theorem zip_length : ∀ (xs ys : List D), (zipD xs ys).length = min xs.length ys.length
  | [], ys => by simp [zipD]
  | x :: xs, [] => by simp [zipD]
  | x :: xs, y :: ys => by
    simp only [zipD, List.length_cons, zip_length xs ys]
    omega
theorem sh_pair {K : PySem.W.Frag} {Hs : Hp} {p : Addr} {a b : D} {x y : V} (hn : Hs p = none) (ha : Sh K Hs a x) (hb : Sh K Hs b y) : Sh K (upd Hs p (.tup [x, y])) (.tup false [a, b]) (.ref p) := by
  have sm : Same Hs (upd Hs p (.tup [x, y])) := fun c u e => by
    rw [upd_ne]
    · exact e
    · intro z
      rw [z, hn] at e
      cases e
  simp only [Sh, ShL, true_and]
  exact ⟨p, [x, y], rfl, upd_same, x, [y], rfl, ha.mono sm _ _, y, [], rfl, hb.mono sm _ _, rfl⟩
theorem same_none {H H' : Hp} {p : Addr} (s : Same H H') (h : H' p = none) : H p = none := by
  cases z : H p with
  | none => rfl
  | some o =>
    rw [s _ _ z] at h
    cases h
theorem walks_enum {K : PySem.W.Frag} {Hs : Hp} {a : Addr} {vs : List V} {xs : List D} (h : Hs a = some (.lst vs)) (s : ShL K Hs xs vs) : Walks K (Ite K a) (pairs 0 xs) Hs := by
  intro i Hs1 H s1 s2
  have hq : SqL K H a vs := .of (s2 _ _ (s1 _ _ h))
  refine ⟨fun e => ⟨vs, hq, by rw [s.length]; rw [pairs_length] at e; omega⟩, fun d hd => ?_⟩
  rw [pairs_get] at hd
  cases z : xs[i]? with
  | none =>
    rw [z] at hd
    cases hd
  | some d' =>
    rw [z] at hd
    cases hd
    obtain ⟨v, h1, h2⟩ := s.get z
    refine ⟨⟨vs, v, hq, h1⟩, fun x H' y => ?_⟩
    obtain ⟨T, x', rfl, hT, rfl, y⟩ := y
    have ex := y vs hq
    rw [h1] at ex
    cases ex
    refine .inr ⟨T, _, hT, rfl, ?_⟩
    rw [Nat.zero_add]
    exact sh_pair (same_none s2 hT) (by simp only [Sh]) (h2.mono s1 _ _)
theorem walks_zip {K : PySem.W.Frag} {Hs : Hp} {a b : Addr} {vs us : List V} {xs ys : List D} (h : Hs a = some (.lst vs)) (s : ShL K Hs xs vs) (h' : Hs b = some (.lst us)) (s' : ShL K Hs ys us) : Walks K (Itz K a b) (zipD xs ys) Hs := by
  intro i Hs1 H s1 s2
  have hq : SqL K H a vs := .of (s2 _ _ (s1 _ _ h))
  have hq' : SqL K H b us := .of (s2 _ _ (s1 _ _ h'))
  refine ⟨fun e => ⟨vs, us, hq, hq', by rw [s.length, s'.length]; rw [zip_length] at e; omega⟩, fun d hd => ?_⟩
  rw [zip_get] at hd
  cases z : xs[i]? with
  | none =>
    rw [z] at hd
    cases hd
  | some d' =>
    cases z' : ys[i]? with
    | none =>
      rw [z, z'] at hd
      cases hd
    | some d2 =>
      rw [z, z'] at hd
      cases hd
      obtain ⟨v, h1, h2⟩ := s.get z
      obtain ⟨u, k1, k2⟩ := s'.get z'
      refine ⟨⟨vs, us, v, u, hq, hq', h1, k1⟩, fun x H' y => ?_⟩
      obtain ⟨T, x', y', rfl, hT, rfl, y1, y2⟩ := y
      have ex := y1 vs hq
      rw [h1] at ex
      cases ex
      have ex := y2 us hq'
      rw [k1] at ex
      cases ex
      exact .inr ⟨T, _, hT, rfl, sh_pair (same_none s2 hT) (h2.mono s1 _ _) (k2.mono s1 _ _)⟩
/-! ### the reading -/
def tIt (K : PySem.W.Frag) (cl : Nat → Addr) (xc : Nat → Value) (G : Gam) (W : WX) (ik : IK) (as : List IE) : TI := fun σ H R => ∃ Hs n fe fr r, Be K cl Hs H n fe fr σ ∧ eva G as n = some r ∧ match r with
  | .ok ds q n' => ∃ xs, items ik ds = some xs ∧ ∀ J Hs' H' fe', Go K cl Hs H n fe fr σ q n' Hs' H' fe' zf → Walks K J xs Hs' → R J H'
  | .ex c n' => WX1 K cl xc W σ Hs H n fe fr c n'
theorem PIc {tg iter : Expr} {t : TI} (h : ∀ σ H R, t σ H R → ∃ t', PI X tg iter t' ∧ t' σ H R) : PI X tg iter t := ⟨fun pins s σ H R I hw => by
  obtain ⟨t', p, q⟩ := h σ H R hw
  exact p.run pins s σ H R I q⟩
theorem items_ok {ik : IK} {ds xs : List D} (h : items ik ds = some xs) : noOwn ds = true ∧ items0 ik ds = some xs := by
  unfold items at h
  split at h
  · rename_i n
    exact ⟨n, h⟩
  · cases h
def isTupB : Expr → Bool
  | .Tuple _ _ _ => true
  | _ => false
theorem isTup_of {e : Expr} (h : isTupB e = true) : ∃ a b c, e = .Tuple a b c := by
  cases e <;> first | exact ⟨_, _, _, rfl⟩ | cases h
theorem items0_rng1 {ds xs : List D} (h : items0 .rng1 ds = some xs) : ∃ j, ds = [.int j] ∧ b62 j = true ∧ xs = rangeD 0 j.toNat := by
  cases ds with
  | nil => simp [items0] at h
  | cons d r =>
    cases r with
    | cons _ _ => cases d <;> simp [items0] at h
    | nil =>
      cases d <;> simp [items0] at h
      exact ⟨_, rfl, h.1, h.2.symm⟩
theorem items0_rng2 {ds xs : List D} (h : items0 .rng2 ds = some xs) : ∃ i j, ds = [.int i, .int j] ∧ b62 i = true ∧ b62 j = true ∧ xs = rangeD i (j - i).toNat := by
  cases ds with
  | nil => simp [items0] at h
  | cons d r =>
    cases r with
    | nil => cases d <;> simp [items0] at h
    | cons d2 r =>
      cases r with
      | cons _ _ => cases d <;> cases d2 <;> simp [items0] at h
      | nil =>
        cases d <;> cases d2 <;> simp [items0] at h
        exact ⟨_, _, rfl, h.1.1, h.1.2, h.2.symm⟩
theorem items0_enum {ds xs : List D} (h : items0 .enum ds = some xs) : ∃ ys, ds = [.lst false ys] ∧ xs = pairs 0 ys := by
  cases ds with
  | nil => simp [items0] at h
  | cons d r =>
    cases r with
    | cons _ _ => cases d <;> simp [items0] at h
    | nil =>
      cases d <;> try (simp [items0] at h; done)
      rename_i o ys
      cases o <;> simp [items0] at h
      exact ⟨_, rfl, h.symm⟩
theorem items0_zip {ds xs : List D} (h : items0 .zip ds = some xs) : ∃ ys zs, ds = [.lst false ys, .lst false zs] ∧ xs = zipD ys zs := by
  cases ds with
  | nil => simp [items0] at h
  | cons d r =>
    cases r with
    | nil => simp [items0] at h
    | cons d2 r =>
      cases r with
      | cons _ _ => simp [items0] at h
      | nil =>
        cases d <;> try (simp [items0] at h; done)
        rename_i o ys
        cases o <;> try (simp [items0] at h; done)
        cases d2 <;> try (simp [items0] at h; done)
        rename_i o2 zs
        cases o2 <;> simp [items0] at h
        exact ⟨_, _, rfl, h.symm⟩
theorem pi_ok {ik : IK} {as : List IE} (hg : ∀ a ∈ as, GoodE cl xc G k a) {W : WX} (hx : XOk X M cl xc G k) (tk : Takes X W) {tg e : Expr} (hm : mIt as M (isTupB tg) ik e = true) : PI X tg e (tIt X.K cl xc G W ik as) := by
  refine PIc fun σ H R h => ?_
  obtain ⟨Hs, n, fe, fr, r, be, he, hw⟩ := h
  unfold mIt at hm
  split at hm <;> first | cases hm | skip
  · -- a list, a tuple, a text
    rename_i a
    simp only [Bool.and_eq_true, Bool.not_eq_true'] at hm
    obtain ⟨h1, h2, h3⟩ := hm
    have nm : ∀ i, a ≠ IE.mv i := fun i e => by
      subst e
      simp [isMvB] at h1
    have ga := hg a (List.mem_cons_self ..) X _ W hx tk _ h3 false
    rw [eva_one nm] at he
    rcases bnd_some he with ⟨d, q, n1, e1, e2⟩ | ⟨c, n1, e1, rfl⟩
    · split at e2
      · cases e2
      · rename_i ho
        have ho : d.own = false := by simpa using ho
        simp only [eva, bnd, Bool.and_true] at e2
        cases e2
        obtain ⟨xs, hi, hw⟩ := hw
        obtain ⟨_, hi⟩ := items_ok hi
        simp only [items0] at hi
        have part : ∀ (P : VK), (∀ v Hs' H' fe', Go X.K cl Hs H n fe fr σ q n1 Hs' H' fe' zf → Sh X.K Hs' d v → P v H') → tI X.K cl xc G W a false σ H P := fun P hP =>
          ⟨Hs, n, fe, fr, _, be, e1, fun v Hs' H' fe' fv g vr => by
            obtain ⟨s1, s2⟩ := vr.shared ho
            subst s2
            exact hP v Hs' H' fe' g s1⟩
        unfold seqD at hi
        split at hi
        · cases hi
          refine ⟨_, pi_list ga, part _ fun v Hs' H' fe' g s => ?_⟩
          simp only [Sh, true_and] at s
          obtain ⟨ad, vs, rfl, s2, s3⟩ := s
          exact ⟨ad, rfl, ⟨vs, .of (g.ok.ex _ _ s2)⟩, hw _ Hs' H' fe' g (walks_list s2 s3)⟩
        · cases hi
          refine ⟨_, pi_tup ga, part _ fun v Hs' H' fe' g s => ?_⟩
          simp only [Sh, true_and] at s
          obtain ⟨ad, vs, rfl, s2, s3⟩ := s
          exact ⟨ad, rfl, ⟨vs, .of (g.ok.ex _ _ s2)⟩, hw _ Hs' H' fe' g (walks_tup s2 s3)⟩
        · cases hi
          refine ⟨_, pi_str ga, part _ fun v Hs' H' fe' g s => ?_⟩
          simp only [Sh] at s
          exact ⟨_, s, hw _ Hs' H' fe' g (walks_str _)⟩
        · cases hi
    · exact ⟨_, pi_list ga, Hs, n, fe, fr, _, be, e1, hw⟩
  · -- range(j)
    simp only [Bool.and_eq_true] at hm
    obtain ⟨h1, h2, h3⟩ := hm
    obtain ⟨rfl, g⟩ := blt_ok hx h1
    refine ⟨_, pi_range1 g (hx.free _ (by simp)) (pa_eva hx tk _ _ hg (by simp only [mEs, h2, h3, Bool.and_self])) (by rw [star_ok h2]; rfl), Hs, n, fe, fr, _, be, he, ?_⟩
    cases r with
    | ex c n' => exact hw
    | ok ds q n' =>
      intro vs Hs' H' fe' fv gg v _
      obtain ⟨xs, hi, hw⟩ := hw
      obtain ⟨no, hi⟩ := items_ok hi
      obtain ⟨sh, rfl⟩ := OwL.shl no v
      obtain ⟨j, rfl, hb, rfl⟩ := items0_rng1 hi
      replace hb := b62_iff hb
      simp only [ShL, Sh] at sh
      obtain ⟨v1, r1, rfl, rfl, rfl⟩ := sh
      exact ⟨j, rfl, hb.1, hb.2, hw _ Hs' H' fe' gg (walks_range _ _)⟩
  · -- range(i, j)
    simp only [Bool.and_eq_true] at hm
    obtain ⟨h1, h2, h3, h4, h5⟩ := hm
    obtain ⟨rfl, g⟩ := blt_ok hx h1
    refine ⟨_, pi_range2 g (hx.free _ (by simp)) (pa_eva hx tk _ _ hg (by simp only [mEs, h2, h3, h4, h5, Bool.and_self])) (by rw [star_ok h2, star_ok h4]; rfl) (by rw [star_ok h4]; rfl), Hs, n, fe, fr, _, be, he, ?_⟩
    cases r with
    | ex c n' => exact hw
    | ok ds q n' =>
      intro vs Hs' H' fe' fv gg v _
      obtain ⟨xs, hi, hw⟩ := hw
      obtain ⟨no, hi⟩ := items_ok hi
      obtain ⟨sh, rfl⟩ := OwL.shl no v
      obtain ⟨i, j, rfl, hb, hb2, rfl⟩ := items0_rng2 hi
      replace hb := b62_iff hb
      replace hb2 := b62_iff hb2
      simp only [ShL, Sh] at sh
      obtain ⟨v1, r1, rfl, rfl, v2, r2, rfl, rfl, rfl⟩ := sh
      exact ⟨i, j, rfl, ⟨hb.1, hb.2, hb2.1, hb2.2⟩, hw _ Hs' H' fe' gg (walks_range _ _)⟩
  · -- enumerate
    simp only [Bool.and_eq_true] at hm
    obtain ⟨h0, h1, h2, h3⟩ := hm
    obtain ⟨t1, t2, t3, rfl⟩ := isTup_of h0
    obtain ⟨rfl, g⟩ := blt_ok hx h1
    refine ⟨_, pi_enum g (hx.free _ (by simp)) (pa_eva hx tk _ _ hg (by simp only [mEs, h2, h3, Bool.and_self])) (by rw [star_ok h2]; rfl), Hs, n, fe, fr, _, be, he, ?_⟩
    cases r with
    | ex c n' => exact hw
    | ok ds q n' =>
      intro vs Hs' H' fe' fv gg v _
      obtain ⟨xs, hi, hw⟩ := hw
      obtain ⟨no, hi⟩ := items_ok hi
      obtain ⟨sh, rfl⟩ := OwL.shl no v
      obtain ⟨ys, rfl, rfl⟩ := items0_enum hi
      simp only [ShL, Sh, true_and] at sh
      obtain ⟨v1, r1, rfl, ⟨ad, us, rfl, s2, s3⟩, rfl⟩ := sh
      exact ⟨ad, us, rfl, .of (gg.ok.ex _ _ s2), hw _ Hs' H' fe' gg (walks_enum s2 s3)⟩
  · -- zip
    simp only [Bool.and_eq_true] at hm
    obtain ⟨h0, h1, h2, h3, h4, h5⟩ := hm
    obtain ⟨t1, t2, t3, rfl⟩ := isTup_of h0
    obtain ⟨rfl, g⟩ := blt_ok hx h1
    refine ⟨_, pi_zip g (hx.free _ (by simp)) (pa_eva hx tk _ _ hg (by simp only [mEs, h2, h3, h4, h5, Bool.and_self])) (star_ok h2 _ _) (by rw [star_ok h4]; rfl), Hs, n, fe, fr, _, be, he, ?_⟩
    cases r with
    | ex c n' => exact hw
    | ok ds q n' =>
      intro vs Hs' H' fe' fv gg v _
      obtain ⟨xs, hi, hw⟩ := hw
      obtain ⟨no, hi⟩ := items_ok hi
      obtain ⟨sh, rfl⟩ := OwL.shl no v
      obtain ⟨ys, zs, rfl, rfl⟩ := items0_zip hi
      simp only [ShL, Sh, true_and] at sh
      obtain ⟨v1, r1, rfl, ⟨ad, us, rfl, s2, s3⟩, v2, r2, rfl, ⟨ad2, us2, rfl, k2, k3⟩, rfl⟩ := sh
      exact ⟨ad, ad2, us, us2, rfl, .of (gg.ok.ex _ _ s2), .of (gg.ok.ex _ _ k2), hw _ Hs' H' fe' gg (walks_zip s2 s3 k2 k3)⟩
end
end Il
set_option Elab.async false
set_option linter.all false
set_option maxRecDepth 100000
set_option maxHeartbeats 1000000
/-! Il's list comprehensions over the hand layer. -/
namespace Il
open PySem L2 PySem.Spec PyProof.Rows
section
variable {X : Cx} {M : Mc} {cl : Nat → Addr} {xc : Nat → Value} {G : Gam} {k : Nat}
theorem XOk.blk (hx : XOk X M cl xc G k) (s : Shared) (H : Hp) (scope : Scope) (C : Addr) (cls : List (Str × Addr)) (fp : List Addr) (hk : scope.kind = .function) :
    XOk (X.blk s H scope (compEnvC scope cls C X.env) fp) { M with sc := relS scope M.sc } cl xc G k where
  N := hx.N
  sc := by
    show (compEnvC scope cls C X.env).scope = relS scope M.sc
    rw [← hx.sc]
    rfl
  nd := hx.nd
  calm := hx.calm
  kind := hk
  room := hx.room
  free := hx.free
  gi := hx.gi
  fns := hx.fns
theorem set_ok {e : Expr} (h : notSet e = true) (env : PySem.Env) (x : Value) : foldedSetIterable e env x = pure x := by
  cases e <;> first | rfl | cases h
/-- a test that is left out is passed -/
def tTst (K : PySem.W.Frag) (cl : Nat → Addr) (xc : Nat → Value) (G : Gam) (W : WX) (a : IE) : TT := fun σ H Q => ∃ Hs n fe fr r, Be K cl Hs H n fe fr σ ∧ (if a.isNop then some (.ok true true n) else evt G a n) = some r ∧ WT1 K cl xc W σ Hs H n fe fr Q r
theorem pts_ok {a : IE} (ha : GoodT cl xc G k a) {W : WX} (hx : XOk X M cl xc G k) (tk : Takes X W) {ifs : List Expr} (hm : (match ifs with
        | [] => a.isNop
        | [c] => !a.isNop && mE a M c
        | _ => false) = true) : PTs X ifs (tTst X.K cl xc G W a) := by
  cases ifs with
  | nil =>
    dsimp only at hm
    refine ⟨fun pins s σ H Q I h => pts_nil.run pins s σ H Q I ?_⟩
    obtain ⟨Hs, n, fe, fr, r, be, he, hw⟩ := h
    rw [hm, if_pos rfl] at he
    cases he
    exact hw Hs H fe be.go
  | cons c r =>
    cases r with
    | cons _ _ => cases hm
    | nil =>
      simp only [Bool.and_eq_true, Bool.not_eq_true'] at hm
      refine ⟨fun pins s σ H Q I h => (pts_one (ha X _ W hx tk c hm.2)).run pins s σ H Q I ?_⟩
      obtain ⟨Hs, n, fe, fr, r, be, he, hw⟩ := h
      rw [hm.1, if_neg Bool.false_ne_true] at he
      exact ⟨Hs, n, fe, fr, r, be, he, hw⟩
theorem set_set {σ : L2.St} {s : Nat} {x y : Option V} : (σ.set s x).set s y = σ.set s y := by simp
theorem set_get {σ : L2.St} {s : Nat} {v : Option V} (h : σ[s]? = some v) : σ.set s v = σ := by
  apply List.ext_getElem?
  intro j
  rw [List.getElem?_set]
  split
  · rename_i e
    subst e
    split
    · exact h.symm
    · rename_i hl
      rw [List.getElem?_eq_none (by omega)] at h
      cases h
  · rfl
/-- the slot s aside: the rest -/
theorem EnvOw.aside {K : PySem.W.Frag} {Hs H : Hp} {n : Env} {σ : L2.St} {f : Fp} (s : Nat) (h : EnvOw K cl Hs H n σ f) : ∃ g f', f = addF g f' ∧ EnvOw K cl Hs H (n.set s none) (σ.set s none) f' ∧
    ∀ {Hs' H' : Hp} {n' : Env} {f2 : Fp}, Same Hs Hs' → (∀ a, 1 ≤ g a → H' a = H a) → EnvOw K cl Hs' H' (n'.set s none) (σ.set s none) f2 → EnvOw K cl Hs' H' (n'.set s (gets n s)) σ (addF g f2) := by
  cases z : gets n s with
  | some d =>
    obtain ⟨v, g, f', h1, h2, h3, h4⟩ := h.focus z
    refine ⟨g, f', h3, h4.any none, fun {Hs' H' n' f2} sm fr h5 => ?_⟩
    have h6 := h5.any (i := s) (some v)
    rw [set_set, set_get h1] at h6
    exact h6.fill h1 (h2.frame sm _ _ _ fr)
  | none =>
    have e : n.set s none = n := set_none_self (by rw [z]; rfl)
    refine ⟨zf, f, (zf_addF f).symm, by rw [← e] at h; exact h.any none, fun {Hs' H' n' f2} sm fr h5 => ?_⟩
    rw [zf_addF]
    by_cases hs : s < σ.length
    · have h6 := h5.any (i := s) (σ[s])
      rw [set_set, set_get (List.getElem?_eq_getElem hs)] at h6
      exact h6
    · have e2 : σ.set s none = σ := List.set_eq_of_length_le (by omega)
      rw [e2] at h5
      exact h5
theorem EnvOw.putS {K : PySem.W.Frag} {Hs H : Hp} {n : Env} {σ : L2.St} {f : Fp} {s : Nat} {d : D} {x : V} (h : EnvOw K cl Hs H (n.set s none) σ f) (hx : Sh K Hs d x) : EnvOw K cl Hs H (n.set s (some d)) (σ.set s (some x)) f := by
  have hl := h.length
  rw [List.length_set] at hl
  by_cases hs : s < σ.length
  · have h2 := (h.any (some x)).fill (v := x) (by rw [List.getElem?_set_self hs]) (hx.ow (cl := cl) (H := H))
    rw [zf_addF] at h2
    exact h2
  · rw [List.set_eq_of_length_le (by omega)] at h ⊢
    rw [List.set_eq_of_length_le (by omega)]
    exact h
theorem EnvOw.drop2 {K : PySem.W.Frag} {Hs H : Hp} {n : Env} {σ : L2.St} {f : Fp} (s : Nat) (h : EnvOw K cl Hs H n σ f) : ∃ g, (∀ a, g a ≤ f a) ∧ EnvOw K cl Hs H (n.set s none) (σ.set s none) g ∧ ((∀ d, gets n s = some d → d.own = false) → g = f) := by
  cases z : gets n s with
  | some d =>
    obtain ⟨v, g, f', h1, h2, h3, h4⟩ := h.focus z
    refine ⟨f', fun a => by rw [h3]; simp only [addF]; omega, h4.any none, fun o => ?_⟩
    rw [h3, (h2.sh (o d rfl)).2, zf_addF]
  | none =>
    have e : n.set s none = n := set_none_self (by rw [z]; rfl)
    exact ⟨f, fun a => Nat.le_refl _, by rw [← e] at h; exact h.any none, fun _ => rfl⟩
theorem set_gets {n : Env} {s : Nat} : n.set s (gets n s) = n := by
  apply List.ext_getElem?
  intro j
  rw [List.getElem?_set]
  split
  · rename_i e
    subst e
    split
    · rename_i hl
      unfold gets
      rw [List.getElem?_eq_getElem hl]
      rfl
    · rename_i hl
      rw [List.getElem?_eq_none (by omega)]
  · rfl
theorem gets_set {n : Env} {s : Nat} {d d' : D} (h : gets (n.set s (some d)) s = some d') : d' = d := by
  unfold gets at h
  rw [List.getElem?_set] at h
  simp only [if_true] at h
  split at h
  · simpa using h.symm
  · simp at h
theorem turns_ex {s : Nat} {elt : Env → Option (R D)} {tst : Env → Option (R Bool)} {c : Nat} {n' : Env} : ∀ (xs acc : List D) (q : Bool) (n : Env), turns s elt tst xs acc q n = some (.ex c n') → False
  | [], acc, q, n, h => by
    simp only [turns] at h
    cases h
  | x :: xs, acc, q, n, h => by
    simp only [turns] at h
    split at h
    · split at h
      · split at h
        · cases h
        · exact turns_ex _ _ _ _ h
      · cases h
    · exact turns_ex _ _ _ _ h
    · cases h
theorem mIt_notSet {M : Mc} {as : List IE} {b : Bool} {ik : IK} {e : Expr} (h : mIt as M b ik e = true) : notSet e = true := by
  unfold mIt at h
  split at h <;> first | (cases h; done) | skip
  · simp only [Bool.and_eq_true] at h
    exact h.2.1
  all_goals rfl
/-- what the comprehension's loop keeps -/
structure LcI (K : PySem.W.Frag) (cl : Nat → Addr) (s : Nat) (elt : Env → Option (R D)) (tst : Env → Option (R Bool)) (xs : List D) (σ : L2.St) (Hs1 H1 : Hp) (n1 : Env) (f1 gS fr : Fp) (q1 : Bool) (Dd : Addr) (rT : R (List D)) (i : Nat) (H : Hp)
    (Hs2 : Hp) (nn : Env) (fe2 : Fp) (acc : List D) (accV : List V) (qq : Bool) : Prop where
  le : i ≤ xs.length
  same : Same Hs1 Hs2
  env : EnvOw K cl Hs2 H (nn.set s none) (σ.set s none) fe2
  ok : OkF Hs2 H (addF fe2 (addF (one Dd) (addF gS fr)))
  at_ : H Dd = some (.lst accV)
  sh : ShL K Hs2 acc accV
  frm : ∀ a, 1 ≤ addF gS fr a → H a = H1 a
  qt : qq = true → q1 = true ∧ nn.set s none = n1.set s none ∧ fe2 = f1 ∧ ∀ a, 1 ≤ f1 a → H a = H1 a
  run : turns s elt tst (xs.drop i) acc qq nn = some rT
theorem LcI.next {K : PySem.W.Frag} {s : Nat} {elt : Env → Option (R D)} {tst : Env → Option (R Bool)} {xs : List D} {σ : L2.St} {Hs1 H1 : Hp} {n1 : Env} {f1 gS fr : Fp} {q1 : Bool} {Dd : Addr} {rT : R (List D)} {i : Nat} {H Hs2 : Hp} {nn : Env} {fe2 : Fp} {acc : List D} {accV : List V} {qq : Bool}
    (L : LcI K cl s elt tst xs σ Hs1 H1 n1 f1 gS fr q1 Dd rT i H Hs2 nn fe2 acc accV qq) {d : D} {x : V} {Hs3 H3 : Hp} (hi : i < xs.length) (sm3 : Same Hs2 Hs3) (sh : Sh K Hs3 d x) (od : d.own = false)
    {Hs5 H5 : Hp} {e2 : Env} {fe5 : Fp} {q' : Bool} (fr3 : ∀ a, 1 ≤ addF fe2 (addF (one Dd) (addF gS fr)) a → H3 a = H a)
    (g : Go K cl Hs3 H3 (nn.set s (some d)) fe2 (addF (one Dd) (addF gS fr)) (σ.set s (some x)) q' e2 Hs5 H5 fe5 zf) {acc' : List D} {accV' : List V} {H6 : Hp} (h6 : H6 Dd = some (.lst accV')) (h6' : ∀ a, a ≠ Dd → H6 a = H5 a) (shA : ShL K Hs5 acc' accV')
    (run : turns s elt tst (xs.drop (i + 1)) acc' (qq && q') e2 = some rT) : ∃ Hs2 nn fe2 acc accV qq, LcI K cl s elt tst xs σ Hs1 H1 n1 f1 gS fr q1 Dd rT (i + 1) H6 Hs2 nn fe2 acc accV qq := by
  obtain ⟨h, h1, h2, h3⟩ := g.env.drop2 s
  rw [set_set] at h2
  have okt : OkF Hs5 H5 (addF h (addF (one Dd) (addF gS fr))) := g.ok.mono fun a => by
    have := h1 a
    simp only [addF, zf]
    omega
  have hD : ∀ a, 1 ≤ h a → a ≠ Dd := fun a ha e => by
    subst e
    have := okt.le a
    simp only [addF, one_self] at this
    omega
  have hD2 : ∀ a, 1 ≤ addF gS fr a → a ≠ Dd := fun a ha e => by
    subst e
    have := okt.le a
    simp only [addF, one_self] at this ha
    omega
  have ok6 : OkF Hs5 H6 (addF h (addF (one Dd) (addF gS fr))) := by
    refine ⟨fun b u e => ?_, okt.le, fun a ha => ⟨(okt.own a ha).1, ?_⟩⟩
    · have : b ≠ Dd := fun z => by
        subst z
        have := (okt.own b (by simp only [addF, one_self]; omega)).1
        rw [this] at e
        cases e
      rw [h6' b this]
      exact okt.ex b u e
    · by_cases z : a = Dd
      · subst z
        rw [h6]
        simp
      · rw [h6' a z]
        exact (okt.own a ha).2
  refine ⟨Hs5, e2, h, acc', accV', qq && q', hi, L.same.trans (sm3.trans g.same), h2.frame (Same.refl _) _ _ _ (fun a ha => h6' a (hD a ha)), ok6, h6, shA, fun a ha => ?_, fun hq => ?_, run⟩
  · rw [h6' a (hD2 a ha), g.frm a (by simp only [addF] at ha ⊢; omega), fr3 a (by simp only [addF] at ha ⊢; omega), L.frm a ha]
  · rw [Bool.and_eq_true] at hq
    obtain ⟨k1, k2, k3, k4⟩ := L.qt hq.1
    obtain ⟨m1, m2, m3⟩ := g.qt hq.2
    have hh : h = fe5 := h3 fun d' hd' => by
      rw [m1] at hd'
      rw [gets_set hd']
      exact od
    refine ⟨k1, ?_, by rw [hh, m2, k3], fun a ha => ?_⟩
    · rw [m1]
      simp only [List.set_set]
      exact k2
    · have ha2 : 1 ≤ fe2 a := by rw [k3]; exact ha
      rw [h6' a (hD a (by rw [hh, m2]; exact ha2)), m3 a ha2, fr3 a (by simp only [addF]; omega), k4 a ha]
/-- a comprehension and its parts -/
theorem comp_parts {s : Nat} {ik : IK} {as : List IE} {elt tst : IE} (hg : ∀ a ∈ as, GoodE cl xc G k a) (he : GoodE cl xc G k elt) (ht : GoodT cl xc G k tst) {W : WX} (hx : XOk X M cl xc G k) (tk : Takes X W) {e : Expr} (hm : mE (.comp s ik as elt tst) M e = true) :
    ∃ (f : Expr) (x : Str) (px : Pos) (it : Expr) (ifs : List Expr) (scope : Scope) (pos : Pos) (wi : TI) (tt : TT) (te : TE), e = .ListComp f [⟨.Name x px, it, ifs, 0⟩] scope pos ∧ PI X (.Name x px) it wi ∧ BlkOk X.N X.env.scope scope [(x, s)] ∧
      (∀ (s0 : Shared) (H : Hp) (C : Addr) (cl : List (Str × Addr)) (fp : List Addr), PG (X.blk s0 H scope (compEnvC scope cl C X.env) fp) (.Name x px) (gName s)) ∧
      (∀ (s0 : Shared) (H : Hp) (C : Addr) (cl : List (Str × Addr)) (fp : List Addr), PTs (X.blk s0 H scope (compEnvC scope cl C X.env) fp) ifs tt) ∧
      (∀ (s0 : Shared) (H : Hp) (C : Addr) (cl : List (Str × Addr)) (fp : List Addr), PE (X.blk s0 H scope (compEnvC scope cl C X.env) fp) f te) ∧ (∀ y, foldedSetIterable it X.env y = pure y) ∧
      ∀ (w : Bool) (σ : L2.St) (H : Hp) (Q : VK), tI X.K cl xc G W (.comp s ik as elt tst) w σ H Q → tLc wi (gName s) tt te ([(x, s)].map (·.2)) σ H Q := by
  unfold mE at hm
  split at hm <;> first | cases hm | skip
  all_goals (rename_i h1; cases h1)
  rename_i M f x px it ifs scope pos
  simp only [Bool.and_eq_true, decide_eq_true_eq] at hm
  obtain ⟨h1, h2, h3, h4, h5⟩ := hm
  have tk0 : ∀ {X : Cx}, Takes X (fun _ _ _ _ => False) := takes0
  have ns : notSet it = true := mIt_notSet h3
  refine ⟨f, x, px, it, ifs, scope, pos, _, tTst X.K cl xc G (fun _ _ _ _ => False) tst, tI X.K cl xc G (fun _ _ _ _ => False) elt false, rfl, pi_ok (tg := .Name x px) hg hx tk h3, blkOk_by (by rw [hx.N, hx.sc]; exact h1),
    (fun s0 H0 C cls fp => pg_name (i := s) hx.nd (by rw [hx.N]; exact (blkOk_by h1).ix _ (List.mem_cons_self ..)) (.inl (by rw [(hx.blk s0 H0 scope C cls fp (blkOk_by h1).kind).sc]; exact h2)) (.inr (by rw [(hx.blk s0 H0 scope C cls fp (blkOk_by h1).kind).sc]; exact h2))),
    (fun s0 H0 C cls fp => pts_ok ht (hx.blk s0 H0 scope C cls fp (blkOk_by h1).kind) tk0 h5), (fun s0 H0 C cls fp => he _ _ _ (hx.blk s0 H0 scope C cls fp (blkOk_by h1).kind) tk0 f h4 false), set_ok ns X.env, fun w σ H Q h => ?_⟩
  obtain ⟨Hs, n, fe, fr, r, be, hev, hw⟩ := h
  simp only [ev] at hev
  rcases bnd_some hev with ⟨ds, q1, n1, e1, e2⟩ | ⟨c, n1, e1, rfl⟩
  · refine ⟨Hs, n, fe, fr, _, be, e1, ?_⟩
    cases hit : items ik ds with
    | none =>
      rw [hit] at e2
      cases e2
    | some xs =>
      rw [hit] at e2
      refine ⟨xs, hit, fun J Hs1 H1 fe1 g1 wk Dd hD => ?_⟩
      obtain ⟨gS, f1, hf, env1, back⟩ := g1.env.aside s
      rcases bnd_some e2 with ⟨ys, q2, n2, e3, e4⟩ | ⟨c, n2, e3, e4⟩
      · generalize hrT : (R.ok ys q2 n2 : R (List D)) = rT at e3
        have okD : OkF Hs1 (upd H1 Dd (.lst [])) (addF f1 (addF (one Dd) (addF gS fr))) := (g1.ok.new (o := .lst []) hD).congr fun a => by
          rw [hf]
          simp only [addF, zf]
          omega
        have awayD : ∀ a, 1 ≤ addF f1 (addF gS fr) a → (upd H1 Dd (.lst [])) a = H1 a := fun a ha => upd_ne fun z => (g1.ok.own a (by rw [hf]; simp only [addF, zf] at ha ⊢; omega)).2 (by rw [z]; exact hD)
        refine ⟨fun i m Hc => m = xs.length - i ∧ ∃ Hs2 nn fe2 acc accV qq, LcI X.K cl s (fun e => ev G elt false e) (fun e => if tst.isNop then some (.ok true true e) else evt G tst e) xs σ Hs1 H1 n1 f1 gS fr q1 Dd rT i Hc Hs2 nn fe2 acc accV qq,
          ⟨xs.length, by simp, Hs1, n1.set s none, f1, [], [], q1, Nat.zero_le _, Same.refl _, ?_, okD, upd_same, by simp only [ShL], fun a ha => awayD a (by simp only [addF] at ha ⊢; omega), fun hq => ⟨hq, by simp, rfl, fun a ha => awayD a (by simp only [addF]; omega)⟩, by simpa using e3⟩, ?_⟩
        · simp only [List.set_set]
          exact env1.frame (Same.refl _) _ _ _ fun a ha => awayD a (by simp only [addF]; omega)
        rintro i m Hc ⟨rfl, Hs2, nn, fe2, acc, accV, qq, L⟩
        by_cases hi : i < xs.length
        · -- one turn
          obtain ⟨go, yld⟩ := (wk i Hs2 Hc L.same L.ok.ex).2 xs[i] (List.getElem?_eq_getElem hi)
          refine .inr ⟨go, fun H' => ∃ Hs2 nn fe2 acc accV qq, LcI X.K cl s (fun e => ev G elt false e) (fun e => if tst.isNop then some (.ok true true e) else evt G tst e) xs σ Hs1 H1 n1 f1 gS fr q1 Dd rT (i + 1) H' Hs2 nn fe2 acc accV qq,
            fun H' h => ⟨xs.length - (i + 1), by omega, rfl, h⟩, fun x H' y => ?_⟩
          -- the item, shared
          have item : ∃ Hs3, Same Hs2 Hs3 ∧ Sh X.K Hs3 xs[i] x ∧ OkF Hs3 H' (addF fe2 (addF (one Dd) (addF gS fr))) ∧ ∀ a, 1 ≤ addF fe2 (addF (one Dd) (addF gS fr)) a → H' a = Hc a := by
            rcases yld x H' y with ⟨rfl, s1⟩ | ⟨p, o, hp, rfl, s1⟩
            · exact ⟨Hs2, Same.refl _, s1, L.ok, fun _ _ => rfl⟩
            · refine ⟨upd Hs2 p o, fun b u e => ?_, s1, L.ok.newS hp, fun a ha => upd_ne fun z => (L.ok.own a ha).2 (by rw [z]; exact hp)⟩
              rw [upd_ne]
              · exact e
              · intro z
                rw [z, L.ok.nil hp] at e
                cases e
          obtain ⟨Hs3, sm3, sh3, ok3, fr3⟩ := item
          have od := sh3.own
          show gName s x (wipe σ [s]) H' _
          show (wipe ((σ.set s none).set s (some x)) [s] = wipe σ [s]) ∧ _
          refine ⟨by show ((σ.set s none).set s (some x)).set s none = σ.set s none; simp, ?_⟩
          have e3' := L.run
          rw [List.drop_eq_getElem_cons hi] at e3'
          simp only [turns] at e3'
          have envx : EnvOw X.K cl Hs3 H' (nn.set s (some xs[i])) ((σ.set s none).set s (some x)) fe2 := (L.env.frame sm3 _ _ _ (fun a ha => fr3 a (by simp only [addF]; omega))).putS sh3
          have es : (σ.set s none).set s (some x) = σ.set s (some x) := by simp
          rw [es] at envx
          have es2 : (wipe σ [s]).set s (some x) = σ.set s (some x) := es
          rw [es2]
          cases htst : (if tst.isNop = true then some (R.ok true true (nn.set s (some xs[i]))) else evt G tst (nn.set s (some xs[i]))) with
          | none =>
            rw [htst] at e3'
            cases e3'
          | some rt =>
            rw [htst] at e3'
            cases rt with
            | ex c n' => cases e3'
            | ok tb qt e5 =>
              refine ⟨Hs3, nn.set s (some xs[i]), fe2, addF (one Dd) (addF gS fr), _, ⟨envx, ok3⟩, htst, fun Hs4 H4 fe4 g4 => ?_⟩
              have hD4 : H4 Dd = some (.lst accV) := by
                rw [g4.frm Dd (by simp only [addF, one_self]; omega), fr3 Dd (by simp only [addF, one_self]; omega)]
                exact L.at_
              cases tb with
              | false =>
                show ∃ Hs2 nn fe2 acc accV qq, LcI X.K cl s _ _ xs σ Hs1 H1 n1 f1 gS fr q1 Dd rT (i + 1) H4 Hs2 nn fe2 acc accV qq
                exact L.next hi sm3 sh3 od fr3 g4 hD4 (fun _ _ => rfl) (L.sh.mono (sm3.trans g4.same) _ _) e3'
              | true =>
                show tI X.K cl xc G _ elt false _ H4 _
                dsimp only at e3'
                have g4' := g4.be
                rw [zf_addF] at g4'
                cases helt : ev G elt false e5 with
                | none =>
                  rw [helt] at e3'
                  cases e3'
                | some re =>
                  rw [helt] at e3'
                  cases re with
                  | ex c n' => cases e3'
                  | ok y' qe e6 =>
                    dsimp only at e3'
                    split at e3'
                    · cases e3'
                    · rename_i hno
                      simp only [Bool.or_eq_true, decide_eq_true_eq, not_or, Bool.not_eq_true, Nat.not_le] at hno
                      refine ⟨Hs4, e5, fe4, _, _, g4', helt, fun v Hs5 H5 fe5 fv5 g5 v5 => ?_⟩
                      obtain ⟨s5, rfl⟩ := v5.shared hno.1
                      have g45 := (g4.trans (by rw [zf_addF]; exact g5)).zf2
                      have shA := L.sh.mono (sm3.trans (g4.same.trans g5.same)) _ _
                      refine ⟨accV, by rw [g5.frm Dd (by simp only [addF, one_self]; omega)]; exact hD4, by rw [shA.length, line_eq]; exact hno.2, ?_⟩
                      refine L.next hi sm3 sh3 od fr3 g45 (accV' := accV ++ [v]) (acc' := acc ++ [y']) upd_same (fun a ha => upd_ne ha) (shA.append ?_) (by rw [← Bool.and_assoc]; exact e3')
                      simp only [ShL]
                      exact ⟨v, [], rfl, s5, rfl⟩
        · -- the end
          have ei : i = xs.length := by have := L.le; omega
          refine .inl ⟨(wk i Hs2 Hc L.same L.ok.ex).1 ei, ?_⟩
          have e3' := L.run
          rw [ei, List.drop_length] at e3'
          simp only [turns] at e3'
          subst hrT
          cases e3'
          have envE := back (n' := n2) L.same (fun a ha => L.frm a (by simp only [addF]; omega)) L.env
          refine fin_end e4 (Hs' := Hs2) (fe' := addF gS fe2) (fv := one Dd) ⟨g1.same.trans L.same, envE, L.ok.congr fun a => by simp only [addF]; omega, fun a ha => ?_, fun hq => ?_⟩ ?_ hw
          · rw [L.frm a (by simp only [addF]; omega), g1.frm a ha]
          · obtain ⟨k1, k2, k3, k4⟩ := L.qt hq
            obtain ⟨m1, m2, m3⟩ := g1.qt k1
            refine ⟨?_, by rw [k3, ← hf, m2], fun a ha => ?_⟩
            · have : n2.set s (gets n1 s) = (n2.set s none).set s (gets n1 s) := by simp
              rw [this, k2]
              simp only [List.set_set]
              rw [set_gets, m1]
            · have ha1 : 1 ≤ addF gS f1 a := by rw [← hf, m2]; exact ha
              have : Hc a = H1 a := by
                by_cases z : 1 ≤ gS a
                · exact L.frm a (by simp only [addF]; omega)
                · exact k4 a (by simp only [addF] at ha1; omega)
              rw [this, m3 a ha]
          · simp only [Ow]
            exact ⟨Dd, accV, zf, rfl, L.at_, L.sh.owl, by rw [addF_zf]⟩
      · exfalso
        exact turns_ex _ _ _ _ e3
  · exact ⟨Hs, n, fe, fr, _, be, e1, hw⟩
theorem good_comp {s : Nat} {ik : IK} {as : List IE} {elt tst : IE} (hg : ∀ a ∈ as, GoodE cl xc G k a) (he : GoodE cl xc G k elt) (ht : GoodT cl xc G k tst) : GoodE cl xc G k (.comp s ik as elt tst) := by
  intro X M W hx tk e hm w
  obtain ⟨f, x, px, it, ifs, scope, pos, wi, tt, te, rfl, h1, h2, h3, h4, h5, h6, h7⟩ := comp_parts hg he ht hx tk hm
  exact PEi (pe_lc (own := [(x, s)]) (g := gName s) hx.calm hx.nd h1 h2 h3 h4 h5 h6) fun σ H Q h => h7 w σ H Q h
end
end Il
set_option Elab.async false
set_option linter.all false
set_option maxRecDepth 100000
set_option maxHeartbeats 1000000
/-! Il's statements over the hand layer. -/
namespace Il
open PySem L2 PySem.Spec PyProof.Rows
/-! ### a text's statement is a term's -/
def locB (sc : Scope) (x : Str) : Bool := match sc.names.lookup x with
  | some .local => true
  | some .cell => true
  | _ => false
def slotB (M : Mc) (i : Nat) (x : Str) : Bool := decide (M.N[i]? = some x) && locB M.sc x
def notLc : Expr → Bool
  | .ListComp _ _ _ _ => false
  | .SetComp _ _ _ _ => false
  | .DictComp _ _ _ _ _ => false
  | _ => true
def notTup : Expr → Bool
  | .Tuple _ _ _ => false
  | _ => true
/-- the names of a target -/
def tgs (M : Mc) : List Nat → List Expr → Bool
  | [], [] => true
  | i :: is, .Name x _ :: es => slotB M i x && tgs M is es
  | _, _ => false
def mTg (M : Mc) (one : Bool) (is : List Nat) : Expr → Bool
  | .Name x _ => match one, is with
    | true, [i] => slotB M i x
    | _, _ => false
  | .Tuple es _ _ => match one with
    | false => tgs M is es
    | true => false
  | _ => false
def lcLine : Expr → Nat → Str → Bool
  | .ListComp _ _ scope p, l, y => (l == p.line) && ((scope.names.any fun (n, k) => n == y && (k == .local || k == .cell)) == false)
  | _, _, _ => false
mutual
def mS : IS → Mc → Stmt → Bool
  | .pas, _, .Pass _ => true
  | .never, _, _ => true
  | .brk, _, .Break _ => true
  | .cont, _, .Continue _ => true
  | .retN, _, .Return none _ => true
  | .ret a, M, .Return (some e) _ => mE a M e
  | .exp a, M, .Expr e _ => notLc e && mE a M e
  | .set i a, M, .Assign [.Name x p] e _ => slotB M i x && (mE a M e && (notLc e || (decide (M.sc.names.lookup x = some .cell) || (decide (M.sc.names.lookup x = some .local) && lcLine e p.line x))))
  | .unp is a, M, .Assign [.Tuple es _ _] e _ => tgs M is es && (notLc e && (notTup e && mE a M e))
  | .app (.var i) a, M, .Expr (.Call (.Attribute (.Name x _) m apos) [e] [] cpos) _ => decide (m = "append") && ((apos.endLine == cpos.line) && (nmB M i x && (notStar e && mE a M e)))
  | .apS (.var i) a, M, .Expr (.Call (.Attribute (.Name x _) m apos) [e] [] cpos) _ => decide (m = "append") && ((apos.endLine == cpos.line) && (nmB M i x && (notStar e && mE a M e)))
  | .ext (.var i) a, M, .Expr (.Call (.Attribute (.Name x _) m apos) [e] [] cpos) _ => decide (m = "extend") && ((apos.endLine == cpos.line) && (nmB M i x && (notStar e && mE a M e)))
  | .sub (.var i) kx a, M, .Assign [.Subscript (.Name x _) f _] e p => nmB M i x && (notSlice f && (notLc e && (notTup e && (mE kx M f && mE a M e))))
  | .ite c t u, M, .If e a b _ => mE c M e && (mL t M a && mL u M b)
  | .forS tg one k as body, M, .For t it b [] _ => mTg M one tg t && (mIt as M (isTupB t) k it && mL body M b)
  | .whl c body, M, .While e b [] _ => mE c M e && mL body M b
  | _, _, _ => false
def mL : List IS → Mc → List Stmt → Bool
  | [], _, [] => true
  | s :: ss, M, st :: sts => mS s M st && mL ss M sts
  | _, _, _ => false
end
theorem loc_ok {sc : Scope} {x : Str} (h : locB sc x = true) : L2.Loc sc x := by
  unfold locB at h
  unfold L2.Loc
  split at h <;> first | (rename_i e; simp [e]; done) | cases h
theorem swap_ok {e : Expr} (h : notLc e = true) (t : Option Expr) (l : Nat) (env : PySem.Env) : swapsWith e t l env = pure false := by
  cases e <;> first | rfl | cases h
theorem swap_cell {e : Expr} {x : Str} {p : Pos} {l : Nat} {env : PySem.Env} (h : env.scope.names.lookup x = some .cell) : swapsWith e (some (.Name x p)) l env = pure false := by
  have ky : env.kindOf x = some .cell := h
  unfold swapsWith
  cases e <;> first | rfl | skip
  all_goals
    simp only [ky]
    have e2 : ((some NameKind.cell == some NameKind.local) : Bool) = false := by decide
    rw [e2, Bool.and_false, Bool.false_and, Bool.false_and]
theorem swapSole_ok {e t : Expr} (h : notLc e = true) (l : Nat) (env : PySem.Env) : swapsWithSole [t] e l env = pure false := swap_ok h (some t) l env
theorem noSwap_ok {e : Expr} (h : notTup e = true) (ts : List Expr) (env : PySem.Env) : swappedStores ts e env = pure none := by
  unfold swappedStores
  cases e <;> first | (cases h; done) | skip
  all_goals
    cases ts with
    | nil => rfl
    | cons t r =>
      cases r with
      | cons _ _ => cases t <;> rfl
      | nil => cases t <;> rfl
/-! ### readings -/
section
variable (K : PySem.W.Frag) (cl : Nat → Addr) (xc : Nat → Value) (G : Gam) (io : List Nat)
structure GoS (Hs H : Hp) (fr : Fp) (σ : L2.St) (n' : Env) (σ' : L2.St) (Hs' H' : Hp) (fe' fv : Fp) : Prop where
  same : Same Hs Hs'
  env : EnvOw K cl Hs' H' n' σ' fe'
  ok : OkF Hs' H' (addF fe' (addF fv fr))
  frm : ∀ a, 1 ≤ fr a → H' a = H a
  ios : ∀ i ∈ io, σ'[i]? = σ[i]?
def WS (W : WX) (D : Ends) (σ : L2.St) (Hs H : Hp) (fr : Fp) : F → Prop
  | .nx n' => ∀ σ' Hs' H' fe', GoS K cl io Hs H fr σ n' σ' Hs' H' fe' zf → D.nx σ' H'
  | .bk n' => ∀ σ' Hs' H' fe', GoS K cl io Hs H fr σ n' σ' Hs' H' fe' zf → D.bk σ' H'
  | .ct n' => ∀ σ' Hs' H' fe', GoS K cl io Hs H fr σ n' σ' Hs' H' fe' zf → D.ct σ' H'
  | .rt d n' => ∀ v σ' Hs' H' fe' fv, GoS K cl io Hs H fr σ n' σ' Hs' H' fe' fv → Ow K cl Hs' H' d v fv → D.rt v H'
  | .ex c n' => ∀ σ' Hs' H' fe', GoS K cl io Hs H fr σ n' σ' Hs' H' fe' zf → W (xc c) none σ' H'
def tS (W : WX) (run : Env → Option F) : TS := fun D σ H => ∃ Hs n fe fr r, Be K cl Hs H n fe fr σ ∧ run n = some r ∧ WS K cl xc io W D σ Hs H fr r
end
section
variable {X : Cx} {M : Mc} {cl : Nat → Addr} {xc : Nat → Value} {G : Gam} {k : Nat} {io : List Nat}
theorem Go.stm {K : PySem.W.Frag} {Hs H : Hp} {n : Env} {fe fr : Fp} {σ : L2.St} {q : Bool} {n' : Env} {Hs' H' : Hp} {fe' fv : Fp} (g : Go K cl Hs H n fe fr σ q n' Hs' H' fe' fv) : GoS K cl io Hs H fr σ n' σ Hs' H' fe' fv := ⟨g.same, g.env, g.ok, g.frm, fun _ _ => rfl⟩
theorem GoS.be {K : PySem.W.Frag} {Hs H : Hp} {fr : Fp} {σ : L2.St} {n' : Env} {σ' : L2.St} {Hs' H' : Hp} {fe' : Fp} (g : GoS K cl io Hs H fr σ n' σ' Hs' H' fe' zf) : Be K cl Hs' H' n' fe' fr σ' := ⟨g.env, by
  have := g.ok
  rw [zf_addF] at this
  exact this⟩
theorem Be.stm {K : PySem.W.Frag} {Hs H : Hp} {n : Env} {fe fr : Fp} {σ : L2.St} (b : Be K cl Hs H n fe fr σ) : GoS K cl io Hs H fr σ n σ Hs H fe zf := b.go.stm
theorem GoS.trans {K : PySem.W.Frag} {Hs H : Hp} {fr : Fp} {σ : L2.St} {n' : Env} {σ' : L2.St} {Hs' H' : Hp} {fe' : Fp} {n2 : Env} {σ2 : L2.St} {Hs2 H2 : Hp} {fe2 fv : Fp} (a : GoS K cl io Hs H fr σ n' σ' Hs' H' fe' zf)
    (b : GoS K cl io Hs' H' fr σ' n2 σ2 Hs2 H2 fe2 fv) : GoS K cl io Hs H fr σ n2 σ2 Hs2 H2 fe2 fv :=
  ⟨a.same.trans b.same, b.env, b.ok, fun x hx => (b.frm x hx).trans (a.frm x hx), fun i hi => (b.ios i hi).trans (a.ios i hi)⟩
theorem GoS.drop {K : PySem.W.Frag} {Hs H : Hp} {fr : Fp} {σ : L2.St} {n' : Env} {σ' : L2.St} {Hs' H' : Hp} {fe' fv : Fp} (a : GoS K cl io Hs H fr σ n' σ' Hs' H' fe' fv) : GoS K cl io Hs H fr σ n' σ' Hs' H' fe' zf :=
  ⟨a.same, a.env, a.ok.mono fun x => by simp only [addF, zf]; omega, a.frm, a.ios⟩
theorem WS.trans {K : PySem.W.Frag} {W : WX} {D : Ends} {Hs H : Hp} {fr : Fp} {σ : L2.St} {n' : Env} {σ' : L2.St} {Hs' H' : Hp} {fe' : Fp} {r : F} (a : GoS K cl io Hs H fr σ n' σ' Hs' H' fe' zf) (h : WS K cl xc io W D σ Hs H fr r) : WS K cl xc io W D σ' Hs' H' fr r := by
  cases r with
  | nx _ => exact fun σ2 Hs2 H2 fe2 g => h σ2 Hs2 H2 fe2 (a.trans g)
  | bk _ => exact fun σ2 Hs2 H2 fe2 g => h σ2 Hs2 H2 fe2 (a.trans g)
  | ct _ => exact fun σ2 Hs2 H2 fe2 g => h σ2 Hs2 H2 fe2 (a.trans g)
  | rt _ _ => exact fun v σ2 Hs2 H2 fe2 fv g => h v σ2 Hs2 H2 fe2 fv (a.trans g)
  | ex _ _ => exact fun σ2 Hs2 H2 fe2 g => h σ2 Hs2 H2 fe2 (a.trans g)
/-- another way on, with the same leaving -/
theorem WS.ends {K : PySem.W.Frag} {W : WX} {D D' : Ends} {Hs H : Hp} {fr : Fp} {σ : L2.St} {r : F} (hnx : ∀ n', r ≠ .nx n') (hbk : D.bk = D'.bk) (hct : D.ct = D'.ct) (hrt : D.rt = D'.rt) (h : WS K cl xc io W D σ Hs H fr r) : WS K cl xc io W D' σ Hs H fr r := by
  cases r with
  | nx n' => exact absurd rfl (hnx n')
  | bk _ => simpa only [WS, ← hbk] using h
  | ct _ => simpa only [WS, ← hct] using h
  | rt _ _ => simpa only [WS, ← hrt] using h
  | ex _ _ => exact h
theorem PSi {st : Stmt} {t t' : TS} (h : PS X st t) (k : ∀ D σ H, t' D σ H → t D σ H) : PS X st t' := ⟨fun pins s σ H D I hw => h.run pins s σ H D I (k D σ H hw)⟩
theorem PSsi {st : List Stmt} {t t' : TS} (h : PSs X st t) (k : ∀ D σ H, t' D σ H → t D σ H) : PSs X st t' := ⟨fun pins s σ H D I hw => h.run pins s σ H D I (k D σ H hw)⟩
structure Own (X : Cx) : Prop where
  pass : PassesOwn (model X.prog X.w) X.A X.env X.xe
  fn : ∀ x, X.fn x = true
  stk : X.stack = X.env :: X.outer
  fr : X.env.frame = some X.env.locals
def GoodS (cl : Nat → Addr) (xc : Nat → Value) (G : Gam) (k : Nat) (io : List Nat) (s : IS) : Prop :=
  ∀ (X : Cx) (M : Mc) (W : WX), XOk X M cl xc G k → Takes X W → Own X → ∀ st, mS s M st = true → PS X st (tS X.K cl xc io W (fun n => exS G io s n))
def GoodL (cl : Nat → Addr) (xc : Nat → Value) (G : Gam) (k : Nat) (io : List Nat) (ss : List IS) : Prop :=
  ∀ (X : Cx) (M : Mc) (W : WX), XOk X M cl xc G k → Takes X W → Own X → ∀ sts, mL ss M sts = true → PSs X sts (tS X.K cl xc io W (fun n => exL G io ss n))
theorem goodL_nil : GoodL cl xc G k io [] := by
  intro X M W hx tk ho sts hm
  cases sts <;> simp only [mL] at hm <;> first | (cases hm; done) | skip
  refine PSsi pss_nil fun D σ H h => ?_
  obtain ⟨Hs, n, fe, fr, r, be, he, hw⟩ := h
  simp only [exL] at he
  cases he
  exact hw σ Hs H fe be.stm
theorem goodL_cons {s : IS} {ss : List IS} (hs : GoodS cl xc G k io s) (hss : GoodL cl xc G k io ss) : GoodL cl xc G k io (s :: ss) := by
  intro X M W hx tk ho sts hm
  cases sts <;> simp only [mL] at hm <;> first | (cases hm; done) | skip
  simp only [Bool.and_eq_true] at hm
  refine PSsi (pss_cons (hs X M W hx tk ho _ hm.1) (hss X M W hx tk ho _ hm.2)) fun D σ H h => ?_
  obtain ⟨Hs, n, fe, fr, r, be, he, hw⟩ := h
  simp only [exL] at he
  cases hr : exS G io s n with
  | none =>
    rw [hr] at he
    cases he
  | some r1 =>
    rw [hr] at he
    refine ⟨Hs, n, fe, fr, r1, be, hr, ?_⟩
    cases r1 with
    | nx n1 => exact fun σ1 Hs1 H1 fe1 g1 => ⟨Hs1, n1, fe1, fr, r, g1.be, he, hw.trans g1⟩
    | bk _ =>
      cases he
      exact hw
    | ct _ =>
      cases he
      exact hw
    | rt _ _ =>
      cases he
      exact hw
    | ex _ _ =>
      cases he
      exact hw
theorem bndS_some {α : Type} {x : Option (R α)} {f : α → Bool → Env → Option F} {r : F} (h : bndS x f = some r) : (∃ a q n, x = some (.ok a q n) ∧ f a q n = some r) ∨ ∃ c n, x = some (.ex c n) ∧ r = .ex c n := by
  unfold bndS at h
  split at h
  · exact .inl ⟨_, _, _, rfl, h⟩
  · cases h
    exact .inr ⟨_, _, rfl, rfl⟩
  · cases h
/-- an exception of a part is the statement's -/
theorem ws_ex {K : PySem.W.Frag} {W : WX} {D : Ends} {Hs H : Hp} {n : Env} {fe fr : Fp} {σ : L2.St} {c : Nat} {n1 : Env} (hw : WS K cl xc io W D σ Hs H fr (.ex c n1)) : WX1 K cl xc W σ Hs H n fe fr c n1 := fun Hs' H' fe' g => hw σ Hs' H' fe' g.stm
theorem goodS_simple (X : Cx) : True := trivial
theorem goodS_pas : GoodS cl xc G k io .pas := by
  intro X M W hx tk ho st hm
  cases st <;> simp only [mS] at hm <;> first | (cases hm; done) | skip
  refine PSi ps_pass fun D σ H h => ?_
  obtain ⟨Hs, n, fe, fr, r, be, he, hw⟩ := h
  simp only [exS] at he
  cases he
  exact hw σ Hs H fe be.stm
theorem goodS_brk : GoodS cl xc G k io .brk := by
  intro X M W hx tk ho st hm
  cases st <;> simp only [mS] at hm <;> first | (cases hm; done) | skip
  refine PSi ps_break fun D σ H h => ?_
  obtain ⟨Hs, n, fe, fr, r, be, he, hw⟩ := h
  simp only [exS] at he
  cases he
  exact hw σ Hs H fe be.stm
theorem goodS_cont : GoodS cl xc G k io .cont := by
  intro X M W hx tk ho st hm
  cases st <;> simp only [mS] at hm <;> first | (cases hm; done) | skip
  refine PSi ps_continue fun D σ H h => ?_
  obtain ⟨Hs, n, fe, fr, r, be, he, hw⟩ := h
  simp only [exS] at he
  cases he
  exact hw σ Hs H fe be.stm
theorem goodS_never : GoodS cl xc G k io .never := by
  intro X M W hx tk ho st hm
  refine PSi ps_never fun D σ H h => ?_
  obtain ⟨Hs, n, fe, fr, r, be, he, hw⟩ := h
  simp only [exS] at he
  cases he
theorem goodS_retN : GoodS cl xc G k io .retN := by
  intro X M W hx tk ho st hm
  cases st with
  | Return v p =>
    cases v <;> simp only [mS] at hm <;> first | (cases hm; done) | skip
    refine PSi ps_retN fun D σ H h => ?_
    obtain ⟨Hs, n, fe, fr, r, be, he, hw⟩ := h
    simp only [exS] at he
    cases he
    exact hw _ σ Hs H fe zf be.stm (by simp only [Ow]; exact ⟨trivial, trivial⟩)
  | _ => simp only [mS] at hm <;> cases hm
theorem goodS_ret {a : IE} (ha : GoodE cl xc G k a) : GoodS cl xc G k io (.ret a) := by
  intro X M W hx tk ho st hm
  cases st with
  | Return v p =>
    cases v <;> simp only [mS] at hm <;> first | (cases hm; done) | skip
    refine PSi (ps_ret (ha X M W hx tk _ hm true)) fun D σ H h => ?_
    obtain ⟨Hs, n, fe, fr, r, be, he, hw⟩ := h
    simp only [exS] at he
    rcases bndS_some he with ⟨d, q, n1, e1, e2⟩ | ⟨c, n1, e1, rfl⟩
    · refine ⟨Hs, n, fe, fr, _, be, e1, fun x Hs1 H1 fe1 fv1 g1 v1 => ?_⟩
      cases e2
      exact hw x σ Hs1 H1 fe1 fv1 g1.stm v1
    · exact ⟨Hs, n, fe, fr, _, be, e1, ws_ex hw⟩
  | _ => simp only [mS] at hm <;> cases hm
theorem goodS_exp {a : IE} (ha : GoodE cl xc G k a) : GoodS cl xc G k io (.exp a) := by
  intro X M W hx tk ho st hm
  cases st <;> simp only [mS] at hm <;> first | (cases hm; done) | skip
  simp only [Bool.and_eq_true] at hm
  refine PSi (ps_expr (ha X M W hx tk _ hm.2 false) (swap_ok hm.1 _ _ _)) fun D σ H h => ?_
  obtain ⟨Hs, n, fe, fr, r, be, he, hw⟩ := h
  simp only [exS] at he
  rcases bndS_some he with ⟨d, q, n1, e1, e2⟩ | ⟨c, n1, e1, rfl⟩
  · refine ⟨Hs, n, fe, fr, _, be, e1, fun x Hs1 H1 fe1 fv1 g1 v1 => ?_⟩
    have z1 : fv1 = zf := v1.1
    subst z1
    cases e2
    exact hw σ Hs1 H1 fe1 g1.stm
  · exact ⟨Hs, n, fe, fr, _, be, e1, ws_ex hw⟩
theorem goodS_ite {c : IE} {t u : List IS} (hc : GoodT cl xc G k c) (ht : GoodL cl xc G k io t) (hu : GoodL cl xc G k io u) : GoodS cl xc G k io (.ite c t u) := by
  intro X M W hx tk ho st hm
  cases st <;> simp only [mS] at hm <;> first | (cases hm; done) | skip
  simp only [Bool.and_eq_true] at hm
  refine PSi (ps_if (hc X M W hx tk _ hm.1) (ht X M W hx tk ho _ hm.2.1) (hu X M W hx tk ho _ hm.2.2)) fun D σ H h => ?_
  obtain ⟨Hs, n, fe, fr, r, be, he, hw⟩ := h
  simp only [exS] at he
  rcases bndS_some he with ⟨b, q, n1, e1, e2⟩ | ⟨c, n1, e1, rfl⟩
  · refine ⟨Hs, n, fe, fr, _, be, e1, fun Hs1 H1 fe1 g1 => ?_⟩
    have g1s := g1.stm (io := io)
    cases b with
    | true => exact ⟨Hs1, n1, fe1, fr, r, g1s.be, e2, hw.trans g1s⟩
    | false => exact ⟨Hs1, n1, fe1, fr, r, g1s.be, e2, hw.trans g1s⟩
  · exact ⟨Hs, n, fe, fr, _, be, e1, ws_ex hw⟩
/-- a slot written -/
theorem EnvOw.putO {K : PySem.W.Frag} {Hs H : Hp} {n : Env} {σ : L2.St} {f g : Fp} {i : Nat} {d : D} {v : V} (h : EnvOw K cl Hs H n σ f) (o : Ow K cl Hs H d v g) : ∃ f', (∀ a, f' a ≤ addF f g a) ∧ EnvOw K cl Hs H (n.set i (some d)) (σ.set i (some v)) f' := by
  obtain ⟨g1, h1, e1, e2⟩ := h.drop i
  have hl := e2.length
  rw [List.length_set] at hl
  by_cases hs : i < σ.length
  · have h2 := (e2.any (some v)).fill (v := v) (by rw [List.getElem?_set_self hs]) o
    exact ⟨addF g h1, fun a => by rw [e1]; simp only [addF]; omega, h2⟩
  · rw [List.set_eq_of_length_le (by omega), List.set_eq_of_length_le (by omega)]
    exact ⟨f, fun a => by simp only [addF]; omega, h⟩
theorem okIO_ne {io : List Nat} {i : Nat} (h : okIO io [i] = true) : ∀ j ∈ io, j ≠ i := by
  intro j hj e
  subst e
  simp [okIO] at h
  exact h hj
theorem set_part {K : PySem.W.Frag} {W : WX} {a : IE} {i : Nat} {D : Ends} {σ : L2.St} {H : Hp} (h : tS K cl xc io W (fun n => exS G io (.set i a) n) D σ H) : tI K cl xc G W a true σ H fun x H1 => D.nx (σ.set i (some x)) H1 := by
  obtain ⟨Hs, n, fe, fr, r, be, he, hw⟩ := h
  simp only [exS] at he
  split at he
  · rename_i hio
    rcases bndS_some he with ⟨d, q, n1, e1, e2⟩ | ⟨c, n1, e1, rfl⟩
    · refine ⟨Hs, n, fe, fr, _, be, e1, fun x Hs1 H1 fe1 fv1 g1 v1 => ?_⟩
      cases e2
      obtain ⟨f', hf, env⟩ := g1.env.putO (i := i) v1
      exact hw _ Hs1 H1 f' ⟨g1.same, env, g1.ok.mono fun a => by have := hf a; simp only [addF, zf] at this ⊢; omega, g1.frm, fun j hj => List.getElem?_set_ne (fun e => okIO_ne hio j hj e.symm)⟩
    · exact ⟨Hs, n, fe, fr, _, be, e1, ws_ex hw⟩
  · cases he
theorem lcLine_ok {e : Expr} {l : Nat} {x : Str} (h : lcLine e l x = true) : ∃ f gs scope pos, e = .ListComp f gs scope pos ∧ (l == pos.line) = true ∧ (scope.names.any fun (n, k) => n == x && (k == .local || k == .cell)) = false := by
  cases e <;> first | (simp only [lcLine] at h; cases h; done) | skip
  simp only [lcLine, Bool.and_eq_true, beq_iff_eq] at h
  exact ⟨_, _, _, _, rfl, by simp [h.1], h.2⟩
/-- a term that may be a comprehension, and its parts -/
def PartsC (cl : Nat → Addr) (xc : Nat → Value) (G : Gam) (k : Nat) (a : IE) : Prop := match a with
  | .comp s ik as elt tst => (∀ a ∈ as, GoodE cl xc G k a) ∧ GoodE cl xc G k elt ∧ GoodT cl xc G k tst
  | _ => True
theorem goodS_set {i : Nat} {a : IE} (ha : GoodE cl xc G k a) (hc : PartsC cl xc G k a) : GoodS cl xc G k io (.set i a) := by
  intro X M W hx tk ho st hm
  unfold mS at hm
  split at hm <;> first | cases hm | skip
  all_goals (rename_i h1; cases h1)
  rename_i M x p e pos
  simp only [Bool.and_eq_true, Bool.or_eq_true, decide_eq_true_eq] at hm
  obtain ⟨h1, h2, h3⟩ := hm
  simp only [slotB, Bool.and_eq_true, decide_eq_true_eq] at h1
  rcases h3 with h3 | h3 | ⟨h3, h4⟩
  · exact PSi (ps_set (i := i) hx.nd (by rw [hx.N]; exact h1.1) (by rw [hx.sc]; exact loc_ok h1.2) (ha X _ W hx tk _ h2 true) (swap_ok h3 _ _ _) (.inl (ho.fn x))) fun D σ H h => set_part h
  · exact PSi (ps_set (i := i) hx.nd (by rw [hx.N]; exact h1.1) (by rw [hx.sc]; exact loc_ok h1.2) (ha X _ W hx tk _ h2 true) (swap_cell (by rw [hx.sc]; exact h3)) (.inl (ho.fn x))) fun D σ H h => set_part h
  · obtain ⟨f, gs, scope, pos2, rfl, h5, h6⟩ := lcLine_ok h4
    have ia : ∃ s ik as elt tst, a = .comp s ik as elt tst := by
      have h7 := h2
      unfold mE at h7
      split at h7 <;> first | (cases h7; done) | skip
      all_goals first
        | exact ⟨_, _, _, _, _, rfl⟩
        | (exfalso; rename_i hh _; cases hh; done)
        | (exfalso; rename_i hh; cases hh; done)
        | (simp [notLcB] at h7; done)
    obtain ⟨s, ik, as, elt, tst, rfl⟩ := ia
    obtain ⟨f', x', px, it, ifs, scope', pos', wi, tt, te, ee, k1, k2, k3, k4, k5, k6, k7⟩ := comp_parts hc.1 hc.2.1 hc.2.2 hx tk h2
    cases ee
    have hl : X.env.scope.names.lookup x = some .local := by rw [hx.sc]; exact h3
    exact PSi (ps_setLc (i := i) (own := [(x', s)]) (g := gName s) hx.calm hx.nd (by rw [hx.N]; exact h1.1) hl (sw_true hx.kind hl h5 h6) k1 k2 k3 k4 k5 k6) fun D σ H h => k7 true σ H _ (set_part h)
end
end Il
set_option Elab.async false
set_option linter.all false
set_option maxRecDepth 100000
set_option maxHeartbeats 1000000
/-! Il's statements over the hand layer: loops, stores. -/
namespace Il
open PySem L2 PySem.Spec PyProof.Rows
section
variable {X : Cx} {M : Mc} {cl : Nat → Addr} {xc : Nat → Value} {G : Gam} {k : Nat} {io : List Nat}
/-! ### targets -/
theorem slot_ok (hx : XOk X M cl xc G k) (ho : Own X) {i : Nat} {x : Str} {p : Pos} (h : slotB M i x = true) : PG X (.Name x p) (gName i) := by
  simp only [slotB, Bool.and_eq_true, decide_eq_true_eq] at h
  exact pg_name hx.nd (by rw [hx.N]; exact h.1) (by rw [hx.sc]; exact loc_ok h.2) (.inl (ho.fn x))
def gNames : List Nat → TGs
  | [] => gNil
  | i :: is => gCons (gName i) (gNames is)
theorem tgs_ok (hx : XOk X M cl xc G k) (ho : Own X) : ∀ {is : List Nat} {es : List Expr}, tgs M is es = true → PGs X es (gNames is)
  | [], [], _ => pgs_nil
  | [], _ :: _, h => by simp [tgs] at h
  | _ :: _, [], h => by simp [tgs] at h
  | i :: is, e :: es, h => by
    cases e <;> simp only [tgs] at h <;> first | (cases h; done) | skip
    simp only [Bool.and_eq_true] at h
    exact pgs_cons (slot_ok hx ho h.1) (tgs_ok hx ho h.2)
theorem tgs_len {is : List Nat} (env : PySem.Env) : ∀ {es : List Expr}, tgs M is es = true → (assignEach es env).length = is.length := by
  induction is with
  | nil =>
    intro es h
    cases es with
    | nil => rfl
    | cons _ _ => simp [tgs] at h
  | cons i is ih =>
    intro es h
    cases es with
    | nil => simp [tgs] at h
    | cons e es =>
      cases e <;> simp only [tgs] at h <;> first | (cases h; done) | skip
      simp only [Bool.and_eq_true] at h
      simp only [assignEach]
      rw [List.length_cons, List.length_cons, ih h.2]
theorem assign_names {is : List Nat} (env : PySem.Env) : ∀ {es : List Expr}, tgs M is es = true → (assignEach es env).findIdx? (fun x => x.1) = none := by
  induction is with
  | nil =>
    intro es h
    cases es with
    | nil => rfl
    | cons _ _ => simp [tgs] at h
  | cons i is ih =>
    intro es h
    cases es with
    | nil => simp [tgs] at h
    | cons e es =>
      cases e <;> simp only [tgs] at h <;> first | (cases h; done) | skip
      simp only [Bool.and_eq_true] at h
      have := ih h.2
      simp only [assignEach, List.findIdx?_cons, this]
      rfl
/-- a list of shared values stored -/
theorem sets_ok {K : PySem.W.Frag} {Hs H : Hp} : ∀ {is : List Nat} {ds : List D} {vs : List V} {n n' : Env} {σ : L2.St} {f : Fp}, sets n is ds = some n' → EnvOw K cl Hs H n σ f → ShL K Hs ds vs → okIO io is = true → ∀ (P : L2.St → Hp → Prop),
    (∀ σ' f', EnvOw K cl Hs H n' σ' f' → (∀ a, f' a ≤ f a) → (∀ i ∈ io, σ'[i]? = σ[i]?) → P σ' H) → gNames is vs σ H P
  | [], [], vs, n, n', σ, f, h, he, hs, _, P, hP => by
    simp only [sets] at h
    cases h
    simp only [ShL] at hs
    subst hs
    exact ⟨rfl, hP σ f he (fun _ => Nat.le_refl _) fun _ _ => rfl⟩
  | [], _ :: _, _, _, _, _, _, h, _, _, _, _, _ => by simp [sets] at h
  | _ :: _, [], _, _, _, _, _, h, _, _, _, _, _ => by simp [sets] at h
  | i :: is, d :: ds, vs, n, n', σ, f, h, he, hs, hio, P, hP => by
    simp only [sets] at h
    simp only [ShL] at hs
    obtain ⟨v, r, rfl, s1, s2⟩ := hs
    obtain ⟨f1, h1, h2⟩ := he.putO (i := i) (s1.ow (cl := cl) (H := H))
    have hio1 : okIO io [i] = true := by
      simp only [okIO, List.all_cons, Bool.and_eq_true, List.all_nil, Bool.and_true] at hio ⊢
      exact hio.1
    have hio2 : okIO io is = true := by
      simp only [okIO, List.all_cons, Bool.and_eq_true] at hio ⊢
      exact hio.2
    refine ⟨v, r, rfl, sets_ok h h2 s2 hio2 P fun σ' f' e le hi => hP σ' f' e (fun a => Nat.le_trans (le a) (by have := h1 a; simp only [addF, zf] at this; omega)) fun j hj => (hi j hj).trans (List.getElem?_set_ne fun e => okIO_ne hio1 j hj e.symm)⟩
/-- a target's value, stored -/
def gTg (K : PySem.W.Frag) (one : Bool) (is : List Nat) : TG := match one with
  | true => gName (is.headD 0)
  | false => gTup K is.length (gNames is)
theorem mTg_ok (hx : XOk X M cl xc G k) (ho : Own X) {one : Bool} {is : List Nat} {t : Expr} (h : mTg M one is t = true) : PG X t (gTg X.K one is) ∧ (one = true → ∃ i, is = [i]) := by
  cases t <;> simp only [mTg] at h <;> first | (cases h; done) | skip
  · split at h
    · exact ⟨slot_ok hx ho h, fun _ => ⟨_, rfl⟩⟩
    · cases h
  · split at h
    · refine ⟨?_, fun e => by cases e⟩
      unfold gTg
      exact pg_tup hx.calm (tgs_ok hx ho h) (tgs_len _ h) (assign_names _ h)
    · cases h
theorem gTg_ok {K : PySem.W.Frag} {Hs H : Hp} {one : Bool} {is : List Nat} {d : D} {ds : List D} {x : V} {n n' : Env} {σ : L2.St} {f : Fp} (h1 : (if one then some [d] else unpD is.length d) = some ds) (h2 : sets n is ds = some n') (ho : one = true → ∃ i, is = [i]) (he : EnvOw K cl Hs H n σ f) (sm : Same Hs H)
    (hx : Sh K Hs d x) (hio : okIO io is = true) (P : L2.St → Hp → Prop) (hP : ∀ σ' f', EnvOw K cl Hs H n' σ' f' → (∀ a, f' a ≤ f a) → (∀ i ∈ io, σ'[i]? = σ[i]?) → P σ' H) : gTg K one is x σ H P := by
  cases one with
  | true =>
    obtain ⟨i, rfl⟩ := ho rfl
    simp only [if_true] at h1
    cases h1
    have hs : ShL K Hs [d] [x] := by
      simp only [ShL]
      exact ⟨x, [], rfl, hx, rfl⟩
    have := sets_ok h2 he hs hio P hP
    obtain ⟨v, r, e, q⟩ := this
    cases e
    obtain ⟨_, q⟩ := q
    exact q
  | false =>
    simp only [Bool.false_eq_true, if_false] at h1
    unfold unpD at h1
    split at h1
    · split at h1
      · rename_i xs hl
        cases h1
        simp only [Sh, true_and] at hx
        obtain ⟨a, vs, rfl, s1, s2⟩ := hx
        exact ⟨a, vs, rfl, .of (sm _ _ s1), by rw [s2.length, hl], sets_ok h2 he s2 hio P hP⟩
      · cases h1
    · cases h1
theorem goodS_unp {is : List Nat} {a : IE} (ha : GoodE cl xc G k a) : GoodS cl xc G k io (.unp is a) := by
  intro X M W hx tk ho st hm
  unfold mS at hm
  split at hm <;> first | cases hm | skip
  all_goals (rename_i h1; cases h1)
  simp only [Bool.and_eq_true] at hm
  obtain ⟨h1, h2, h3, h4⟩ := hm
  refine PSi (ps_asg (ha X _ W hx tk _ h4 false) (pg_tup hx.calm (tgs_ok hx ho h1) (tgs_len _ h1) (assign_names _ h1)) (swapSole_ok h2 _ _) (noSwap_ok h3 _ _)) fun D σ H h => ?_
  obtain ⟨Hs, n, fe, fr, r, be, he, hw⟩ := h
  simp only [exS] at he
  split at he
  · rename_i hio
    rcases bndS_some he with ⟨d, q, n1, e1, e2⟩ | ⟨c, n1, e1, rfl⟩
    · refine ⟨Hs, n, fe, fr, _, be, e1, fun x Hs1 H1 fe1 fv1 g1 v1 => ?_⟩
      have z1 : fv1 = zf := v1.1
      subst z1
      cases hu : unpD is.length d with
      | none =>
        rw [hu] at e2
        cases e2
      | some ds =>
        rw [hu] at e2
        dsimp only at e2
        cases hs : sets n1 is ds with
        | none =>
          rw [hs] at e2
          cases e2
        | some n2 =>
          rw [hs] at e2
          cases e2
          have od : d.own = false := by
            unfold unpD at hu
            split at hu
            · rfl
            · cases hu
          refine gTg_ok (one := false) (is := is) (io := io) (by simpa using hu) hs (fun e => by cases e) g1.env g1.ok.ex (v1.shared od).1 hio _ fun σ' f' e le hi => ?_
          exact hw σ' Hs1 H1 f' ⟨g1.same, e, g1.ok.mono fun a => by have := le a; simp only [addF, zf]; omega, g1.frm, hi⟩
    · exact ⟨Hs, n, fe, fr, _, be, e1, ws_ex hw⟩
  · cases he
/-! ### loops -/
theorem goodS_whl {c : IE} {body : List IS} (hc : GoodT cl xc G k c) (hb : GoodL cl xc G k io body) : GoodS cl xc G k io (.whl c body) := by
  intro X M W hx tk ho st hm
  unfold mS at hm
  split at hm <;> first | cases hm | skip
  all_goals (rename_i h1; cases h1)
  simp only [Bool.and_eq_true] at hm
  refine PSi (ps_while ho.pass (hc X _ W hx tk _ hm.1) (hb X _ W hx tk ho _ hm.2)) fun D σ H h => ?_
  obtain ⟨Hs, n, fe, fr, r, be, he, hw⟩ := h
  simp only [exS] at he
  refine ⟨fun m σ' H' => ∃ n' Hs' fe', GoS X.K cl io Hs H fr σ n' σ' Hs' H' fe' zf ∧ whlGo (fun e => evt G c e) (fun e => exL G io body e) m n' = some r, ⟨most, n, Hs, fe, be.stm, he⟩, ?_⟩
  rintro m σ1 H1 ⟨n1, Hs1, fe1, g1, hr⟩
  cases m with
  | zero =>
    simp only [whlGo] at hr
    cases hr
  | succ m =>
    simp only [whlGo] at hr
    rcases bndS_some hr with ⟨b, q, n2, e1, e2⟩ | ⟨c, n2, e1, rfl⟩
    · refine ⟨Hs1, n1, fe1, fr, _, g1.be, e1, fun Hs2 H2 fe2 g2 => ?_⟩
      have g12 := g1.trans (g2.stm (io := io))
      cases b with
      | false =>
        show D.nx σ1 H2
        cases e2
        exact hw _ _ _ _ g12
      | true =>
        show ∃ N : L2.St → Hp → Prop, _
        rw [if_pos rfl] at e2
        refine ⟨fun σ' H' => ∃ n' Hs' fe', GoS X.K cl io Hs H fr σ n' σ' Hs' H' fe' zf ∧ whlGo (fun e => evt G c e) (fun e => exL G io body e) m n' = some r, fun σ' H' h => ⟨m, Nat.lt_succ_self m, h⟩, ?_⟩
        cases hbd : exL G io body n2 with
        | none =>
          rw [hbd] at e2
          cases e2
        | some rb =>
          rw [hbd] at e2
          refine ⟨Hs2, n2, fe2, fr, rb, g12.be, hbd, ?_⟩
          cases rb with
          | nx n3 => exact fun σ3 Hs3 H3 fe3 g3 => ⟨n3, Hs3, fe3, g12.trans g3, e2⟩
          | ct n3 => exact fun σ3 Hs3 H3 fe3 g3 => ⟨n3, Hs3, fe3, g12.trans g3, e2⟩
          | bk n3 =>
            cases e2
            exact fun σ3 Hs3 H3 fe3 g3 => hw _ _ _ _ (g12.trans g3)
          | rt d n3 =>
            cases e2
            exact fun v σ3 Hs3 H3 fe3 fv3 g3 o => hw v _ _ _ _ _ (g12.trans g3) o
          | ex c n3 =>
            cases e2
            exact fun σ3 Hs3 H3 fe3 g3 => hw _ _ _ _ (g12.trans g3)
    · exact ⟨Hs1, n1, fe1, fr, _, g1.be, e1, fun Hs2 H2 fe2 g2 => hw _ _ _ _ (g1.trans g2.stm)⟩
theorem goodS_for {tg : List Nat} {one : Bool} {ik : IK} {as : List IE} {body : List IS} (hg : ∀ a ∈ as, GoodE cl xc G k a) (hb : GoodL cl xc G k io body) : GoodS cl xc G k io (.forS tg one ik as body) := by
  intro X M W hx tk ho st hm
  unfold mS at hm
  split at hm <;> first | cases hm | skip
  all_goals (rename_i h1; cases h1)
  rename_i M t it b pos
  simp only [Bool.and_eq_true] at hm
  obtain ⟨h1, h2, h3⟩ := hm
  obtain ⟨pg, hone⟩ := mTg_ok hx ho h1
  refine PSi (ps_for ho.pass hx.calm (pi_ok hg hx tk h2) pg (hb X _ W hx tk ho _ h3) (set_ok (mIt_notSet h2) X.env)) fun D σ H h => ?_
  obtain ⟨Hs, n, fe, fr, r, be, he, hw⟩ := h
  simp only [exS] at he
  split at he
  · rename_i hio
    rcases bndS_some he with ⟨ds, q, n1, e1, e2⟩ | ⟨c, n1, e1, rfl⟩
    · refine ⟨Hs, n, fe, fr, _, be, e1, ?_⟩
      cases hit : items ik ds with
      | none =>
        rw [hit] at e2
        cases e2
      | some xs =>
        rw [hit] at e2
        refine ⟨xs, hit, fun J Hs1 H1 fe1 g1 wk => ?_⟩
        have g1s := g1.stm (io := io)
        refine ⟨fun i m σ' H' => m = xs.length - i ∧ i ≤ xs.length ∧ ∃ n' Hs' fe', Same Hs1 Hs' ∧ GoS X.K cl io Hs H fr σ n' σ' Hs' H' fe' zf ∧ forGo tg one (fun e => exL G io body e) (xs.drop i) n' = some r,
          ⟨xs.length, by simp, Nat.zero_le _, n1, Hs1, fe1, Same.refl _, g1s, by simpa using e2⟩, ?_⟩
        rintro i m σ2 H2 ⟨rfl, hle, n2, Hs2, fe2, sm2, g2, hr⟩
        by_cases hi : i < xs.length
        · obtain ⟨go, yld⟩ := (wk i Hs2 H2 sm2 g2.ok.ex).2 xs[i] (List.getElem?_eq_getElem hi)
          refine .inr ⟨go, fun σ' H' => i + 1 ≤ xs.length ∧ ∃ n' Hs' fe', Same Hs1 Hs' ∧ GoS X.K cl io Hs H fr σ n' σ' Hs' H' fe' zf ∧ forGo tg one (fun e => exL G io body e) (xs.drop (i + 1)) n' = some r,
            fun σ' H' h => ⟨xs.length - (i + 1), by omega, rfl, h⟩, fun x H3 y => ?_⟩
          have item : ∃ Hs3, Same Hs1 Hs3 ∧ Sh X.K Hs3 xs[i] x ∧ GoS X.K cl io Hs H fr σ n2 σ2 Hs3 H3 fe2 zf := by
            rcases yld x H3 y with ⟨rfl, s1⟩ | ⟨p, o, hp, rfl, s1⟩
            · exact ⟨Hs2, sm2, s1, g2⟩
            · have sm : Same Hs2 (upd Hs2 p o) := fun b u e => by
                rw [upd_ne]
                · exact e
                · intro z
                  rw [z, g2.ok.nil hp] at e
                  cases e
              have away : ∀ a, 1 ≤ addF fe2 (addF zf fr) a → (upd H2 p o) a = H2 a := fun a ha => upd_ne fun z => (g2.ok.own a ha).2 (by rw [z]; exact hp)
              exact ⟨upd Hs2 p o, sm2.trans sm, s1, g2.same.trans sm, g2.env.frame sm _ _ _ (fun a ha => away a (by simp only [addF]; omega)), g2.ok.newS hp, fun a ha => by rw [away a (by simp only [addF]; omega), g2.frm a ha], g2.ios⟩
          obtain ⟨Hs3, sm3, sh3, g3⟩ := item
          rw [List.drop_eq_getElem_cons hi] at hr
          simp only [forGo] at hr
          cases hu : (if one = true then some [xs[i]] else unpD tg.length xs[i]) with
          | none =>
            rw [hu] at hr
            cases hr
          | some dd =>
            rw [hu] at hr
            dsimp only at hr
            cases hs : sets n2 tg dd with
            | none =>
              rw [hs] at hr
              cases hr
            | some n3 =>
              rw [hs] at hr
              dsimp only at hr
              refine gTg_ok (io := io) hu hs hone g3.env g3.ok.ex sh3 hio _ fun σ4 f4 e4 le4 hi4 => ?_
              have g4 : GoS X.K cl io Hs H fr σ n3 σ4 Hs3 H3 f4 zf := ⟨g3.same, e4, g3.ok.mono fun a => by have := le4 a; simp only [addF, zf]; omega, g3.frm, fun j hj => (hi4 j hj).trans (g3.ios j hj)⟩
              cases hbd : exL G io body n3 with
              | none =>
                rw [hbd] at hr
                cases hr
              | some rb =>
                rw [hbd] at hr
                refine ⟨Hs3, n3, f4, fr, rb, g4.be, hbd, ?_⟩
                cases rb with
                | nx n5 => exact fun σ5 Hs5 H5 fe5 g5 => ⟨hi, n5, Hs5, fe5, sm3.trans g5.same, g4.trans g5, hr⟩
                | ct n5 => exact fun σ5 Hs5 H5 fe5 g5 => ⟨hi, n5, Hs5, fe5, sm3.trans g5.same, g4.trans g5, hr⟩
                | bk n5 =>
                  cases hr
                  exact fun σ5 Hs5 H5 fe5 g5 => hw _ _ _ _ (g4.trans g5)
                | rt d n5 =>
                  cases hr
                  exact fun v σ5 Hs5 H5 fe5 fv5 g5 o => hw v _ _ _ _ _ (g4.trans g5) o
                | ex c n5 =>
                  cases hr
                  exact fun σ5 Hs5 H5 fe5 g5 => hw _ _ _ _ (g4.trans g5)
        · have ei : i = xs.length := by omega
          refine .inl ⟨(wk i Hs2 H2 sm2 g2.ok.ex).1 ei, ?_⟩
          rw [ei, List.drop_length] at hr
          simp only [forGo] at hr
          cases hr
          exact hw _ _ _ _ g2
    · exact ⟨Hs, n, fe, fr, _, be, e1, ws_ex hw⟩
  · cases he
end
end Il
set_option Elab.async false
set_option linter.all false
set_option maxRecDepth 100000
set_option maxHeartbeats 1000000
/-! Il's statements over the hand layer: append; defs. -/
namespace Il
open PySem L2 PySem.Spec PyProof.Rows
section
variable {X : Cx} {M : Mc} {cl : Nat → Addr} {xc : Nat → Value} {G : Gam} {k : Nat} {io : List Nat}
theorem OwL.snoc {K : PySem.W.Frag} {Hs H : Hp} : ∀ {xs : List D} {vs : List V} {f g : Fp} {d : D} {v : V}, OwL K cl Hs H xs vs f → Ow K cl Hs H d v g → OwL K cl Hs H (xs ++ [d]) (vs ++ [v]) (addF f g)
  | [], _, _, g, d, v, h, o => by
    simp only [OwL] at h
    rw [h.1, h.2]
    simp only [List.nil_append, OwL]
    exact ⟨v, [], g, zf, rfl, o, ⟨rfl, rfl⟩, by rw [zf_addF, addF_zf]⟩
  | x :: xs, _, _, g, d, v, h, o => by
    simp only [OwL] at h
    obtain ⟨u, r, g1, g2, rfl, h2, h3, rfl⟩ := h
    simp only [List.cons_append, OwL]
    exact ⟨u, r ++ [v], g1, addF g2 g, rfl, h2, OwL.snoc h3 o, by rw [addF_assoc]⟩
theorem goodS_app {p a : IE} (ha : GoodE cl xc G k a) : GoodS cl xc G k io (.app p a) := by
  intro X M W hx tk ho st hm
  unfold mS at hm
  split at hm <;> first | cases hm | skip
  all_goals (rename_i h1; cases h1)
  rename_i i x px m apos e cpos pos
  simp only [Bool.and_eq_true, decide_eq_true_eq] at hm
  obtain ⟨rfl, h2, h3, h4, h5⟩ := hm
  refine PSi (ps_expr (pe_bm PySem.F.plainAttrs_list PySem.F.slot_list_append PySem.F.type_list_append mt_append (nm_ok hx h3) (pa_cons (ha X _ W hx tk _ h5 true) pa_nil (star_ok h4 _ _)) rfl (few1 h4 _ _) h2 (star_ok h4 _ _) rfl) (swap_ok rfl _ _ _)) fun D σ H h => ?_
  obtain ⟨Hs, n, fe, fr, r, be, he, hw⟩ := h
  simp only [exS, chg, place] at he
  split at he
  · rename_i hn
    cases z : gets n i with
    | none => simp [nodeOk, z] at hn
    | some d0 =>
      simp only [nodeOk, z, atP] at hn
      obtain ⟨v, g, f1, e1, e2, e3, e4⟩ := be.env.focus z
      have hl : ∃ xs0, d0 = .lst true xs0 := by
        cases d0 <;> try (simp [ownLst] at hn; done)
        rename_i o xs
        cases o <;> first | (simp [ownLst] at hn; done) | exact ⟨xs, rfl⟩
      obtain ⟨xs0, rfl⟩ := hl
      have e2' := e2
      simp only [Ow] at e2'
      obtain ⟨ad, vs0, g0, rfl, l1, _, _⟩ := e2'
      refine ⟨.ref ad, e1, .inl ⟨rfl, vs0, .of l1⟩, ?_⟩
      rcases bndS_some he with ⟨d, q, n1, e5, e6⟩ | ⟨c, n1, e5, rfl⟩
      · refine ⟨Hs, n, fe, fr, _, be, e5, fun x Hs1 H1 fe1 fv1 g1 v1 => ?_⟩
        simp only [List.isEmpty_nil, Bool.not_true, Bool.and_false, Bool.false_eq_true, if_false, chgAt] at e6
        cases z1 : gets n1 i with
        | none =>
          rw [z1] at e6
          cases e6
        | some r1 =>
          rw [z1] at e6
          simp only [atP] at e6
          cases hf : fApp r1 d with
          | none =>
            rw [hf] at e6
            cases e6
          | some n2 =>
            rw [hf] at e6
            cases e6
            unfold fApp at hf
            split at hf
            · rename_i xs
              split at hf
              · rename_i hlen
                cases hf
                obtain ⟨v', g', f', k1, k2, k3, k4⟩ := g1.env.focus z1
                rw [e1] at k1
                cases k1
                have k2' := k2
                simp only [Ow] at k2'
                obtain ⟨ad', vs, gx, ee, m1, m2, m3⟩ := k2'
                cases ee
                have hD : 1 ≤ g' ad := by
                  rw [m3]
                  simp only [addF, one_self]
                  omega
                have tot := g1.ok
                rw [k3] at tot
                have ne : ∀ a, 1 ≤ addF f' (addF fv1 fr) a → a ≠ ad := fun a hA e => by
                  subst e
                  have := tot.le a
                  simp only [addF] at this hA
                  omega
                have nex : ∀ a, 1 ≤ gx a → a ≠ ad := fun a hA e => by
                  subst e
                  have := tot.le a
                  rw [m3] at this
                  simp only [addF, one_self] at this hA
                  omega
                refine ⟨ad, vs, x, rfl, rfl, m1, by rw [m2.length, line_eq]; exact hlen, ?_⟩
                have env2 := (k4.frame (H' := upd H1 ad (.lst (vs ++ [x]))) (Same.refl _) _ _ _ (fun a hA => upd_ne (ne a (by simp only [addF]; omega)))).fill (d := .lst true (xs ++ [d])) (g := addF (one ad) (addF gx fv1)) e1 (by
                  simp only [Ow]
                  exact ⟨ad, vs ++ [x], addF gx fv1, rfl, upd_same, (m2.frame (Same.refl _) _ _ _ (fun a hA => upd_ne (nex a hA))).snoc (Ow.frame (Same.refl _) _ _ _ (fun a hA => upd_ne (ne a (by simp only [addF]; omega))) v1), rfl⟩)
                exact hw _ _ _ _ ⟨g1.same, env2, (g1.ok.put (p := ad) (o := .lst (vs ++ [x])) (by rw [k3]; simp only [addF]; omega)).congr fun a => by rw [k3, m3]; simp only [addF, zf]; omega, fun a hA => by rw [upd_ne (ne a (by simp only [addF]; omega)), g1.frm a hA], fun _ _ => rfl⟩
              · cases hf
            · cases hf
      · exact ⟨Hs, n, fe, fr, _, be, e5, ws_ex hw⟩
  · cases he
/-! ### all expressions, all statements -/
theorem gE_nop : GoodE cl xc G k .nop := by
  intro X M W hx tk e hm w
  unfold mE at hm
  cases hm
end
end Il
set_option Elab.async false
set_option linter.all false
set_option maxRecDepth 100000
set_option maxHeartbeats 1000000
/-! Il's statements over the hand layer: append of what is shared, extend. -/
namespace Il
open PySem L2 PySem.Spec PyProof.Rows
section
variable {X : Cx} {M : Mc} {cl : Nat → Addr} {xc : Nat → Value} {G : Gam} {k : Nat} {io : List Nat}
/-- a list in a slot, changed by what is told by a shared value -/
theorem lst_chg {K : PySem.W.Frag} {W : WX} {De : Ends} {σ : L2.St} {H : Hp} {Hs : Hp} {n : Env} {fe fr : Fp} {i : Nat} {r : F} {a : IE} {f : D → D → Option D} {Q : VK} {ad : Addr}
    (be : Be K cl Hs H n fe fr σ) (e1 : σ[i]? = some (some (.ref ad))) (hw : WS K cl xc io W De σ Hs H fr r)
    (he : bndS (match ev G a false n with
      | some (.ok d q e1) => if d.own then none else some (.ok d q e1)
      | r => r) (fun d q e1 => if !q && !([] : List Nat).isEmpty then none else chgAt i [] e1 d f) = some r)
    (hf : ∀ o d n', f o d = some n' → ∃ xs ys, o = .lst true xs ∧ n' = .lst true (xs ++ ys))
    (hQ : ∀ (d : D) (xs ys : List D) (x : V) (vs : List V) (Hs1 H1 : Hp), f (.lst true xs) d = some (.lst true (xs ++ ys)) → Same Hs1 H1 → Sh K Hs1 d x → H1 ad = some (.lst vs) → vs.length = xs.length →
      ∃ us, ShL K Hs1 ys us ∧ (De.nx σ (upd H1 ad (.lst (vs ++ us))) → Q x H1)) : tI K cl xc G W a false σ H Q := by
  rcases bndS_some he with ⟨d, q, n1, e5, e6⟩ | ⟨c, n1, e5, rfl⟩
  · have ⟨e5, od⟩ : ev G a false n = some (.ok d q n1) ∧ d.own = false := by
      split at e5
      · rename_i d' q' n' e7
        split at e5
        · cases e5
        · rename_i ho
          cases e5
          exact ⟨e7, by simpa using ho⟩
      · rename_i hno
        exact absurd e5 (hno d q n1)
    refine ⟨Hs, n, fe, fr, _, be, e5, fun x Hs1 H1 fe1 fv1 g1 v1 => ?_⟩
    obtain ⟨sx, zz⟩ := v1.shared od
    subst zz
    simp only [List.isEmpty_nil, Bool.not_true, Bool.and_false, Bool.false_eq_true, if_false, chgAt] at e6
    cases z1 : gets n1 i with
    | none =>
      rw [z1] at e6
      cases e6
    | some r1 =>
      rw [z1] at e6
      simp only [atP] at e6
      cases hfr : f r1 d with
      | none =>
        rw [hfr] at e6
        cases e6
      | some n2 =>
        rw [hfr] at e6
        cases e6
        obtain ⟨xs, ys, rfl, rfl⟩ := hf _ _ _ hfr
        obtain ⟨v', g', f', k1, k2, k3, k4⟩ := g1.env.focus z1
        rw [e1] at k1
        cases k1
        have k2' := k2
        simp only [Ow] at k2'
        obtain ⟨ad', vs, gx, ee, m1, m2, m3⟩ := k2'
        cases ee
        obtain ⟨us, sus, fin⟩ := hQ d xs ys x vs Hs1 H1 hfr g1.ok.ex sx m1 m2.length
        refine fin ?_
        have hD : 1 ≤ g' ad := by
          rw [m3]
          simp only [addF, one_self]
          omega
        have tot := g1.ok
        rw [k3] at tot
        have ne : ∀ b, 1 ≤ addF f' fr b → b ≠ ad := fun b hA e => by
          subst e
          have := tot.le b
          simp only [addF, zf] at this hA
          omega
        have nex : ∀ b, 1 ≤ gx b → b ≠ ad := fun b hA e => by
          subst e
          have := tot.le b
          rw [m3] at this
          simp only [addF, one_self] at this hA
          omega
        have app : ∀ {as : List D} {ws : List V} {h : Fp} {bs : List D} {zs : List V}, OwL K cl Hs1 (upd H1 ad (.lst (vs ++ us))) as ws h → ShL K Hs1 bs zs → OwL K cl Hs1 (upd H1 ad (.lst (vs ++ us))) (as ++ bs) (ws ++ zs) h := by
          intro as
          induction as with
          | nil =>
            intro ws h bs zs p1 p2
            simp only [OwL] at p1
            rw [p1.1, p1.2]
            exact p2.owl
          | cons b as ih =>
            intro ws h bs zs p1 p2
            simp only [OwL] at p1
            obtain ⟨u, r, g1, g2, rfl, o2, o3, rfl⟩ := p1
            simp only [List.cons_append, OwL]
            exact ⟨u, r ++ zs, g1, g2, rfl, o2, ih o3 p2, rfl⟩
        have env2 := (k4.frame (H' := upd H1 ad (.lst (vs ++ us))) (Same.refl _) _ _ _ (fun b hA => upd_ne (ne b (by simp only [addF]; omega)))).fill (d := .lst true (xs ++ ys)) (g := addF (one ad) gx) e1 (by
          simp only [Ow]
          exact ⟨ad, vs ++ us, gx, rfl, upd_same, app (m2.frame (Same.refl _) _ _ _ (fun b hA => upd_ne (nex b hA))) sus, rfl⟩)
        exact hw _ _ _ _ ⟨g1.same, env2, (g1.ok.put (p := ad) (o := .lst (vs ++ us)) (by rw [k3]; simp only [addF]; omega)).congr fun b => by rw [k3, m3], fun b hA => by rw [upd_ne (ne b (by simp only [addF]; omega)), g1.frm b hA], fun _ _ => rfl⟩
  · have e5 : ev G a false n = some (.ex c n1) := by
      split at e5
      · split at e5 <;> cases e5
      · exact e5
    exact ⟨Hs, n, fe, fr, _, be, e5, ws_ex hw⟩
theorem goodS_apS {p a : IE} (ha : GoodE cl xc G k a) : GoodS cl xc G k io (.apS p a) := by
  intro X M W hx tk ho st hm
  unfold mS at hm
  split at hm <;> first | cases hm | skip
  all_goals (rename_i h1; cases h1)
  rename_i i x px m apos e cpos pos
  simp only [Bool.and_eq_true, decide_eq_true_eq] at hm
  obtain ⟨rfl, h2, h3, h4, h5⟩ := hm
  refine PSi (ps_expr (pe_bm PySem.F.plainAttrs_list PySem.F.slot_list_append PySem.F.type_list_append mt_append (nm_ok hx h3) (pa_cons (ha X _ W hx tk _ h5 false) pa_nil (star_ok h4 _ _)) rfl (few1 h4 _ _) h2 (star_ok h4 _ _) rfl) (swap_ok rfl _ _ _)) fun D σ H h => ?_
  obtain ⟨Hs, n, fe, fr, r, be, he, hw⟩ := h
  simp only [exS, chg, place] at he
  split at he
  · rename_i hn
    cases z : gets n i with
    | none => simp [nodeOk, z] at hn
    | some d0 =>
      simp only [nodeOk, z, atP] at hn
      obtain ⟨v, g, f1, e1, e2, e3, e4⟩ := be.env.focus z
      have hl : ∃ xs0, d0 = .lst true xs0 := by
        cases d0 <;> try (simp [ownLst] at hn; done)
        rename_i o xs
        cases o <;> first | (simp [ownLst] at hn; done) | exact ⟨xs, rfl⟩
      obtain ⟨xs0, rfl⟩ := hl
      simp only [Ow] at e2
      obtain ⟨ad, vs0, g0, rfl, l1, _, _⟩ := e2
      refine ⟨.ref ad, e1, .inl ⟨rfl, vs0, .of l1⟩, ?_⟩
      refine lst_chg be e1 hw he (fun o d n' hf => ?_) fun d xs ys x vs Hs1 H1 hf sm sx hv hl => ?_
      · unfold fApp at hf
        split at hf
        · split at hf
          · cases hf
            exact ⟨_, _, rfl, rfl⟩
          · cases hf
        · cases hf
      · unfold fApp at hf
        dsimp only at hf
        split at hf
        · rename_i hlen
          have hf := Option.some.inj hf
          simp only [Il.D.lst.injEq, true_and] at hf
          have ey := List.append_cancel_left hf
          subst ey
          exact ⟨[x], by simp only [ShL]; exact ⟨x, [], rfl, sx, rfl⟩, fun q => ⟨ad, vs, x, rfl, rfl, hv, by rw [hl, line_eq]; exact hlen, q⟩⟩
        · cases hf
  · cases he
theorem goodS_ext {p a : IE} (ha : GoodE cl xc G k a) : GoodS cl xc G k io (.ext p a) := by
  intro X M W hx tk ho st hm
  unfold mS at hm
  split at hm <;> first | cases hm | skip
  all_goals (rename_i h1; cases h1)
  rename_i i x px m apos e cpos pos
  simp only [Bool.and_eq_true, decide_eq_true_eq] at hm
  obtain ⟨rfl, h2, h3, h4, h5⟩ := hm
  refine PSi (ps_expr (pe_bm PySem.F.plainAttrs_list PySem.F.slot_list_extend PySem.F.type_list_extend mt_extend (nm_ok hx h3) (pa_cons (ha X _ W hx tk _ h5 false) pa_nil (star_ok h4 _ _)) rfl (few1 h4 _ _) h2 (star_ok h4 _ _) rfl) (swap_ok rfl _ _ _)) fun D σ H h => ?_
  obtain ⟨Hs, n, fe, fr, r, be, he, hw⟩ := h
  simp only [exS, chg, place] at he
  split at he
  · rename_i hn
    cases z : gets n i with
    | none => simp [nodeOk, z] at hn
    | some d0 =>
      simp only [nodeOk, z, atP] at hn
      obtain ⟨v, g, f1, e1, e2, e3, e4⟩ := be.env.focus z
      have hl : ∃ xs0, d0 = .lst true xs0 := by
        cases d0 <;> try (simp [ownLst] at hn; done)
        rename_i o xs
        cases o <;> first | (simp [ownLst] at hn; done) | exact ⟨xs, rfl⟩
      obtain ⟨xs0, rfl⟩ := hl
      simp only [Ow] at e2
      obtain ⟨ad, vs0, g0, rfl, l1, _, _⟩ := e2
      refine ⟨.ref ad, e1, .inl ⟨rfl, vs0, .of l1⟩, ?_⟩
      refine lst_chg be e1 hw he (fun o d n' hf => ?_) fun d xs ys x vs Hs1 H1 hf sm sx hv hl => ?_
      · unfold fExt at hf
        split at hf
        · split at hf
          · cases hf
            exact ⟨_, _, rfl, rfl⟩
          · cases hf
        · cases hf
      · unfold fExt at hf
        split at hf
        · rename_i xs' ys' ee
          cases ee
          split at hf
          · rename_i hlen
            have hf := Option.some.inj hf
            simp only [Il.D.lst.injEq, true_and] at hf
            have ey := List.append_cancel_left hf
            subst ey
            simp only [Sh, true_and] at sx
            obtain ⟨b, us, rfl, s1, s2⟩ := sx
            exact ⟨us, s2, fun q => ⟨ad, b, vs, us, rfl, rfl, hv, sm _ _ s1, by rw [hl, s2.length, line_eq]; exact hlen, q⟩⟩
          · cases hf
        · cases hf
  · cases he
/-! ### xs[i] = e, d[k] = e -/
theorem PSc {st : Stmt} {t : TS} (k : ∀ D σ H, t D σ H → ∃ t', PS X st t' ∧ t' D σ H) : PS X st t := ⟨fun pins s σ H D I hw => by
  obtain ⟨t', h, q⟩ := k D σ H hw
  exact h.run pins s σ H D I q⟩
theorem OwL.put {K : PySem.W.Frag} {Hs H : Hp} : ∀ {xs : List D} {vs : List V} {f : Fp} {d : D} {v : V} {j : Nat} {x : D}, OwL K cl Hs H xs vs f → xs[j]? = some x → x.own = false → Sh K Hs d v → OwL K cl Hs H (xs.set j d) (vs.set j v) f
  | [], _, _, _, _, j, _, _, e, _, _ => by simp at e
  | y :: xs, _, _, d, v, 0, x, o, e, hx, hd => by
    simp only [OwL] at o
    obtain ⟨u, r, g1, g2, rfl, o1, o2, rfl⟩ := o
    have ey : y = x := by simpa using e
    subst ey
    obtain ⟨_, rfl⟩ := o1.sh hx
    simp only [List.set_cons_zero, OwL]
    exact ⟨v, r, zf, g2, rfl, hd.ow, o2, rfl⟩
  | y :: xs, _, _, d, v, j + 1, x, o, e, hx, hd => by
    simp only [OwL] at o
    obtain ⟨u, r, g1, g2, rfl, o1, o2, rfl⟩ := o
    simp only [List.set_cons_succ, OwL]
    exact ⟨u, r.set j v, g1, g2, rfl, o1, OwL.put o2 (by simpa using e) hx hd, rfl⟩
/-- a dict with one entry more, or another value -/
theorem put_ok {κ : Type} [DecidableEq κ] {g : Ky → κ} {P : Ky → Prop} (inj : ∀ a b, P a → P b → g a = g b → a = b) {q : Ky} (hq : P q) {d : D} {v : V} {K : PySem.W.Frag} {Hs : Hp} (hd : Sh K Hs d v) :
    ∀ {ks : List Ky} {ds : List D} {vs : List V}, (∀ k ∈ ks, P k) → ks.length = ds.length → ShL K Hs ds vs → ks.Nodup →
      ∃ us, ((put ks ds q d).1.map g).zip us = putK ((ks.map g).zip vs) (g q) v ∧ ShL K Hs (put ks ds q d).2 us ∧ (put ks ds q d).1.length = us.length ∧ (∀ k ∈ (put ks ds q d).1, P k) ∧ (put ks ds q d).1.Nodup ∧ ∀ k ∈ (put ks ds q d).1, k ∈ ks ∨ k = q
  | [], [], vs, hk, hl, h, nd => by
    simp only [ShL] at h
    subst h
    refine ⟨[v], rfl, ?_, rfl, ?_, ?_, ?_⟩
    · simp only [put, ShL]
      exact ⟨v, [], rfl, hd, rfl⟩
    · intro k hk
      simp only [put, List.mem_singleton] at hk
      rw [hk]
      exact hq
    · simp [put]
    · intro k hk
      simp only [put, List.mem_singleton] at hk
      exact .inr hk
  | [], _ :: _, _, _, hl, _, _ => by simp at hl
  | _ :: _, [], _, _, hl, _, _ => by simp at hl
  | k :: ks, x :: ds, vs, hk, hl, h, nd => by
    simp only [ShL] at h
    obtain ⟨u, r, rfl, h1, h2⟩ := h
    obtain ⟨nk, nd2⟩ := List.nodup_cons.mp nd
    by_cases e : k = q
    · subst e
      have same : ((ks.map g).zip r).map (fun kv => if kv.1 = g k then (kv.1, v) else kv) = (ks.map g).zip r := by
        have h0 : ∀ kv ∈ (ks.map g).zip r, (if kv.1 = g k then (kv.1, v) else kv) = id kv := by
          rintro ⟨c, w⟩ hkv
          obtain ⟨k', hk', e⟩ := List.mem_map.mp (List.of_mem_zip hkv).1
          rw [if_neg]
          · rfl
          · intro z
            have z : c = g k := z
            rw [← e] at z
            have := inj _ _ (hk _ (List.mem_cons_of_mem _ hk')) hq z
            rw [this] at hk'
            exact nk hk'
        rw [List.map_congr_left h0, List.map_id]
      refine ⟨v :: r, ?_, ?_, ?_, ?_, ?_, ?_⟩
      · simp [put, putK, same]
      · simp only [put, if_true, ShL]
        exact ⟨v, r, rfl, hd, h2⟩
      · have := h2.length
        simp only [put, if_true, List.length_cons]
        simp only [List.length_cons] at hl
        omega
      · simp only [put, if_true]
        exact hk
      · simp only [put, if_true]
        exact nd
      · simp only [put, if_true]
        exact fun k' h' => .inl h'
    · obtain ⟨us, i1, i2, i3, i4, i5, i6⟩ := put_ok inj hq hd (ks := ks) (fun k' m => hk k' (List.mem_cons_of_mem _ m)) (by simpa using hl) h2 nd2
      have ne : ¬ g k = g q := fun z => e (inj _ _ (hk _ (List.mem_cons_self ..)) hq z)
      refine ⟨u :: us, ?_, ?_, ?_, ?_, ?_, ?_⟩
      · simp only [put, if_neg e, List.map_cons, List.zip_cons_cons, i1]
        unfold putK
        simp only [List.any_cons, decide_eq_false ne, Bool.false_or, List.map_cons, if_neg ne, List.cons_append]
        split <;> rfl
      · simp only [put, if_neg e, ShL]
        exact ⟨u, us, rfl, h1, i2⟩
      · simp only [put, if_neg e, List.length_cons, i3]
      · simp only [put, if_neg e]
        intro k' h'
        rcases List.mem_cons.mp h' with rfl | h'
        · exact hk _ (List.mem_cons_self ..)
        · exact i4 k' h'
      · simp only [put, if_neg e]
        refine List.nodup_cons.mpr ⟨fun z => ?_, i5⟩
        rcases i6 k z with z | z
        · exact nk z
        · exact e z
      · simp only [put, if_neg e]
        intro k' h'
        rcases List.mem_cons.mp h' with rfl | h'
        · exact .inl (List.mem_cons_self ..)
        · rcases i6 k' h' with z | z
          · exact .inl (List.mem_cons_of_mem _ z)
          · exact .inr z
/-- the slot's object, changed: the parts that stay as they are -/
theorem slot_put {K : PySem.W.Frag} {Hs H : Hp} {n : Env} {fe fr : Fp} {σ : L2.St} {i : Nat} {d1 : D} {ad : Addr} {o : HO} {g0 f1 : Fp} (be : Be K cl Hs H n fe fr σ) (e1 : σ[i]? = some (some (.ref ad))) (e3 : fe = addF (addF (one ad) g0) f1) (e4 : EnvOw K cl Hs H (n.set i none) σ f1)
    (hd : ∀ H', (∀ b, 1 ≤ g0 b → H' b = H b) → H' ad = some o → Ow K cl Hs H' d1 (.ref ad) (addF (one ad) g0)) : GoS K cl io Hs H fr σ (n.set i (some d1)) σ Hs (upd H ad o) fe zf := by
  have tot := be.ok
  rw [e3] at tot
  have ne : ∀ b, 1 ≤ addF f1 fr b → b ≠ ad := fun b hA e => by
    subst e
    have := tot.le b
    simp only [addF, one_self] at this hA
    omega
  have nex : ∀ b, 1 ≤ g0 b → b ≠ ad := fun b hA e => by
    subst e
    have := tot.le b
    simp only [addF, one_self] at this hA
    omega
  have env2 := (e4.frame (H' := upd H ad o) (Same.refl _) _ _ _ (fun b hA => upd_ne (ne b (by simp only [addF]; omega)))).fill (d := d1) e1 (hd (upd H ad o) (fun b hA => upd_ne (nex b hA)) upd_same)
  refine ⟨Same.refl _, by rw [e3]; exact env2, ?_, fun b hA => upd_ne (ne b (by simp only [addF]; omega)), fun _ _ => rfl⟩
  have ok2 := be.ok.put (p := ad) (o := o) (by rw [e3]; simp only [addF, one_self]; omega)
  exact ok2.congr fun b => by simp only [addF, zf]; omega
theorem goodS_sub {p kx a : IE} (hk : GoodE cl xc G k kx) (ha : GoodE cl xc G k a) : GoodS cl xc G k io (.sub p kx a) := by
  intro X M W hx tk ho st hm
  unfold mS at hm
  split at hm <;> first | cases hm | skip
  all_goals (rename_i h1; cases h1)
  rename_i i x px f ps e pos
  simp only [Bool.and_eq_true] at hm
  obtain ⟨h1, h2, h3, h4, h5, h6⟩ := hm
  -- the parts: the value, the slot, the key; then what is put
  have parts : ∀ {De : Ends} {σ : L2.St} {H : Hp} (P : V → V → V → Hp → Prop), tS X.K cl xc io W (fun n => exS G io (.sub (.var i) kx a) n) De σ H →
      (∀ (x y v : V) (H2 Hs2 : Hp) (o d dk n2 : D) (n : Env) (fe fr g0 f1 : Fp), Be X.K cl Hs2 H2 n fe fr σ → σ[i]? = some (some x) → gets n i = some o → Ow X.K cl Hs2 H2 o x g0 → fe = addF g0 f1 → EnvOw X.K cl Hs2 H2 (n.set i none) σ f1 → Sh X.K Hs2 d v → Sh X.K Hs2 dk y → d.own = false → fSub dk o d = some n2 →
        (∀ σ' Hs' H' fe', GoS X.K cl io Hs2 H2 fr σ (n.set i (some n2)) σ' Hs' H' fe' zf → De.nx σ' H') → P v x y H2) →
      tI X.K cl xc G W a false σ H fun v H1 => tVar i σ H1 fun x H1 => tI X.K cl xc G W kx false σ H1 fun y H2 => P v x y H2 := by
    intro De σ H P h hP
    obtain ⟨Hs, n, fe, fr, r, be, he, hw⟩ := h
    simp only [exS] at he
    rcases bndS_some he with ⟨d, q, n1, e1, e2⟩ | ⟨c, n1, e1, rfl⟩
    · refine ⟨Hs, n, fe, fr, _, be, e1, fun v Hs1 H1 fe1 fv1 g1 v1 => ?_⟩
      have z1 : fv1 = zf := v1.1
      subst z1
      split at e2
      · cases e2
      · rename_i od
        have od : d.own = false := by simpa using od
        obtain ⟨sv, _⟩ := v1.shared od
        simp only [place] at e2
        split at e2
        · rename_i hsome
          split at e2
          · rename_i y n2 e3
            split at e2
            · cases e2
            · rename_i oy
              have g1s := g1.stm (io := io)
              have b1 := g1s.be
              obtain ⟨o1, z0⟩ := Option.isSome_iff_exists.mp hsome
              obtain ⟨x0, _, _, hs, _, _, _⟩ := b1.env.focus z0
              refine ⟨x0, hs, Hs1, n1, fe1, fr, _, b1, e3, fun yv Hs2 H2 fe2 fv2 g2 v2 => ?_⟩
              have z2 : fv2 = zf := v2.1
              subst z2
              obtain ⟨sy, _⟩ := v2.shared (by simpa using oy)
              have g2s := g2.stm (io := io)
              have b2 := g2s.be
              simp only [chgAt] at e2
              cases z : gets n2 i with
              | none =>
                rw [z] at e2
                cases e2
              | some o =>
                rw [z] at e2
                simp only [atP] at e2
                cases hf : fSub y o d with
                | none =>
                  rw [hf] at e2
                  cases e2
                | some n3 =>
                  rw [hf] at e2
                  cases e2
                  obtain ⟨v', g', f', k1, k2, k3, k4⟩ := b2.env.focus z
                  rw [hs] at k1
                  cases k1
                  refine hP _ _ _ H2 Hs2 o d y n3 n2 fe2 fr g' f' b2 hs z k2 k3 k4 (sv.mono g2.same _ _) sy od hf fun σ' Hs' H' fe' g => ?_
                  exact hw _ _ _ _ ((g1s.trans g2s).trans g)
          · cases e2
        · cases e2
    · exact ⟨Hs, n, fe, fr, _, be, e1, ws_ex hw⟩
  have both : PSet X (fun o i v H Q => rSetL o i v H Q ∨ rSetD o i v H Q) := fun pins s σ H o i v ov iv u Q I ro ri rv h => by
    rcases h with h | h
    · exact set_list pins s σ H o i v ov iv u Q I ro ri rv h
    · exact set_dict (by have := hx.units; omega) pins s σ H o i v ov iv u Q I ro ri rv h
  refine PSi (ps_asg (ha X _ W hx tk _ h6 false) (pg_sub (nm_ok hx h1) (hk X _ W hx tk _ h5 false) both (by cases f <;> first | (intro _; rfl) | cases h2)) (swapSole_ok h3 _ _) (noSwap_ok h4 _ _) rfl) fun De σ H h => ?_
  refine parts _ h fun x y v H2 Hs2 o d dk n2 n fe fr g0 f1 be hs hg ow e3 e4 sd sk od hf fin => ?_
  unfold fSub at hf
  rw [if_neg (by rw [od]; exact Bool.false_ne_true)] at hf
  split at hf
  · rename_i xs
    simp only [Ow] at ow
    obtain ⟨ad, vs, gx, rfl, m1, m2, m3⟩ := ow
    split at hf
    · rename_i ix
      simp only [Sh] at sk
      subst sk
      split at hf
      · rename_i j hj
        split at hf
        · rename_i x0 hx0
          split at hf
          · cases hf
          · rename_i ox0
            cases hf
            refine .inl ⟨ad, vs, ix, j, rfl, rfl, m1, by rw [m2.length]; exact hj, fin _ _ _ _ (slot_put be hs (by rw [e3, m3]) e4 fun H' hk' hat => ?_)⟩
            simp only [Ow]
            exact ⟨ad, vs.set j v, gx, rfl, hat, (m2.frame (Same.refl _) _ _ _ hk').put hx0 (by simpa using ox0) sd, rfl⟩
        · cases hf
      · cases hf
    · cases hf
  · rename_i kd ks ds
    split at hf
    · rename_i z hz
      split at hf
      · rename_i hc
        simp only [Bool.and_eq_true, decide_eq_true_eq] at hc
        obtain ⟨⟨hok, hno⟩, hlen⟩ := hc
        cases hf
        have ow' := ow
        simp only [Ow] at ow
        obtain ⟨ad, vs, gx, rfl, m1, ⟨m2, m3, m4⟩, m5, m6⟩ := ow
        obtain ⟨sh, rfl⟩ := OwL.shl hno m5
        have hl : ks.length = ds.length := by rw [m2, sh.length]
        have hl2 : ∀ {κ : Type} (g : Ky → κ), ((ks.map g).zip vs).length < sizeLine := fun g => by
          rw [List.length_zip, List.length_map, ← m2, Nat.min_self, line_eq]
          exact hlen
        cases kd with
        | k =>
          cases z with
          | t as => simp [kyOk] at hok
          | a ak =>
            have pl : akPlain ak = true := by simpa only [kyOk] using hok
            have hv : y = kV (akK ak) := by
              rw [kV_akK pl]
              have hk2 : akey dk = some ak := by
                unfold key at hz
                split at hz
                · cases h9 : akeys _ <;> rw [h9] at hz <;> simp at hz
                · cases h9 : akey dk <;> rw [h9] at hz <;> simp at hz
                  rw [hz]
              exact akV_of (cl := cl) (H := H2) hk2 sk.ow
            obtain ⟨us, i1, i2, i3, i4, i5, _⟩ := put_ok (g := kyK) (P := fun k => kyOk .k k = true) (fun _ _ => kyK_inj) hok sd m3 hl sh m4
            refine .inr ⟨ad, _, rfl, by rw [hv]; exact .k m1 (hl2 kyK), fin _ _ _ _ (slot_put be hs (by rw [e3, m6]) e4 fun H' hk' hat => ?_)⟩
            simp only [Ow]
            refine ⟨ad, us, zf, rfl, ?_, ⟨i3, i4, i5⟩, i2.owl, rfl⟩
            rw [hat]
            show some (HO.dK _) = some (HO.dK _)
            rw [i1]
            rfl
        | t =>
          cases z with
          | a ak => simp [kyOk] at hok
          | t as =>
            have pl : as.all akPlain = true := by simpa only [kyOk] using hok
            have hk2 : ∃ xs, dk = .tup false xs ∧ akeys xs = some as := by
              unfold key at hz
              split at hz
              · rename_i xs
                refine ⟨xs, rfl, ?_⟩
                cases h9 : akeys xs <;> rw [h9] at hz <;> simp at hz
                rw [hz]
              · cases h9 : akey dk <;> rw [h9] at hz <;> simp at hz
            obtain ⟨xs, rfl, hx2⟩ := hk2
            simp only [Sh, true_and] at sk
            obtain ⟨b, ws, rfl, t2, t3⟩ := sk
            have ev := akVs_of (cl := cl) (H := H2) hx2 t3.owl
            obtain ⟨us, i1, i2, i3, i4, i5, _⟩ := put_ok (g := kyT) (P := fun k => kyOk .t k = true) (fun _ _ => kyT_inj) hok sd m3 hl sh m4
            refine .inr ⟨ad, _, rfl, .t m1 (k := as.map akK) (by rw [be.ok.ex _ _ t2, ev, kVs_akK pl]) (hl2 kyT), fin _ _ _ _ (slot_put be hs (by rw [e3, m6]) e4 fun H' hk' hat => ?_)⟩
            simp only [Ow]
            refine ⟨ad, us, zf, rfl, ?_, ⟨i3, i4, i5⟩, i2.owl, rfl⟩
            rw [hat]
            show some (HO.dT _) = some (HO.dT _)
            rw [i1]
            rfl
        | x => cases z <;> simp [kyOk] at hok
        | y => cases z <;> simp [kyOk] at hok
      · cases hf
    · cases hf
  · cases hf
end
end Il
set_option Elab.async false
set_option linter.all false
set_option maxRecDepth 100000
set_option maxHeartbeats 1000000
/-! Il over the hand layer: all expressions, all statements, defs. -/
namespace Il
open PySem L2 PySem.Spec PyProof.Rows
section
variable {X : Cx} {M : Mc} {cl : Nat → Addr} {xc : Nat → Value} {G : Gam} {k : Nat} {io : List Nat}
theorem gE_no {a : IE} (h : ∀ M e, mE a M e = false) : GoodE cl xc G k a := fun X M W hx tk e hm w => by
  rw [h] at hm
  cases hm
theorem gT_no {a : IE} (h : ∀ M e, mE a M e = false) : GoodT cl xc G k a := fun X M W hx tk e hm => by
  rw [h] at hm
  cases hm
theorem gW_no {a : IE} (h : ∀ M e, mE a M e = true → isBop e = false) : GoodW cl xc G k a := fun X M W hx tk e hm hb => by
  rw [h M e hm] at hb
  cases hb
theorem goodT_ite {c a b : IE} : GoodT cl xc G k (.ite c a b) := fun X M W hx tk e hm => ⟨fun pins s σ H Q I h => by
  obtain ⟨Hs, n, fe, fr, r, be, he, hw⟩ := h
  simp only [evt] at he
  cases he⟩
local macro_rules | `(tactic| trivial) => `(tactic| (
  intro M e
  first
    | rfl
    | (unfold mE; split <;> first | rfl | (rename_i h1; cases h1; done) | (rename_i h1 _; cases h1; done))))
def notB : IE → Bool
  | .brw _ => false
  | .band _ _ => false
  | .bor _ _ => false
  | _ => true
theorem tst_nobop {e : Expr} (h : tstB e = true) : isBop e = false := by
  cases e <;> first | rfl | cases h
theorem nobop {a : IE} (ha : notB a = true) (M : Mc) (e : Expr) (hm : mE a M e = true) : isBop e = false := by
  unfold mE at hm
  split at hm <;> first | (cases hm; done) | rfl | skip
  all_goals first
    | (simp [notB] at ha; done)
    | (simp only [Bool.and_eq_true] at hm; exact tst_nobop hm.2.1)
def simpT : IE → Bool
  | .brw _ => false
  | .op2 _ _ _ => false
  | .isN _ _ => false
  | .chain _ _ _ _ _ => false
  | .not _ => false
  | .band _ _ => false
  | .bor _ _ => false
  | .ite _ _ _ => false
  | _ => true
theorem simp_tst {a : IE} (ha : simpT a = true) (M : Mc) (e : Expr) (hm : mE a M e = true) : tstB e = true := by
  unfold mE at hm
  split at hm <;> first | (cases hm; done) | rfl | skip
  all_goals first
    | (simp [simpT] at ha; done)
    | (simp only [Bool.and_eq_true] at hm; exact hm.2.1)
theorem simp_plain {a : IE} (ha : simpT a = true) : plainT a = true := by
  cases a <;> first | rfl | (simp [simpT] at ha; done)
structure All3 (cl : Nat → Addr) (xc : Nat → Value) (G : Gam) (k : Nat) (a : IE) : Prop where
  e : GoodE cl xc G k a
  t : GoodT cl xc G k a
  w : GoodW cl xc G k a
  c : PartsC cl xc G k a
theorem all_simp {a : IE} (h : simpT a = true) (e : GoodE cl xc G k a) (c : PartsC cl xc G k a) : All3 cl xc G k a := ⟨e, goodT_val (simp_plain h) (simp_tst h) e, gW_no (nobop (by cases a <;> first | rfl | (simp [simpT] at h; done))), c⟩
mutual
theorem gE : ∀ a : IE, All3 cl xc G k a
  | .nop => all_simp rfl gE_nop trivial
  | .var i => all_simp rfl (good_var i) trivial
  | .shr i => all_simp rfl (good_shr i) trivial
  | .mv i => all_simp rfl (good_mv i) trivial
  | .non => all_simp rfl good_non trivial
  | .bl b => all_simp rfl (good_bl b) trivial
  | .int i => all_simp rfl (good_int i) trivial
  | .str s => all_simp rfl (good_str s) trivial
  | .gint j i => all_simp rfl (good_gint j i) trivial
  | .op1 o a => all_simp rfl (good_op1 o (gE a).e) trivial
  | .op2 o a b => ⟨good_op2 o (gE a).e (gE b).e, goodT_op2 o (gE a).e (gE b).e, gW_no (nobop rfl), trivial⟩
  | .op3 o a b c => all_simp rfl (good_op3 o (gE a).e (gE b).e) trivial
  | .chain o1 o2 a b c => ⟨good_chain o1 o2 (gE a).e (gE b).e (gE c).e, goodT_chain o1 o2 (gE a).e (gE b).e (gE c).e, gW_no (nobop rfl), trivial⟩
  | .isN neg a => ⟨good_isN neg (gE a).e, goodT_isN neg (gE a).e, gW_no (nobop rfl), trivial⟩
  | .isi a t => all_simp rfl (good_isi t (gE a).e) trivial
  | .band a b => ⟨good_band (gE a).e (gE b).e, goodT_band (gE a).t (gE b).t (gE b).w, goodW_band (gE a).t (gE b).t (gE b).w, trivial⟩
  | .bor a b => ⟨good_bor (gE a).e (gE b).e, goodT_bor (gE a).t (gE b).t (gE b).w, goodW_bor (gE a).t (gE b).t (gE b).w, trivial⟩
  | .not a => ⟨good_not (gE a).e, goodT_not (gE a).t, gW_no (nobop rfl), trivial⟩
  | .ite c a b => ⟨good_ite (gE c).t (gE a).e (gE b).e, goodT_ite, gW_no (nobop rfl), trivial⟩
  | .ix a b => all_simp rfl (good_ix (gE a).e (gE b).e) trivial
  | .slc a lo hi => all_simp rfl (good_slc (gE a).e (gE lo).e (gE hi).e) trivial
  | .lst es => all_simp rfl (good_lst (gEs es)) trivial
  | .tup es => all_simp rfl (good_tup (gEs es)) trivial
  | .dic kd ks vs => all_simp rfl (good_dic kd ks vs) trivial
  | .comp s ik as elt tst => all_simp rfl (good_comp (gEs as) (gE elt).e (gE tst).t) ⟨gEs as, (gE elt).e, (gE tst).t⟩
  | .call f as back => all_simp rfl (good_call (gEs as)) trivial
  | .mcall f as back => all_simp rfl (gE_no (fun M e => by cases e <;> rfl)) trivial
  | .fld i j => all_simp rfl (gE_no (fun M e => by cases e <;> rfl)) trivial
  | .pop i => all_simp rfl (good_pop i) trivial
  | .setd i a b => all_simp rfl (gE_no (fun M e => by cases e <;> rfl)) trivial
  | .mk c => all_simp rfl (gE_no (fun M e => by cases e <;> rfl)) trivial
  | .sh a => all_simp rfl (good_sh (gE a).e) trivial
  | .brw a => ⟨good_brw (gE a).e, goodT_brw (gE a).t, goodW_brw (gE a).w, trivial⟩
theorem gEs : ∀ as : List IE, ∀ a ∈ as, GoodE cl xc G k a
  | [], a, h => by simp at h
  | b :: bs, a, h => by
    rcases List.mem_cons.mp h with e | e
    · rw [e]
      exact (gE b).e
    · exact gEs bs a e
end
theorem gS_no {s : IS} (h : ∀ M st, mS s M st = false) : GoodS cl xc G k io s := fun X M W hx tk ho st hm => by
  rw [h] at hm
  cases hm
mutual
theorem gS : ∀ s : IS, GoodS cl xc G k io s
  | .pas => goodS_pas
  | .never => goodS_never
  | .brk => goodS_brk
  | .cont => goodS_cont
  | .retN => goodS_retN
  | .ret e => goodS_ret (gE e).e
  | .exp e => goodS_exp (gE e).e
  | .set i e => goodS_set (gE e).e (gE e).c
  | .unp is e => goodS_unp (gE e).e
  | .par is es => gS_no (fun M st => by cases st <;> rfl)
  | .sub p a e => goodS_sub (gE a).e (gE e).e
  | .fset i j e => gS_no (fun M st => by cases st <;> rfl)
  | .app p e => goodS_app (gE e).e
  | .apS p e => goodS_apS (gE e).e
  | .ext p e => goodS_ext (gE e).e
  | .upd p e => gS_no (fun M st => by cases st <;> rfl)
  | .ins p a e => gS_no (fun M st => by cases st <;> rfl)
  | .ite c t u => goodS_ite (gE c).t (gSs t) (gSs u)
  | .forS tg one ik as body => goodS_for (gEs as) (gSs body)
  | .whl c body => goodS_whl (gE c).t (gSs body)
  | .rais c => gS_no (fun M st => by cases st <;> rfl)
  | .tri b c h => gS_no (fun M st => by cases st <;> rfl)
theorem gSs : ∀ ss : List IS, GoodL cl xc G k io ss
  | [] => goodL_nil
  | s :: ss => goodL_cons (gS s) (gSs ss)
end
/-! ### defs -/
theorem gets_ne {n : Env} {i j : Nat} (h : i ≠ j) : gets (n.set i none) j = gets n j := by
  unfold gets
  rw [List.getElem?_set_ne h]
theorem outs_ok {K : PySem.W.Frag} {Hs H : Hp} {vs : List V} {σ : L2.St} (hv : ∀ (i : Nat) (v : V), i ∈ io → σ[i]? = some (some v) → vs[i]? = some v) : ∀ {is : List Nat} {n : Env} {os : List D} {f : Fp}, (∀ i ∈ is, i ∈ io) → is.Nodup → outsOf n is = some os → EnvOw K cl Hs H n σ f →
    ∃ us g, is.mapM (fun i => vs[i]?) = some us ∧ OwL K cl Hs H os us g ∧ ∀ a, g a ≤ f a
  | [], n, os, f, _, _, h, he => by
    simp only [outsOf] at h
    cases h
    exact ⟨[], zf, rfl, .nil, fun a => by simp [zf]⟩
  | i :: is, n, os, f, hm, nd, h, he => by
    simp only [outsOf] at h
    split at h
    · rename_i d ds h1 h2
      cases h
      obtain ⟨v, g, f', e1, e2, e3, e4⟩ := he.focus h1
      obtain ⟨ni, nd2⟩ := List.nodup_cons.mp nd
      have h3 : outsOf (n.set i none) is = some ds := by
        rw [← h2]
        clear h2 h1 e4 nd
        induction is with
        | nil => rfl
        | cons j js ih =>
          simp only [List.mem_cons, not_or] at ni
          simp only [outsOf]
          rw [gets_ne (fun e => ni.1 e), ih (fun a ha => hm a (by rcases List.mem_cons.mp ha with q | q; exact List.mem_cons.mpr (.inl q); exact List.mem_cons.mpr (.inr (List.mem_cons.mpr (.inr q))))) ni.2 (List.nodup_cons.mp nd2).2]
      obtain ⟨us, g', k1, k2, k3⟩ := outs_ok hv (fun j hj => hm j (List.mem_cons_of_mem _ hj)) nd2 h3 e4
      refine ⟨v :: us, addF g g', ?_, .cons e2 k2, fun a => by have := k3 a; rw [e3]; simp only [addF]; omega⟩
      rw [List.mapM_cons, hv i v (hm i (List.mem_cons_self ..)) e1, k1]
      rfl
    · cases h
theorem env_nones {K : PySem.W.Frag} {Hs H : Hp} : ∀ (m : Nat), EnvOw K cl Hs H (List.replicate m none) (List.replicate m none) zf
  | 0 => by
    simp only [List.replicate_zero, EnvOw]
    exact ⟨trivial, trivial⟩
  | m + 1 => by
    simp only [List.replicate_succ, EnvOw]
    exact ⟨none, _, rfl, env_nones m⟩
theorem env_start {K : PySem.W.Frag} {Hs H : Hp} (m : Nat) : ∀ {ds : List D} {vs : List V} {f : Fp}, OwL K cl Hs H ds vs f → EnvOw K cl Hs H (ds.map some ++ List.replicate m none) (vs.map some ++ List.replicate m none) f
  | [], _, _, h => by
    simp only [OwL] at h
    rw [h.1, h.2]
    exact env_nones m
  | d :: ds, _, _, h => by
    simp only [OwL] at h
    obtain ⟨v, r, g, q, rfl, h2, h3, rfl⟩ := h
    simp only [List.map_cons, List.cons_append, EnvOw]
    exact ⟨v, _, g, q, rfl, h2, env_start m h3, rfl⟩
/-- what the text's defs are: the f-th def, its name, its slots, its term -/
structure TabOk (K : PySem.W.Frag) (mg : Str → Option Value) (T : List FD) (fn : List Str) (gi : List (Str × Int)) (ioT : List (List Nat)) : Prop where
  defs : ∀ f x, fn[f]? = some x → ∃ (fd : FD) (a : Addr) (fdat : FuncData) (ps N : List Str) (qual : Str) (params : Arguments) (body : List Stmt) (scope : Scope), T[f]? = some fd ∧ FunD K x qual params body scope [] [] a fdat ∧ mg x = some (.ref a) ∧
    FnScope N ps scope ∧ Binds K fdat ps [] ∧ ps.length = fd.np ∧ N.length = fd.ns ∧ fd.io = ioT.getD f [] ∧ fd.io.Nodup ∧ mL fd.body ⟨N, scope, fn, gi, ioT⟩ body = true
  free : ∀ x ∈ (["len", "int", "isinstance", "bool", "str", "tuple", "list", "range", "sorted", "any", "min", "max", "set", "enumerate", "zip"] : List Str), mg x = none
  gi : ∀ x i, (x, i) ∈ gi → ∃ t, mg x = some (.int i t)
end
/-- one def, a level up -/
theorem fn_step {P : Program} {w : World} {K : PySem.W.Frag} {mg : Str → Option Value} {base : Heap} {cl : Nat → Addr} {xc : Nat → Value} {T : List FD} {fn : List Str} {gi : List (Str × Int)} {ioT : List (List Nat)} (TO : TabOk K mg T fn gi ioT) {n f : Nat} {x : Str} {fd : FD} {a : Addr} {fdat : FuncData} {ps N : List Str} {qual : Str} {params : Arguments} {body : List Stmt} {scope : Scope}
    (low : ∀ (g : Nat) (y : Str) (a2 : Addr), fn[g]? = some y → mg y = some (.ref a2) → ∃ (fdat2 : FuncData) (ps2 : List Str), PySem.W.keepIn K (.ref a2) = true ∧ Binds K fdat2 ps2 [] ∧ FnOk P w K mg base (L2.CX P w) n a2 fdat2 ps2 (spIl K cl xc (run T n) g (ioT.getD g [])))
    (hT : T[f]? = some fd) (F : FunD K x qual params body scope [] [] a fdat) (S : FnScope N ps scope) (l1 : ps.length = fd.np) (l2 : N.length = fd.ns) (e1 : fd.io = ioT.getD f []) (nd : fd.io.Nodup) (hL : mL fd.body ⟨N, scope, fn, gi, ioT⟩ body = true) :
    FnOk P w K mg base (L2.CX P w) (n + 1) a fdat ps (spIl K cl xc (run T (n + 1)) f (ioT.getD f [])) := by
  have lenv : ∀ vs H Q E, spIl K cl xc (run T (n + 1)) f (ioT.getD f []) vs H Q E → vs.length = ps.length := by
    intro vs H Q E h
    obtain ⟨Hs, ds, fa, fr, out, o, ok, hr, _⟩ := h
    simp only [run, hT, call1] at hr
    split at hr
    · rename_i hl
      rw [o.length, hl, l1]
    · cases hr
  refine FunD.ok (k := n) F S lenv fun cdv A outer s H vs Q E hr h => ?_
  have hlen := lenv vs H Q E h
  obtain ⟨Hs, ds, fa, fr, out, o, ok, hrun, hw⟩ := h
  simp only [run, hT, call1] at hrun
  split at hrun
  · rename_i hl
    have hx : XOk (cxOf (L2.CX P w) P w K mg base N qual scope a cdv A outer s H E) ⟨N, scope, fn, gi, ioT⟩ cl xc (run T n) n :=
      ⟨rfl, rfl, S.nd, rfl, S.kind, hr, TO.free, TO.gi, fun g y hg => by
        obtain ⟨fd2, a2, _, _, _, _, _, _, _, _, _, mg2, _⟩ := TO.defs g y hg
        obtain ⟨fdat2, ps2, k1, k2, k3⟩ := low g y a2 hg mg2
        exact ⟨a2, fdat2, ps2, n, Nat.le_refl _, mg2, k1, k2, k3⟩⟩
    have tk : Takes (cxOf (L2.CX P w) P w K mg base N qual scope a cdv A outer s H E) (fun cls d _ H => E cls d H) := takes_of rfl rfl rfl rfl
    have own : Own (cxOf (L2.CX P w) P w K mg base N qual scope a cdv A outer s H E) := ⟨passes_of rfl, fun _ => rfl, rfl, rfl⟩
    refine ⟨_, gSs (io := fd.io) fd.body _ _ _ hx tk own body hL, ?_⟩
    cases hr0 : exL (run T n) fd.io fd.body (Il.start fd ds) with
    | none =>
      rw [hr0] at hrun
      cases hrun
    | some r =>
      rw [hr0] at hrun
      have est : L2.start N vs = vs.map some ++ List.replicate (fd.ns - fd.np) none := by
        unfold L2.start
        rw [hlen, l1, l2]
      have be : Be K cl Hs H (Il.start fd ds) fa fr (L2.start N vs) := ⟨by rw [est]; exact env_start _ o, ok⟩
      have hv : ∀ (σ' : L2.St), (∀ i ∈ fd.io, σ'[i]? = (L2.start N vs)[i]?) → ∀ (i : Nat) (v : V), i ∈ fd.io → σ'[i]? = some (some v) → vs[i]? = some v := by
        intro σ' hs i v hi hv
        rw [hs i hi, est] at hv
        by_cases hlt : i < vs.length
        · rw [List.getElem?_append_left (by simpa using hlt), List.getElem?_map] at hv
          cases z : vs[i]? with
          | none =>
            rw [z] at hv
            cases hv
          | some u =>
            rw [z] at hv
            simpa using hv
        · rw [List.getElem?_append_right (by simpa using hlt), List.getElem?_replicate] at hv
          split at hv <;> cases hv
      refine ⟨Hs, Il.start fd ds, fa, fr, r, be, hr0, ?_⟩
      rw [← e1] at hw
      cases r with
      | bk _ => cases hrun
      | ct _ => cases hrun
      | nx n1 =>
        simp only [ended] at hrun
        cases ho : outsOf n1 fd.io with
        | none =>
          rw [ho] at hrun
          cases hrun
        | some os =>
          rw [ho] at hrun
          cases hrun
          intro σ' Hs' H' fe' g
          obtain ⟨us, fo, k1, k2, k3⟩ := outs_ok (io := fd.io) (hv σ' g.ios) (fun _ h => h) nd ho g.env
          exact hw .non Hs' H' zf fo us g.same (by simp only [Ow]; exact ⟨trivial, trivial⟩) k2 k1 (g.ok.mono fun a => by have := k3 a; simp only [addF, zf]; omega) g.frm
      | rt d n1 =>
        simp only [ended] at hrun
        cases ho : outsOf n1 fd.io with
        | none =>
          rw [ho] at hrun
          cases hrun
        | some os =>
          rw [ho] at hrun
          cases hrun
          intro v σ' Hs' H' fe' fv g ov
          obtain ⟨us, fo, k1, k2, k3⟩ := outs_ok (io := fd.io) (hv σ' g.ios) (fun _ h => h) nd ho g.env
          exact hw v Hs' H' fv fo us g.same ov k2 k1 (g.ok.mono fun a => by have := k3 a; simp only [addF]; omega) g.frm
      | ex c n1 =>
        simp only [ended] at hrun
        cases hrun
        intro σ' Hs' H' fe' g
        exact hw Hs' H' g.same (g.ok.mono fun a => by simp only [addF, zf]; omega) g.frm
  · cases hrun
/-- THE RULE: all defs of the text do what the terms do -/
theorem all_ok {P : Program} {w : World} {K : PySem.W.Frag} {mg : Str → Option Value} {base : Heap} {cl : Nat → Addr} {xc : Nat → Value} {T : List FD} {fn : List Str} {gi : List (Str × Int)} {ioT : List (List Nat)} (TO : TabOk K mg T fn gi ioT) :
    ∀ (n f : Nat) (x : Str) (a : Addr), fn[f]? = some x → mg x = some (.ref a) → ∃ (fdat : FuncData) (ps : List Str), PySem.W.keepIn K (.ref a) = true ∧ Binds K fdat ps [] ∧ FnOk P w K mg base (L2.CX P w) n a fdat ps (spIl K cl xc (run T n) f (ioT.getD f []))
  | 0, f, x, a, hf, hm => by
    obtain ⟨fd, a', fdat, ps, N, qual, params, body, scope, hT, F, mg', S, bn, l1, l2, e1, nd, hL⟩ := TO.defs f x hf
    rw [hm] at mg'
    cases mg'
    refine ⟨fdat, ps, F.kp, bn, ⟨fun vs H Q E h => ?_, fun A outer s H args us vs Q E hr e0 hb r h => ?_⟩⟩
    · obtain ⟨_, _, _, _, _, _, _, h, _⟩ := h
      cases h
    · obtain ⟨_, _, _, _, _, _, _, h, _⟩ := h
      cases h
  | n + 1, f, x, a, hf, hm => by
    obtain ⟨fd, a', fdat, ps, N, qual, params, body, scope, hT, F, mg', S, bn, l1, l2, e1, nd, hL⟩ := TO.defs f x hf
    rw [hm] at mg'
    cases mg'
    exact ⟨fdat, ps, F.kp, bn, fn_step TO (fun g y a2 hg h2 => all_ok TO n g y a2 hg h2) hT F S l1 l2 e1 nd hL⟩
end Il
set_option Elab.async false
set_option linter.all false
set_option maxRecDepth 100000
set_option maxHeartbeats 2000000
/-! Il: a law's end; an exception never leaves the law. -/
namespace Il
open PySem L2 PySem.Spec PyProof.Rows
theorem walk_il {l : PySem.W.OpenLaw} {n k : Nat} {q : Program} {loose : List Str} {XP : (Str → Option Value) → Heap → Prop} {YP : World → Heap → Prop} {d : DefRec} {x : Str}
    (hn : l.most = some n) (hn2 : n ≤ sizeLine) (hdf : d.params.defaults = []) (hr : Room k callerA)
    (F : ∀ (w : World) (mg : Str → Option Value) (fa : Addr) (h : Heap), YP w h → h.Ns mainGlobals mg → mg d.name = some (.ref fa) →
      ∃ (K : PySem.W.Frag) (fd : FuncData) (sp : Sp), K.In h ∧ (∀ (s : Shared) (u : Value), BindsTo s fd ⟨[u], []⟩ [(x, u)]) ∧
        (∀ (H : Hp) (a : Addr) (ns : List Int), ns.length ≤ n → SqL K H a (ns.map V.int) → sp [.ref a] H (fun v _ => v = .bl true) fun _ _ _ => False) ∧
        ∀ base : Heap, K.In base → base.Ns mainGlobals mg → FnOk l.prog w K mg base (L2.CX l.prog w) k fa fd [x] sp) :
    PySem.W.WalkO q loose XP YP l.row.toRowW d [] (fun f vs => PySem.call f vs) := by
  refine Att.attach_call hn hdf fun w s0 s1 mg mb fa o pm cd doc a vs ns G Y ho hd hcd hmg hobj hints hlen hg => ?_
  obtain ⟨K, fd, sp, KX, hb, hsp, hF⟩ := F w mg fa _ Y G.T.g hmg
  exact law_call (CX := L2.CX l.prog w) KX G.T.g G.T.b G.T.builtins G.T.nolimit hg hobj hints (Nat.le_trans hlen hn2) hr hF hb (fun H hO hS => hsp H a ns hlen hS) fun H e s' h => by
    obtain ⟨_, _, _, _, _, _, _, _, _, _, _, _, hE⟩ := h
    exact hE
end Il
set_option Elab.async false
set_option linter.all false
set_option maxRecDepth 100000
set_option maxHeartbeats 1000000
/-! Il: reckoning with terms in plain Lean. -/
namespace Il
theorem run_at {T : List FD} {n f : Nat} {fd : FD} (h : T[f]? = some fd) (ds : List D) : run T (n + 1) f ds = call1 (run T n) fd ds := by
  simp only [run, h]
@[simp] theorem bnd_ok {α β : Type} (a : α) (q : Bool) (e : Env) (f : α → Bool → Env → Option (R β)) : bnd (some (.ok a q e)) f = f a q e := rfl
@[simp] theorem bnd_ex {α β : Type} (c : Nat) (e : Env) (f : α → Bool → Env → Option (R β)) : bnd (some (.ex c e)) f = some (.ex c e) := rfl
@[simp] theorem bndS_ok {α : Type} (a : α) (q : Bool) (e : Env) (f : α → Bool → Env → Option F) : bndS (some (.ok a q e)) f = f a q e := rfl
@[simp] theorem bndS_ex {α : Type} (c : Nat) (e : Env) (f : α → Bool → Env → Option F) : bndS (some (R.ex c e)) f = some (.ex c e) := rfl
@[simp] theorem gets_zero (a : Option D) (e : Env) : gets (a :: e) 0 = a := by cases a <;> rfl
@[simp] theorem gets_succ (a : Option D) (e : Env) (i : Nat) : gets (a :: e) (i + 1) = gets e i := rfl
/-- a loop that goes on to its end -/
theorem forGo_all {tg : List Nat} {one : Bool} {body : Env → Option F} (Inv : Nat → Env → Prop) : ∀ (xs : List D) (k : Nat) (e : Env), Inv k e →
    (∀ j x e, xs[j]? = some x → Inv (k + j) e → ∃ ds e1 e2, (if one then some [x] else unpD tg.length x) = some ds ∧ sets e tg ds = some e1 ∧ (body e1 = some (.nx e2) ∨ body e1 = some (.ct e2)) ∧ Inv (k + j + 1) e2) →
    ∃ e', forGo tg one body xs e = some (.nx e') ∧ Inv (k + xs.length) e'
  | [], k, e, h, _ => ⟨e, rfl, h⟩
  | x :: xs, k, e, h, hs => by
    obtain ⟨ds, e1, e2, h1, h2, h3, h4⟩ := hs 0 x e rfl h
    obtain ⟨e', r1, r2⟩ := forGo_all Inv xs (k + 1) e2 h4 fun j x e hx hi => by
      have := hs (j + 1) x e hx (by rw [show k + (j + 1) = k + 1 + j by omega]; exact hi)
      rw [show k + (j + 1) + 1 = k + 1 + j + 1 by omega] at this
      exact this
    refine ⟨e', ?_, by rw [show k + (x :: xs).length = k + 1 + xs.length by simp; omega]; exact r2⟩
    simp only [forGo, h1, h2]
    rcases h3 with h3 | h3 <;> rw [h3] <;> exact r1
@[simp] theorem own_non : D.own .non = false := rfl
@[simp] theorem own_bl (b : Bool) : D.own (.bl b) = false := rfl
@[simp] theorem own_int (i : Int) : D.own (.int i) = false := rfl
@[simp] theorem own_str (s : List Nat) : D.own (.str s) = false := rfl
@[simp] theorem own_lst (o : Bool) (xs : List D) : D.own (.lst o xs) = o := rfl
@[simp] theorem own_tup (o : Bool) (xs : List D) : D.own (.tup o xs) = o := rfl
@[simp] theorem own_scr (ns : List Int) : D.own (.scr ns) = false := rfl
@[simp] theorem frz_non : D.freeze .non = some .non := rfl
@[simp] theorem frz_bl (b : Bool) : D.freeze (.bl b) = some (.bl b) := rfl
@[simp] theorem frz_int (i : Int) : D.freeze (.int i) = some (.int i) := rfl
@[simp] theorem frz_str (s : List Nat) : D.freeze (.str s) = some (.str s) := rfl
@[simp] theorem frz_scr (ns : List Int) : D.freeze (.scr ns) = some (.scr ns) := rfl
theorem ixN_ok {n : Nat} {i : Int} (h0 : 0 ≤ i) (h : i < n) : ixN n i = some i.toNat := by
  unfold ixN
  rw [if_pos h0, if_pos h]
theorem atI_ok {α : Type} {xs : List α} {i : Int} (h0 : 0 ≤ i) (h : i < xs.length) : ∃ x, atI xs i = some x ∧ x ∈ xs ∧ xs[i.toNat]? = some x := by
  unfold atI
  rw [ixN_ok h0 h]
  have hl : i.toNat < xs.length := by omega
  exact ⟨xs[i.toNat], by simp, List.getElem_mem hl, by simp⟩
theorem mod_rng {a b : Int} (h : 0 < b) : 0 ≤ a % b ∧ a % b < b := ⟨Int.emod_nonneg _ (by omega), Int.emod_lt_of_pos _ h⟩
theorem turns_all {s : Nat} {elt : Env → Option (R D)} {tst : Env → Option (R Bool)} {e0 : Env} (P : D → Prop) : ∀ (xs acc : List D) (q : Bool) (e : Env), (∀ v, e.set s v = e0.set s v) →
    (∀ x ∈ xs, tst (e0.set s (some x)) = some (.ok true true (e0.set s (some x))) ∧ ∃ y q2, elt (e0.set s (some x)) = some (.ok y q2 (e0.set s (some x))) ∧ y.own = false ∧ P y) → acc.length + xs.length ≤ line →
    ∃ ys q' e', turns s elt tst xs acc q e = some (.ok (acc ++ ys) q' e') ∧ ys.length = xs.length ∧ (∀ y ∈ ys, P y) ∧ (∀ v, e'.set s v = e0.set s v)
  | [], acc, q, e, he, _, _ => ⟨[], q, e, by simp [turns], rfl, by simp, he⟩
  | x :: xs, acc, q, e, he, hs, hl => by
    obtain ⟨h1, y, q2, h2, h3, h4⟩ := hs x (List.mem_cons_self ..)
    simp only [List.length_cons] at hl
    obtain ⟨ys, q', e', r1, r2, r3, r4⟩ := turns_all P xs (acc ++ [y]) (q && true && q2) (e0.set s (some x)) (fun v => by rw [List.set_set]) (fun x hx => hs x (List.mem_cons_of_mem _ hx)) (by simp only [List.length_append, List.length_singleton]; omega)
    refine ⟨y :: ys, q', e', ?_, by simp [r2], fun z hz => ?_, r4⟩
    · have e1 : decide (line ≤ acc.length) = false := by simp; omega
      simp only [turns, he, h1, h2, h3, e1, Bool.or_self, Bool.false_eq_true, if_false, r1, List.append_assoc, List.singleton_append]
    · rcases List.mem_cons.mp hz with rfl | hz
      · exact h4
      · exact r3 z hz
theorem cut_all {α : Type} {xs : List α} {lo hi : Option Int} {P : α → Prop} (h : ∀ x ∈ xs, P x) : ∀ x ∈ cutL xs lo hi, P x := fun x hx => h x (List.mem_of_mem_drop (List.mem_of_mem_take hx))
theorem cut_len {α : Type} (xs : List α) (lo hi : Option Int) : (cutL xs lo hi).length = min (sIx xs.length xs.length hi - sIx xs.length 0 lo) (xs.length - sIx xs.length 0 lo) := by
  unfold cutL
  rw [List.length_take, List.length_drop]
/-- texts of one sign -/
def One1 (d : D) : Prop := ∃ c, c < 128 ∧ d = .str [c]
/-- texts of n signs at most, one at least -/
def Txt (n : Nat) (d : D) : Prop := ∃ s, d = .str s ∧ s ≠ [] ∧ s.length ≤ n ∧ ∀ c ∈ s, c < 128
theorem noOwn_of {xs : List D} (h : ∀ x ∈ xs, x.own = false) : noOwn xs = true := by
  unfold noOwn
  rw [List.all_eq_true]
  intro x hx
  rw [h x hx]
  rfl
theorem one1_own {d : D} (h : One1 d) : d.own = false := by
  obtain ⟨c, _, rfl⟩ := h
  rfl
theorem txt_own {n : Nat} {d : D} (h : Txt n d) : d.own = false := by
  obtain ⟨c, rfl, _⟩ := h
  rfl
theorem strs_one : ∀ {xs : List D}, (∀ x ∈ xs, One1 x) → ∃ cs : List Nat, strsD xs = some (cs.map fun c => [c]) ∧ cs.length = xs.length ∧ ∀ c ∈ cs, c < 128
  | [], _ => ⟨[], rfl, rfl, by simp⟩
  | x :: xs, h => by
    obtain ⟨c, hc, rfl⟩ := h x (List.mem_cons_self ..)
    obtain ⟨cs, h1, h2, h3⟩ := strs_one fun x hx => h x (List.mem_cons_of_mem _ hx)
    refine ⟨c :: cs, by simp [strsD, h1], by simp [h2], fun d hd => ?_⟩
    rcases List.mem_cons.mp hd with rfl | hd
    · exact hc
    · exact h3 d hd
theorem strs_txt {n : Nat} : ∀ {xs : List D}, (∀ x ∈ xs, Txt n x) → ∃ ss : List (List Nat), strsD xs = some ss ∧ ss.length = xs.length ∧ (ss.map List.length).sum ≤ n * xs.length ∧ ∀ c ∈ ss.flatten, c < 128
  | [], _ => ⟨[], rfl, rfl, by simp, by simp⟩
  | x :: xs, h => by
    obtain ⟨s, rfl, _, hl, hc⟩ := h x (List.mem_cons_self ..)
    obtain ⟨ss, h1, h2, h3, h4⟩ := strs_txt fun x hx => h x (List.mem_cons_of_mem _ hx)
    refine ⟨s :: ss, by simp [strsD, h1], by simp [h2], ?_, fun d hd => ?_⟩
    · simp only [List.map_cons, List.sum_cons, List.length_cons, Nat.mul_succ]
      omega
    · simp only [List.flatten_cons, List.mem_append] at hd
      rcases hd with hd | hd
      · exact hc d hd
      · exact h4 d hd
theorem sum_ones (cs : List Nat) : ((cs.map fun c => [c]).map List.length).sum = cs.length := by
  induction cs with
  | nil => rfl
  | cons c cs ih => simp only [List.map_cons, List.sum_cons, ih, List.length_cons, List.length_nil]; omega
theorem flat_ones (cs : List Nat) : (cs.map fun c => [c]).flatten = cs := by
  induction cs with
  | nil => rfl
  | cons c cs ih => simp only [List.map_cons, List.flatten_cons, ih, List.singleton_append]
theorem range_mem {lo : Int} {n : Nat} {x : D} (h : x ∈ rangeD lo n) : ∃ k : Nat, k < n ∧ x = .int (lo + k) := by
  unfold rangeD at h
  simp only [List.mem_map, List.mem_range] at h
  obtain ⟨k, h1, rfl⟩ := h
  exact ⟨k, h1, rfl⟩
theorem range_len (lo : Int) (n : Nat) : (rangeD lo n).length = n := by simp [rangeD]
/-! ### laws of reckoning (for simp only) -/
theorem l_set0 {α : Type} (a b : α) (l : List α) : (a :: l).set 0 b = b :: l := rfl
theorem l_setS {α : Type} (a b : α) (l : List α) (i : Nat) : (a :: l).set (i + 1) b = a :: l.set i b := rfl
theorem noOwn_nil : noOwn [] = true := rfl
theorem noOwn_cons (d : D) (ds : List D) : noOwn (d :: ds) = (!d.own && noOwn ds) := rfl
theorem s_neg (i : Int) : sem1 .neg (.int i) = some (.int (-i)) := rfl
theorem s_len_lst (o : Bool) (xs : List D) : sem1 .len (.lst o xs) = some (.int xs.length) := rfl
theorem s_len_tup (o : Bool) (xs : List D) : sem1 .len (.tup o xs) = some (.int xs.length) := rfl
theorem s_len_scr (ns : List Int) : sem1 .len (.scr ns) = some (.int ns.length) := rfl
theorem s_len_str {s : List Nat} (h : s.length ≤ line) : sem1 .len (.str s) = some (.int s.length) := by simp [sem1, h]
theorem s_int_bl (b : Bool) : sem1 .int (.bl b) = some (.int (if b then 1 else 0)) := rfl
theorem s_int_int (i : Int) : sem1 .int (.int i) = some (.int i) := rfl
theorem s_add_int (i j : Int) : sem2 .add (.int i) (.int j) = some (.int (i + j)) := rfl
theorem s_add_str {x y : List Nat} (h : x.length + y.length ≤ line) : sem2 .add (.str x) (.str y) = some (.str (x ++ y)) := by simp [sem2, h]
theorem s_sub_int (i j : Int) : sem2 .sub (.int i) (.int j) = some (.int (i - j)) := rfl
theorem s_mul_int {i j : Int} (h : (small64 i || small64 j) = true) : sem2 .mul (.int i) (.int j) = some (.int (i * j)) := by simp only [sem2, h, if_true]
theorem s_mul_l {i j : Int} (h : small64 i = true) : sem2 .mul (.int i) (.int j) = some (.int (i * j)) := s_mul_int (by rw [h]; rfl)
theorem s_mul_r {i j : Int} (h : small64 j = true) : sem2 .mul (.int i) (.int j) = some (.int (i * j)) := s_mul_int (by rw [h, Bool.or_true])
theorem sm_48271 : small64 48271 = true := by decide
theorem sm_10 : small64 10 = true := by decide
theorem sm_5 : small64 5 = true := by decide
theorem s_fdiv_int {i j : Int} (h : 0 < j ∧ j < 1073741824) : sem2 .fdiv (.int i) (.int j) = some (.int (i / j)) := by simp only [sem2, h, and_self, if_true]
theorem s_mod_int {i j : Int} (h : 0 < j) : sem2 .mod (.int i) (.int j) = some (.int (i % j)) := by simp only [sem2, h, if_true]
theorem s_pow9 : sem2 .pow (.int 10) (.int 9) = some (.int 1000000000) := by simp [sem2]
theorem s_lt_int (i j : Int) : sem2 .lt (.int i) (.int j) = some (.bl (decide (i < j))) := rfl
theorem s_le_int (i j : Int) : sem2 .le (.int i) (.int j) = some (.bl (decide (i ≤ j))) := rfl
theorem s_gt_int (i j : Int) : sem2 .gt (.int i) (.int j) = some (.bl (decide (j < i))) := rfl
theorem s_ge_int (i j : Int) : sem2 .ge (.int i) (.int j) = some (.bl (decide (j ≤ i))) := rfl
theorem s_eq_int (i j : Int) : sem2 .eq (.int i) (.int j) = some (.bl (i == j)) := rfl
theorem s_ne_int (i j : Int) : sem2 .ne (.int i) (.int j) = some (.bl (!(i == j))) := rfl
theorem s_find (s : List Nat) (c : Nat) : sem2 .find (.str s) (.str [c]) = some (.int (findI c s)) := rfl
theorem s_index {s : List Nat} {c i : Nat} (h : idxOf? c s = some i) : sem2 .index (.str s) (.str [c]) = some (.int i) := by simp [sem2, one?, h]
theorem s_in_str (s : List Nat) (c : Nat) : sem2 .isIn (.str [c]) (.str s) = some (.bl (decide (c ∈ s))) := rfl
theorem s_nin_str (s : List Nat) (c : Nat) : sem2 .notIn (.str [c]) (.str s) = some (.bl (!decide (c ∈ s))) := rfl
theorem s_join {o : Bool} {xs : List D} {ss : List (List Nat)} (h : strsD xs = some ss) (hl : (ss.map List.length).sum ≤ line) : sem2 .join (.str []) (.lst o xs) = some (.str ss.flatten) := by simp only [sem2, h, hl, if_true]
theorem rcv (o : B2) (s : List Nat) : recvOk o (.str s) = true ∨ o = .get1 := by cases o <;> first | exact .inl rfl | exact .inr rfl
theorem rcv_find (s : List Nat) : recvOk .find (.str s) = true := rfl
theorem rcv_index (s : List Nat) : recvOk .index (.str s) = true := rfl
theorem rcv_join (s : List Nat) : recvOk .join (.str s) = true := rfl
theorem rcv_add (d : D) : recvOk .add d = true := rfl
theorem rcv_sub (d : D) : recvOk .sub d = true := rfl
theorem rcv_mul (d : D) : recvOk .mul d = true := rfl
theorem rcv_fdiv (d : D) : recvOk .fdiv d = true := rfl
theorem rcv_mod (d : D) : recvOk .mod d = true := rfl
theorem rcv_pow (d : D) : recvOk .pow d = true := rfl
theorem rcv_eq (d : D) : recvOk .eq d = true := rfl
theorem rcv_ne (d : D) : recvOk .ne d = true := rfl
theorem rcv_lt (d : D) : recvOk .lt d = true := rfl
theorem rcv_le (d : D) : recvOk .le d = true := rfl
theorem rcv_gt (d : D) : recvOk .gt d = true := rfl
theorem rcv_ge (d : D) : recvOk .ge d = true := rfl
theorem rcv_in (d : D) : recvOk .isIn d = true := rfl
theorem rcv_nin (d : D) : recvOk .notIn d = true := rfl
theorem t_bl (b : Bool) : truth (.bl b) = some b := rfl
theorem x_lst (o : Bool) (xs : List D) (i : Int) : ixD (.lst o xs) (.int i) = atI xs i := rfl
theorem x_tup (o : Bool) (xs : List D) (i : Int) : ixD (.tup o xs) (.int i) = atI xs i := rfl
theorem x_scr (ns : List Int) (i : Int) : ixD (.scr ns) (.int i) = (atI ns i).map D.int := rfl
theorem x_str {s : List Nat} {i : Int} (h : s.length ≤ line) : ixD (.str s) (.int i) = (atI s i).map fun c => .str [c] := by simp only [ixD, h, if_true]
theorem y_lst {o : Bool} {xs : List D} {lo hi : Option Int} (h : noOwn xs = true) : slcD (.lst o xs) lo hi = some (.lst true (cutL xs lo hi)) := by simp only [slcD, h, if_true]
theorem y_str {s : List Nat} {lo hi : Option Int} (h : s.length ≤ line) : slcD (.str s) lo hi = some (.str (cutL s lo hi)) := by simp only [slcD, h, if_true]
theorem i_rng1 {j : Int} (h : b62 j = true) : items .rng1 [.int j] = some (rangeD 0 j.toNat) := by
  show (if b62 j = true then some (rangeD 0 j.toNat) else none) = _
  rw [h]
  rfl
theorem i_str (s : List Nat) : items .it [.str s] = some (s.map fun c => .str [c]) := rfl
theorem i_lst (xs : List D) : items .it [.lst false xs] = some xs := rfl
theorem i_tup (xs : List D) : items .it [.tup false xs] = some xs := rfl
theorem b62_ok {i : Int} (h : -1000000000000 ≤ i) (h2 : i ≤ 1000000000000) : b62 i = true := by
  unfold b62
  rw [Nat.ble_eq]
  omega
theorem small_ok {i : Int} (h : -1000000000000 ≤ i) (h2 : i ≤ 1000000000000) : small64 i = true := by
  unfold small64
  rw [Nat.ble_eq]
  omega
theorem ty_ii (i : Int) : isTy .int (.int i) = some true := rfl
theorem ty_bi (i : Int) : isTy .bool (.int i) = some false := rfl
theorem ty_in : isTy .int .non = some false := rfl
theorem ty_ib (b : Bool) : isTy .int (.bl b) = some true := rfl
theorem ty_bb (b : Bool) : isTy .bool (.bl b) = some true := rfl
theorem frz_lst {o : Bool} {xs : List D} (h : noOwn xs = true) : D.freeze (.lst o xs) = some (.lst false xs) := by simp only [D.freeze, h, if_true]
theorem frz_tup {o : Bool} {xs : List D} (h : noOwn xs = true) : D.freeze (.tup o xs) = some (.tup false xs) := by simp only [D.freeze, h, if_true]
theorem a_lst {xs : List D} {d : D} (h : xs.length < line) : fApp (.lst true xs) d = some (.lst true (xs ++ [d])) := by simp only [fApp, h, if_true]
theorem bor_l {a b : Bool} (h : a = true) : (a || b) = true := by simp [h]
theorem bor_r {a b : Bool} (h : b = true) : (a || b) = true := by simp [h]
theorem lineEq : line = 16777216 := rfl
theorem ev_comp {G : Gam} {s : Nat} {k : IK} {args : List IE} {elt : IE} {e e1 : Env} {ds xs : List D} {q : Bool} (P : D → Prop) (h1 : eva G args e = some (.ok ds q e1)) (h2 : items k ds = some xs) (hl : xs.length ≤ 1000000)
    (hs : ∀ x ∈ xs, ∃ y q2, ev G elt false (e1.set s (some x)) = some (.ok y q2 (e1.set s (some x))) ∧ y.own = false ∧ P y) :
    ∃ ys q', ev G (.comp s k args elt .nop) true e = some (.ok (.lst true ys) q' (e1.set s (gets e1 s))) ∧ ys.length = xs.length ∧ (∀ y ∈ ys, P y) := by
  obtain ⟨ys, q', e', r1, r2, r3, r4⟩ := turns_all (s := s) (e0 := e1) (elt := fun e => ev G elt false e) (tst := fun e => some (.ok true true e)) P xs [] q (e1.set s none) (fun v => by rw [List.set_set]) (fun x hx => ⟨rfl, hs x hx⟩) (by rw [lineEq, List.length_nil]; omega)
  refine ⟨ys, q', ?_, r2, r3⟩
  simp only [ev, IE.isNop, if_true, h1, bnd_ok, h2, r1, List.nil_append, fin, r4]
theorem do_set {G : Gam} {io : List Nat} {i : Nat} {a : IE} {r : List IS} {e e1 : Env} {d : D} {q : Bool} (h : ev G a true e = some (.ok d q e1)) (hi : okIO io [i] = true) : exL G io (.set i a :: r) e = exL G io r (e1.set i (some d)) := by
  simp only [exL, exS, hi, if_true, h, bndS_ok]
theorem do_ret {G : Gam} {io : List Nat} {a : IE} {r : List IS} {e e1 : Env} {d : D} {q : Bool} (h : ev G a true e = some (.ok d q e1)) : exL G io (.ret a :: r) e = some (.rt d e1) := by
  simp only [exL, exS, h, bndS_ok]
theorem do_for {G : Gam} {io tg : List Nat} {one : Bool} {k : IK} {args : List IE} {body r : List IS} {e e1 e2 : Env} {ds xs : List D} {q : Bool} (h1 : eva G args e = some (.ok ds q e1)) (h2 : items k ds = some xs) (hi : okIO io tg = true) (h : forGo tg one (fun e => exL G io body e) xs e1 = some (.nx e2)) :
    exL G io (.forS tg one k args body :: r) e = exL G io r e2 := by
  simp only [exL, exS, hi, if_true, h1, bndS_ok, h2, h]
theorem do_ite {G : Gam} {io : List Nat} {c : IE} {t u r : List IS} {e e1 : Env} {b q : Bool} (h : evt G c e = some (.ok b q e1)) : exL G io (.ite c t u :: r) e = (match (if b then exL G io t e1 else exL G io u e1) with
    | some (.nx e2) => exL G io r e2
    | f => f) := by
  cases b
  · simp only [exL, exS, h, bndS_ok, if_false, Bool.false_eq_true] <;> (generalize exL G io u e1 = z; rcases z with _ | f <;> first | rfl | (cases f <;> rfl))
  · simp only [exL, exS, h, bndS_ok, if_true] <;> (generalize exL G io t e1 = z; rcases z with _ | f <;> first | rfl | (cases f <;> rfl))
theorem sIx_ok {n d : Nat} {v : Int} (h : 0 ≤ v) : sIx n d (some v) = min v.toNat n := by
  show (if v < 0 then (v + (n : Int)).toNat else min v.toNat n) = _
  rw [if_neg (by omega)]
theorem sIx_none (n d : Nat) : sIx n d none = d := rfl
theorem at0 {α : Type} (a : α) (l : List α) : atI (a :: l) 0 = some a := by
  unfold atI
  rw [ixN_ok (by omega) (by simp only [List.length_cons]; omega)]
  rfl
theorem at1 {α : Type} (a b : α) (l : List α) : atI (a :: b :: l) 1 = some b := by
  unfold atI
  rw [ixN_ok (by omega) (by simp only [List.length_cons]; omega)]
  rfl
theorem do_for_rt {G : Gam} {io tg : List Nat} {one : Bool} {k : IK} {args : List IE} {body r : List IS} {e e1 e2 : Env} {ds xs : List D} {q : Bool} {d : D} (h1 : eva G args e = some (.ok ds q e1)) (h2 : items k ds = some xs) (hi : okIO io tg = true) (h : forGo tg one (fun e => exL G io body e) xs e1 = some (.rt d e2)) :
    exL G io (.forS tg one k args body :: r) e = some (.rt d e2) := by
  simp only [exL, exS, hi, if_true, h1, bndS_ok, h2, h]
/-- a while: k says how many turns are left at most, 0 that the test is false -/
theorem whl_all {c : Env → Option (R Bool)} {body : Env → Option F} (Inv : Nat → Env → Prop) (Post : Env → Prop)
    (hs : ∀ k e, Inv (k + 1) e → ∃ q e1 e2 j, c e = some (.ok true q e1) ∧ (body e1 = some (.nx e2) ∨ body e1 = some (.ct e2)) ∧ j ≤ k ∧ Inv j e2) (he : ∀ e, Inv 0 e → ∃ q e1, c e = some (.ok false q e1) ∧ Post e1) :
    ∀ (fuel k : Nat) (e : Env), k < fuel → Inv k e → ∃ e', whlGo c body fuel e = some (.nx e') ∧ Post e'
  | 0, k, e, h, _ => absurd h (Nat.not_lt_zero k)
  | fuel + 1, 0, e, _, hi => by
    obtain ⟨q, e1, h1, h2⟩ := he e hi
    exact ⟨e1, by simp only [whlGo, h1, bndS_ok, if_false, Bool.false_eq_true], h2⟩
  | fuel + 1, k + 1, e, hk, hi => by
    obtain ⟨q, e1, e2, j, h1, h2, h3, h4⟩ := hs k e hi
    obtain ⟨e', r1, r2⟩ := whl_all Inv Post hs he fuel j e2 (by omega) h4
    refine ⟨e', ?_, r2⟩
    rcases h2 with h2 | h2 <;> simp only [whlGo, h1, bndS_ok, if_true, h2] <;> exact r1
theorem do_whl {G : Gam} {io : List Nat} {c : IE} {body r : List IS} {e e2 : Env} (h : whlGo (fun e => evt G c e) (fun e => exL G io body e) most e = some (.nx e2)) : exL G io (.whl c body :: r) e = exL G io r e2 := by
  simp only [exL, exS, h]
theorem most_gt {k : Nat} (h : k ≤ 1000000) : k < most := by
  unfold most
  omega
end Il
set_option Elab.async false
set_option linter.all false
set_option maxRecDepth 100000
set_option maxHeartbeats 1000000
/-! Il: what a block comes to, step by step. -/
namespace Il
/-- it ends, and as Q tells -/
def W (o : Option F) (Q : F → Prop) : Prop := ∃ r, o = some r ∧ Q r
theorem W_some {r : F} {Q : F → Prop} (h : Q r) : W (some r) Q := ⟨r, rfl, h⟩
theorem W.mono {o : Option F} {Q Q' : F → Prop} (h : W o Q) (k : ∀ r, Q r → Q' r) : W o Q' := ⟨h.choose, h.choose_spec.1, k _ h.choose_spec.2⟩
/-- a loop's turn: on (nx, ct), out (bk), home (rt), raised (ex) -/
def LQ (I B : Env → Prop) (R : D → Env → Prop) (X : Nat → Env → Prop) : F → Prop
  | .nx e => I e
  | .ct e => I e
  | .bk e => B e
  | .rt d e => R d e
  | .ex c e => X c e
section
variable {I B : Env → Prop} {R : D → Env → Prop} {X : Nat → Env → Prop}
theorem W_nx {e : Env} (h : I e) : W (some (.nx e)) (LQ I B R X) := ⟨_, rfl, h⟩
theorem W_ct {e : Env} (h : I e) : W (some (.ct e)) (LQ I B R X) := ⟨_, rfl, h⟩
theorem W_bk {e : Env} (h : B e) : W (some (.bk e)) (LQ I B R X) := ⟨_, rfl, h⟩
theorem W_rt {d : D} {e : Env} (h : R d e) : W (some (.rt d e)) (LQ I B R X) := ⟨_, rfl, h⟩
theorem W_ex {c : Nat} {e : Env} (h : X c e) : W (some (.ex c e)) (LQ I B R X) := ⟨_, rfl, h⟩
end
section
variable {G : Gam} {io : List Nat}
theorem exL_app : ∀ (t r : List IS) (e : Env), exL G io (t ++ r) e = seqS (exL G io t e) fun e1 => exL G io r e1
  | [], r, e => by simp only [List.nil_append, exL, seqS]
  | s :: t, r, e => by
    simp only [List.cons_append, exL]
    cases z : exS G io s e with
    | none => rfl
    | some f =>
      cases f <;> simp only [seqS]
      exact exL_app t r _
theorem exL_cons (s : IS) (r : List IS) (e : Env) : exL G io (s :: r) e = seqS (exS G io s e) fun e1 => exL G io r e1 := by
  have := exL_app (G := G) (io := io) [s] r e
  rw [List.singleton_append] at this
  rw [this]
  have e1 : exL G io [s] e = exS G io s e := by
    simp only [exL]
    generalize exS G io s e = z
    rcases z with _ | f
    · rfl
    · cases f <;> rfl
  rw [e1]
theorem x_nil (e : Env) : exL G io [] e = some (.nx e) := by simp only [exL]
theorem x_pas (r : List IS) (e : Env) : exL G io (.pas :: r) e = exL G io r e := by simp only [exL, exS]
theorem x_brk (r : List IS) (e : Env) : exL G io (.brk :: r) e = some (.bk e) := by simp only [exL, exS]
theorem x_cont (r : List IS) (e : Env) : exL G io (.cont :: r) e = some (.ct e) := by simp only [exL, exS]
theorem x_retN (r : List IS) (e : Env) : exL G io (.retN :: r) e = some (.rt .non e) := by simp only [exL, exS]
theorem x_ret (a : IE) (r : List IS) (e : Env) : exL G io (.ret a :: r) e = bndS (ev G a true e) fun d _ e1 => some (.rt d e1) := by
  rw [exL_cons]
  simp only [exS]
  rcases ev G a true e with _ | (_ | _) <;> rfl
theorem x_exp (a : IE) (r : List IS) (e : Env) : exL G io (.exp a :: r) e = bndS (ev G a false e) fun _ _ e1 => exL G io r e1 := by
  rw [exL_cons]
  simp only [exS]
  rcases ev G a false e with _ | (_ | _) <;> rfl
theorem x_set (i : Nat) (a : IE) (r : List IS) (e : Env) : exL G io (.set i a :: r) e = if okIO io [i] then bndS (ev G a true e) fun d _ e1 => exL G io r (e1.set i (some d)) else none := by
  rw [exL_cons]
  simp only [exS]
  by_cases h : okIO io [i] = true
  · rw [if_pos h, if_pos h]
    rcases ev G a true e with _ | (_ | _) <;> rfl
  · rw [if_neg h, if_neg h]
    rfl
theorem x_unp (is : List Nat) (a : IE) (r : List IS) (e : Env) : exL G io (.unp is a :: r) e = if okIO io is then bndS (ev G a false e) fun d _ e1 => match unpD is.length d with
      | some ds => (match sets e1 is ds with
        | some e2 => exL G io r e2
        | none => none)
      | none => none else none := by
  rw [exL_cons]
  simp only [exS]
  by_cases h : okIO io is = true
  · rw [if_pos h, if_pos h]
    rcases ev G a false e with _ | (⟨d, q, e1⟩ | _)
    · rfl
    · simp only [bndS]
      cases unpD is.length d with
      | none => rfl
      | some ds =>
        simp only []
        cases sets e1 is ds <;> rfl
    · rfl
  · rw [if_neg h, if_neg h]
    rfl
theorem x_ite (c : IE) (t u r : List IS) (e : Env) : exL G io (.ite c t u :: r) e = bndS (evt G c e) fun b _ e1 => if b then exL G io (t ++ r) e1 else exL G io (u ++ r) e1 := by
  rw [exL_cons]
  simp only [exS, exL_app]
  rcases evt G c e with _ | (⟨b, q, e1⟩ | _)
  · rfl
  · cases b <;> rfl
  · rfl
theorem x_app (p a : IE) (r : List IS) (e : Env) : exL G io (.app p a :: r) e = seqS (chg G p e (ev G a true e) fApp ownLst) fun e1 => exL G io r e1 := by
  rw [exL_cons]
  simp only [exS]
def nown : Option (R D) → Option (R D)
  | some (.ok d q e1) => if d.own then none else some (.ok d q e1)
  | r => r
theorem nown_ok (d : D) (q : Bool) (e : Env) : nown (some (.ok d q e)) = if d.own then none else some (.ok d q e) := rfl
theorem x_apS (p a : IE) (r : List IS) (e : Env) : exL G io (.apS p a :: r) e = seqS (chg G p e (nown (ev G a false e)) fApp ownLst) fun e1 => exL G io r e1 := by
  rw [exL_cons]
  simp only [exS, nown]
  all_goals rfl
theorem x_ext (p a : IE) (r : List IS) (e : Env) : exL G io (.ext p a :: r) e = seqS (chg G p e (nown (ev G a false e)) fExt ownLst) fun e1 => exL G io r e1 := by
  rw [exL_cons]
  simp only [exS, nown]
  all_goals rfl
theorem seq_nx (e : Env) (f : Env → Option F) : seqS (some (.nx e)) f = f e := rfl
theorem seq_none (f : Env → Option F) : seqS none f = none := rfl
theorem W_set {i : Nat} {a : IE} {r : List IS} {e e1 : Env} {d : D} {q : Bool} {Q : F → Prop} (h : ev G a true e = some (.ok d q e1)) (hi : okIO io [i] = true) (w : W (exL G io r (e1.set i (some d))) Q) : W (exL G io (.set i a :: r) e) Q := by
  rw [do_set h hi]
  exact w
theorem W_ite {c : IE} {t u r : List IS} {e e1 : Env} {b q : Bool} {Q : F → Prop} (h : evt G c e = some (.ok b q e1)) (w : W (exL G io ((if b then t else u) ++ r) e1) Q) : W (exL G io (.ite c t u :: r) e) Q := by
  rw [x_ite, h]
  cases b
  · exact w
  · exact w
/-! ### loops -/
theorem W_for {tg : List Nat} {one : Bool} {k : IK} {args : List IE} {body r : List IS} {e e1 : Env} {ds xs : List D} {q : Bool} {Q : F → Prop} (h1 : eva G args e = some (.ok ds q e1)) (h2 : items k ds = some xs) (hi : okIO io tg = true)
    (I : Nat → Env → Prop) (h0 : I 0 e1) (hs : ∀ i x e, xs[i]? = some x → I i e → ∃ dd e', (if one then some [x] else unpD tg.length x) = some dd ∧ sets e tg dd = some e' ∧ W (exL G io body e') (LQ (I (i + 1)) (fun e => W (exL G io r e) Q) (fun d e => Q (.rt d e)) (fun c e => Q (.ex c e))))
    (hd : ∀ e, I xs.length e → W (exL G io r e) Q) : W (exL G io (.forS tg one k args body :: r) e) Q := by
  have go : ∀ (ys : List D) (j : Nat) (e : Env), xs.drop j = ys → j ≤ xs.length → I j e → W (match forGo tg one (fun e => exL G io body e) ys e with
      | some (.nx e1) => exL G io r e1
      | f => f) Q := by
    intro ys
    induction ys with
    | nil =>
      intro j e hj hl hI
      have : j = xs.length := by
        have := List.drop_eq_nil_iff.mp hj
        omega
      subst this
      exact hd e hI
    | cons y ys ih =>
      intro j e hj hl hI
      have hy : xs[j]? = some y := by
        have := congrArg (fun l => l[0]?) hj
        simpa using this
      have hj2 : xs.drop (j + 1) = ys := by
        rw [← List.drop_drop, hj]
        rfl
      have hlt : j < xs.length := (List.getElem?_eq_some_iff.mp hy).1
      obtain ⟨dd, e', d1, d2, f, d3, d4⟩ := hs j y e hy hI
      simp only [forGo, d1, d2, d3]
      cases f with
      | nx e2 => exact ih (j + 1) e2 hj2 hlt d4
      | ct e2 => exact ih (j + 1) e2 hj2 hlt d4
      | bk e2 => exact d4
      | rt d e2 => exact ⟨_, rfl, d4⟩
      | ex c e2 => exact ⟨_, rfl, d4⟩
  have := go xs 0 e1 rfl (Nat.zero_le _) h0
  simp only [exL, exS, hi, if_true, h1, bndS_ok, h2]
  exact this
/-- one name that is walked with -/
theorem W_for1 {t : Nat} {k : IK} {args : List IE} {body r : List IS} {e e1 : Env} {ds xs : List D} {q : Bool} {Q : F → Prop} (h1 : eva G args e = some (.ok ds q e1)) (h2 : items k ds = some xs) (hi : okIO io [t] = true)
    (I : Nat → Env → Prop) (h0 : I 0 e1) (hs : ∀ i x e, xs[i]? = some x → I i e → W (exL G io body (e.set t (some x))) (LQ (I (i + 1)) (fun e => W (exL G io r e) Q) (fun d e => Q (.rt d e)) (fun c e => Q (.ex c e))))
    (hd : ∀ e, I xs.length e → W (exL G io r e) Q) : W (exL G io (.forS [t] true k args body :: r) e) Q :=
  W_for h1 h2 hi I h0 (fun i x e hx hI => ⟨[x], _, rfl, rfl, hs i x e hx hI⟩) hd
/-- a while: k says how many turns are left at most -/
theorem W_whl {c : IE} {body r : List IS} {e : Env} {Q : F → Prop} (k : Nat) (I : Nat → Env → Prop) (h0 : I k e) (hk : k ≤ 1000000)
    (hs : ∀ j e, j ≤ k → I j e → ∃ b q e1, evt G c e = some (.ok b q e1) ∧ (b = true → W (exL G io body e1) (LQ (fun e2 => ∃ i, i < j ∧ I i e2) (fun e => W (exL G io r e) Q) (fun d e => Q (.rt d e)) (fun c e => Q (.ex c e)))) ∧ (b = false → W (exL G io r e1) Q)) :
    W (exL G io (.whl c body :: r) e) Q := by
  have go : ∀ (fuel j : Nat) (e : Env), j < fuel → j ≤ k → I j e → W (match whlGo (fun e => evt G c e) (fun e => exL G io body e) fuel e with
      | some (.nx e1) => exL G io r e1
      | f => f) Q := by
    intro fuel
    induction fuel with
    | zero => intro j e h; exact absurd h (Nat.not_lt_zero j)
    | succ fuel ih =>
      intro j e hj hjk hI
      obtain ⟨b, q, e1, h1, h2, h3⟩ := hs j e hjk hI
      simp only [whlGo, h1, bndS_ok]
      cases b with
      | false => exact h3 rfl
      | true =>
        obtain ⟨f, d3, d4⟩ := h2 rfl
        simp only [if_true, d3]
        cases f with
        | nx e2 =>
          obtain ⟨i, i1, i2⟩ := d4
          exact ih i e2 (by omega) (by omega) i2
        | ct e2 =>
          obtain ⟨i, i1, i2⟩ := d4
          exact ih i e2 (by omega) (by omega) i2
        | bk e2 => exact d4
        | rt d e2 => exact ⟨_, rfl, d4⟩
        | ex c e2 => exact ⟨_, rfl, d4⟩
  have := go most k e (by unfold most; omega) (Nat.le_refl _) h0
  simp only [exL, exS]
  exact this
end
/-! ### lent as a whole -/
theorem era_nil : eraseEnv [] = [] := rfl
theorem era_s (d : D) (e : Env) : eraseEnv (some d :: e) = some d.erase :: eraseEnv e := rfl
theorem era_n (e : Env) : eraseEnv (none :: e) = none :: eraseEnv e := rfl
theorem pur_nil : pureEnv [] = true := rfl
theorem pur_s (d : D) (e : Env) : pureEnv (some d :: e) = (d.pure && pureEnv e) := rfl
theorem pur_n (e : Env) : pureEnv (none :: e) = pureEnv e := rfl
mutual
/-- all flags down, nothing of a class within -/
def D.shd : D → Bool
  | .lst o xs => !o && shdL xs
  | .tup o xs => !o && shdL xs
  | .dct _ o _ vs => !o && shdL vs
  | .ins _ _ => false
  | _ => true
def shdL : List D → Bool
  | [] => true
  | d :: ds => D.shd d && shdL ds
end
mutual
theorem D.shd_ok : ∀ d : D, d.shd = true → d.erase = d ∧ d.pure = true
  | .non, _ => ⟨rfl, rfl⟩
  | .bl _, _ => ⟨rfl, rfl⟩
  | .int _, _ => ⟨rfl, rfl⟩
  | .str _, _ => ⟨rfl, rfl⟩
  | .scr _, _ => ⟨rfl, rfl⟩
  | .ins _ _, h => by simp [D.shd] at h
  | .lst o xs, h => by
    simp only [D.shd, Bool.and_eq_true, Bool.not_eq_true'] at h
    obtain ⟨rfl, h⟩ := h
    obtain ⟨h1, h2⟩ := shdL_ok xs h
    exact ⟨by simp only [D.erase, h1], by simp only [D.pure, h2]⟩
  | .tup o xs, h => by
    simp only [D.shd, Bool.and_eq_true, Bool.not_eq_true'] at h
    obtain ⟨rfl, h⟩ := h
    obtain ⟨h1, h2⟩ := shdL_ok xs h
    exact ⟨by simp only [D.erase, h1], by simp only [D.pure, h2]⟩
  | .dct k o ks vs, h => by
    simp only [D.shd, Bool.and_eq_true, Bool.not_eq_true'] at h
    obtain ⟨rfl, h⟩ := h
    obtain ⟨h1, h2⟩ := shdL_ok vs h
    exact ⟨by simp only [D.erase, h1], by simp only [D.pure, h2]⟩
theorem shdL_ok : ∀ ds : List D, shdL ds = true → eraseL ds = ds ∧ pureL ds = true
  | [], _ => ⟨rfl, rfl⟩
  | d :: ds, h => by
    simp only [shdL, Bool.and_eq_true] at h
    obtain ⟨h1, h2⟩ := D.shd_ok d h.1
    obtain ⟨h3, h4⟩ := shdL_ok ds h.2
    exact ⟨by simp only [eraseL, h1, h3], by simp only [pureL, h2, h4, Bool.and_self]⟩
end
theorem shdL_of : ∀ {ds : List D}, (∀ d ∈ ds, d.shd = true) → shdL ds = true
  | [], _ => rfl
  | d :: ds, h => by
    simp only [shdL, h d (List.mem_cons_self ..), shdL_of fun x hx => h x (List.mem_cons_of_mem _ hx), Bool.and_self]
mutual
theorem D.shd_own : ∀ d : D, d.shd = true → d.own = false
  | .non, _ => rfl
  | .bl _, _ => rfl
  | .int _, _ => rfl
  | .str _, _ => rfl
  | .scr _, _ => rfl
  | .ins _ _, h => by simp [D.shd] at h
  | .lst o xs, h => by
    simp only [D.shd, Bool.and_eq_true, Bool.not_eq_true'] at h
    exact h.1
  | .tup o xs, h => by
    simp only [D.shd, Bool.and_eq_true, Bool.not_eq_true'] at h
    exact h.1
  | .dct k o ks vs, h => by
    simp only [D.shd, Bool.and_eq_true, Bool.not_eq_true'] at h
    exact h.1
end
theorem shdL_noOwn {ds : List D} (h : shdL ds = true) : noOwn ds = true := by
  induction ds with
  | nil => rfl
  | cons d ds ih =>
    simp only [shdL, Bool.and_eq_true] at h
    rw [noOwn_cons, D.shd_own d h.1, ih h.2]
    rfl
/-! ### calls -/
/-- a def's answer, by its body -/
theorem run_W {T : List FD} {n f : Nat} {fd : FD} {ds : List D} {P : Out → Prop} (h : T[f]? = some fd) (hl : ds.length = fd.np) (w : W (exL (run T n) fd.io fd.body (start fd ds)) fun r => ∃ o, ended fd.io (some r) = some o ∧ P o) : ∃ o, run T (n + 1) f ds = some o ∧ P o := by
  obtain ⟨r, h1, o, h2, h3⟩ := w
  refine ⟨o, ?_, h3⟩
  rw [run_at h]
  unfold call1
  rw [if_pos hl, h1, h2]
theorem run_We {T : List FD} {n f : Nat} {fd : FD} {ds : List D} {o : Out} (h : T[f]? = some fd) (hl : ds.length = fd.np) (w : W (exL (run T n) fd.io fd.body (start fd ds)) fun r => ended fd.io (some r) = some o) : run T (n + 1) f ds = some o := by
  obtain ⟨o', h1, h2⟩ := run_W (P := fun x => x = o) h hl (w.mono fun r hr => ⟨o, hr, rfl⟩)
  rw [h1, h2]
theorem end_rt (d : D) (e : Env) : ended [] (some (.rt d e)) = some (.ret d []) := rfl
theorem end_nx (e : Env) : ended [] (some (.nx e)) = some (.ret .non []) := rfl
theorem end_ex (io : List Nat) (c : Nat) (e : Env) : ended io (some (.ex c e)) = some (.ex c) := rfl
/-- a range's turn -/
theorem rng_at {lo : Int} {n i : Nat} {x : D} (h : (rangeD lo n)[i]? = some x) : i < n ∧ x = .int (lo + i) := by
  have hl := (List.getElem?_eq_some_iff.mp h).1
  rw [range_len] at hl
  refine ⟨hl, ?_⟩
  unfold rangeD at h
  rw [List.getElem?_map, List.getElem?_range hl] at h
  simpa using h.symm
theorem at2 {α : Type} (a b c : α) (l : List α) : atI (a :: b :: c :: l) 2 = some c := by
  unfold atI
  rw [ixN_ok (by omega) (by simp only [List.length_cons]; omega)]
  rfl
theorem i_rng2 {i j : Int} (h1 : b62 i = true) (h2 : b62 j = true) : items .rng2 [.int i, .int j] = some (rangeD i (j - i).toNat) := by
  show (if b62 i && b62 j then some (rangeD i (j - i).toNat) else none) = _
  rw [h1, h2]
  rfl
/-! ### words, texts, lists of intL -/
theorem s_eq_str (a b : List Nat) : sem2 .eq (.str a) (.str b) = some (.bl (a == b)) := rfl
theorem s_ne_str (a b : List Nat) : sem2 .ne (.str a) (.str b) = some (.bl (!(a == b))) := rfl
theorem wq_one_one : (([111, 110, 101] : List Nat) == [111, 110, 101]) = true := by decide
theorem wq_one_row : (([111, 110, 101] : List Nat) == [114, 111, 119]) = false := by decide
theorem wq_one_or : (([111, 110, 101] : List Nat) == [111, 114]) = false := by decide
theorem wq_one_many : (([111, 110, 101] : List Nat) == [109, 97, 110, 121]) = false := by decide
theorem wq_one_maybe : (([111, 110, 101] : List Nat) == [109, 97, 121, 98, 101]) = false := by decide
theorem wq_row_one : (([114, 111, 119] : List Nat) == [111, 110, 101]) = false := by decide
theorem wq_row_row : (([114, 111, 119] : List Nat) == [114, 111, 119]) = true := by decide
theorem wq_row_or : (([114, 111, 119] : List Nat) == [111, 114]) = false := by decide
theorem wq_row_many : (([114, 111, 119] : List Nat) == [109, 97, 110, 121]) = false := by decide
theorem wq_row_maybe : (([114, 111, 119] : List Nat) == [109, 97, 121, 98, 101]) = false := by decide
theorem wq_or_one : (([111, 114] : List Nat) == [111, 110, 101]) = false := by decide
theorem wq_or_row : (([111, 114] : List Nat) == [114, 111, 119]) = false := by decide
theorem wq_or_or : (([111, 114] : List Nat) == [111, 114]) = true := by decide
theorem wq_or_many : (([111, 114] : List Nat) == [109, 97, 110, 121]) = false := by decide
theorem wq_or_maybe : (([111, 114] : List Nat) == [109, 97, 121, 98, 101]) = false := by decide
theorem wq_many_one : (([109, 97, 110, 121] : List Nat) == [111, 110, 101]) = false := by decide
theorem wq_many_row : (([109, 97, 110, 121] : List Nat) == [114, 111, 119]) = false := by decide
theorem wq_many_or : (([109, 97, 110, 121] : List Nat) == [111, 114]) = false := by decide
theorem wq_many_many : (([109, 97, 110, 121] : List Nat) == [109, 97, 110, 121]) = true := by decide
theorem wq_many_maybe : (([109, 97, 110, 121] : List Nat) == [109, 97, 121, 98, 101]) = false := by decide
theorem wq_maybe_one : (([109, 97, 121, 98, 101] : List Nat) == [111, 110, 101]) = false := by decide
theorem wq_maybe_row : (([109, 97, 121, 98, 101] : List Nat) == [114, 111, 119]) = false := by decide
theorem wq_maybe_or : (([109, 97, 121, 98, 101] : List Nat) == [111, 114]) = false := by decide
theorem wq_maybe_many : (([109, 97, 121, 98, 101] : List Nat) == [109, 97, 110, 121]) = false := by decide
theorem wq_maybe_maybe : (([109, 97, 121, 98, 101] : List Nat) == [109, 97, 121, 98, 101]) = true := by decide
def intL (l : List Int) : List D := l.map D.int
theorem ints_own (l : List Int) : noOwn (intL l) = true := noOwn_of fun x hx => by
  obtain ⟨i, _, rfl⟩ := List.mem_map.mp hx
  rfl
theorem ints_D (l : List Int) : intsD (intL l) = some l := by
  induction l with
  | nil => rfl
  | cons i l ih =>
    show (intsD (intL l)).map _ = _
    rw [ih]
    rfl
theorem ints_in (i : Int) (l : List Int) : inL (.int i) (intL l) = some (decide (i ∈ l)) := by
  unfold inL
  have h1 : (intL l).all scalar = true := by
    rw [List.all_eq_true]
    intro x hx
    obtain ⟨j, _, rfl⟩ := List.mem_map.mp hx
    rfl
  rw [h1]
  have h2 : ((intL l).any fun x => eqb x (.int i)) = decide (i ∈ l) := by
    rw [Bool.eq_iff_iff]
    simp only [List.any_eq_true, decide_eq_true_eq]
    constructor
    · rintro ⟨x, hx, e⟩
      obtain ⟨j, hj, rfl⟩ := List.mem_map.mp hx
      have : j = i := by simpa [eqb] using e
      rw [← this]
      exact hj
    · intro h
      exact ⟨_, List.mem_map.mpr ⟨i, h, rfl⟩, by simp [eqb]⟩
  simp only [scalar, Bool.true_and, if_true, h2]
theorem s_in_ints (i : Int) (o : Bool) (l : List Int) : sem2 .isIn (.int i) (.lst o (intL l)) = some (.bl (decide (i ∈ l))) := by
  show ((inL (.int i) (intL l)).map D.bl) = _
  rw [ints_in]
  rfl
theorem s_nin_ints (i : Int) (o : Bool) (l : List Int) : sem2 .notIn (.int i) (.lst o (intL l)) = some (.bl (!decide (i ∈ l))) := by
  show ((inL (.int i) (intL l)).map fun r => D.bl (!r)) = _
  rw [ints_in]
  rfl
theorem s_sorted_ints (o : Bool) (l : List Int) : sem1 .sorted (.lst o (intL l)) = some (.lst true (intL (sortI l))) := by
  have h : ∀ xs : List D, intsD xs = some l → sem1 .sorted (.lst o xs) = some (.lst true (intL (sortI l))) := by
    intro xs hx
    unfold sem1
    dsimp only
    split
    · rename_i s xs'
      simp [intsD] at hx
    · rw [hx]
      rfl
  exact h _ (ints_D l)
theorem ints_flat (l : List Int) : flatL (intL l) = true ∧ depthL (intL l) = 0 := by
  induction l with
  | nil => exact ⟨rfl, rfl⟩
  | cons i l ih =>
    constructor
    · show (true && flatL (intL l)) = true
      rw [ih.1]
      rfl
    · show max 0 (depthL (intL l)) = 0
      rw [ih.2]
      rfl
theorem ints_eqb : ∀ a b : List Int, eqbL (intL a) (intL b) = (a == b)
  | [], [] => rfl
  | [], _ :: _ => rfl
  | _ :: _, [] => rfl
  | i :: a, j :: b => by
    show (eqb (.int i) (.int j) && eqbL (intL a) (intL b)) = _
    rw [ints_eqb a b]
    simp [eqb]
theorem s_eq_ints (o o' : Bool) (a b : List Int) : sem2 .eq (.lst o (intL a)) (.lst o' (intL b)) = some (.bl (a == b)) := by
  have f : ∀ (o : Bool) (l : List Int), eqOk (.lst o (intL l)) = true := fun o l => by
    unfold eqOk
    simp only [D.flat, D.depth, ints_flat l, Bool.true_and]
    decide
  show ((scalD (.lst o (intL a)) (.lst o' (intL b))).map D.bl) = _
  have e : scalD (.lst o (intL a)) (.lst o' (intL b)) = eqD (.lst o (intL a)) (.lst o' (intL b)) := rfl
  rw [e]
  unfold eqD
  rw [f, f]
  simp only [Bool.and_self, if_true, eqb, ints_eqb, Option.map_some]
theorem s_add_ints {o o' : Bool} {a b : List Int} (h : a.length + b.length ≤ line) : sem2 .add (.lst o (intL a)) (.lst o' (intL b)) = some (.lst true (intL (a ++ b))) := by
  show (if noOwn (intL a) && noOwn (intL b) && decide ((intL a).length + (intL b).length ≤ line) then some (D.lst true (intL a ++ intL b)) else none) = _
  have h2 : (intL a).length + (intL b).length ≤ line := by
    unfold intL
    rw [List.length_map, List.length_map]
    exact h
  rw [ints_own, ints_own, decide_eq_true h2]
  simp only [Bool.and_self, if_true]
  unfold intL
  rw [List.map_append]
/-- a comprehension with a test -/
theorem turns_fm {s : Nat} {elt : Env → Option (R D)} {tst : Env → Option (R Bool)} {e0 : Env} (f : D → Bool) (g : D → D) : ∀ (xs acc : List D) (q : Bool) (e : Env), (∀ v, e.set s v = e0.set s v) →
    (∀ x ∈ xs, (∃ q1, tst (e0.set s (some x)) = some (.ok (f x) q1 (e0.set s (some x)))) ∧ (f x = true → (g x).own = false ∧ ∃ q2, elt (e0.set s (some x)) = some (.ok (g x) q2 (e0.set s (some x))))) → acc.length + xs.length ≤ line →
    ∃ q' e', turns s elt tst xs acc q e = some (.ok (acc ++ (xs.filter f).map g) q' e') ∧ (∀ v, e'.set s v = e0.set s v)
  | [], acc, q, e, he, _, _ => ⟨q, e, by simp [turns], he⟩
  | x :: xs, acc, q, e, he, hs, hl => by
    obtain ⟨⟨q1, h1⟩, h2⟩ := hs x (List.mem_cons_self ..)
    have rest := fun y hy => hs y (List.mem_cons_of_mem _ hy)
    simp only [List.length_cons] at hl
    have hset : ∀ v, (e0.set s (some x)).set s v = e0.set s v := fun v => by rw [List.set_set]
    cases hf : f x with
    | true =>
      obtain ⟨h3, q2, h4⟩ := h2 hf
      rw [hf] at h1
      obtain ⟨q', e', r1, r2⟩ := turns_fm f g xs (acc ++ [g x]) (q && q1 && q2) (e0.set s (some x)) hset rest (by rw [List.length_append]; simp only [List.length_singleton]; omega)
      refine ⟨q', e', ?_, r2⟩
      have : ¬ line ≤ acc.length := by omega
      simp only [turns, he, h1, h4, h3, Bool.false_or, decide_eq_true_eq, if_neg this, r1, List.filter_cons, hf, if_true, List.map_cons, List.append_assoc, List.singleton_append]
    | false =>
      rw [hf] at h1
      obtain ⟨q', e', r1, r2⟩ := turns_fm f g xs acc (q && q1) (e0.set s (some x)) hset rest (by omega)
      refine ⟨q', e', ?_, r2⟩
      simp only [turns, he, h1, r1, List.filter_cons, hf, Bool.false_eq_true, if_false]
theorem ev_compf {G : Gam} {s : Nat} {k : IK} {args : List IE} {elt tst : IE} {e e1 : Env} {ds xs : List D} {q : Bool} (f : D → Bool) (g : D → D) (ht : tst.isNop = false) (h1 : eva G args e = some (.ok ds q e1)) (h2 : items k ds = some xs) (hl : xs.length ≤ 1000000)
    (hs : ∀ x ∈ xs, (∃ q1, evt G tst (e1.set s (some x)) = some (.ok (f x) q1 (e1.set s (some x)))) ∧ (f x = true → (g x).own = false ∧ ∃ q2, ev G elt false (e1.set s (some x)) = some (.ok (g x) q2 (e1.set s (some x))))) :
    ∃ q', ∀ w, ev G (.comp s k args elt tst) w e = Il.fin w (.lst true ((xs.filter f).map g)) q' (e1.set s (gets e1 s)) := by
  obtain ⟨q', e', r1, r4⟩ := turns_fm (s := s) (e0 := e1) (elt := fun e => ev G elt false e) (tst := fun e => evt G tst e) f g xs [] q (e1.set s none) (fun v => by rw [List.set_set]) hs (by rw [lineEq, List.length_nil]; omega)
  refine ⟨q', fun w => ?_⟩
  simp only [ev, ht, Bool.false_eq_true, if_false, h1, bnd_ok, h2, r1, List.nil_append, r4]
/-- a comprehension, element by element -/
theorem ev_compm {G : Gam} {s : Nat} {k : IK} {args : List IE} {elt : IE} {e e1 : Env} {ds xs : List D} {q : Bool} (g : D → D) (h1 : eva G args e = some (.ok ds q e1)) (h2 : items k ds = some xs) (hl : xs.length ≤ 1000000)
    (hs : ∀ x ∈ xs, (g x).own = false ∧ ∃ q2, ev G elt false (e1.set s (some x)) = some (.ok (g x) q2 (e1.set s (some x)))) :
    ∃ q', ∀ w, ev G (.comp s k args elt .nop) w e = Il.fin w (.lst true (xs.map g)) q' (e1.set s (gets e1 s)) := by
  obtain ⟨q', e', r1, r4⟩ := turns_fm (s := s) (e0 := e1) (elt := fun e => ev G elt false e) (tst := fun e => some (.ok true true e)) (fun _ => true) g xs [] q (e1.set s none) (fun v => by rw [List.set_set]) (fun x hx => ⟨⟨true, rfl⟩, fun _ => hs x hx⟩) (by rw [lineEq, List.length_nil]; omega)
  refine ⟨q', fun w => ?_⟩
  have : xs.filter (fun _ => true) = xs := List.filter_eq_self.mpr fun _ _ => rfl
  rw [this] at r1
  simp only [ev, IE.isNop, if_true, h1, bnd_ok, h2, r1, List.nil_append, r4]
theorem s_min (i j : Int) : sem3 1 (.int i) (.int j) .non = some (.int (if j < i then j else i)) := rfl
theorem s_eq_bl (x y : Bool) : sem2 .eq (.bl x) (.bl y) = some (.bl (x == y)) := rfl
theorem s_ne_bl (x y : Bool) : sem2 .ne (.bl x) (.bl y) = some (.bl (!(x == y))) := rfl
theorem intL_app (l : List Int) (i : Int) : intL l ++ [.int i] = intL (l ++ [i]) := by unfold intL; simp
theorem intL_len (l : List Int) : (intL l).length = l.length := by unfold intL; rw [List.length_map]
theorem cut_map {α β : Type} (f : α → β) (l : List α) (lo hi : Option Int) : cutL (l.map f) lo hi = (cutL l lo hi).map f := by
  unfold cutL
  rw [List.length_map, List.map_take, List.map_drop]
theorem cut_le {α : Type} (l : List α) (lo hi : Option Int) : (cutL l lo hi).length ≤ l.length := by
  unfold cutL
  rw [List.length_take, List.length_drop]
  omega
theorem t_lst (o : Bool) (xs : List D) : truth (.lst o xs) = some (!xs.isEmpty) := rfl
theorem s_in_two (o : Bool) (a b c : List Nat) : sem2 .isIn (.str a) (.lst o [.str b, .str c]) = some (.bl ((b == a) || ((c == a) || false))) := rfl
theorem a_neg1 {α : Type} (xs : List α) (x : α) : atI (xs ++ [x]) (-1) = some x := by
  unfold atI ixN
  rw [if_neg (by omega), if_pos (by rw [List.length_append, List.length_singleton]; omega)]
  show (xs ++ [x])[((-1 : Int) + ((xs ++ [x]).length : Nat)).toNat]? = _
  rw [List.length_append, List.length_singleton, show ((-1 : Int) + ((xs.length + 1 : Nat) : Int)).toNat = xs.length by omega]
  simp
end Il
set_option Elab.async false
set_option linter.all false
set_option maxRecDepth 100000
set_option maxHeartbeats 0
/-! terms of rulescan_k01_signs (printed by gen.py) -/
namespace Il.Q
open Il
def i_parts_of : Nat := 0
def i_leaves_of : Nat := 1
def i_looked_at : Nat := 2
def i_signs_of : Nat := 3
def i_cell_at : Nat := 4
def i_sign_by : Nat := 5
def i_letters : Nat := 6
def i_some_of : Nat := 7
def i_text_by : Nat := 8
def i_grown : Nat := 9
def i_wide : Nat := 10
def i_words : Nat := 11
def i_loops : Nat := 12
def i_long : Nat := 13
def i_patterns : Nat := 14
def i_leaves : Nat := 15
def i_law : Nat := 16
/-- parts_of: slots 0:pattern -/
def b_parts_of : List IS := [
    (.ite (.bor (.op2 .eq (.ix (.var 0) (.int 0)) (.str [114, 111, 119])) (.op2 .eq (.ix (.var 0) (.int 0)) (.str [111, 114]))) [(.ret (.op1 .list (.ix (.var 0) (.int 1))))] []),
    (.ite (.op2 .eq (.ix (.var 0) (.int 0)) (.str [111, 110, 101])) [(.ret (.lst []))] []),
    (.ret (.lst [(.ix (.var 0) (.int 1))]))]
def d_parts_of : FD := ⟨1, 1, [], b_parts_of⟩
/-- leaves_of: slots 0:pattern 1:found 2:part -/
def b_leaves_of : List IS := [
    (.ite (.op2 .eq (.ix (.var 0) (.int 0)) (.str [111, 110, 101])) [(.ite (.bor (.op2 .eq (.ix (.var 0) (.int 1)) (.str [])) (.op2 .ne (.op1 .lenset (.ix (.var 0) (.int 1))) (.op1 .len (.ix (.var 0) (.int 1))))) [.never] []),
    (.ret (.lst [(.ix (.var 0) (.int 1))]))] []),
    (.ite (.band (.op2 .eq (.ix (.var 0) (.int 0)) (.str [111, 114])) (.op2 .eq (.op1 .len (.ix (.var 0) (.int 1))) (.int 0))) [.never] []),
    (.set 1 (.lst [])),
    (.forS [2] true .it [(.call i_parts_of [(.shr 0)] [])] [(.ext (.var 1) (.call i_leaves_of [(.shr 2)] []))]),
    (.ret (.shr 1))]
def d_leaves_of : FD := ⟨1, 3, [], b_leaves_of⟩
/-- looked_at: slots 0:patterns 1:found 2:pattern -/
def b_looked_at : List IS := [
    (.ite (.bor (.op2 .eq (.op1 .len (.var 0)) (.int 0)) (.op2 .gt (.op1 .len (.var 0)) (.gint 0 8))) [.never] []),
    (.set 1 (.lst [])),
    (.forS [2] true .it [(.shr 0)] [(.ext (.var 1) (.call i_leaves_of [(.shr 2)] []))]),
    (.ite (.op2 .gt (.op1 .len (.var 1)) (.gint 1 60)) [.never] []),
    (.ret (.shr 1))]
def d_looked_at : FD := ⟨1, 3, [], b_looked_at⟩
/-- signs_of: slots 0:patterns 1:seen 2:signs 3:sign -/
def b_signs_of : List IS := [
    (.set 1 (.dic .k [] [])),
    (.forS [2] true .it [(.call i_looked_at [(.shr 0)] [])] [(.forS [3] true .it [(.shr 2)] [(.sub (.var 1) (.shr 3) (.bl true))])]),
    (.ret (.op2 .join (.str []) (.op1 .sorted (.var 1))))]
def d_signs_of : FD := ⟨1, 4, [], b_signs_of⟩
/-- _law_cell_at: slots 0:script 1:k -/
def b_cell_at : List IS := [
    (.ite (.op2 .lt (.var 1) (.op1 .len (.var 0))) [(.ret (.ix (.var 0) (.var 1)))] []),
    (.ret (.int 0))]
def d_cell_at : FD := ⟨2, 2, [], b_cell_at⟩
/-- _law_sign_by: slots 0:cell 1:some -/
def b_sign_by : List IS := [
    (.set 1 (.str [32, 33, 34, 35, 36, 38, 39, 40, 41, 42, 43, 44, 45, 46, 47, 48, 49, 50, 51, 52, 53, 54, 55, 56, 57, 58, 59, 60, 61, 62, 63, 64, 65, 66, 67, 68, 69, 70, 71, 72, 73, 74, 75, 76, 77, 78, 79, 80, 81, 82, 83, 84, 85, 86, 87, 88, 89, 90, 91, 92, 93, 94, 95, 96])),
    (.set 1 (.op2 .add (.var 1) (.str [97, 98, 99, 100, 101, 102, 103, 104, 105, 106, 107, 108, 109, 110, 111, 112, 113, 114, 115, 116, 117, 118, 119, 120, 121, 122, 123, 124, 125, 126, 10, 9]))),
    (.ret (.ix (.var 1) (.op2 .mod (.var 0) (.int 96))))]
def d_sign_by : FD := ⟨1, 2, [], b_sign_by⟩
/-- _law_letters: slots 0:cell 1:gap 2:size 3:signs 4:k -/
def b_letters : List IS := [
    (.set 1 (.ix (.lst [(.int 1), (.int 5), (.int 7), (.int 11), (.int 13), (.int 17), (.int 19), (.int 23)]) (.op2 .mod (.op2 .fdiv (.var 0) (.int 96)) (.int 8)))),
    (.set 2 (.int 1)),
    (.ite (.op2 .eq (.op2 .mod (.op2 .fdiv (.var 0) (.int 768)) (.int 4)) (.int 1)) [(.set 2 (.op2 .add (.op2 .add (.int 2) (.op2 .mod (.op2 .fdiv (.var 0) (.int 3072)) (.int 8))) (.op2 .mul (.int 10) (.op2 .mod (.op2 .fdiv (.var 0) (.int 24576)) (.int 2)))))] []),
    (.set 3 (.comp 4 .rng1 [(.op2 .mul (.int 5) (.var 2))] (.call i_sign_by [(.op2 .add (.var 0) (.op2 .mul (.var 4) (.var 1)))] []) .nop)),
    (.ret (.comp 4 .rng1 [(.int 5)] (.op2 .join (.str []) (.slc (.var 3) (.op2 .mul (.var 4) (.var 2)) (.op2 .add (.op2 .mul (.var 4) (.var 2)) (.var 2)))) .nop))]
def d_letters : FD := ⟨1, 5, [], b_letters⟩
/-- _law_some_of: slots 0:letters_here 1:mask 2:signs 3:k -/
def b_some_of : List IS := [
    (.set 2 (.str [])),
    (.forS [3] true .rng1 [(.int 4)] [(.ite (.op2 .eq (.op2 .mod (.var 1) (.int 2)) (.int 1)) [(.set 2 (.op2 .add (.ix (.var 0) (.var 3)) (.var 2)))] []),
    (.set 1 (.op2 .fdiv (.var 1) (.int 2)))]),
    (.ret (.shr 2))]
def d_some_of : FD := ⟨2, 4, [], b_some_of⟩
/-- _law_text_by: slots 0:cell 1:size 2:letters_here 3:made 4:number 5:k 6:group -/
def b_text_by : List IS := [
    (.set 3 (.str [])),
    (.set 4 (.op2 .mod (.var 0) (.int 2147483647))),
    (.forS [5] true .rng1 [(.shr 1)] [(.set 4 (.op2 .mod (.op2 .add (.op2 .mul (.var 4) (.int 48271)) (.int 11)) (.int 2147483647))),
    (.set 6 (.ix (.var 2) (.op2 .mod (.op2 .fdiv (.var 4) (.int 7)) (.op1 .len (.var 2))))),
    (.set 3 (.op2 .add (.var 3) (.ix (.var 6) (.op2 .mod (.op2 .fdiv (.var 4) (.int 700)) (.op1 .len (.var 6))))))]),
    (.ret (.shr 3))]
def d_text_by : FD := ⟨3, 7, [], b_text_by⟩
/-- _law_grown: slots 0:held 1:cell 2:letters_here 3:room 4:way 5:more 6:last 7:parts -/
def b_grown : List IS := [
    (.set 4 (.op2 .mod (.var 1) (.int 10))),
    (.set 5 (.op2 .fdiv (.var 1) (.int 10))),
    (.ite (.band (.op2 .gt (.var 4) (.int 5)) (.band (.op2 .gt (.var 3) (.int 0)) (.op2 .lt (.op1 .len (.var 0)) (.int 8)))) [(.apS (.var 0) (.tup [(.str [111, 110, 101]), (.call i_some_of [(.shr 2), (.op2 .add (.int 1) (.op2 .mod (.var 5) (.int 15)))] [])])),
    (.ret (.op2 .sub (.var 3) (.int 1)))] []),
    (.ite (.band (.op2 .eq (.var 4) (.int 0)) (.op2 .lt (.op1 .len (.var 0)) (.int 8))) [(.apS (.var 0) (.tup [(.str [114, 111, 119]), (.lst [])]))] [(.ite (.band (.op2 .eq (.var 4) (.int 1)) (.var 0)) [(.apS (.var 0) (.tup [(.str [109, 97, 110, 121]), (.pop 0)]))] [(.ite (.band (.op2 .eq (.var 4) (.int 2)) (.var 0)) [(.apS (.var 0) (.tup [(.str [109, 97, 121, 98, 101]), (.pop 0)]))] [(.ite (.band (.op2 .gt (.var 4) (.int 2)) (.op2 .gt (.op1 .len (.var 0)) (.int 1))) [(.set 6 (.pop 0)),
    (.set 7 (.lst [(.pop 0), (.shr 6)])),
    (.ite (.band (.op2 .eq (.op2 .mod (.var 5) (.int 3)) (.int 1)) (.var 0)) [(.set 7 (.op2 .add (.lst [(.pop 0)]) (.var 7)))] []),
    (.apS (.var 0) (.tup [(.ix (.lst [(.str [114, 111, 119]), (.str [111, 114])]) (.op2 .mod (.op2 .fdiv (.var 4) (.int 2)) (.int 2))), (.shr 7)]))] [])])])]),
    (.ret (.shr 3))]
def d_grown : FD := ⟨4, 8, [0], b_grown⟩
/-- _law_wide: slots 0:cell 1:gap 2:k -/
def b_wide : List IS := [
    (.set 1 (.ix (.lst [(.int 1), (.int 5), (.int 7), (.int 11), (.int 13), (.int 17), (.int 19), (.int 23)]) (.op2 .mod (.op2 .fdiv (.var 0) (.int 96)) (.int 8)))),
    (.ret (.comp 2 .rng1 [(.op2 .add (.int 2) (.op2 .mod (.op2 .fdiv (.var 0) (.int 768)) (.int 60)))] (.call i_sign_by [(.op2 .add (.var 0) (.op2 .mul (.var 2) (.var 1)))] []) .nop))]
def d_wide : FD := ⟨1, 3, [], b_wide⟩
/-- _law_words: slots 0:script 1:letters_here 2:shape 3:count 4:most 5:number 6:held 7:k 8:size 9:signs 10:sign -/
def b_words : List IS := [
    (.set 1 (.call i_wide [(.call i_cell_at [(.shr 0), (.int 20)] [])] [])),
    (.set 2 (.op2 .mod (.call i_cell_at [(.shr 0), (.int 2)] []) (.int 4))),
    (.set 3 (.op2 .add (.int 1) (.op2 .mod (.op2 .fdiv (.call i_cell_at [(.shr 0), (.int 2)] []) (.int 4)) (.ix (.lst [(.int 8), (.int 8), (.int 3), (.int 58)]) (.var 2))))),
    (.set 4 (.ix (.lst [(.int 6), (.int 6), (.op3 1 (.int 40) (.op2 .fdiv (.int 58) (.var 3)) .nop), (.op3 1 (.int 40) (.op2 .fdiv (.int 58) (.var 3)) .nop)]) (.var 2))),
    (.set 5 (.op2 .mod (.call i_cell_at [(.shr 0), (.int 3)] []) (.int 2147483647))),
    (.set 6 (.lst [])),
    (.forS [7] true .rng1 [(.shr 3)] [(.set 5 (.op2 .mod (.op2 .add (.op2 .mul (.var 5) (.int 48271)) (.int 11)) (.int 2147483647))),
    (.set 8 (.op2 .mod (.op2 .fdiv (.var 5) (.int 7)) (.op2 .add (.var 4) (.int 1)))),
    (.ite (.op2 .eq (.op2 .mod (.call i_cell_at [(.shr 0), (.int 4)] []) (.int 3)) (.int 1)) [(.set 8 (.op2 .sub (.var 4) (.op2 .fdiv (.var 8) (.int 3))))] []),
    (.set 9 (.call i_text_by [(.shr 5), (.shr 8), (.shr 1)] [])),
    (.apS (.var 6) (.tup [(.str [114, 111, 119]), (.comp 10 .it [(.shr 9)] (.tup [(.str [111, 110, 101]), (.shr 10)]) .nop)]))]),
    (.ite (.op2 .eq (.op2 .mod (.var 2) (.int 2)) (.int 1)) [(.ret (.lst [(.tup [(.str [111, 114]), (.shr 6)])]))] []),
    (.ret (.shr 6))]
def d_words : FD := ⟨1, 11, [], b_words⟩
/-- _law_loops: slots 0:script 1:letters_here 2:pool 3:number 4:held 5:k 6:signs 7:sign 8:loops_here 9:loop 10:room -/
def b_loops : List IS := [
    (.set 2 (.slc (.op1 .list (.op2 .join (.str []) (.slc (.var 1) .nop (.int 4)))) .nop (.int 12))),
    (.set 3 (.op2 .mod (.call i_cell_at [(.shr 0), (.int 3)] []) (.int 2147483647))),
    (.set 4 (.lst [])),
    (.forS [5] true .rng1 [(.op2 .add (.int 1) (.op2 .mod (.call i_cell_at [(.shr 0), (.int 2)] []) (.int 6)))] [(.set 3 (.op2 .mod (.op2 .add (.op2 .mul (.var 3) (.int 48271)) (.int 11)) (.int 2147483647))),
    (.set 6 (.call i_text_by [(.shr 3), (.op2 .add (.int 3) (.op2 .mod (.op2 .fdiv (.var 3) (.int 7)) (.int 4))), (.shr 2)] [])),
    (.apS (.var 4) (.tup [(.str [114, 111, 119]), (.comp 7 .it [(.shr 6)] (.tup [(.str [111, 110, 101]), (.shr 7)]) .nop)]))]),
    (.set 8 (.lst [])),
    (.ite (.op2 .eq (.op2 .mod (.op2 .fdiv (.call i_cell_at [(.shr 0), (.int 2)] []) (.int 6)) (.int 2)) (.int 1)) [(.set 6 (.call i_text_by [(.call i_cell_at [(.shr 0), (.int 21)] []), (.op2 .add (.int 1) (.op2 .mod (.call i_cell_at [(.shr 0), (.int 22)] []) (.int 12))), (.shr 2)] [])),
    (.set 9 (.tup [(.str [114, 111, 119]), (.comp 7 .it [(.shr 6)] (.tup [(.str [111, 110, 101]), (.shr 7)]) .nop)])),
    (.apS (.var 8) (.ix (.lst [(.tup [(.str [109, 97, 110, 121]), (.shr 9)]), (.tup [(.str [109, 97, 121, 98, 101]), (.shr 9)])]) (.op1 .int (.op2 .eq (.op2 .mod (.call i_cell_at [(.shr 0), (.int 23)] []) (.int 3)) (.int 0)))))] [(.set 10 (.int 4)),
    (.forS [5] true .rng1 [(.int 8)] [(.set 10 (.call i_grown [(.mv 8), (.call i_cell_at [(.shr 0), (.op2 .add (.int 21) (.var 5))] []), (.shr 1), (.shr 10)] [8]))]),
    (.set 8 (.slc (.var 8) .nop (.int 2)))]),
    (.ite (.op2 .eq (.op2 .mod (.op2 .fdiv (.call i_cell_at [(.shr 0), (.int 2)] []) (.int 12)) (.int 2)) (.int 1)) [(.ret (.op2 .add (.var 8) (.var 4)))] []),
    (.ret (.op2 .add (.var 4) (.var 8)))]
def d_loops : FD := ⟨2, 11, [], b_loops⟩
/-- _law_long: slots 0:script 1:letters_here 2:cell 3:room 4:parts 5:k 6:drawn 7:leaf 8:other 9:both 10:some 11:size 12:whole 13:short -/
def b_long : List IS := [
    (.set 2 (.call i_cell_at [(.shr 0), (.int 2)] [])),
    (.set 3 (.op2 .sub (.int 6) (.op2 .mul (.int 2) (.op2 .mod (.op2 .fdiv (.var 2) (.int 36)) (.int 2))))),
    (.set 4 (.lst [])),
    (.forS [5] true .rng1 [(.op2 .add (.int 3) (.op2 .mod (.var 2) (.int 6)))] [(.set 6 (.call i_cell_at [(.shr 0), (.op2 .add (.int 3) (.var 5))] [])),
    (.set 7 (.tup [(.str [111, 110, 101]), (.call i_some_of [(.shr 1), (.op2 .add (.int 1) (.op2 .mod (.op2 .fdiv (.var 6) (.int 8)) (.int 15)))] [])])),
    (.set 8 (.tup [(.str [111, 110, 101]), (.call i_some_of [(.shr 1), (.op2 .add (.int 1) (.op2 .mod (.op2 .fdiv (.var 6) (.int 120)) (.int 15)))] [])])),
    (.set 9 (.sh (.tup [(.str [114, 111, 119]), (.lst [(.shr 7), (.shr 8)])]))),
    (.set 10 (.sh (.lst [(.tup [(.str [114, 111, 119]), (.lst [])]), (.shr 7), (.tup [(.str [109, 97, 110, 121]), (.shr 7)]), (.tup [(.str [109, 97, 121, 98, 101]), (.shr 7)]), (.shr 9), (.tup [(.str [111, 114]), (.lst [(.shr 7), (.shr 8)])])]))),
    (.set 10 (.op2 .add (.var 10) (.lst [(.tup [(.str [109, 97, 121, 98, 101]), (.tup [(.str [114, 111, 119]), (.lst [(.shr 7), (.tup [(.str [109, 97, 110, 121]), (.shr 8)])])])]), (.tup [(.str [111, 114]), (.lst [(.shr 9), (.shr 7)])])]))),
    (.set 11 (.ix (.lst [(.int 0), (.int 1), (.int 1), (.int 1), (.int 2), (.int 2), (.int 2), (.int 3)]) (.op2 .mod (.var 6) (.int 8)))),
    (.apS (.var 4) (.ix (.var 10) (.ix (.lst [(.int 0), (.op2 .mod (.var 6) (.int 8))]) (.op1 .int (.op2 .le (.var 11) (.var 3)))))),
    (.set 3 (.op2 .sub (.var 3) (.ix (.lst [(.int 0), (.shr 11)]) (.op1 .int (.op2 .le (.var 11) (.var 3))))))]),
    (.set 12 (.tup [(.ix (.lst [(.str [114, 111, 119]), (.str [111, 114])]) (.op2 .mod (.op2 .fdiv (.var 2) (.int 6)) (.int 2))), (.shr 4)])),
    (.set 12 (.ix (.lst [(.shr 12), (.tup [(.str [109, 97, 110, 121]), (.shr 12)]), (.tup [(.str [109, 97, 121, 98, 101]), (.shr 12)])]) (.op2 .mod (.op2 .fdiv (.var 2) (.int 12)) (.int 3)))),
    (.set 13 (.sh (.tup [(.str [114, 111, 119]), (.lst [(.tup [(.str [111, 110, 101]), (.ix (.ix (.var 1) (.int 0)) (.int 0))]), (.tup [(.str [111, 110, 101]), (.ix (.ix (.var 1) (.int 1)) (.int 0))])])]))),
    (.ret (.ix (.lst [(.lst [(.shr 12)]), (.lst [(.shr 12)]), (.lst [(.shr 13), (.shr 12)]), (.lst [(.shr 12), (.shr 13)])]) (.op2 .add (.op2 .mul (.op2 .mod (.op2 .fdiv (.var 2) (.int 36)) (.int 2)) (.int 2)) (.op2 .mod (.op2 .fdiv (.var 2) (.int 72)) (.int 2)))))]
def d_long : FD := ⟨2, 14, [], b_long⟩
/-- _law_patterns: slots 0:script 1:letters_here 2:held 3:room 4:k -/
def b_patterns : List IS := [
    (.ite (.op2 .eq (.op2 .mod (.call i_cell_at [(.shr 0), (.int 1)] []) (.int 4)) (.int 1)) [(.ret (.call i_words [(.shr 0)] []))] []),
    (.ite (.op2 .eq (.op2 .mod (.call i_cell_at [(.shr 0), (.int 1)] []) (.int 4)) (.int 3)) [(.ret (.call i_loops [(.shr 0), (.shr 1)] []))] []),
    (.ite (.op2 .eq (.op2 .mod (.call i_cell_at [(.shr 0), (.int 1)] []) (.int 8)) (.int 4)) [(.ret (.call i_long [(.shr 0), (.shr 1)] []))] []),
    (.set 2 (.lst [])),
    (.set 3 (.int 6)),
    (.forS [4] true .rng1 [(.int 12)] [(.set 3 (.call i_grown [(.mv 2), (.call i_cell_at [(.shr 0), (.op2 .add (.int 2) (.var 4))] []), (.shr 1), (.shr 3)] [2]))]),
    (.ite (.not (.var 2)) [(.apS (.var 2) (.tup [(.str [111, 110, 101]), (.ix (.var 1) (.int 0))]))] []),
    (.ret (.shr 2))]
def d_patterns : FD := ⟨2, 5, [], b_patterns⟩
/-- _law_leaves: slots 0:pattern 1:parts 2:found 3:part -/
def b_leaves : List IS := [
    (.ite (.op2 .eq (.ix (.var 0) (.int 0)) (.str [111, 110, 101])) [(.ret (.lst [(.ix (.var 0) (.int 1))]))] []),
    (.set 1 (.ix (.var 0) (.int 1))),
    (.ite (.bor (.op2 .eq (.ix (.var 0) (.int 0)) (.str [109, 97, 110, 121])) (.op2 .eq (.ix (.var 0) (.int 0)) (.str [109, 97, 121, 98, 101]))) [(.set 1 (.lst [(.ix (.var 0) (.int 1))]))] []),
    (.set 2 (.sh (.lst []))),
    (.forS [3] true .it [(.shr 1)] [(.set 2 (.sh (.op2 .add (.var 2) (.call i_leaves [(.shr 3)] []))))]),
    (.ret (.shr 2))]
def d_leaves : FD := ⟨1, 4, [], b_leaves⟩
/-- law: slots 0:script 1:letters_here 2:patterns_here 3:due 4:pattern 5:signs 6:sign 7:found -/
def b_law : List IS := [
    (.set 1 (.sh (.call i_letters [(.call i_cell_at [(.shr 0), (.int 0)] [])] []))),
    (.set 2 (.sh (.call i_patterns [(.shr 0), (.shr 1)] []))),
    (.set 3 (.lst [])),
    (.forS [4] true .it [(.shr 2)] [(.forS [5] true .it [(.call i_leaves [(.shr 4)] [])] [(.forS [6] true .it [(.shr 5)] [(.ite (.op2 .notIn (.var 6) (.var 3)) [(.app (.var 3) (.shr 6))] [])])])]),
    (.set 7 (.call i_signs_of [(.shr 2)] [])),
    (.ite (.op2 .ne (.var 2) (.sh (.call i_patterns [(.shr 0), (.shr 1)] []))) [(.ret (.bl false))] []),
    (.ret (.band (.isi (.var 7) .str) (.op2 .eq (.var 7) (.op2 .join (.str []) (.op1 .sorted (.var 3))))))]
def d_law : FD := ⟨1, 8, [], b_law⟩
def TT : List FD := [d_parts_of, d_leaves_of, d_looked_at, d_signs_of, d_cell_at, d_sign_by, d_letters, d_some_of, d_text_by, d_grown, d_wide, d_words, d_loops, d_long, d_patterns, d_leaves, d_law]
end Il.Q
set_option Elab.async false
set_option linter.all false
set_option maxRecDepth 100000
set_option maxHeartbeats 1000000
namespace Il.Q
open Il
theorem ex_cell_at (ns : List Int) (k : Int) (hk : 0 ≤ k) : ∃ i, ∀ n, run TT (n + 1) i_cell_at [.scr ns, .int k] = some (.ret (.int i) []) := by
  by_cases h : k < ns.length
  · obtain ⟨x, hx, _, _⟩ := atI_ok hk h
    refine ⟨x, fun n => ?_⟩
    rw [run_at (fd := d_cell_at) rfl]
    simp only [call1, ev.eq_1, ev.eq_2, ev.eq_3, ev.eq_4, ev.eq_5, ev.eq_6, ev.eq_7, ev.eq_8, ev.eq_9, ev.eq_10, ev.eq_11, ev.eq_12, ev.eq_13, ev.eq_14, ev.eq_15, ev.eq_16, ev.eq_17, ev.eq_18, ev.eq_19, ev.eq_20, ev.eq_21, ev.eq_22, ev.eq_23, ev.eq_24, ev.eq_25, ev.eq_28, ev.eq_29, ev.eq_30, ev.eq_31, ev.eq_32, ev.eq_33, ev.eq_34, ev.eq_35, evs, eva, evt, ended, outsOf, Il.start, okIO, called, backs, Il.fin, sets, optR, IE.isNop, chg, place, nodeOk, atP, setP, chgAt, ownLst, ownDct, unpD, LQ, reduceIte, reduceCtorEq, Nat.reduceSub, Nat.reduceAdd, Int.reduceLT, Int.reduceLE, Int.reduceNeg, decide_true, decide_false, ite_true, ite_false, if_true, if_false, bnd_ok, bnd_ex, bndS_ok, bndS_ex, gets_zero, gets_succ, own_non, own_bl, own_int, own_str, own_lst, own_tup, own_scr, frz_non, frz_bl, frz_int, frz_str, frz_scr, l_set0, l_setS, noOwn_nil, noOwn_cons, x_nil, x_pas, x_brk, x_cont, x_retN, x_ret, x_exp, x_set, x_unp, x_ite, x_app, x_apS, x_ext, nown_ok, seq_nx, seq_none, s_neg, s_len_lst, s_len_tup, s_len_scr, s_int_bl, s_int_int, s_add_int, s_sub_int, s_mul_l, s_mul_r, sm_48271, sm_10, sm_5, s_fdiv_int, s_mod_int, s_pow9, s_lt_int, s_le_int, s_gt_int, s_ge_int, s_eq_int, s_ne_int, s_find, s_index, s_in_str, s_nin_str, rcv_find, rcv_index, rcv_join, rcv_add, rcv_sub, rcv_mul, rcv_fdiv, rcv_mod, rcv_pow, rcv_eq, rcv_ne, rcv_lt, rcv_le, rcv_gt, rcv_ge, rcv_in, rcv_nin, t_bl, x_lst, x_tup, x_scr, i_str, i_lst, i_tup, ty_ii, ty_bi, ty_in, ty_ib, ty_bb, List.map_cons, List.map_nil, List.cons_append, List.nil_append, List.append_nil, List.replicate_succ, List.replicate_zero, List.length_cons, List.length_nil, List.all_cons, List.all_nil, List.contains_nil, List.isEmpty_nil, Bool.not_false, Bool.not_true, Bool.and_true, Bool.true_and, Bool.and_false, Bool.false_and, Bool.or_true, Bool.true_or, Bool.or_false, Bool.false_or, Bool.false_eq_true, Bool.and_self, Bool.or_self, Option.map_some, Option.map_none, and_self, and_true, true_and, era_nil, era_s, era_n, pur_nil, pur_s, pur_n, D.erase, eraseL, D.pure, pureL, D.closed, closedL, s_eq_str, s_ne_str, wq_one_one, wq_one_row, wq_one_or, wq_one_many, wq_one_maybe, wq_row_one, wq_row_row, wq_row_or, wq_row_many, wq_row_maybe, wq_or_one, wq_or_row, wq_or_or, wq_or_many, wq_or_maybe, wq_many_one, wq_many_row, wq_many_or, wq_many_many, wq_many_maybe, wq_maybe_one, wq_maybe_row, wq_maybe_or, wq_maybe_many, wq_maybe_maybe, s_in_ints, s_nin_ints, s_sorted_ints, s_eq_ints, s_min, s_eq_bl, s_ne_bl, intL_app, t_lst, s_in_two, d_cell_at, b_cell_at, h, hx]
  · refine ⟨0, fun n => ?_⟩
    rw [run_at (fd := d_cell_at) rfl]
    simp only [call1, ev.eq_1, ev.eq_2, ev.eq_3, ev.eq_4, ev.eq_5, ev.eq_6, ev.eq_7, ev.eq_8, ev.eq_9, ev.eq_10, ev.eq_11, ev.eq_12, ev.eq_13, ev.eq_14, ev.eq_15, ev.eq_16, ev.eq_17, ev.eq_18, ev.eq_19, ev.eq_20, ev.eq_21, ev.eq_22, ev.eq_23, ev.eq_24, ev.eq_25, ev.eq_28, ev.eq_29, ev.eq_30, ev.eq_31, ev.eq_32, ev.eq_33, ev.eq_34, ev.eq_35, evs, eva, evt, ended, outsOf, Il.start, okIO, called, backs, Il.fin, sets, optR, IE.isNop, chg, place, nodeOk, atP, setP, chgAt, ownLst, ownDct, unpD, LQ, reduceIte, reduceCtorEq, Nat.reduceSub, Nat.reduceAdd, Int.reduceLT, Int.reduceLE, Int.reduceNeg, decide_true, decide_false, ite_true, ite_false, if_true, if_false, bnd_ok, bnd_ex, bndS_ok, bndS_ex, gets_zero, gets_succ, own_non, own_bl, own_int, own_str, own_lst, own_tup, own_scr, frz_non, frz_bl, frz_int, frz_str, frz_scr, l_set0, l_setS, noOwn_nil, noOwn_cons, x_nil, x_pas, x_brk, x_cont, x_retN, x_ret, x_exp, x_set, x_unp, x_ite, x_app, x_apS, x_ext, nown_ok, seq_nx, seq_none, s_neg, s_len_lst, s_len_tup, s_len_scr, s_int_bl, s_int_int, s_add_int, s_sub_int, s_mul_l, s_mul_r, sm_48271, sm_10, sm_5, s_fdiv_int, s_mod_int, s_pow9, s_lt_int, s_le_int, s_gt_int, s_ge_int, s_eq_int, s_ne_int, s_find, s_index, s_in_str, s_nin_str, rcv_find, rcv_index, rcv_join, rcv_add, rcv_sub, rcv_mul, rcv_fdiv, rcv_mod, rcv_pow, rcv_eq, rcv_ne, rcv_lt, rcv_le, rcv_gt, rcv_ge, rcv_in, rcv_nin, t_bl, x_lst, x_tup, x_scr, i_str, i_lst, i_tup, ty_ii, ty_bi, ty_in, ty_ib, ty_bb, List.map_cons, List.map_nil, List.cons_append, List.nil_append, List.append_nil, List.replicate_succ, List.replicate_zero, List.length_cons, List.length_nil, List.all_cons, List.all_nil, List.contains_nil, List.isEmpty_nil, Bool.not_false, Bool.not_true, Bool.and_true, Bool.true_and, Bool.and_false, Bool.false_and, Bool.or_true, Bool.true_or, Bool.or_false, Bool.false_or, Bool.false_eq_true, Bool.and_self, Bool.or_self, Option.map_some, Option.map_none, and_self, and_true, true_and, era_nil, era_s, era_n, pur_nil, pur_s, pur_n, D.erase, eraseL, D.pure, pureL, D.closed, closedL, s_eq_str, s_ne_str, wq_one_one, wq_one_row, wq_one_or, wq_one_many, wq_one_maybe, wq_row_one, wq_row_row, wq_row_or, wq_row_many, wq_row_maybe, wq_or_one, wq_or_row, wq_or_or, wq_or_many, wq_or_maybe, wq_many_one, wq_many_row, wq_many_or, wq_many_many, wq_many_maybe, wq_maybe_one, wq_maybe_row, wq_maybe_or, wq_maybe_many, wq_maybe_maybe, s_in_ints, s_nin_ints, s_sorted_ints, s_eq_ints, s_min, s_eq_bl, s_ne_bl, intL_app, t_lst, s_in_two, d_cell_at, b_cell_at, h]
def tab96 : List Nat := [32, 33, 34, 35, 36, 38, 39, 40, 41, 42, 43, 44, 45, 46, 47, 48, 49, 50, 51, 52, 53, 54, 55, 56, 57, 58, 59, 60, 61, 62, 63, 64, 65, 66, 67, 68, 69, 70, 71, 72, 73, 74, 75, 76, 77, 78, 79, 80, 81, 82, 83, 84, 85, 86, 87, 88, 89, 90, 91, 92, 93, 94, 95, 96, 97, 98, 99, 100, 101, 102, 103, 104, 105, 106, 107, 108, 109, 110, 111, 112, 113, 114, 115, 116, 117, 118, 119, 120, 121, 122, 123, 124, 125, 126, 10, 9]
theorem ex_sign_by (k : Int) : ∃ c, (∀ n, run TT (n + 1) i_sign_by [.int k] = some (.ret (.str [c]) [])) ∧ c < 128 := by
  obtain ⟨h0, h1⟩ := mod_rng (a := k) (b := 96) (by omega)
  obtain ⟨c, hc, hm, _⟩ := atI_ok (xs := tab96) h0 (by simpa [tab96] using h1)
  have hb : ∀ c ∈ tab96, c < 128 := by decide
  refine ⟨c, fun n => ?_, hb c hm⟩
  rw [run_at (fd := d_sign_by) rfl]
  have ha : sem2 .add (.str [32, 33, 34, 35, 36, 38, 39, 40, 41, 42, 43, 44, 45, 46, 47, 48, 49, 50, 51, 52, 53, 54, 55, 56, 57, 58, 59, 60, 61, 62, 63, 64, 65, 66, 67, 68, 69, 70, 71, 72, 73, 74, 75, 76, 77, 78, 79, 80, 81, 82, 83, 84, 85, 86, 87, 88, 89, 90, 91, 92, 93, 94, 95, 96]) (.str [97, 98, 99, 100, 101, 102, 103, 104, 105, 106, 107, 108, 109, 110, 111, 112, 113, 114, 115, 116, 117, 118, 119, 120, 121, 122, 123, 124, 125, 126, 10, 9]) = some (.str tab96) := rfl
  have hx : ixD (.str tab96) (.int (k % 96)) = some (.str [c]) := by rw [x_str (by decide), hc]; rfl
  simp only [call1, ev.eq_1, ev.eq_2, ev.eq_3, ev.eq_4, ev.eq_5, ev.eq_6, ev.eq_7, ev.eq_8, ev.eq_9, ev.eq_10, ev.eq_11, ev.eq_12, ev.eq_13, ev.eq_14, ev.eq_15, ev.eq_16, ev.eq_17, ev.eq_18, ev.eq_19, ev.eq_20, ev.eq_21, ev.eq_22, ev.eq_23, ev.eq_24, ev.eq_25, ev.eq_28, ev.eq_29, ev.eq_30, ev.eq_31, ev.eq_32, ev.eq_33, ev.eq_34, ev.eq_35, evs, eva, evt, ended, outsOf, Il.start, okIO, called, backs, Il.fin, sets, optR, IE.isNop, chg, place, nodeOk, atP, setP, chgAt, ownLst, ownDct, unpD, LQ, reduceIte, reduceCtorEq, Nat.reduceSub, Nat.reduceAdd, Int.reduceLT, Int.reduceLE, Int.reduceNeg, decide_true, decide_false, ite_true, ite_false, if_true, if_false, bnd_ok, bnd_ex, bndS_ok, bndS_ex, gets_zero, gets_succ, own_non, own_bl, own_int, own_str, own_lst, own_tup, own_scr, frz_non, frz_bl, frz_int, frz_str, frz_scr, l_set0, l_setS, noOwn_nil, noOwn_cons, x_nil, x_pas, x_brk, x_cont, x_retN, x_ret, x_exp, x_set, x_unp, x_ite, x_app, x_apS, x_ext, nown_ok, seq_nx, seq_none, s_neg, s_len_lst, s_len_tup, s_len_scr, s_int_bl, s_int_int, s_add_int, s_sub_int, s_mul_l, s_mul_r, sm_48271, sm_10, sm_5, s_fdiv_int, s_mod_int, s_pow9, s_lt_int, s_le_int, s_gt_int, s_ge_int, s_eq_int, s_ne_int, s_find, s_index, s_in_str, s_nin_str, rcv_find, rcv_index, rcv_join, rcv_add, rcv_sub, rcv_mul, rcv_fdiv, rcv_mod, rcv_pow, rcv_eq, rcv_ne, rcv_lt, rcv_le, rcv_gt, rcv_ge, rcv_in, rcv_nin, t_bl, x_lst, x_tup, x_scr, i_str, i_lst, i_tup, ty_ii, ty_bi, ty_in, ty_ib, ty_bb, List.map_cons, List.map_nil, List.cons_append, List.nil_append, List.append_nil, List.replicate_succ, List.replicate_zero, List.length_cons, List.length_nil, List.all_cons, List.all_nil, List.contains_nil, List.isEmpty_nil, Bool.not_false, Bool.not_true, Bool.and_true, Bool.true_and, Bool.and_false, Bool.false_and, Bool.or_true, Bool.true_or, Bool.or_false, Bool.false_or, Bool.false_eq_true, Bool.and_self, Bool.or_self, Option.map_some, Option.map_none, and_self, and_true, true_and, era_nil, era_s, era_n, pur_nil, pur_s, pur_n, D.erase, eraseL, D.pure, pureL, D.closed, closedL, s_eq_str, s_ne_str, wq_one_one, wq_one_row, wq_one_or, wq_one_many, wq_one_maybe, wq_row_one, wq_row_row, wq_row_or, wq_row_many, wq_row_maybe, wq_or_one, wq_or_row, wq_or_or, wq_or_many, wq_or_maybe, wq_many_one, wq_many_row, wq_many_or, wq_many_many, wq_many_maybe, wq_maybe_one, wq_maybe_row, wq_maybe_or, wq_maybe_many, wq_maybe_maybe, s_in_ints, s_nin_ints, s_sorted_ints, s_eq_ints, s_min, s_eq_bl, s_ne_bl, intL_app, t_lst, s_in_two, d_sign_by, b_sign_by, ha, hx]
end Il.Q
set_option Elab.async false
set_option linter.all false
set_option maxRecDepth 100000
set_option maxHeartbeats 1000000
namespace Il.Q
open Il
/-! ### patterns -/
inductive Pat where
  | one (s : List Nat) | row (ps : List Pat) | or (ps : List Pat) | many (p : Pat) | maybe (p : Pat)
mutual
def Pat.enc : Pat → D
  | .one s => .tup false [.str [111, 110, 101], .str s]
  | .row ps => .tup false [.str [114, 111, 119], .lst false (encs ps)]
  | .or ps => .tup false [.str [111, 114], .lst false (encs ps)]
  | .many p => .tup false [.str [109, 97, 110, 121], p.enc]
  | .maybe p => .tup false [.str [109, 97, 121, 98, 101], p.enc]
def encs : List Pat → List D
  | [] => []
  | p :: ps => p.enc :: encs ps
end
mutual
def Pat.leaves : Pat → List (List Nat)
  | .one s => [s]
  | .row ps => leavesL ps
  | .or ps => leavesL ps
  | .many p => p.leaves
  | .maybe p => p.leaves
def leavesL : List Pat → List (List Nat)
  | [] => []
  | p :: ps => p.leaves ++ leavesL ps
end
mutual
def Pat.deep : Pat → Nat
  | .one _ => 0
  | .row ps => deepL ps + 1
  | .or ps => deepL ps + 1
  | .many p => p.deep + 1
  | .maybe p => p.deep + 1
def deepL : List Pat → Nat
  | [] => 0
  | p :: ps => max p.deep (deepL ps)
end
mutual
/-- leaves of unlike signs, some; choices of something -/
def Pat.Ok : Pat → Prop
  | .one s => s ≠ [] ∧ s.Nodup ∧ s.length ≤ 100 ∧ ∀ c ∈ s, c < 128
  | .row ps => OkL ps
  | .or ps => ps ≠ [] ∧ OkL ps
  | .many p => p.Ok
  | .maybe p => p.Ok
def OkL : List Pat → Prop
  | [] => True
  | p :: ps => p.Ok ∧ OkL ps
end
theorem okL_mem : ∀ {ps : List Pat}, OkL ps ↔ ∀ p ∈ ps, p.Ok
  | [] => by simp [OkL]
  | p :: ps => by
    simp only [OkL, List.mem_cons, forall_eq_or_imp]
    rw [okL_mem]
theorem deepL_mem : ∀ {ps : List Pat} {n : Nat}, deepL ps ≤ n ↔ ∀ p ∈ ps, p.deep ≤ n
  | [], n => by simp [deepL]
  | p :: ps, n => by
    simp only [deepL, List.mem_cons, forall_eq_or_imp]
    rw [← deepL_mem (ps := ps)]
    omega
theorem encs_map : ∀ ps : List Pat, encs ps = ps.map Pat.enc
  | [] => rfl
  | p :: ps => by simp only [encs, List.map_cons, encs_map ps]
theorem leavesL_app : ∀ ps qs : List Pat, leavesL (ps ++ qs) = leavesL ps ++ leavesL qs
  | [], qs => rfl
  | p :: ps, qs => by simp only [List.cons_append, leavesL, leavesL_app ps qs, List.append_assoc]
theorem enc_own (p : Pat) : p.enc.own = false := by cases p <;> simp only [Pat.enc] <;> rfl
theorem encs_own (ps : List Pat) : noOwn (encs ps) = true := by
  rw [encs_map]
  exact noOwn_of fun x hx => by
    obtain ⟨p, _, rfl⟩ := List.mem_map.mp hx
    exact enc_own p
theorem encs_at {ps : List Pat} {i : Nat} {x : D} (h : (encs ps)[i]? = some x) : ∃ p, ps[i]? = some p ∧ x = p.enc ∧ p ∈ ps := by
  rw [encs_map, List.getElem?_map] at h
  cases z : ps[i]? with
  | none =>
    rw [z] at h
    cases h
  | some p =>
    rw [z] at h
    cases h
    exact ⟨p, rfl, rfl, List.mem_of_getElem? z⟩
theorem encs_len (ps : List Pat) : (encs ps).length = ps.length := by rw [encs_map, List.length_map]
mutual
theorem enc_shd : ∀ p : Pat, p.enc.shd = true
  | .one s => by simp [Pat.enc, D.shd, shdL]
  | .row ps => by simp [Pat.enc, D.shd, shdL, encs_shd ps]
  | .or ps => by simp [Pat.enc, D.shd, shdL, encs_shd ps]
  | .many p => by simp [Pat.enc, D.shd, shdL, enc_shd p]
  | .maybe p => by simp [Pat.enc, D.shd, shdL, enc_shd p]
theorem encs_shd : ∀ ps : List Pat, shdL (encs ps) = true
  | [] => rfl
  | p :: ps => by simp [encs, shdL, enc_shd p, encs_shd ps]
end
mutual
theorem enc_eqb : ∀ p : Pat, eqb p.enc p.enc = true
  | .one s => by simp [Pat.enc, eqb, eqbL]
  | .row ps => by simp [Pat.enc, eqb, eqbL, encs_eqb ps]
  | .or ps => by simp [Pat.enc, eqb, eqbL, encs_eqb ps]
  | .many p => by simp [Pat.enc, eqb, eqbL, enc_eqb p]
  | .maybe p => by simp [Pat.enc, eqb, eqbL, enc_eqb p]
theorem encs_eqb : ∀ ps : List Pat, eqbL (encs ps) (encs ps) = true
  | [] => rfl
  | p :: ps => by simp [encs, eqbL, enc_eqb p, encs_eqb ps]
end
theorem flat_str {s : List Nat} (h : ∀ c ∈ s, c < 128) : s.all (· < 0x110000) = true := by
  rw [List.all_eq_true]
  intro c hc
  have := h c hc
  simp
  omega
mutual
theorem enc_flat : ∀ p : Pat, p.Ok → p.enc.flat = true
  | .one s, h => by
    simp only [Pat.Ok] at h
    simp only [Pat.enc, D.flat, flatL, flat_str h.2.2.2]
    decide
  | .row ps, h => by
    simp only [Pat.Ok] at h
    simp only [Pat.enc, D.flat, flatL, encs_flat ps h]
    decide
  | .or ps, h => by
    simp only [Pat.Ok] at h
    simp only [Pat.enc, D.flat, flatL, encs_flat ps h.2]
    decide
  | .many p, h => by
    simp only [Pat.Ok] at h
    simp only [Pat.enc, D.flat, flatL, enc_flat p h]
    decide
  | .maybe p, h => by
    simp only [Pat.Ok] at h
    simp only [Pat.enc, D.flat, flatL, enc_flat p h]
    decide
theorem encs_flat : ∀ ps : List Pat, OkL ps → flatL (encs ps) = true
  | [], _ => rfl
  | p :: ps, h => by
    simp only [OkL] at h
    simp only [encs, flatL, enc_flat p h.1, encs_flat ps h.2, Bool.and_self]
end
mutual
theorem enc_depth : ∀ p : Pat, p.enc.depth ≤ 2 * p.deep + 1
  | .one s => by simp [Pat.enc, D.depth, depthL, Pat.deep]
  | .row ps => by
    have := encs_depth ps
    simp only [Pat.enc, D.depth, depthL, Pat.deep]
    omega
  | .or ps => by
    have := encs_depth ps
    simp only [Pat.enc, D.depth, depthL, Pat.deep]
    omega
  | .many p => by
    have := enc_depth p
    simp only [Pat.enc, D.depth, depthL, Pat.deep]
    omega
  | .maybe p => by
    have := enc_depth p
    simp only [Pat.enc, D.depth, depthL, Pat.deep]
    omega
theorem encs_depth : ∀ ps : List Pat, depthL (encs ps) ≤ 2 * deepL ps + 1
  | [] => by simp [encs, depthL]
  | p :: ps => by
    have h1 := enc_depth p
    have h2 := encs_depth ps
    simp only [encs, depthL, deepL]
    omega
end
/-- patterns are equal to themselves -/
theorem eq_pats (o o' : Bool) {ps : List Pat} (h : OkL ps) (hd : deepL ps ≤ 30) : sem2 .eq (.lst o (encs ps)) (.lst o' (encs ps)) = some (.bl true) := by
  have f : ∀ o : Bool, eqOk (.lst o (encs ps)) = true := fun o => by
    have := encs_depth ps
    unfold eqOk
    rw [Bool.and_eq_true, decide_eq_true_eq]
    refine ⟨by simp only [D.flat, encs_flat ps h], ?_⟩
    simp only [D.depth]
    omega
  show ((scalD (.lst o (encs ps)) (.lst o' (encs ps))).map D.bl) = _
  have e : scalD (.lst o (encs ps)) (.lst o' (encs ps)) = eqD (.lst o (encs ps)) (.lst o' (encs ps)) := rfl
  rw [e]
  unfold eqD
  rw [f, f]
  simp only [Bool.and_self, if_true, eqb, encs_eqb, Option.map_some]
/-! ### leaves -/
def strL (l : List (List Nat)) : List D := l.map D.str
theorem strs_own (l : List (List Nat)) : noOwn (strL l) = true := noOwn_of fun x hx => by
  obtain ⟨i, _, rfl⟩ := List.mem_map.mp hx
  rfl
theorem strL_app (a b : List (List Nat)) : strL a ++ strL b = strL (a ++ b) := by unfold strL; rw [List.map_append]
theorem nodup_len : ∀ {l : List Nat}, l.Nodup → l.eraseDups.length = l.length
  | [], _ => rfl
  | x :: l, h => by
    obtain ⟨h1, h2⟩ := List.nodup_cons.mp h
    rw [List.eraseDups_cons]
    have : l.filter (fun b => !b == x) = l := List.filter_eq_self.mpr fun y hy => by
      simp
      rintro rfl
      exact h1 hy
    rw [this, List.length_cons, nodup_len h2, List.length_cons]
theorem s_lenset {s : List Nat} (h : s.Nodup) (hl : s.length ≤ 100) : sem1 .lenset (.str s) = some (.int s.length) := by
  show (if s.length ≤ 1000 then some (D.int s.eraseDups.length) else none) = _
  rw [if_pos (by omega), nodup_len h]
def Pat.parts : Pat → List Pat
  | .one _ => []
  | .row ps => ps
  | .or ps => ps
  | .many p => [p]
  | .maybe p => [p]
theorem s_list_lst {o : Bool} {xs : List D} (h : noOwn xs = true) : sem1 .list (.lst o xs) = some (.lst true xs) := by simp only [sem1, h, if_true]
theorem ex_parts_of (n : Nat) (p : Pat) : run TT (n + 1) i_parts_of [p.enc] = some (.ret (.lst true (encs p.parts)) []) := by
  refine run_We (fd := d_parts_of) rfl rfl ?_
  simp only [d_parts_of, b_parts_of]
  cases p with
  | one s =>
    simp only [call1, ev.eq_1, ev.eq_2, ev.eq_3, ev.eq_4, ev.eq_5, ev.eq_6, ev.eq_7, ev.eq_8, ev.eq_9, ev.eq_10, ev.eq_11, ev.eq_12, ev.eq_13, ev.eq_14, ev.eq_15, ev.eq_16, ev.eq_17, ev.eq_18, ev.eq_19, ev.eq_20, ev.eq_21, ev.eq_22, ev.eq_23, ev.eq_24, ev.eq_25, ev.eq_28, ev.eq_29, ev.eq_30, ev.eq_31, ev.eq_32, ev.eq_33, ev.eq_34, ev.eq_35, evs, eva, evt, ended, outsOf, Il.start, okIO, called, backs, Il.fin, sets, optR, IE.isNop, chg, place, nodeOk, atP, setP, chgAt, ownLst, ownDct, unpD, LQ, reduceIte, reduceCtorEq, Nat.reduceSub, Nat.reduceAdd, Int.reduceLT, Int.reduceLE, Int.reduceNeg, decide_true, decide_false, ite_true, ite_false, if_true, if_false, bnd_ok, bnd_ex, bndS_ok, bndS_ex, gets_zero, gets_succ, own_non, own_bl, own_int, own_str, own_lst, own_tup, own_scr, frz_non, frz_bl, frz_int, frz_str, frz_scr, l_set0, l_setS, noOwn_nil, noOwn_cons, x_nil, x_pas, x_brk, x_cont, x_retN, x_ret, x_exp, x_set, x_unp, x_ite, x_app, x_apS, x_ext, nown_ok, seq_nx, seq_none, s_neg, s_len_lst, s_len_tup, s_len_scr, s_int_bl, s_int_int, s_add_int, s_sub_int, s_mul_l, s_mul_r, sm_48271, sm_10, sm_5, s_fdiv_int, s_mod_int, s_pow9, s_lt_int, s_le_int, s_gt_int, s_ge_int, s_eq_int, s_ne_int, s_find, s_index, s_in_str, s_nin_str, rcv_find, rcv_index, rcv_join, rcv_add, rcv_sub, rcv_mul, rcv_fdiv, rcv_mod, rcv_pow, rcv_eq, rcv_ne, rcv_lt, rcv_le, rcv_gt, rcv_ge, rcv_in, rcv_nin, t_bl, x_lst, x_tup, x_scr, i_str, i_lst, i_tup, ty_ii, ty_bi, ty_in, ty_ib, ty_bb, List.map_cons, List.map_nil, List.cons_append, List.nil_append, List.append_nil, List.replicate_succ, List.replicate_zero, List.length_cons, List.length_nil, List.all_cons, List.all_nil, List.contains_nil, List.isEmpty_nil, Bool.not_false, Bool.not_true, Bool.and_true, Bool.true_and, Bool.and_false, Bool.false_and, Bool.or_true, Bool.true_or, Bool.or_false, Bool.false_or, Bool.false_eq_true, Bool.and_self, Bool.or_self, Option.map_some, Option.map_none, and_self, and_true, true_and, era_nil, era_s, era_n, pur_nil, pur_s, pur_n, D.erase, eraseL, D.pure, pureL, D.closed, closedL, s_eq_str, s_ne_str, wq_one_one, wq_one_row, wq_one_or, wq_one_many, wq_one_maybe, wq_row_one, wq_row_row, wq_row_or, wq_row_many, wq_row_maybe, wq_or_one, wq_or_row, wq_or_or, wq_or_many, wq_or_maybe, wq_many_one, wq_many_row, wq_many_or, wq_many_many, wq_many_maybe, wq_maybe_one, wq_maybe_row, wq_maybe_or, wq_maybe_many, wq_maybe_maybe, s_in_ints, s_nin_ints, s_sorted_ints, s_eq_ints, s_min, s_eq_bl, s_ne_bl, intL_app, t_lst, s_in_two, Pat.enc, at0, at1]
    exact W_some rfl
  | row ps =>
    simp only [call1, ev.eq_1, ev.eq_2, ev.eq_3, ev.eq_4, ev.eq_5, ev.eq_6, ev.eq_7, ev.eq_8, ev.eq_9, ev.eq_10, ev.eq_11, ev.eq_12, ev.eq_13, ev.eq_14, ev.eq_15, ev.eq_16, ev.eq_17, ev.eq_18, ev.eq_19, ev.eq_20, ev.eq_21, ev.eq_22, ev.eq_23, ev.eq_24, ev.eq_25, ev.eq_28, ev.eq_29, ev.eq_30, ev.eq_31, ev.eq_32, ev.eq_33, ev.eq_34, ev.eq_35, evs, eva, evt, ended, outsOf, Il.start, okIO, called, backs, Il.fin, sets, optR, IE.isNop, chg, place, nodeOk, atP, setP, chgAt, ownLst, ownDct, unpD, LQ, reduceIte, reduceCtorEq, Nat.reduceSub, Nat.reduceAdd, Int.reduceLT, Int.reduceLE, Int.reduceNeg, decide_true, decide_false, ite_true, ite_false, if_true, if_false, bnd_ok, bnd_ex, bndS_ok, bndS_ex, gets_zero, gets_succ, own_non, own_bl, own_int, own_str, own_lst, own_tup, own_scr, frz_non, frz_bl, frz_int, frz_str, frz_scr, l_set0, l_setS, noOwn_nil, noOwn_cons, x_nil, x_pas, x_brk, x_cont, x_retN, x_ret, x_exp, x_set, x_unp, x_ite, x_app, x_apS, x_ext, nown_ok, seq_nx, seq_none, s_neg, s_len_lst, s_len_tup, s_len_scr, s_int_bl, s_int_int, s_add_int, s_sub_int, s_mul_l, s_mul_r, sm_48271, sm_10, sm_5, s_fdiv_int, s_mod_int, s_pow9, s_lt_int, s_le_int, s_gt_int, s_ge_int, s_eq_int, s_ne_int, s_find, s_index, s_in_str, s_nin_str, rcv_find, rcv_index, rcv_join, rcv_add, rcv_sub, rcv_mul, rcv_fdiv, rcv_mod, rcv_pow, rcv_eq, rcv_ne, rcv_lt, rcv_le, rcv_gt, rcv_ge, rcv_in, rcv_nin, t_bl, x_lst, x_tup, x_scr, i_str, i_lst, i_tup, ty_ii, ty_bi, ty_in, ty_ib, ty_bb, List.map_cons, List.map_nil, List.cons_append, List.nil_append, List.append_nil, List.replicate_succ, List.replicate_zero, List.length_cons, List.length_nil, List.all_cons, List.all_nil, List.contains_nil, List.isEmpty_nil, Bool.not_false, Bool.not_true, Bool.and_true, Bool.true_and, Bool.and_false, Bool.false_and, Bool.or_true, Bool.true_or, Bool.or_false, Bool.false_or, Bool.false_eq_true, Bool.and_self, Bool.or_self, Option.map_some, Option.map_none, and_self, and_true, true_and, era_nil, era_s, era_n, pur_nil, pur_s, pur_n, D.erase, eraseL, D.pure, pureL, D.closed, closedL, s_eq_str, s_ne_str, wq_one_one, wq_one_row, wq_one_or, wq_one_many, wq_one_maybe, wq_row_one, wq_row_row, wq_row_or, wq_row_many, wq_row_maybe, wq_or_one, wq_or_row, wq_or_or, wq_or_many, wq_or_maybe, wq_many_one, wq_many_row, wq_many_or, wq_many_many, wq_many_maybe, wq_maybe_one, wq_maybe_row, wq_maybe_or, wq_maybe_many, wq_maybe_maybe, s_in_ints, s_nin_ints, s_sorted_ints, s_eq_ints, s_min, s_eq_bl, s_ne_bl, intL_app, t_lst, s_in_two, Pat.enc, at0, at1, s_list_lst (encs_own ps)]
    exact W_some rfl
  | or ps =>
    simp only [call1, ev.eq_1, ev.eq_2, ev.eq_3, ev.eq_4, ev.eq_5, ev.eq_6, ev.eq_7, ev.eq_8, ev.eq_9, ev.eq_10, ev.eq_11, ev.eq_12, ev.eq_13, ev.eq_14, ev.eq_15, ev.eq_16, ev.eq_17, ev.eq_18, ev.eq_19, ev.eq_20, ev.eq_21, ev.eq_22, ev.eq_23, ev.eq_24, ev.eq_25, ev.eq_28, ev.eq_29, ev.eq_30, ev.eq_31, ev.eq_32, ev.eq_33, ev.eq_34, ev.eq_35, evs, eva, evt, ended, outsOf, Il.start, okIO, called, backs, Il.fin, sets, optR, IE.isNop, chg, place, nodeOk, atP, setP, chgAt, ownLst, ownDct, unpD, LQ, reduceIte, reduceCtorEq, Nat.reduceSub, Nat.reduceAdd, Int.reduceLT, Int.reduceLE, Int.reduceNeg, decide_true, decide_false, ite_true, ite_false, if_true, if_false, bnd_ok, bnd_ex, bndS_ok, bndS_ex, gets_zero, gets_succ, own_non, own_bl, own_int, own_str, own_lst, own_tup, own_scr, frz_non, frz_bl, frz_int, frz_str, frz_scr, l_set0, l_setS, noOwn_nil, noOwn_cons, x_nil, x_pas, x_brk, x_cont, x_retN, x_ret, x_exp, x_set, x_unp, x_ite, x_app, x_apS, x_ext, nown_ok, seq_nx, seq_none, s_neg, s_len_lst, s_len_tup, s_len_scr, s_int_bl, s_int_int, s_add_int, s_sub_int, s_mul_l, s_mul_r, sm_48271, sm_10, sm_5, s_fdiv_int, s_mod_int, s_pow9, s_lt_int, s_le_int, s_gt_int, s_ge_int, s_eq_int, s_ne_int, s_find, s_index, s_in_str, s_nin_str, rcv_find, rcv_index, rcv_join, rcv_add, rcv_sub, rcv_mul, rcv_fdiv, rcv_mod, rcv_pow, rcv_eq, rcv_ne, rcv_lt, rcv_le, rcv_gt, rcv_ge, rcv_in, rcv_nin, t_bl, x_lst, x_tup, x_scr, i_str, i_lst, i_tup, ty_ii, ty_bi, ty_in, ty_ib, ty_bb, List.map_cons, List.map_nil, List.cons_append, List.nil_append, List.append_nil, List.replicate_succ, List.replicate_zero, List.length_cons, List.length_nil, List.all_cons, List.all_nil, List.contains_nil, List.isEmpty_nil, Bool.not_false, Bool.not_true, Bool.and_true, Bool.true_and, Bool.and_false, Bool.false_and, Bool.or_true, Bool.true_or, Bool.or_false, Bool.false_or, Bool.false_eq_true, Bool.and_self, Bool.or_self, Option.map_some, Option.map_none, and_self, and_true, true_and, era_nil, era_s, era_n, pur_nil, pur_s, pur_n, D.erase, eraseL, D.pure, pureL, D.closed, closedL, s_eq_str, s_ne_str, wq_one_one, wq_one_row, wq_one_or, wq_one_many, wq_one_maybe, wq_row_one, wq_row_row, wq_row_or, wq_row_many, wq_row_maybe, wq_or_one, wq_or_row, wq_or_or, wq_or_many, wq_or_maybe, wq_many_one, wq_many_row, wq_many_or, wq_many_many, wq_many_maybe, wq_maybe_one, wq_maybe_row, wq_maybe_or, wq_maybe_many, wq_maybe_maybe, s_in_ints, s_nin_ints, s_sorted_ints, s_eq_ints, s_min, s_eq_bl, s_ne_bl, intL_app, t_lst, s_in_two, Pat.enc, at0, at1, s_list_lst (encs_own ps)]
    exact W_some rfl
  | many p =>
    simp only [call1, ev.eq_1, ev.eq_2, ev.eq_3, ev.eq_4, ev.eq_5, ev.eq_6, ev.eq_7, ev.eq_8, ev.eq_9, ev.eq_10, ev.eq_11, ev.eq_12, ev.eq_13, ev.eq_14, ev.eq_15, ev.eq_16, ev.eq_17, ev.eq_18, ev.eq_19, ev.eq_20, ev.eq_21, ev.eq_22, ev.eq_23, ev.eq_24, ev.eq_25, ev.eq_28, ev.eq_29, ev.eq_30, ev.eq_31, ev.eq_32, ev.eq_33, ev.eq_34, ev.eq_35, evs, eva, evt, ended, outsOf, Il.start, okIO, called, backs, Il.fin, sets, optR, IE.isNop, chg, place, nodeOk, atP, setP, chgAt, ownLst, ownDct, unpD, LQ, reduceIte, reduceCtorEq, Nat.reduceSub, Nat.reduceAdd, Int.reduceLT, Int.reduceLE, Int.reduceNeg, decide_true, decide_false, ite_true, ite_false, if_true, if_false, bnd_ok, bnd_ex, bndS_ok, bndS_ex, gets_zero, gets_succ, own_non, own_bl, own_int, own_str, own_lst, own_tup, own_scr, frz_non, frz_bl, frz_int, frz_str, frz_scr, l_set0, l_setS, noOwn_nil, noOwn_cons, x_nil, x_pas, x_brk, x_cont, x_retN, x_ret, x_exp, x_set, x_unp, x_ite, x_app, x_apS, x_ext, nown_ok, seq_nx, seq_none, s_neg, s_len_lst, s_len_tup, s_len_scr, s_int_bl, s_int_int, s_add_int, s_sub_int, s_mul_l, s_mul_r, sm_48271, sm_10, sm_5, s_fdiv_int, s_mod_int, s_pow9, s_lt_int, s_le_int, s_gt_int, s_ge_int, s_eq_int, s_ne_int, s_find, s_index, s_in_str, s_nin_str, rcv_find, rcv_index, rcv_join, rcv_add, rcv_sub, rcv_mul, rcv_fdiv, rcv_mod, rcv_pow, rcv_eq, rcv_ne, rcv_lt, rcv_le, rcv_gt, rcv_ge, rcv_in, rcv_nin, t_bl, x_lst, x_tup, x_scr, i_str, i_lst, i_tup, ty_ii, ty_bi, ty_in, ty_ib, ty_bb, List.map_cons, List.map_nil, List.cons_append, List.nil_append, List.append_nil, List.replicate_succ, List.replicate_zero, List.length_cons, List.length_nil, List.all_cons, List.all_nil, List.contains_nil, List.isEmpty_nil, Bool.not_false, Bool.not_true, Bool.and_true, Bool.true_and, Bool.and_false, Bool.false_and, Bool.or_true, Bool.true_or, Bool.or_false, Bool.false_or, Bool.false_eq_true, Bool.and_self, Bool.or_self, Option.map_some, Option.map_none, and_self, and_true, true_and, era_nil, era_s, era_n, pur_nil, pur_s, pur_n, D.erase, eraseL, D.pure, pureL, D.closed, closedL, s_eq_str, s_ne_str, wq_one_one, wq_one_row, wq_one_or, wq_one_many, wq_one_maybe, wq_row_one, wq_row_row, wq_row_or, wq_row_many, wq_row_maybe, wq_or_one, wq_or_row, wq_or_or, wq_or_many, wq_or_maybe, wq_many_one, wq_many_row, wq_many_or, wq_many_many, wq_many_maybe, wq_maybe_one, wq_maybe_row, wq_maybe_or, wq_maybe_many, wq_maybe_maybe, s_in_ints, s_nin_ints, s_sorted_ints, s_eq_ints, s_min, s_eq_bl, s_ne_bl, intL_app, t_lst, s_in_two, Pat.enc, at0, at1, enc_own p]
    exact W_some rfl
  | maybe p =>
    simp only [call1, ev.eq_1, ev.eq_2, ev.eq_3, ev.eq_4, ev.eq_5, ev.eq_6, ev.eq_7, ev.eq_8, ev.eq_9, ev.eq_10, ev.eq_11, ev.eq_12, ev.eq_13, ev.eq_14, ev.eq_15, ev.eq_16, ev.eq_17, ev.eq_18, ev.eq_19, ev.eq_20, ev.eq_21, ev.eq_22, ev.eq_23, ev.eq_24, ev.eq_25, ev.eq_28, ev.eq_29, ev.eq_30, ev.eq_31, ev.eq_32, ev.eq_33, ev.eq_34, ev.eq_35, evs, eva, evt, ended, outsOf, Il.start, okIO, called, backs, Il.fin, sets, optR, IE.isNop, chg, place, nodeOk, atP, setP, chgAt, ownLst, ownDct, unpD, LQ, reduceIte, reduceCtorEq, Nat.reduceSub, Nat.reduceAdd, Int.reduceLT, Int.reduceLE, Int.reduceNeg, decide_true, decide_false, ite_true, ite_false, if_true, if_false, bnd_ok, bnd_ex, bndS_ok, bndS_ex, gets_zero, gets_succ, own_non, own_bl, own_int, own_str, own_lst, own_tup, own_scr, frz_non, frz_bl, frz_int, frz_str, frz_scr, l_set0, l_setS, noOwn_nil, noOwn_cons, x_nil, x_pas, x_brk, x_cont, x_retN, x_ret, x_exp, x_set, x_unp, x_ite, x_app, x_apS, x_ext, nown_ok, seq_nx, seq_none, s_neg, s_len_lst, s_len_tup, s_len_scr, s_int_bl, s_int_int, s_add_int, s_sub_int, s_mul_l, s_mul_r, sm_48271, sm_10, sm_5, s_fdiv_int, s_mod_int, s_pow9, s_lt_int, s_le_int, s_gt_int, s_ge_int, s_eq_int, s_ne_int, s_find, s_index, s_in_str, s_nin_str, rcv_find, rcv_index, rcv_join, rcv_add, rcv_sub, rcv_mul, rcv_fdiv, rcv_mod, rcv_pow, rcv_eq, rcv_ne, rcv_lt, rcv_le, rcv_gt, rcv_ge, rcv_in, rcv_nin, t_bl, x_lst, x_tup, x_scr, i_str, i_lst, i_tup, ty_ii, ty_bi, ty_in, ty_ib, ty_bb, List.map_cons, List.map_nil, List.cons_append, List.nil_append, List.append_nil, List.replicate_succ, List.replicate_zero, List.length_cons, List.length_nil, List.all_cons, List.all_nil, List.contains_nil, List.isEmpty_nil, Bool.not_false, Bool.not_true, Bool.and_true, Bool.true_and, Bool.and_false, Bool.false_and, Bool.or_true, Bool.true_or, Bool.or_false, Bool.false_or, Bool.false_eq_true, Bool.and_self, Bool.or_self, Option.map_some, Option.map_none, and_self, and_true, true_and, era_nil, era_s, era_n, pur_nil, pur_s, pur_n, D.erase, eraseL, D.pure, pureL, D.closed, closedL, s_eq_str, s_ne_str, wq_one_one, wq_one_row, wq_one_or, wq_one_many, wq_one_maybe, wq_row_one, wq_row_row, wq_row_or, wq_row_many, wq_row_maybe, wq_or_one, wq_or_row, wq_or_or, wq_or_many, wq_or_maybe, wq_many_one, wq_many_row, wq_many_or, wq_many_many, wq_many_maybe, wq_maybe_one, wq_maybe_row, wq_maybe_or, wq_maybe_many, wq_maybe_maybe, s_in_ints, s_nin_ints, s_sorted_ints, s_eq_ints, s_min, s_eq_bl, s_ne_bl, intL_app, t_lst, s_in_two, Pat.enc, at0, at1, enc_own p]
    exact W_some rfl
theorem x_extd {xs ys : List D} (h : xs.length + ys.length ≤ line) : fExt (.lst true xs) (.lst false ys) = some (.lst true (xs ++ ys)) := by simp only [fExt, h, if_true]
theorem strs_len (l : List (List Nat)) : (strL l).length = l.length := by unfold strL; rw [List.length_map]
/-- the loop over parts -/
theorem leaves_loop (n : Nat) {ps : List Pat} (hs : ∀ p ∈ ps, ∃ o, run TT n i_leaves_of [p.enc] = some (.ret (.lst o (strL p.leaves)) [])) (hl : (leavesL ps).length ≤ 100000) : True := trivial
theorem take_succ_at {ps : List Pat} {i : Nat} {p : Pat} (h : ps[i]? = some p) : ps.take (i + 1) = ps.take i ++ [p] := by rw [List.take_add_one, h]; rfl
theorem leaves_take {ps : List Pat} (i : Nat) : (leavesL (ps.take i)).length ≤ (leavesL ps).length := by
  have : leavesL ps = leavesL (ps.take i) ++ leavesL (ps.drop i) := by rw [← leavesL_app, List.take_append_drop]
  rw [this, List.length_append]
  omega
theorem leaves_parts (p : Pat) (h : ∀ s, p ≠ .one s) : p.leaves = leavesL p.parts := by
  cases p with
  | one s => exact absurd rfl (h s)
  | row ps => simp only [Pat.leaves, Pat.parts]
  | or ps => simp only [Pat.leaves, Pat.parts]
  | many p => simp only [Pat.leaves, Pat.parts, leavesL, List.append_nil]
  | maybe p => simp only [Pat.leaves, Pat.parts, leavesL, List.append_nil]
theorem ok_parts {p q : Pat} (h : p.Ok) (hq : q ∈ p.parts) : q.Ok ∧ q.deep + 1 ≤ p.deep := by
  cases p with
  | one s => simp [Pat.parts] at hq
  | row ps =>
    simp only [Pat.Ok, Pat.parts] at h hq
    exact ⟨okL_mem.mp h q hq, by simp only [Pat.deep]; have := deepL_mem.mp (Nat.le_refl (deepL ps)) q hq; omega⟩
  | or ps =>
    simp only [Pat.Ok, Pat.parts] at h hq
    exact ⟨okL_mem.mp h.2 q hq, by simp only [Pat.deep]; have := deepL_mem.mp (Nat.le_refl (deepL ps)) q hq; omega⟩
  | many p =>
    simp only [Pat.Ok, Pat.parts, List.mem_singleton] at h hq
    subst hq
    exact ⟨h, by simp only [Pat.deep]; omega⟩
  | maybe p =>
    simp only [Pat.Ok, Pat.parts, List.mem_singleton] at h hq
    subst hq
    exact ⟨h, by simp only [Pat.deep]; omega⟩
theorem leaves_part {p : Pat} (h : ∀ s, p ≠ .one s) {q : Pat} (hq : q ∈ p.parts) : q.leaves.length ≤ p.leaves.length := by
  rw [leaves_parts p h]
  obtain ⟨a, b, e⟩ := List.append_of_mem hq
  rw [e, leavesL_app]
  simp only [leavesL, List.length_append]
  omega
theorem ex_leaves_of : ∀ (n : Nat) (p : Pat), p.deep ≤ n → p.Ok → p.leaves.length ≤ 100000 → ∃ o, run TT (n + 2) i_leaves_of [p.enc] = some (.ret (.lst o (strL p.leaves)) []) := by
  intro n
  induction n with
  | zero =>
    intro p hd hok hl
    cases p with
    | one s =>
      simp only [Pat.Ok] at hok
      obtain ⟨h1, h2, h3, h4⟩ := hok
      refine ⟨true, run_We (fd := d_leaves_of) rfl rfl ?_⟩
      simp only [d_leaves_of, b_leaves_of]
      have e1 : (s == []) = false := by simp [h1]
      have e2 : ((s.length : Int) == (s.length : Int)) = true := by simp
      simp only [call1, ev.eq_1, ev.eq_2, ev.eq_3, ev.eq_4, ev.eq_5, ev.eq_6, ev.eq_7, ev.eq_8, ev.eq_9, ev.eq_10, ev.eq_11, ev.eq_12, ev.eq_13, ev.eq_14, ev.eq_15, ev.eq_16, ev.eq_17, ev.eq_18, ev.eq_19, ev.eq_20, ev.eq_21, ev.eq_22, ev.eq_23, ev.eq_24, ev.eq_25, ev.eq_28, ev.eq_29, ev.eq_30, ev.eq_31, ev.eq_32, ev.eq_33, ev.eq_34, ev.eq_35, evs, eva, evt, ended, outsOf, Il.start, okIO, called, backs, Il.fin, sets, optR, IE.isNop, chg, place, nodeOk, atP, setP, chgAt, ownLst, ownDct, unpD, LQ, reduceIte, reduceCtorEq, Nat.reduceSub, Nat.reduceAdd, Int.reduceLT, Int.reduceLE, Int.reduceNeg, decide_true, decide_false, ite_true, ite_false, if_true, if_false, bnd_ok, bnd_ex, bndS_ok, bndS_ex, gets_zero, gets_succ, own_non, own_bl, own_int, own_str, own_lst, own_tup, own_scr, frz_non, frz_bl, frz_int, frz_str, frz_scr, l_set0, l_setS, noOwn_nil, noOwn_cons, x_nil, x_pas, x_brk, x_cont, x_retN, x_ret, x_exp, x_set, x_unp, x_ite, x_app, x_apS, x_ext, nown_ok, seq_nx, seq_none, s_neg, s_len_lst, s_len_tup, s_len_scr, s_int_bl, s_int_int, s_add_int, s_sub_int, s_mul_l, s_mul_r, sm_48271, sm_10, sm_5, s_fdiv_int, s_mod_int, s_pow9, s_lt_int, s_le_int, s_gt_int, s_ge_int, s_eq_int, s_ne_int, s_find, s_index, s_in_str, s_nin_str, rcv_find, rcv_index, rcv_join, rcv_add, rcv_sub, rcv_mul, rcv_fdiv, rcv_mod, rcv_pow, rcv_eq, rcv_ne, rcv_lt, rcv_le, rcv_gt, rcv_ge, rcv_in, rcv_nin, t_bl, x_lst, x_tup, x_scr, i_str, i_lst, i_tup, ty_ii, ty_bi, ty_in, ty_ib, ty_bb, List.map_cons, List.map_nil, List.cons_append, List.nil_append, List.append_nil, List.replicate_succ, List.replicate_zero, List.length_cons, List.length_nil, List.all_cons, List.all_nil, List.contains_nil, List.isEmpty_nil, Bool.not_false, Bool.not_true, Bool.and_true, Bool.true_and, Bool.and_false, Bool.false_and, Bool.or_true, Bool.true_or, Bool.or_false, Bool.false_or, Bool.false_eq_true, Bool.and_self, Bool.or_self, Option.map_some, Option.map_none, and_self, and_true, true_and, era_nil, era_s, era_n, pur_nil, pur_s, pur_n, D.erase, eraseL, D.pure, pureL, D.closed, closedL, s_eq_str, s_ne_str, wq_one_one, wq_one_row, wq_one_or, wq_one_many, wq_one_maybe, wq_row_one, wq_row_row, wq_row_or, wq_row_many, wq_row_maybe, wq_or_one, wq_or_row, wq_or_or, wq_or_many, wq_or_maybe, wq_many_one, wq_many_row, wq_many_or, wq_many_many, wq_many_maybe, wq_maybe_one, wq_maybe_row, wq_maybe_or, wq_maybe_many, wq_maybe_maybe, s_in_ints, s_nin_ints, s_sorted_ints, s_eq_ints, s_min, s_eq_bl, s_ne_bl, intL_app, t_lst, s_in_two, Pat.enc, at0, at1, e1, e2, s_lenset h2 h3, s_len_str (show s.length ≤ line by rw [lineEq]; omega)]
      exact W_some rfl
    | _ => simp [Pat.deep] at hd
  | succ n ih =>
    intro p hd hok hl
    by_cases h1 : ∃ s, p = .one s
    · obtain ⟨s, rfl⟩ := h1
      simp only [Pat.Ok] at hok
      obtain ⟨h1, h2, h3, h4⟩ := hok
      refine ⟨true, run_We (fd := d_leaves_of) rfl rfl ?_⟩
      simp only [d_leaves_of, b_leaves_of]
      have e1 : (s == []) = false := by simp [h1]
      have e2 : ((s.length : Int) == (s.length : Int)) = true := by simp
      simp only [call1, ev.eq_1, ev.eq_2, ev.eq_3, ev.eq_4, ev.eq_5, ev.eq_6, ev.eq_7, ev.eq_8, ev.eq_9, ev.eq_10, ev.eq_11, ev.eq_12, ev.eq_13, ev.eq_14, ev.eq_15, ev.eq_16, ev.eq_17, ev.eq_18, ev.eq_19, ev.eq_20, ev.eq_21, ev.eq_22, ev.eq_23, ev.eq_24, ev.eq_25, ev.eq_28, ev.eq_29, ev.eq_30, ev.eq_31, ev.eq_32, ev.eq_33, ev.eq_34, ev.eq_35, evs, eva, evt, ended, outsOf, Il.start, okIO, called, backs, Il.fin, sets, optR, IE.isNop, chg, place, nodeOk, atP, setP, chgAt, ownLst, ownDct, unpD, LQ, reduceIte, reduceCtorEq, Nat.reduceSub, Nat.reduceAdd, Int.reduceLT, Int.reduceLE, Int.reduceNeg, decide_true, decide_false, ite_true, ite_false, if_true, if_false, bnd_ok, bnd_ex, bndS_ok, bndS_ex, gets_zero, gets_succ, own_non, own_bl, own_int, own_str, own_lst, own_tup, own_scr, frz_non, frz_bl, frz_int, frz_str, frz_scr, l_set0, l_setS, noOwn_nil, noOwn_cons, x_nil, x_pas, x_brk, x_cont, x_retN, x_ret, x_exp, x_set, x_unp, x_ite, x_app, x_apS, x_ext, nown_ok, seq_nx, seq_none, s_neg, s_len_lst, s_len_tup, s_len_scr, s_int_bl, s_int_int, s_add_int, s_sub_int, s_mul_l, s_mul_r, sm_48271, sm_10, sm_5, s_fdiv_int, s_mod_int, s_pow9, s_lt_int, s_le_int, s_gt_int, s_ge_int, s_eq_int, s_ne_int, s_find, s_index, s_in_str, s_nin_str, rcv_find, rcv_index, rcv_join, rcv_add, rcv_sub, rcv_mul, rcv_fdiv, rcv_mod, rcv_pow, rcv_eq, rcv_ne, rcv_lt, rcv_le, rcv_gt, rcv_ge, rcv_in, rcv_nin, t_bl, x_lst, x_tup, x_scr, i_str, i_lst, i_tup, ty_ii, ty_bi, ty_in, ty_ib, ty_bb, List.map_cons, List.map_nil, List.cons_append, List.nil_append, List.append_nil, List.replicate_succ, List.replicate_zero, List.length_cons, List.length_nil, List.all_cons, List.all_nil, List.contains_nil, List.isEmpty_nil, Bool.not_false, Bool.not_true, Bool.and_true, Bool.true_and, Bool.and_false, Bool.false_and, Bool.or_true, Bool.true_or, Bool.or_false, Bool.false_or, Bool.false_eq_true, Bool.and_self, Bool.or_self, Option.map_some, Option.map_none, and_self, and_true, true_and, era_nil, era_s, era_n, pur_nil, pur_s, pur_n, D.erase, eraseL, D.pure, pureL, D.closed, closedL, s_eq_str, s_ne_str, wq_one_one, wq_one_row, wq_one_or, wq_one_many, wq_one_maybe, wq_row_one, wq_row_row, wq_row_or, wq_row_many, wq_row_maybe, wq_or_one, wq_or_row, wq_or_or, wq_or_many, wq_or_maybe, wq_many_one, wq_many_row, wq_many_or, wq_many_many, wq_many_maybe, wq_maybe_one, wq_maybe_row, wq_maybe_or, wq_maybe_many, wq_maybe_maybe, s_in_ints, s_nin_ints, s_sorted_ints, s_eq_ints, s_min, s_eq_bl, s_ne_bl, intL_app, t_lst, s_in_two, Pat.enc, at0, at1, e1, e2, s_lenset h2 h3, s_len_str (show s.length ≤ line by rw [lineEq]; omega)]
      exact W_some rfl
    · have none1 : ∀ s, p ≠ .one s := fun s e => h1 ⟨s, e⟩
      refine ⟨false, run_We (fd := d_leaves_of) rfl rfl ?_⟩
      simp only [d_leaves_of, b_leaves_of]
      have hp := ex_parts_of (n + 1) p
      have no := encs_own p.parts
      have start : ∀ e : Env, e = [some p.enc, some (.lst true (strL (leavesL (p.parts.take 0)))), none] → W (exL (run TT (n + 2)) [] (b_leaves_of.drop 3) e) fun r => ended [] (some r) = some (.ret (.lst false (strL p.leaves)) []) := by
        rintro e rfl
        simp only [b_leaves_of, List.drop_succ_cons, List.drop_zero]
        refine W_for1 (q := true) (by simp only [call1, ev.eq_1, ev.eq_2, ev.eq_3, ev.eq_4, ev.eq_5, ev.eq_6, ev.eq_7, ev.eq_8, ev.eq_9, ev.eq_10, ev.eq_11, ev.eq_12, ev.eq_13, ev.eq_14, ev.eq_15, ev.eq_16, ev.eq_17, ev.eq_18, ev.eq_19, ev.eq_20, ev.eq_21, ev.eq_22, ev.eq_23, ev.eq_24, ev.eq_25, ev.eq_28, ev.eq_29, ev.eq_30, ev.eq_31, ev.eq_32, ev.eq_33, ev.eq_34, ev.eq_35, evs, eva, evt, ended, outsOf, Il.start, okIO, called, backs, Il.fin, sets, optR, IE.isNop, chg, place, nodeOk, atP, setP, chgAt, ownLst, ownDct, unpD, LQ, reduceIte, reduceCtorEq, Nat.reduceSub, Nat.reduceAdd, Int.reduceLT, Int.reduceLE, Int.reduceNeg, decide_true, decide_false, ite_true, ite_false, if_true, if_false, bnd_ok, bnd_ex, bndS_ok, bndS_ex, gets_zero, gets_succ, own_non, own_bl, own_int, own_str, own_lst, own_tup, own_scr, frz_non, frz_bl, frz_int, frz_str, frz_scr, l_set0, l_setS, noOwn_nil, noOwn_cons, x_nil, x_pas, x_brk, x_cont, x_retN, x_ret, x_exp, x_set, x_unp, x_ite, x_app, x_apS, x_ext, nown_ok, seq_nx, seq_none, s_neg, s_len_lst, s_len_tup, s_len_scr, s_int_bl, s_int_int, s_add_int, s_sub_int, s_mul_l, s_mul_r, sm_48271, sm_10, sm_5, s_fdiv_int, s_mod_int, s_pow9, s_lt_int, s_le_int, s_gt_int, s_ge_int, s_eq_int, s_ne_int, s_find, s_index, s_in_str, s_nin_str, rcv_find, rcv_index, rcv_join, rcv_add, rcv_sub, rcv_mul, rcv_fdiv, rcv_mod, rcv_pow, rcv_eq, rcv_ne, rcv_lt, rcv_le, rcv_gt, rcv_ge, rcv_in, rcv_nin, t_bl, x_lst, x_tup, x_scr, i_str, i_lst, i_tup, ty_ii, ty_bi, ty_in, ty_ib, ty_bb, List.map_cons, List.map_nil, List.cons_append, List.nil_append, List.append_nil, List.replicate_succ, List.replicate_zero, List.length_cons, List.length_nil, List.all_cons, List.all_nil, List.contains_nil, List.isEmpty_nil, Bool.not_false, Bool.not_true, Bool.and_true, Bool.true_and, Bool.and_false, Bool.false_and, Bool.or_true, Bool.true_or, Bool.or_false, Bool.false_or, Bool.false_eq_true, Bool.and_self, Bool.or_self, Option.map_some, Option.map_none, and_self, and_true, true_and, era_nil, era_s, era_n, pur_nil, pur_s, pur_n, D.erase, eraseL, D.pure, pureL, D.closed, closedL, s_eq_str, s_ne_str, wq_one_one, wq_one_row, wq_one_or, wq_one_many, wq_one_maybe, wq_row_one, wq_row_row, wq_row_or, wq_row_many, wq_row_maybe, wq_or_one, wq_or_row, wq_or_or, wq_or_many, wq_or_maybe, wq_many_one, wq_many_row, wq_many_or, wq_many_many, wq_many_maybe, wq_maybe_one, wq_maybe_row, wq_maybe_or, wq_maybe_many, wq_maybe_maybe, s_in_ints, s_nin_ints, s_sorted_ints, s_eq_ints, s_min, s_eq_bl, s_ne_bl, intL_app, t_lst, s_in_two, enc_own p, hp, frz_lst no] <;> rfl) (i_lst _) rfl (fun i e => ∃ v, e = [some p.enc, some (.lst true (strL (leavesL (p.parts.take i)))), v]) ⟨_, rfl⟩ ?_ ?_
        · rintro i x e hx ⟨v, rfl⟩
          obtain ⟨q, hq, rfl, hm⟩ := encs_at hx
          obtain ⟨q1, q2⟩ := ok_parts hok hm
          have q3 := leaves_part none1 hm
          obtain ⟨o, hr⟩ := ih q (by omega) q1 (by omega)
          have q4 : (strL (leavesL (p.parts.take i))).length + (strL q.leaves).length ≤ line := by
            have := leaves_take (ps := p.parts) i
            rw [← leaves_parts p none1] at this
            rw [strs_len, strs_len, lineEq]
            omega
          simp only [call1, ev.eq_1, ev.eq_2, ev.eq_3, ev.eq_4, ev.eq_5, ev.eq_6, ev.eq_7, ev.eq_8, ev.eq_9, ev.eq_10, ev.eq_11, ev.eq_12, ev.eq_13, ev.eq_14, ev.eq_15, ev.eq_16, ev.eq_17, ev.eq_18, ev.eq_19, ev.eq_20, ev.eq_21, ev.eq_22, ev.eq_23, ev.eq_24, ev.eq_25, ev.eq_28, ev.eq_29, ev.eq_30, ev.eq_31, ev.eq_32, ev.eq_33, ev.eq_34, ev.eq_35, evs, eva, evt, ended, outsOf, Il.start, okIO, called, backs, Il.fin, sets, optR, IE.isNop, chg, place, nodeOk, atP, setP, chgAt, ownLst, ownDct, unpD, LQ, reduceIte, reduceCtorEq, Nat.reduceSub, Nat.reduceAdd, Int.reduceLT, Int.reduceLE, Int.reduceNeg, decide_true, decide_false, ite_true, ite_false, if_true, if_false, bnd_ok, bnd_ex, bndS_ok, bndS_ex, gets_zero, gets_succ, own_non, own_bl, own_int, own_str, own_lst, own_tup, own_scr, frz_non, frz_bl, frz_int, frz_str, frz_scr, l_set0, l_setS, noOwn_nil, noOwn_cons, x_nil, x_pas, x_brk, x_cont, x_retN, x_ret, x_exp, x_set, x_unp, x_ite, x_app, x_apS, x_ext, nown_ok, seq_nx, seq_none, s_neg, s_len_lst, s_len_tup, s_len_scr, s_int_bl, s_int_int, s_add_int, s_sub_int, s_mul_l, s_mul_r, sm_48271, sm_10, sm_5, s_fdiv_int, s_mod_int, s_pow9, s_lt_int, s_le_int, s_gt_int, s_ge_int, s_eq_int, s_ne_int, s_find, s_index, s_in_str, s_nin_str, rcv_find, rcv_index, rcv_join, rcv_add, rcv_sub, rcv_mul, rcv_fdiv, rcv_mod, rcv_pow, rcv_eq, rcv_ne, rcv_lt, rcv_le, rcv_gt, rcv_ge, rcv_in, rcv_nin, t_bl, x_lst, x_tup, x_scr, i_str, i_lst, i_tup, ty_ii, ty_bi, ty_in, ty_ib, ty_bb, List.map_cons, List.map_nil, List.cons_append, List.nil_append, List.append_nil, List.replicate_succ, List.replicate_zero, List.length_cons, List.length_nil, List.all_cons, List.all_nil, List.contains_nil, List.isEmpty_nil, Bool.not_false, Bool.not_true, Bool.and_true, Bool.true_and, Bool.and_false, Bool.false_and, Bool.or_true, Bool.true_or, Bool.or_false, Bool.false_or, Bool.false_eq_true, Bool.and_self, Bool.or_self, Option.map_some, Option.map_none, and_self, and_true, true_and, era_nil, era_s, era_n, pur_nil, pur_s, pur_n, D.erase, eraseL, D.pure, pureL, D.closed, closedL, s_eq_str, s_ne_str, wq_one_one, wq_one_row, wq_one_or, wq_one_many, wq_one_maybe, wq_row_one, wq_row_row, wq_row_or, wq_row_many, wq_row_maybe, wq_or_one, wq_or_row, wq_or_or, wq_or_many, wq_or_maybe, wq_many_one, wq_many_row, wq_many_or, wq_many_many, wq_many_maybe, wq_maybe_one, wq_maybe_row, wq_maybe_or, wq_maybe_many, wq_maybe_maybe, s_in_ints, s_nin_ints, s_sorted_ints, s_eq_ints, s_min, s_eq_bl, s_ne_bl, intL_app, t_lst, s_in_two, enc_own q, hr, frz_lst (strs_own _), x_extd q4]
          refine W_nx ⟨some q.enc, ?_⟩
          rw [strL_app, take_succ_at hq, leavesL_app]
          simp only [leavesL, List.append_nil]
        · rintro e ⟨v, rfl⟩
          rw [encs_len, List.take_length, ← leaves_parts p none1]
          simp only [call1, ev.eq_1, ev.eq_2, ev.eq_3, ev.eq_4, ev.eq_5, ev.eq_6, ev.eq_7, ev.eq_8, ev.eq_9, ev.eq_10, ev.eq_11, ev.eq_12, ev.eq_13, ev.eq_14, ev.eq_15, ev.eq_16, ev.eq_17, ev.eq_18, ev.eq_19, ev.eq_20, ev.eq_21, ev.eq_22, ev.eq_23, ev.eq_24, ev.eq_25, ev.eq_28, ev.eq_29, ev.eq_30, ev.eq_31, ev.eq_32, ev.eq_33, ev.eq_34, ev.eq_35, evs, eva, evt, ended, outsOf, Il.start, okIO, called, backs, Il.fin, sets, optR, IE.isNop, chg, place, nodeOk, atP, setP, chgAt, ownLst, ownDct, unpD, LQ, reduceIte, reduceCtorEq, Nat.reduceSub, Nat.reduceAdd, Int.reduceLT, Int.reduceLE, Int.reduceNeg, decide_true, decide_false, ite_true, ite_false, if_true, if_false, bnd_ok, bnd_ex, bndS_ok, bndS_ex, gets_zero, gets_succ, own_non, own_bl, own_int, own_str, own_lst, own_tup, own_scr, frz_non, frz_bl, frz_int, frz_str, frz_scr, l_set0, l_setS, noOwn_nil, noOwn_cons, x_nil, x_pas, x_brk, x_cont, x_retN, x_ret, x_exp, x_set, x_unp, x_ite, x_app, x_apS, x_ext, nown_ok, seq_nx, seq_none, s_neg, s_len_lst, s_len_tup, s_len_scr, s_int_bl, s_int_int, s_add_int, s_sub_int, s_mul_l, s_mul_r, sm_48271, sm_10, sm_5, s_fdiv_int, s_mod_int, s_pow9, s_lt_int, s_le_int, s_gt_int, s_ge_int, s_eq_int, s_ne_int, s_find, s_index, s_in_str, s_nin_str, rcv_find, rcv_index, rcv_join, rcv_add, rcv_sub, rcv_mul, rcv_fdiv, rcv_mod, rcv_pow, rcv_eq, rcv_ne, rcv_lt, rcv_le, rcv_gt, rcv_ge, rcv_in, rcv_nin, t_bl, x_lst, x_tup, x_scr, i_str, i_lst, i_tup, ty_ii, ty_bi, ty_in, ty_ib, ty_bb, List.map_cons, List.map_nil, List.cons_append, List.nil_append, List.append_nil, List.replicate_succ, List.replicate_zero, List.length_cons, List.length_nil, List.all_cons, List.all_nil, List.contains_nil, List.isEmpty_nil, Bool.not_false, Bool.not_true, Bool.and_true, Bool.true_and, Bool.and_false, Bool.false_and, Bool.or_true, Bool.true_or, Bool.or_false, Bool.false_or, Bool.false_eq_true, Bool.and_self, Bool.or_self, Option.map_some, Option.map_none, and_self, and_true, true_and, era_nil, era_s, era_n, pur_nil, pur_s, pur_n, D.erase, eraseL, D.pure, pureL, D.closed, closedL, s_eq_str, s_ne_str, wq_one_one, wq_one_row, wq_one_or, wq_one_many, wq_one_maybe, wq_row_one, wq_row_row, wq_row_or, wq_row_many, wq_row_maybe, wq_or_one, wq_or_row, wq_or_or, wq_or_many, wq_or_maybe, wq_many_one, wq_many_row, wq_many_or, wq_many_many, wq_many_maybe, wq_maybe_one, wq_maybe_row, wq_maybe_or, wq_maybe_many, wq_maybe_maybe, s_in_ints, s_nin_ints, s_sorted_ints, s_eq_ints, s_min, s_eq_bl, s_ne_bl, intL_app, t_lst, s_in_two, frz_lst (strs_own _)]
          exact W_some rfl
      have := start _ rfl
      simp only [b_leaves_of, List.drop_succ_cons, List.drop_zero] at this
      cases p with
      | one s => exact absurd rfl (none1 s)
      | row ps =>
        simp only [Pat.enc] at this ⊢
        simp only [call1, ev.eq_1, ev.eq_2, ev.eq_3, ev.eq_4, ev.eq_5, ev.eq_6, ev.eq_7, ev.eq_8, ev.eq_9, ev.eq_10, ev.eq_11, ev.eq_12, ev.eq_13, ev.eq_14, ev.eq_15, ev.eq_16, ev.eq_17, ev.eq_18, ev.eq_19, ev.eq_20, ev.eq_21, ev.eq_22, ev.eq_23, ev.eq_24, ev.eq_25, ev.eq_28, ev.eq_29, ev.eq_30, ev.eq_31, ev.eq_32, ev.eq_33, ev.eq_34, ev.eq_35, evs, eva, evt, ended, outsOf, Il.start, okIO, called, backs, Il.fin, sets, optR, IE.isNop, chg, place, nodeOk, atP, setP, chgAt, ownLst, ownDct, unpD, LQ, reduceIte, reduceCtorEq, Nat.reduceSub, Nat.reduceAdd, Int.reduceLT, Int.reduceLE, Int.reduceNeg, decide_true, decide_false, ite_true, ite_false, if_true, if_false, bnd_ok, bnd_ex, bndS_ok, bndS_ex, gets_zero, gets_succ, own_non, own_bl, own_int, own_str, own_lst, own_tup, own_scr, frz_non, frz_bl, frz_int, frz_str, frz_scr, l_set0, l_setS, noOwn_nil, noOwn_cons, x_nil, x_pas, x_brk, x_cont, x_retN, x_ret, x_exp, x_set, x_unp, x_ite, x_app, x_apS, x_ext, nown_ok, seq_nx, seq_none, s_neg, s_len_lst, s_len_tup, s_len_scr, s_int_bl, s_int_int, s_add_int, s_sub_int, s_mul_l, s_mul_r, sm_48271, sm_10, sm_5, s_fdiv_int, s_mod_int, s_pow9, s_lt_int, s_le_int, s_gt_int, s_ge_int, s_eq_int, s_ne_int, s_find, s_index, s_in_str, s_nin_str, rcv_find, rcv_index, rcv_join, rcv_add, rcv_sub, rcv_mul, rcv_fdiv, rcv_mod, rcv_pow, rcv_eq, rcv_ne, rcv_lt, rcv_le, rcv_gt, rcv_ge, rcv_in, rcv_nin, t_bl, x_lst, x_tup, x_scr, i_str, i_lst, i_tup, ty_ii, ty_bi, ty_in, ty_ib, ty_bb, List.map_cons, List.map_nil, List.cons_append, List.nil_append, List.append_nil, List.replicate_succ, List.replicate_zero, List.length_cons, List.length_nil, List.all_cons, List.all_nil, List.contains_nil, List.isEmpty_nil, Bool.not_false, Bool.not_true, Bool.and_true, Bool.true_and, Bool.and_false, Bool.false_and, Bool.or_true, Bool.true_or, Bool.or_false, Bool.false_or, Bool.false_eq_true, Bool.and_self, Bool.or_self, Option.map_some, Option.map_none, and_self, and_true, true_and, era_nil, era_s, era_n, pur_nil, pur_s, pur_n, D.erase, eraseL, D.pure, pureL, D.closed, closedL, s_eq_str, s_ne_str, wq_one_one, wq_one_row, wq_one_or, wq_one_many, wq_one_maybe, wq_row_one, wq_row_row, wq_row_or, wq_row_many, wq_row_maybe, wq_or_one, wq_or_row, wq_or_or, wq_or_many, wq_or_maybe, wq_many_one, wq_many_row, wq_many_or, wq_many_many, wq_many_maybe, wq_maybe_one, wq_maybe_row, wq_maybe_or, wq_maybe_many, wq_maybe_maybe, s_in_ints, s_nin_ints, s_sorted_ints, s_eq_ints, s_min, s_eq_bl, s_ne_bl, intL_app, t_lst, s_in_two, at0, at1]
        exact this
      | or ps =>
        simp only [Pat.Ok] at hok
        have e3 : ((ps.length : Int) == 0) = false := by
          have : ps.length ≠ 0 := fun z => hok.1 (List.eq_nil_of_length_eq_zero z)
          exact beq_eq_false_iff_ne.mpr (by omega)
        simp only [Pat.enc] at this ⊢
        simp only [call1, ev.eq_1, ev.eq_2, ev.eq_3, ev.eq_4, ev.eq_5, ev.eq_6, ev.eq_7, ev.eq_8, ev.eq_9, ev.eq_10, ev.eq_11, ev.eq_12, ev.eq_13, ev.eq_14, ev.eq_15, ev.eq_16, ev.eq_17, ev.eq_18, ev.eq_19, ev.eq_20, ev.eq_21, ev.eq_22, ev.eq_23, ev.eq_24, ev.eq_25, ev.eq_28, ev.eq_29, ev.eq_30, ev.eq_31, ev.eq_32, ev.eq_33, ev.eq_34, ev.eq_35, evs, eva, evt, ended, outsOf, Il.start, okIO, called, backs, Il.fin, sets, optR, IE.isNop, chg, place, nodeOk, atP, setP, chgAt, ownLst, ownDct, unpD, LQ, reduceIte, reduceCtorEq, Nat.reduceSub, Nat.reduceAdd, Int.reduceLT, Int.reduceLE, Int.reduceNeg, decide_true, decide_false, ite_true, ite_false, if_true, if_false, bnd_ok, bnd_ex, bndS_ok, bndS_ex, gets_zero, gets_succ, own_non, own_bl, own_int, own_str, own_lst, own_tup, own_scr, frz_non, frz_bl, frz_int, frz_str, frz_scr, l_set0, l_setS, noOwn_nil, noOwn_cons, x_nil, x_pas, x_brk, x_cont, x_retN, x_ret, x_exp, x_set, x_unp, x_ite, x_app, x_apS, x_ext, nown_ok, seq_nx, seq_none, s_neg, s_len_lst, s_len_tup, s_len_scr, s_int_bl, s_int_int, s_add_int, s_sub_int, s_mul_l, s_mul_r, sm_48271, sm_10, sm_5, s_fdiv_int, s_mod_int, s_pow9, s_lt_int, s_le_int, s_gt_int, s_ge_int, s_eq_int, s_ne_int, s_find, s_index, s_in_str, s_nin_str, rcv_find, rcv_index, rcv_join, rcv_add, rcv_sub, rcv_mul, rcv_fdiv, rcv_mod, rcv_pow, rcv_eq, rcv_ne, rcv_lt, rcv_le, rcv_gt, rcv_ge, rcv_in, rcv_nin, t_bl, x_lst, x_tup, x_scr, i_str, i_lst, i_tup, ty_ii, ty_bi, ty_in, ty_ib, ty_bb, List.map_cons, List.map_nil, List.cons_append, List.nil_append, List.append_nil, List.replicate_succ, List.replicate_zero, List.length_cons, List.length_nil, List.all_cons, List.all_nil, List.contains_nil, List.isEmpty_nil, Bool.not_false, Bool.not_true, Bool.and_true, Bool.true_and, Bool.and_false, Bool.false_and, Bool.or_true, Bool.true_or, Bool.or_false, Bool.false_or, Bool.false_eq_true, Bool.and_self, Bool.or_self, Option.map_some, Option.map_none, and_self, and_true, true_and, era_nil, era_s, era_n, pur_nil, pur_s, pur_n, D.erase, eraseL, D.pure, pureL, D.closed, closedL, s_eq_str, s_ne_str, wq_one_one, wq_one_row, wq_one_or, wq_one_many, wq_one_maybe, wq_row_one, wq_row_row, wq_row_or, wq_row_many, wq_row_maybe, wq_or_one, wq_or_row, wq_or_or, wq_or_many, wq_or_maybe, wq_many_one, wq_many_row, wq_many_or, wq_many_many, wq_many_maybe, wq_maybe_one, wq_maybe_row, wq_maybe_or, wq_maybe_many, wq_maybe_maybe, s_in_ints, s_nin_ints, s_sorted_ints, s_eq_ints, s_min, s_eq_bl, s_ne_bl, intL_app, t_lst, s_in_two, at0, at1, encs_len, e3]
        exact this
      | many q =>
        simp only [Pat.enc] at this ⊢
        simp only [call1, ev.eq_1, ev.eq_2, ev.eq_3, ev.eq_4, ev.eq_5, ev.eq_6, ev.eq_7, ev.eq_8, ev.eq_9, ev.eq_10, ev.eq_11, ev.eq_12, ev.eq_13, ev.eq_14, ev.eq_15, ev.eq_16, ev.eq_17, ev.eq_18, ev.eq_19, ev.eq_20, ev.eq_21, ev.eq_22, ev.eq_23, ev.eq_24, ev.eq_25, ev.eq_28, ev.eq_29, ev.eq_30, ev.eq_31, ev.eq_32, ev.eq_33, ev.eq_34, ev.eq_35, evs, eva, evt, ended, outsOf, Il.start, okIO, called, backs, Il.fin, sets, optR, IE.isNop, chg, place, nodeOk, atP, setP, chgAt, ownLst, ownDct, unpD, LQ, reduceIte, reduceCtorEq, Nat.reduceSub, Nat.reduceAdd, Int.reduceLT, Int.reduceLE, Int.reduceNeg, decide_true, decide_false, ite_true, ite_false, if_true, if_false, bnd_ok, bnd_ex, bndS_ok, bndS_ex, gets_zero, gets_succ, own_non, own_bl, own_int, own_str, own_lst, own_tup, own_scr, frz_non, frz_bl, frz_int, frz_str, frz_scr, l_set0, l_setS, noOwn_nil, noOwn_cons, x_nil, x_pas, x_brk, x_cont, x_retN, x_ret, x_exp, x_set, x_unp, x_ite, x_app, x_apS, x_ext, nown_ok, seq_nx, seq_none, s_neg, s_len_lst, s_len_tup, s_len_scr, s_int_bl, s_int_int, s_add_int, s_sub_int, s_mul_l, s_mul_r, sm_48271, sm_10, sm_5, s_fdiv_int, s_mod_int, s_pow9, s_lt_int, s_le_int, s_gt_int, s_ge_int, s_eq_int, s_ne_int, s_find, s_index, s_in_str, s_nin_str, rcv_find, rcv_index, rcv_join, rcv_add, rcv_sub, rcv_mul, rcv_fdiv, rcv_mod, rcv_pow, rcv_eq, rcv_ne, rcv_lt, rcv_le, rcv_gt, rcv_ge, rcv_in, rcv_nin, t_bl, x_lst, x_tup, x_scr, i_str, i_lst, i_tup, ty_ii, ty_bi, ty_in, ty_ib, ty_bb, List.map_cons, List.map_nil, List.cons_append, List.nil_append, List.append_nil, List.replicate_succ, List.replicate_zero, List.length_cons, List.length_nil, List.all_cons, List.all_nil, List.contains_nil, List.isEmpty_nil, Bool.not_false, Bool.not_true, Bool.and_true, Bool.true_and, Bool.and_false, Bool.false_and, Bool.or_true, Bool.true_or, Bool.or_false, Bool.false_or, Bool.false_eq_true, Bool.and_self, Bool.or_self, Option.map_some, Option.map_none, and_self, and_true, true_and, era_nil, era_s, era_n, pur_nil, pur_s, pur_n, D.erase, eraseL, D.pure, pureL, D.closed, closedL, s_eq_str, s_ne_str, wq_one_one, wq_one_row, wq_one_or, wq_one_many, wq_one_maybe, wq_row_one, wq_row_row, wq_row_or, wq_row_many, wq_row_maybe, wq_or_one, wq_or_row, wq_or_or, wq_or_many, wq_or_maybe, wq_many_one, wq_many_row, wq_many_or, wq_many_many, wq_many_maybe, wq_maybe_one, wq_maybe_row, wq_maybe_or, wq_maybe_many, wq_maybe_maybe, s_in_ints, s_nin_ints, s_sorted_ints, s_eq_ints, s_min, s_eq_bl, s_ne_bl, intL_app, t_lst, s_in_two, at0, at1]
        exact this
      | maybe q =>
        simp only [Pat.enc] at this ⊢
        simp only [call1, ev.eq_1, ev.eq_2, ev.eq_3, ev.eq_4, ev.eq_5, ev.eq_6, ev.eq_7, ev.eq_8, ev.eq_9, ev.eq_10, ev.eq_11, ev.eq_12, ev.eq_13, ev.eq_14, ev.eq_15, ev.eq_16, ev.eq_17, ev.eq_18, ev.eq_19, ev.eq_20, ev.eq_21, ev.eq_22, ev.eq_23, ev.eq_24, ev.eq_25, ev.eq_28, ev.eq_29, ev.eq_30, ev.eq_31, ev.eq_32, ev.eq_33, ev.eq_34, ev.eq_35, evs, eva, evt, ended, outsOf, Il.start, okIO, called, backs, Il.fin, sets, optR, IE.isNop, chg, place, nodeOk, atP, setP, chgAt, ownLst, ownDct, unpD, LQ, reduceIte, reduceCtorEq, Nat.reduceSub, Nat.reduceAdd, Int.reduceLT, Int.reduceLE, Int.reduceNeg, decide_true, decide_false, ite_true, ite_false, if_true, if_false, bnd_ok, bnd_ex, bndS_ok, bndS_ex, gets_zero, gets_succ, own_non, own_bl, own_int, own_str, own_lst, own_tup, own_scr, frz_non, frz_bl, frz_int, frz_str, frz_scr, l_set0, l_setS, noOwn_nil, noOwn_cons, x_nil, x_pas, x_brk, x_cont, x_retN, x_ret, x_exp, x_set, x_unp, x_ite, x_app, x_apS, x_ext, nown_ok, seq_nx, seq_none, s_neg, s_len_lst, s_len_tup, s_len_scr, s_int_bl, s_int_int, s_add_int, s_sub_int, s_mul_l, s_mul_r, sm_48271, sm_10, sm_5, s_fdiv_int, s_mod_int, s_pow9, s_lt_int, s_le_int, s_gt_int, s_ge_int, s_eq_int, s_ne_int, s_find, s_index, s_in_str, s_nin_str, rcv_find, rcv_index, rcv_join, rcv_add, rcv_sub, rcv_mul, rcv_fdiv, rcv_mod, rcv_pow, rcv_eq, rcv_ne, rcv_lt, rcv_le, rcv_gt, rcv_ge, rcv_in, rcv_nin, t_bl, x_lst, x_tup, x_scr, i_str, i_lst, i_tup, ty_ii, ty_bi, ty_in, ty_ib, ty_bb, List.map_cons, List.map_nil, List.cons_append, List.nil_append, List.append_nil, List.replicate_succ, List.replicate_zero, List.length_cons, List.length_nil, List.all_cons, List.all_nil, List.contains_nil, List.isEmpty_nil, Bool.not_false, Bool.not_true, Bool.and_true, Bool.true_and, Bool.and_false, Bool.false_and, Bool.or_true, Bool.true_or, Bool.or_false, Bool.false_or, Bool.false_eq_true, Bool.and_self, Bool.or_self, Option.map_some, Option.map_none, and_self, and_true, true_and, era_nil, era_s, era_n, pur_nil, pur_s, pur_n, D.erase, eraseL, D.pure, pureL, D.closed, closedL, s_eq_str, s_ne_str, wq_one_one, wq_one_row, wq_one_or, wq_one_many, wq_one_maybe, wq_row_one, wq_row_row, wq_row_or, wq_row_many, wq_row_maybe, wq_or_one, wq_or_row, wq_or_or, wq_or_many, wq_or_maybe, wq_many_one, wq_many_row, wq_many_or, wq_many_many, wq_many_maybe, wq_maybe_one, wq_maybe_row, wq_maybe_or, wq_maybe_many, wq_maybe_maybe, s_in_ints, s_nin_ints, s_sorted_ints, s_eq_ints, s_min, s_eq_bl, s_ne_bl, intL_app, t_lst, s_in_two, at0, at1]
        exact this
theorem g_int (k : Nat) (i : Int) {G : Gam} {w : Bool} {e : Env} : ev G (.gint k i) w e = some (.ok (.int i) true e) := by simp only [ev]
theorem ex_looked_at (n : Nat) {ps : List Pat} (hd : deepL ps ≤ n) (hok : OkL ps) (h0 : ps ≠ []) (h8 : ps.length ≤ 8) (h60 : (leavesL ps).length ≤ 60) : run TT (n + 3) i_looked_at [.lst false (encs ps)] = some (.ret (.lst false (strL (leavesL ps))) []) := by
  refine run_We (fd := d_looked_at) rfl rfl ?_
  simp only [d_looked_at, b_looked_at]
  have e1 : ((ps.length : Int) == 0) = false := by
    have : ps.length ≠ 0 := fun z => h0 (List.eq_nil_of_length_eq_zero z)
    exact beq_eq_false_iff_ne.mpr (by omega)
  have e2 : decide ((8 : Int) < (ps.length : Int)) = false := by simp; omega
  simp only [call1, ev.eq_1, ev.eq_2, ev.eq_3, ev.eq_4, ev.eq_5, ev.eq_6, ev.eq_7, ev.eq_8, ev.eq_9, ev.eq_10, ev.eq_11, ev.eq_12, ev.eq_13, ev.eq_14, ev.eq_15, ev.eq_16, ev.eq_17, ev.eq_18, ev.eq_19, ev.eq_20, ev.eq_21, ev.eq_22, ev.eq_23, ev.eq_24, ev.eq_25, ev.eq_28, ev.eq_29, ev.eq_30, ev.eq_31, ev.eq_32, ev.eq_33, ev.eq_34, ev.eq_35, evs, eva, evt, ended, outsOf, Il.start, okIO, called, backs, Il.fin, sets, optR, IE.isNop, chg, place, nodeOk, atP, setP, chgAt, ownLst, ownDct, unpD, LQ, reduceIte, reduceCtorEq, Nat.reduceSub, Nat.reduceAdd, Int.reduceLT, Int.reduceLE, Int.reduceNeg, decide_true, decide_false, ite_true, ite_false, if_true, if_false, bnd_ok, bnd_ex, bndS_ok, bndS_ex, gets_zero, gets_succ, own_non, own_bl, own_int, own_str, own_lst, own_tup, own_scr, frz_non, frz_bl, frz_int, frz_str, frz_scr, l_set0, l_setS, noOwn_nil, noOwn_cons, x_nil, x_pas, x_brk, x_cont, x_retN, x_ret, x_exp, x_set, x_unp, x_ite, x_app, x_apS, x_ext, nown_ok, seq_nx, seq_none, s_neg, s_len_lst, s_len_tup, s_len_scr, s_int_bl, s_int_int, s_add_int, s_sub_int, s_mul_l, s_mul_r, sm_48271, sm_10, sm_5, s_fdiv_int, s_mod_int, s_pow9, s_lt_int, s_le_int, s_gt_int, s_ge_int, s_eq_int, s_ne_int, s_find, s_index, s_in_str, s_nin_str, rcv_find, rcv_index, rcv_join, rcv_add, rcv_sub, rcv_mul, rcv_fdiv, rcv_mod, rcv_pow, rcv_eq, rcv_ne, rcv_lt, rcv_le, rcv_gt, rcv_ge, rcv_in, rcv_nin, t_bl, x_lst, x_tup, x_scr, i_str, i_lst, i_tup, ty_ii, ty_bi, ty_in, ty_ib, ty_bb, List.map_cons, List.map_nil, List.cons_append, List.nil_append, List.append_nil, List.replicate_succ, List.replicate_zero, List.length_cons, List.length_nil, List.all_cons, List.all_nil, List.contains_nil, List.isEmpty_nil, Bool.not_false, Bool.not_true, Bool.and_true, Bool.true_and, Bool.and_false, Bool.false_and, Bool.or_true, Bool.true_or, Bool.or_false, Bool.false_or, Bool.false_eq_true, Bool.and_self, Bool.or_self, Option.map_some, Option.map_none, and_self, and_true, true_and, era_nil, era_s, era_n, pur_nil, pur_s, pur_n, D.erase, eraseL, D.pure, pureL, D.closed, closedL, s_eq_str, s_ne_str, wq_one_one, wq_one_row, wq_one_or, wq_one_many, wq_one_maybe, wq_row_one, wq_row_row, wq_row_or, wq_row_many, wq_row_maybe, wq_or_one, wq_or_row, wq_or_or, wq_or_many, wq_or_maybe, wq_many_one, wq_many_row, wq_many_or, wq_many_many, wq_many_maybe, wq_maybe_one, wq_maybe_row, wq_maybe_or, wq_maybe_many, wq_maybe_maybe, s_in_ints, s_nin_ints, s_sorted_ints, s_eq_ints, s_min, s_eq_bl, s_ne_bl, intL_app, t_lst, s_in_two, encs_len, e1, e2]
  refine W_for1 (q := true) (by simp only [call1, ev.eq_1, ev.eq_2, ev.eq_3, ev.eq_4, ev.eq_5, ev.eq_6, ev.eq_7, ev.eq_8, ev.eq_9, ev.eq_10, ev.eq_11, ev.eq_12, ev.eq_13, ev.eq_14, ev.eq_15, ev.eq_16, ev.eq_17, ev.eq_18, ev.eq_19, ev.eq_20, ev.eq_21, ev.eq_22, ev.eq_23, ev.eq_24, ev.eq_25, ev.eq_28, ev.eq_29, ev.eq_30, ev.eq_31, ev.eq_32, ev.eq_33, ev.eq_34, ev.eq_35, evs, eva, evt, ended, outsOf, Il.start, okIO, called, backs, Il.fin, sets, optR, IE.isNop, chg, place, nodeOk, atP, setP, chgAt, ownLst, ownDct, unpD, LQ, reduceIte, reduceCtorEq, Nat.reduceSub, Nat.reduceAdd, Int.reduceLT, Int.reduceLE, Int.reduceNeg, decide_true, decide_false, ite_true, ite_false, if_true, if_false, bnd_ok, bnd_ex, bndS_ok, bndS_ex, gets_zero, gets_succ, own_non, own_bl, own_int, own_str, own_lst, own_tup, own_scr, frz_non, frz_bl, frz_int, frz_str, frz_scr, l_set0, l_setS, noOwn_nil, noOwn_cons, x_nil, x_pas, x_brk, x_cont, x_retN, x_ret, x_exp, x_set, x_unp, x_ite, x_app, x_apS, x_ext, nown_ok, seq_nx, seq_none, s_neg, s_len_lst, s_len_tup, s_len_scr, s_int_bl, s_int_int, s_add_int, s_sub_int, s_mul_l, s_mul_r, sm_48271, sm_10, sm_5, s_fdiv_int, s_mod_int, s_pow9, s_lt_int, s_le_int, s_gt_int, s_ge_int, s_eq_int, s_ne_int, s_find, s_index, s_in_str, s_nin_str, rcv_find, rcv_index, rcv_join, rcv_add, rcv_sub, rcv_mul, rcv_fdiv, rcv_mod, rcv_pow, rcv_eq, rcv_ne, rcv_lt, rcv_le, rcv_gt, rcv_ge, rcv_in, rcv_nin, t_bl, x_lst, x_tup, x_scr, i_str, i_lst, i_tup, ty_ii, ty_bi, ty_in, ty_ib, ty_bb, List.map_cons, List.map_nil, List.cons_append, List.nil_append, List.append_nil, List.replicate_succ, List.replicate_zero, List.length_cons, List.length_nil, List.all_cons, List.all_nil, List.contains_nil, List.isEmpty_nil, Bool.not_false, Bool.not_true, Bool.and_true, Bool.true_and, Bool.and_false, Bool.false_and, Bool.or_true, Bool.true_or, Bool.or_false, Bool.false_or, Bool.false_eq_true, Bool.and_self, Bool.or_self, Option.map_some, Option.map_none, and_self, and_true, true_and, era_nil, era_s, era_n, pur_nil, pur_s, pur_n, D.erase, eraseL, D.pure, pureL, D.closed, closedL, s_eq_str, s_ne_str, wq_one_one, wq_one_row, wq_one_or, wq_one_many, wq_one_maybe, wq_row_one, wq_row_row, wq_row_or, wq_row_many, wq_row_maybe, wq_or_one, wq_or_row, wq_or_or, wq_or_many, wq_or_maybe, wq_many_one, wq_many_row, wq_many_or, wq_many_many, wq_many_maybe, wq_maybe_one, wq_maybe_row, wq_maybe_or, wq_maybe_many, wq_maybe_maybe, s_in_ints, s_nin_ints, s_sorted_ints, s_eq_ints, s_min, s_eq_bl, s_ne_bl, intL_app, t_lst, s_in_two] <;> rfl) (i_lst _) rfl (fun i e => ∃ v, e = [some (.lst false (encs ps)), some (.lst true (strL (leavesL (ps.take i)))), v]) ⟨_, rfl⟩ ?_ ?_
  · rintro i x e hx ⟨v, rfl⟩
    obtain ⟨q, hq, rfl, hm⟩ := encs_at hx
    have q3 : q.leaves.length ≤ (leavesL ps).length := by
      obtain ⟨a, b, e⟩ := List.append_of_mem hm
      rw [e, leavesL_app]
      simp only [leavesL, List.length_append]
      omega
    obtain ⟨o, hr⟩ := ex_leaves_of n q (deepL_mem.mp hd q hm) (okL_mem.mp hok q hm) (by omega)
    have q4 : (strL (leavesL (ps.take i))).length + (strL q.leaves).length ≤ line := by
      have := leaves_take (ps := ps) i
      rw [strs_len, strs_len, lineEq]
      omega
    simp only [call1, ev.eq_1, ev.eq_2, ev.eq_3, ev.eq_4, ev.eq_5, ev.eq_6, ev.eq_7, ev.eq_8, ev.eq_9, ev.eq_10, ev.eq_11, ev.eq_12, ev.eq_13, ev.eq_14, ev.eq_15, ev.eq_16, ev.eq_17, ev.eq_18, ev.eq_19, ev.eq_20, ev.eq_21, ev.eq_22, ev.eq_23, ev.eq_24, ev.eq_25, ev.eq_28, ev.eq_29, ev.eq_30, ev.eq_31, ev.eq_32, ev.eq_33, ev.eq_34, ev.eq_35, evs, eva, evt, ended, outsOf, Il.start, okIO, called, backs, Il.fin, sets, optR, IE.isNop, chg, place, nodeOk, atP, setP, chgAt, ownLst, ownDct, unpD, LQ, reduceIte, reduceCtorEq, Nat.reduceSub, Nat.reduceAdd, Int.reduceLT, Int.reduceLE, Int.reduceNeg, decide_true, decide_false, ite_true, ite_false, if_true, if_false, bnd_ok, bnd_ex, bndS_ok, bndS_ex, gets_zero, gets_succ, own_non, own_bl, own_int, own_str, own_lst, own_tup, own_scr, frz_non, frz_bl, frz_int, frz_str, frz_scr, l_set0, l_setS, noOwn_nil, noOwn_cons, x_nil, x_pas, x_brk, x_cont, x_retN, x_ret, x_exp, x_set, x_unp, x_ite, x_app, x_apS, x_ext, nown_ok, seq_nx, seq_none, s_neg, s_len_lst, s_len_tup, s_len_scr, s_int_bl, s_int_int, s_add_int, s_sub_int, s_mul_l, s_mul_r, sm_48271, sm_10, sm_5, s_fdiv_int, s_mod_int, s_pow9, s_lt_int, s_le_int, s_gt_int, s_ge_int, s_eq_int, s_ne_int, s_find, s_index, s_in_str, s_nin_str, rcv_find, rcv_index, rcv_join, rcv_add, rcv_sub, rcv_mul, rcv_fdiv, rcv_mod, rcv_pow, rcv_eq, rcv_ne, rcv_lt, rcv_le, rcv_gt, rcv_ge, rcv_in, rcv_nin, t_bl, x_lst, x_tup, x_scr, i_str, i_lst, i_tup, ty_ii, ty_bi, ty_in, ty_ib, ty_bb, List.map_cons, List.map_nil, List.cons_append, List.nil_append, List.append_nil, List.replicate_succ, List.replicate_zero, List.length_cons, List.length_nil, List.all_cons, List.all_nil, List.contains_nil, List.isEmpty_nil, Bool.not_false, Bool.not_true, Bool.and_true, Bool.true_and, Bool.and_false, Bool.false_and, Bool.or_true, Bool.true_or, Bool.or_false, Bool.false_or, Bool.false_eq_true, Bool.and_self, Bool.or_self, Option.map_some, Option.map_none, and_self, and_true, true_and, era_nil, era_s, era_n, pur_nil, pur_s, pur_n, D.erase, eraseL, D.pure, pureL, D.closed, closedL, s_eq_str, s_ne_str, wq_one_one, wq_one_row, wq_one_or, wq_one_many, wq_one_maybe, wq_row_one, wq_row_row, wq_row_or, wq_row_many, wq_row_maybe, wq_or_one, wq_or_row, wq_or_or, wq_or_many, wq_or_maybe, wq_many_one, wq_many_row, wq_many_or, wq_many_many, wq_many_maybe, wq_maybe_one, wq_maybe_row, wq_maybe_or, wq_maybe_many, wq_maybe_maybe, s_in_ints, s_nin_ints, s_sorted_ints, s_eq_ints, s_min, s_eq_bl, s_ne_bl, intL_app, t_lst, s_in_two, enc_own q, hr, frz_lst (strs_own _), x_extd q4]
    refine W_nx ⟨some q.enc, ?_⟩
    rw [strL_app, take_succ_at hq, leavesL_app]
    simp only [leavesL, List.append_nil]
  · rintro e ⟨v, rfl⟩
    rw [encs_len, List.take_length]
    have e3 : decide ((60 : Int) < ((leavesL ps).length : Int)) = false := by simp; omega
    simp only [call1, ev.eq_1, ev.eq_2, ev.eq_3, ev.eq_4, ev.eq_5, ev.eq_6, ev.eq_7, ev.eq_8, ev.eq_9, ev.eq_10, ev.eq_11, ev.eq_12, ev.eq_13, ev.eq_14, ev.eq_15, ev.eq_16, ev.eq_17, ev.eq_18, ev.eq_19, ev.eq_20, ev.eq_21, ev.eq_22, ev.eq_23, ev.eq_24, ev.eq_25, ev.eq_28, ev.eq_29, ev.eq_30, ev.eq_31, ev.eq_32, ev.eq_33, ev.eq_34, ev.eq_35, evs, eva, evt, ended, outsOf, Il.start, okIO, called, backs, Il.fin, sets, optR, IE.isNop, chg, place, nodeOk, atP, setP, chgAt, ownLst, ownDct, unpD, LQ, reduceIte, reduceCtorEq, Nat.reduceSub, Nat.reduceAdd, Int.reduceLT, Int.reduceLE, Int.reduceNeg, decide_true, decide_false, ite_true, ite_false, if_true, if_false, bnd_ok, bnd_ex, bndS_ok, bndS_ex, gets_zero, gets_succ, own_non, own_bl, own_int, own_str, own_lst, own_tup, own_scr, frz_non, frz_bl, frz_int, frz_str, frz_scr, l_set0, l_setS, noOwn_nil, noOwn_cons, x_nil, x_pas, x_brk, x_cont, x_retN, x_ret, x_exp, x_set, x_unp, x_ite, x_app, x_apS, x_ext, nown_ok, seq_nx, seq_none, s_neg, s_len_lst, s_len_tup, s_len_scr, s_int_bl, s_int_int, s_add_int, s_sub_int, s_mul_l, s_mul_r, sm_48271, sm_10, sm_5, s_fdiv_int, s_mod_int, s_pow9, s_lt_int, s_le_int, s_gt_int, s_ge_int, s_eq_int, s_ne_int, s_find, s_index, s_in_str, s_nin_str, rcv_find, rcv_index, rcv_join, rcv_add, rcv_sub, rcv_mul, rcv_fdiv, rcv_mod, rcv_pow, rcv_eq, rcv_ne, rcv_lt, rcv_le, rcv_gt, rcv_ge, rcv_in, rcv_nin, t_bl, x_lst, x_tup, x_scr, i_str, i_lst, i_tup, ty_ii, ty_bi, ty_in, ty_ib, ty_bb, List.map_cons, List.map_nil, List.cons_append, List.nil_append, List.append_nil, List.replicate_succ, List.replicate_zero, List.length_cons, List.length_nil, List.all_cons, List.all_nil, List.contains_nil, List.isEmpty_nil, Bool.not_false, Bool.not_true, Bool.and_true, Bool.true_and, Bool.and_false, Bool.false_and, Bool.or_true, Bool.true_or, Bool.or_false, Bool.false_or, Bool.false_eq_true, Bool.and_self, Bool.or_self, Option.map_some, Option.map_none, and_self, and_true, true_and, era_nil, era_s, era_n, pur_nil, pur_s, pur_n, D.erase, eraseL, D.pure, pureL, D.closed, closedL, s_eq_str, s_ne_str, wq_one_one, wq_one_row, wq_one_or, wq_one_many, wq_one_maybe, wq_row_one, wq_row_row, wq_row_or, wq_row_many, wq_row_maybe, wq_or_one, wq_or_row, wq_or_or, wq_or_many, wq_or_maybe, wq_many_one, wq_many_row, wq_many_or, wq_many_many, wq_many_maybe, wq_maybe_one, wq_maybe_row, wq_maybe_or, wq_maybe_many, wq_maybe_maybe, s_in_ints, s_nin_ints, s_sorted_ints, s_eq_ints, s_min, s_eq_bl, s_ne_bl, intL_app, t_lst, s_in_two, strs_len, e3, frz_lst (strs_own _)]
    exact W_some rfl
end Il.Q
set_option Elab.async false
set_option linter.all false
set_option maxRecDepth 100000
set_option maxHeartbeats 1000000
namespace Il.Q
open Il
mutual
def Pat.size : Pat → Nat
  | .one _ => 1
  | .row ps => sizeL ps + 1
  | .or ps => sizeL ps + 1
  | .many p => p.size + 1
  | .maybe p => p.size + 1
def sizeL : List Pat → Nat
  | [] => 0
  | p :: ps => p.size + sizeL ps
end
theorem sizeL_app : ∀ ps qs : List Pat, sizeL (ps ++ qs) = sizeL ps + sizeL qs
  | [], qs => by simp [sizeL]
  | p :: ps, qs => by
    simp only [List.cons_append, sizeL, sizeL_app ps qs]
    omega
mutual
theorem leaves_size : ∀ p : Pat, p.leaves.length ≤ p.size
  | .one s => by simp [Pat.leaves, Pat.size]
  | .row ps => by
    have := leavesL_size ps
    simp only [Pat.leaves, Pat.size]
    omega
  | .or ps => by
    have := leavesL_size ps
    simp only [Pat.leaves, Pat.size]
    omega
  | .many p => by
    have := leaves_size p
    simp only [Pat.leaves, Pat.size]
    omega
  | .maybe p => by
    have := leaves_size p
    simp only [Pat.leaves, Pat.size]
    omega
theorem leavesL_size : ∀ ps : List Pat, (leavesL ps).length ≤ sizeL ps
  | [] => by simp [leavesL]
  | p :: ps => by
    have h1 := leaves_size p
    have h2 := leavesL_size ps
    simp only [leavesL, sizeL, List.length_append]
    omega
end
mutual
theorem deep_size : ∀ p : Pat, p.deep ≤ p.size
  | .one s => by simp [Pat.deep, Pat.size]
  | .row ps => by
    have := deepL_size ps
    simp only [Pat.deep, Pat.size]
    omega
  | .or ps => by
    have := deepL_size ps
    simp only [Pat.deep, Pat.size]
    omega
  | .many p => by
    have := deep_size p
    simp only [Pat.deep, Pat.size]
    omega
  | .maybe p => by
    have := deep_size p
    simp only [Pat.deep, Pat.size]
    omega
theorem deepL_size : ∀ ps : List Pat, deepL ps ≤ sizeL ps
  | [] => by simp [deepL]
  | p :: ps => by
    have h1 := deep_size p
    have h2 := deepL_size ps
    simp only [deepL, sizeL]
    omega
end
theorem size_pos (p : Pat) : 1 ≤ p.size := by cases p <;> simp [Pat.size]
theorem sizeL_len : ∀ ps : List Pat, ps.length ≤ sizeL ps
  | [] => by simp
  | p :: ps => by
    have h1 := size_pos p
    have h2 := sizeL_len ps
    simp only [sizeL, List.length_cons]
    omega
theorem sizeL_mem {ps : List Pat} {p : Pat} (h : p ∈ ps) : p.size ≤ sizeL ps := by
  obtain ⟨a, b, e⟩ := List.append_of_mem h
  rw [e, sizeL_app]
  simp only [sizeL]
  omega
theorem size_part {p q : Pat} (h : q ∈ p.parts) : q.size + 1 ≤ p.size := by
  cases p with
  | one s => simp [Pat.parts] at h
  | row ps =>
    have := sizeL_mem h
    simp only [Pat.size, Pat.parts] at this ⊢
    omega
  | or ps =>
    have := sizeL_mem h
    simp only [Pat.size, Pat.parts] at this ⊢
    omega
  | many p =>
    simp only [Pat.parts, List.mem_singleton] at h
    subst h
    simp only [Pat.size]
    omega
  | maybe p =>
    simp only [Pat.parts, List.mem_singleton] at h
    subst h
    simp only [Pat.size]
    omega
theorem parts_size (p : Pat) : p.parts.length ≤ p.size := by
  cases p with
  | one s => simp [Pat.parts]
  | row ps =>
    have := sizeL_len ps
    simp only [Pat.size, Pat.parts]
    omega
  | or ps =>
    have := sizeL_len ps
    simp only [Pat.size, Pat.parts]
    omega
  | many p => simp only [Pat.size, Pat.parts, List.length_singleton]; omega
  | maybe p => simp only [Pat.size, Pat.parts, List.length_singleton]; omega
theorem okL_app {ps : List Pat} {p : Pat} : OkL (ps ++ [p]) ↔ OkL ps ∧ p.Ok := by
  simp only [okL_mem, List.mem_append, List.mem_singleton]
  constructor
  · intro h
    exact ⟨fun q hq => h q (.inl hq), h p (.inr rfl)⟩
  · rintro ⟨h1, h2⟩ q (hq | rfl)
    · exact h1 q hq
    · exact h2
end Il.Q
set_option Elab.async false
set_option linter.all false
set_option maxRecDepth 100000
set_option maxHeartbeats 1000000
namespace Il.Q
open Il
/-- a comprehension, what holds of all -/
theorem ev_compP {G : Gam} {s : Nat} {k : IK} {args : List IE} {elt : IE} {e e1 : Env} {ds xs : List D} {q : Bool} (P : D → Prop) (h1 : eva G args e = some (.ok ds q e1)) (h2 : items k ds = some xs) (hl : xs.length ≤ 1000000)
    (hs : ∀ x ∈ xs, ∃ y q2, ev G elt false (e1.set s (some x)) = some (.ok y q2 (e1.set s (some x))) ∧ y.own = false ∧ P y) :
    ∃ ys q', (∀ w, ev G (.comp s k args elt .nop) w e = Il.fin w (.lst true ys) q' (e1.set s (gets e1 s))) ∧ ys.length = xs.length ∧ (∀ y ∈ ys, P y) ∧ noOwn ys = true := by
  obtain ⟨ys, q', e', r1, r2, r3, r4⟩ := turns_all (s := s) (e0 := e1) (elt := fun e => ev G elt false e) (tst := fun e => some (.ok true true e)) (fun y => y.own = false ∧ P y) xs [] q (e1.set s none) (fun v => by rw [List.set_set]) (fun x hx => ⟨rfl, by
    obtain ⟨y, q2, a1, a2, a3⟩ := hs x hx
    exact ⟨y, q2, a1, a2, a2, a3⟩⟩) (by rw [lineEq, List.length_nil]; omega)
  refine ⟨ys, q', fun w => ?_, r2, fun y hy => (r3 y hy).2, noOwn_of fun y hy => (r3 y hy).1⟩
  simp only [ev, IE.isNop, if_true, h1, bnd_ok, h2, r1, List.nil_append, r4]
/-- a comprehension whose elements change the slots: what holds behind each turn -/
theorem turns_I {s : Nat} {elt : Env → Option (R D)} (I : List D → Env → Prop) : ∀ (xs acc : List D) (q : Bool) (e : Env), I acc e →
    (∀ x ∈ xs, ∀ acc e, I acc e → ∃ y q2 e2, elt (e.set s (some x)) = some (.ok y q2 e2) ∧ y.own = false ∧ I (acc ++ [y]) e2) → acc.length + xs.length ≤ line →
    ∃ ys q' e', turns s elt (fun e => some (.ok true true e)) xs acc q e = some (.ok ys q' e') ∧ I ys e' ∧ ys.length = acc.length + xs.length
  | [], acc, q, e, h0, _, _ => ⟨acc, q, e, by simp only [turns], h0, by simp⟩
  | x :: xs, acc, q, e, h0, hs, hl => by
    obtain ⟨y, q2, e2, h1, h2, h3⟩ := hs x (List.mem_cons_self ..) acc e h0
    simp only [List.length_cons] at hl
    obtain ⟨ys, q', e', r1, r2, r3⟩ := turns_I I xs (acc ++ [y]) (q && true && q2) e2 h3 (fun z hz => hs z (List.mem_cons_of_mem _ hz)) (by rw [List.length_append]; simp only [List.length_singleton]; omega)
    refine ⟨ys, q', e', ?_, r2, by rw [r3, List.length_append, List.length_singleton, List.length_cons]; omega⟩
    have : ¬ line ≤ acc.length := by omega
    simp only [turns, h1, h2, Bool.false_or, decide_eq_true_eq, if_neg this]
    exact r1
theorem ev_compI {G : Gam} {s : Nat} {k : IK} {args : List IE} {elt : IE} {e e1 : Env} {ds xs : List D} {q : Bool} (I : List D → Env → Prop) (h1 : eva G args e = some (.ok ds q e1)) (h2 : items k ds = some xs) (hl : xs.length ≤ 1000000) (h0 : I [] (e1.set s none))
    (hs : ∀ x ∈ xs, ∀ acc e, I acc e → ∃ y q2 e2, ev G elt false (e.set s (some x)) = some (.ok y q2 e2) ∧ y.own = false ∧ I (acc ++ [y]) e2) :
    ∃ ys q' e', (∀ w, ev G (.comp s k args elt .nop) w e = Il.fin w (.lst true ys) q' (e'.set s (gets e1 s))) ∧ I ys e' ∧ ys.length = xs.length := by
  obtain ⟨ys, q', e', r1, r2, r3⟩ := turns_I (s := s) (elt := fun e => ev G elt false e) I xs [] q (e1.set s none) h0 hs (by rw [lineEq, List.length_nil]; omega)
  refine ⟨ys, q', e', fun w => ?_, r2, by simpa using r3⟩
  simp only [ev, IE.isNop, if_true, h1, bnd_ok, h2, r1]
theorem ints_of : ∀ {ys : List D}, (∀ y ∈ ys, ∃ i, y = .int i) → ∃ l : List Int, ys = intL l
  | [], _ => ⟨[], rfl⟩
  | y :: ys, h => by
    obtain ⟨i, rfl⟩ := h y (List.mem_cons_self ..)
    obtain ⟨l, rfl⟩ := ints_of (ys := ys) fun z hz => h z (List.mem_cons_of_mem _ hz)
    exact ⟨i :: l, rfl⟩
theorem s_max_ints (o : Bool) (i : Int) (l : List Int) : sem1 .max1 (.lst o (intL (i :: l))) = some (.int (maxI i l)) := by
  unfold sem1
  dsimp only
  rw [ints_D]
theorem do_sub {G : Gam} {io : List Nat} {i : Nat} {k a : IE} {r : List IS} {e e1 : Env} {d n : D} {xs : List D} {q : Bool} {z : Int} (h1 : ev G a false e = some (.ok d q e1)) (ho : d.own = false) (h2 : gets e1 i = some (.lst true xs)) (h3 : ev G k false e1 = some (.ok (.int z) true e1)) (h4 : fSub (.int z) (.lst true xs) d = some n) : exL G io (.sub (.var i) k a :: r) e = exL G io r (e1.set i (some n)) := by
  simp only [exL, exS, h1, bndS_ok, ho, place, h2, Option.isSome_some, h3, own_int, chgAt, atP, h4, setP, Bool.false_eq_true, if_false, if_true]
theorem i_enum (xs : List D) : items .enum [.lst false xs] = some (pairs 0 xs) := rfl
theorem pairs_at : ∀ {xs : List D} {k : Nat} {i : Nat} {x : D}, (pairs k xs)[i]? = some x → ∃ y, xs[i]? = some y ∧ x = .tup false [.int ((k + i : Nat) : Int), y]
  | [], k, i, x, h => by simp [pairs] at h
  | y :: xs, k, 0, x, h => by
    simp only [pairs, List.getElem?_cons_zero, Option.some.injEq] at h
    subst h
    exact ⟨y, rfl, rfl⟩
  | y :: xs, k, i + 1, x, h => by
    simp only [pairs, List.getElem?_cons_succ] at h
    obtain ⟨z, h1, h2⟩ := pairs_at h
    exact ⟨z, by simpa using h1, by rw [h2, show k + 1 + i = k + (i + 1) by omega]⟩
theorem pairs_len : ∀ (xs : List D) (k : Nat), (pairs k xs).length = xs.length
  | [], k => rfl
  | y :: xs, k => by simp only [pairs, List.length_cons, pairs_len xs]
end Il.Q
set_option Elab.async false
set_option linter.all false
set_option maxRecDepth 100000
set_option maxHeartbeats 1000000
namespace Il.Q
open Il
/-! ### letters: five groups of unlike signs -/
def tabAt (k : Int) : Nat := (tab96[(k % 96).toNat]?).getD 0
theorem tabAt_lt (k : Int) : tabAt k < 128 := by
  have hb : ∀ c ∈ tab96, c < 128 := by decide
  unfold tabAt
  cases z : tab96[(k % 96).toNat]? with
  | none => simp
  | some c => exact hb c (List.mem_of_getElem? z)
theorem nodup_at {l : List Nat} (nd : l.Nodup) {i j : Nat} (hi : i < l.length) (hj : j < l.length) (e : l[i] = l[j]) : i = j := by
  rcases Nat.lt_trichotomy i j with h | h | h
  · exact absurd e (List.pairwise_iff_getElem.mp nd i j hi hj h)
  · exact h
  · exact absurd e.symm (List.pairwise_iff_getElem.mp nd j i hj hi h)
theorem tabAt_inj {a b : Int} (h : tabAt a = tabAt b) : a % 96 = b % 96 := by
  obtain ⟨a0, a1⟩ := mod_rng (a := a) (b := 96) (by omega)
  obtain ⟨b0, b1⟩ := mod_rng (a := b) (b := 96) (by omega)
  have nd : tab96.Nodup := by decide
  have l : tab96.length = 96 := by decide
  have ha : (a % 96).toNat < tab96.length := by omega
  have hb : (b % 96).toNat < tab96.length := by omega
  unfold tabAt at h
  rw [List.getElem?_eq_getElem ha, List.getElem?_eq_getElem hb] at h
  have := nodup_at nd ha hb (show tab96[(a % 96).toNat] = tab96[(b % 96).toNat] from h)
  omega
theorem ex_sign_by2 (k : Int) (n : Nat) : run TT (n + 1) i_sign_by [.int k] = some (.ret (.str [tabAt k]) []) := by
  obtain ⟨h0, h1⟩ := mod_rng (a := k) (b := 96) (by omega)
  obtain ⟨c, hc, hm, h2⟩ := atI_ok (xs := tab96) h0 (by simpa [tab96] using h1)
  have e : tabAt k = c := by
    unfold tabAt
    rw [h2]
    rfl
  rw [e, run_at (fd := d_sign_by) rfl]
  have ha : sem2 .add (.str [32, 33, 34, 35, 36, 38, 39, 40, 41, 42, 43, 44, 45, 46, 47, 48, 49, 50, 51, 52, 53, 54, 55, 56, 57, 58, 59, 60, 61, 62, 63, 64, 65, 66, 67, 68, 69, 70, 71, 72, 73, 74, 75, 76, 77, 78, 79, 80, 81, 82, 83, 84, 85, 86, 87, 88, 89, 90, 91, 92, 93, 94, 95, 96]) (.str [97, 98, 99, 100, 101, 102, 103, 104, 105, 106, 107, 108, 109, 110, 111, 112, 113, 114, 115, 116, 117, 118, 119, 120, 121, 122, 123, 124, 125, 126, 10, 9]) = some (.str tab96) := rfl
  have hx : ixD (.str tab96) (.int (k % 96)) = some (.str [c]) := by rw [x_str (by decide), hc]; rfl
  simp only [call1, ev.eq_1, ev.eq_2, ev.eq_3, ev.eq_4, ev.eq_5, ev.eq_6, ev.eq_7, ev.eq_8, ev.eq_9, ev.eq_10, ev.eq_11, ev.eq_12, ev.eq_13, ev.eq_14, ev.eq_15, ev.eq_16, ev.eq_17, ev.eq_18, ev.eq_19, ev.eq_20, ev.eq_21, ev.eq_22, ev.eq_23, ev.eq_24, ev.eq_25, ev.eq_28, ev.eq_29, ev.eq_30, ev.eq_31, ev.eq_32, ev.eq_33, ev.eq_34, ev.eq_35, evs, eva, evt, ended, outsOf, Il.start, okIO, called, backs, Il.fin, sets, optR, IE.isNop, chg, place, nodeOk, atP, setP, chgAt, ownLst, ownDct, unpD, LQ, reduceIte, reduceCtorEq, Nat.reduceSub, Nat.reduceAdd, Int.reduceLT, Int.reduceLE, Int.reduceNeg, decide_true, decide_false, ite_true, ite_false, if_true, if_false, bnd_ok, bnd_ex, bndS_ok, bndS_ex, gets_zero, gets_succ, own_non, own_bl, own_int, own_str, own_lst, own_tup, own_scr, frz_non, frz_bl, frz_int, frz_str, frz_scr, l_set0, l_setS, noOwn_nil, noOwn_cons, x_nil, x_pas, x_brk, x_cont, x_retN, x_ret, x_exp, x_set, x_unp, x_ite, x_app, x_apS, x_ext, nown_ok, seq_nx, seq_none, s_neg, s_len_lst, s_len_tup, s_len_scr, s_int_bl, s_int_int, s_add_int, s_sub_int, s_mul_l, s_mul_r, sm_48271, sm_10, sm_5, s_fdiv_int, s_mod_int, s_pow9, s_lt_int, s_le_int, s_gt_int, s_ge_int, s_eq_int, s_ne_int, s_find, s_index, s_in_str, s_nin_str, rcv_find, rcv_index, rcv_join, rcv_add, rcv_sub, rcv_mul, rcv_fdiv, rcv_mod, rcv_pow, rcv_eq, rcv_ne, rcv_lt, rcv_le, rcv_gt, rcv_ge, rcv_in, rcv_nin, t_bl, x_lst, x_tup, x_scr, i_str, i_lst, i_tup, ty_ii, ty_bi, ty_in, ty_ib, ty_bb, List.map_cons, List.map_nil, List.cons_append, List.nil_append, List.append_nil, List.replicate_succ, List.replicate_zero, List.length_cons, List.length_nil, List.all_cons, List.all_nil, List.contains_nil, List.isEmpty_nil, Bool.not_false, Bool.not_true, Bool.and_true, Bool.true_and, Bool.and_false, Bool.false_and, Bool.or_true, Bool.true_or, Bool.or_false, Bool.false_or, Bool.false_eq_true, Bool.and_self, Bool.or_self, Option.map_some, Option.map_none, and_self, and_true, true_and, era_nil, era_s, era_n, pur_nil, pur_s, pur_n, D.erase, eraseL, D.pure, pureL, D.closed, closedL, s_eq_str, s_ne_str, wq_one_one, wq_one_row, wq_one_or, wq_one_many, wq_one_maybe, wq_row_one, wq_row_row, wq_row_or, wq_row_many, wq_row_maybe, wq_or_one, wq_or_row, wq_or_or, wq_or_many, wq_or_maybe, wq_many_one, wq_many_row, wq_many_or, wq_many_many, wq_many_maybe, wq_maybe_one, wq_maybe_row, wq_maybe_or, wq_maybe_many, wq_maybe_maybe, s_in_ints, s_nin_ints, s_sorted_ints, s_eq_ints, s_min, s_eq_bl, s_ne_bl, intL_app, t_lst, s_in_two, d_sign_by, b_sign_by, ha, hx]
/-- the gaps -/
def Gap (g : Int) : Prop := g = 1 ∨ g = 5 ∨ g = 7 ∨ g = 11 ∨ g = 13 ∨ g = 17 ∨ g = 19 ∨ g = 23
theorem gap_inj {g c : Int} (hg : Gap g) {a b : Nat} (ha : a < 96) (hb : b < 96) (h : (c + a * g) % 96 = (c + b * g) % 96) : a = b := by
  rcases hg with rfl | rfl | rfl | rfl | rfl | rfl | rfl | rfl <;> omega
/-- all signs, in order -/
def signsBy (c g : Int) (n : Nat) : List Nat := (List.range n).map fun (k : Nat) => tabAt (c + (k : Int) * g)
theorem signsBy_nodup {c g : Int} (hg : Gap g) {n : Nat} (hn : n ≤ 96) : (signsBy c g n).Nodup := by
  unfold signsBy
  rw [List.Nodup, List.pairwise_map]
  refine List.Pairwise.imp_of_mem ?_ (List.nodup_range (n := n))
  intro a b ha hb ne h
  rw [List.mem_range] at ha hb
  exact ne (gap_inj hg (by omega) (by omega) (tabAt_inj h))
theorem signsBy_lt {c g : Int} {n : Nat} : ∀ x ∈ signsBy c g n, x < 128 := fun x hx => by
  obtain ⟨k, _, rfl⟩ := List.mem_map.mp hx
  exact tabAt_lt _
theorem signsBy_len (c g : Int) (n : Nat) : (signsBy c g n).length = n := by unfold signsBy; rw [List.length_map, List.length_range]
/-- groups of unlike signs, none empty -/
structure Groups (S : List (List Nat)) : Prop where
  five : S.length = 5
  ok : ∀ s ∈ S, s ≠ [] ∧ s.length ≤ 19 ∧ ∀ c ∈ s, c < 128
  nodup : S.flatten.Nodup
theorem strs_ones (l : List Nat) : strsD (l.map fun c => D.str [c]) = some (l.map fun c => [c]) := by
  induction l with
  | nil => rfl
  | cons c l ih =>
    show (strsD (l.map fun c => D.str [c])).map _ = _
    rw [ih]
    rfl
theorem ones_own (l : List Nat) : noOwn (l.map fun c => D.str [c]) = true := noOwn_of fun x hx => by
  obtain ⟨c, _, rfl⟩ := List.mem_map.mp hx
  rfl
def chunk (l : List Nat) (z k : Nat) : List Nat := (l.drop (k * z)).take z
theorem letters_tail2 (n : Nat) (cell g : Int) (z : Nat) (hg : Gap g) (h1 : 1 ≤ z) (h2 : z ≤ 19) : ∃ S e', exL (run TT (n + 1)) [] (b_letters.drop 3) [some (.int cell), some (.int g), some (.int z), none, none] = some (.rt (.lst true (strL S)) e') ∧ Groups S := by
  have b1 : b62 (5 * (z : Int)) = true := b62_ok (by omega) (by omega)
  obtain ⟨q1, r1⟩ := ev_compm (G := run TT (n + 1)) (s := 4) (k := .rng1) (args := [(.op2 .mul (.int 5) (.var 2))]) (elt := (.call i_sign_by [(.op2 .add (.var 0) (.op2 .mul (.var 4) (.var 1)))] [])) (e := [some (.int cell), some (.int g), some (.int z), none, none]) (q := true)
    (ds := [.int (5 * z)]) (e1 := [some (.int cell), some (.int g), some (.int z), none, none]) (xs := rangeD 0 (5 * (z : Int)).toNat) (fun d => .str [tabAt (cell + (match d with | .int i => i | _ => 0) * g)]) (by simp only [call1, ev.eq_1, ev.eq_2, ev.eq_3, ev.eq_4, ev.eq_5, ev.eq_6, ev.eq_7, ev.eq_8, ev.eq_9, ev.eq_10, ev.eq_11, ev.eq_12, ev.eq_13, ev.eq_14, ev.eq_15, ev.eq_16, ev.eq_17, ev.eq_18, ev.eq_19, ev.eq_20, ev.eq_21, ev.eq_22, ev.eq_23, ev.eq_24, ev.eq_25, ev.eq_28, ev.eq_29, ev.eq_30, ev.eq_31, ev.eq_32, ev.eq_33, ev.eq_34, ev.eq_35, evs, eva, evt, ended, outsOf, Il.start, okIO, called, backs, Il.fin, sets, optR, IE.isNop, chg, place, nodeOk, atP, setP, chgAt, ownLst, ownDct, unpD, LQ, reduceIte, reduceCtorEq, Nat.reduceSub, Nat.reduceAdd, Int.reduceLT, Int.reduceLE, Int.reduceNeg, decide_true, decide_false, ite_true, ite_false, if_true, if_false, bnd_ok, bnd_ex, bndS_ok, bndS_ex, gets_zero, gets_succ, own_non, own_bl, own_int, own_str, own_lst, own_tup, own_scr, frz_non, frz_bl, frz_int, frz_str, frz_scr, l_set0, l_setS, noOwn_nil, noOwn_cons, x_nil, x_pas, x_brk, x_cont, x_retN, x_ret, x_exp, x_set, x_unp, x_ite, x_app, x_apS, x_ext, nown_ok, seq_nx, seq_none, s_neg, s_len_lst, s_len_tup, s_len_scr, s_int_bl, s_int_int, s_add_int, s_sub_int, s_mul_l, s_mul_r, sm_48271, sm_10, sm_5, s_fdiv_int, s_mod_int, s_pow9, s_lt_int, s_le_int, s_gt_int, s_ge_int, s_eq_int, s_ne_int, s_find, s_index, s_in_str, s_nin_str, rcv_find, rcv_index, rcv_join, rcv_add, rcv_sub, rcv_mul, rcv_fdiv, rcv_mod, rcv_pow, rcv_eq, rcv_ne, rcv_lt, rcv_le, rcv_gt, rcv_ge, rcv_in, rcv_nin, t_bl, x_lst, x_tup, x_scr, i_str, i_lst, i_tup, ty_ii, ty_bi, ty_in, ty_ib, ty_bb, List.map_cons, List.map_nil, List.cons_append, List.nil_append, List.append_nil, List.replicate_succ, List.replicate_zero, List.length_cons, List.length_nil, List.all_cons, List.all_nil, List.contains_nil, List.isEmpty_nil, Bool.not_false, Bool.not_true, Bool.and_true, Bool.true_and, Bool.and_false, Bool.false_and, Bool.or_true, Bool.true_or, Bool.or_false, Bool.false_or, Bool.false_eq_true, Bool.and_self, Bool.or_self, Option.map_some, Option.map_none, and_self, and_true, true_and, era_nil, era_s, era_n, pur_nil, pur_s, pur_n, D.erase, eraseL, D.pure, pureL, D.closed, closedL, s_eq_str, s_ne_str, wq_one_one, wq_one_row, wq_one_or, wq_one_many, wq_one_maybe, wq_row_one, wq_row_row, wq_row_or, wq_row_many, wq_row_maybe, wq_or_one, wq_or_row, wq_or_or, wq_or_many, wq_or_maybe, wq_many_one, wq_many_row, wq_many_or, wq_many_many, wq_many_maybe, wq_maybe_one, wq_maybe_row, wq_maybe_or, wq_maybe_many, wq_maybe_maybe, s_in_ints, s_nin_ints, s_sorted_ints, s_eq_ints, s_min, s_eq_bl, s_ne_bl, intL_app, t_lst, s_in_two]) (i_rng1 b1) (by rw [range_len]; omega) (fun x hx => by
      obtain ⟨k, hk, rfl⟩ := range_mem hx
      have b2 : small64 (0 + k) = true := small_ok (by omega) (by omega)
      exact ⟨rfl, true, by simp only [call1, ev.eq_1, ev.eq_2, ev.eq_3, ev.eq_4, ev.eq_5, ev.eq_6, ev.eq_7, ev.eq_8, ev.eq_9, ev.eq_10, ev.eq_11, ev.eq_12, ev.eq_13, ev.eq_14, ev.eq_15, ev.eq_16, ev.eq_17, ev.eq_18, ev.eq_19, ev.eq_20, ev.eq_21, ev.eq_22, ev.eq_23, ev.eq_24, ev.eq_25, ev.eq_28, ev.eq_29, ev.eq_30, ev.eq_31, ev.eq_32, ev.eq_33, ev.eq_34, ev.eq_35, evs, eva, evt, ended, outsOf, Il.start, okIO, called, backs, Il.fin, sets, optR, IE.isNop, chg, place, nodeOk, atP, setP, chgAt, ownLst, ownDct, unpD, LQ, reduceIte, reduceCtorEq, Nat.reduceSub, Nat.reduceAdd, Int.reduceLT, Int.reduceLE, Int.reduceNeg, decide_true, decide_false, ite_true, ite_false, if_true, if_false, bnd_ok, bnd_ex, bndS_ok, bndS_ex, gets_zero, gets_succ, own_non, own_bl, own_int, own_str, own_lst, own_tup, own_scr, frz_non, frz_bl, frz_int, frz_str, frz_scr, l_set0, l_setS, noOwn_nil, noOwn_cons, x_nil, x_pas, x_brk, x_cont, x_retN, x_ret, x_exp, x_set, x_unp, x_ite, x_app, x_apS, x_ext, nown_ok, seq_nx, seq_none, s_neg, s_len_lst, s_len_tup, s_len_scr, s_int_bl, s_int_int, s_add_int, s_sub_int, s_mul_l, s_mul_r, sm_48271, sm_10, sm_5, s_fdiv_int, s_mod_int, s_pow9, s_lt_int, s_le_int, s_gt_int, s_ge_int, s_eq_int, s_ne_int, s_find, s_index, s_in_str, s_nin_str, rcv_find, rcv_index, rcv_join, rcv_add, rcv_sub, rcv_mul, rcv_fdiv, rcv_mod, rcv_pow, rcv_eq, rcv_ne, rcv_lt, rcv_le, rcv_gt, rcv_ge, rcv_in, rcv_nin, t_bl, x_lst, x_tup, x_scr, i_str, i_lst, i_tup, ty_ii, ty_bi, ty_in, ty_ib, ty_bb, List.map_cons, List.map_nil, List.cons_append, List.nil_append, List.append_nil, List.replicate_succ, List.replicate_zero, List.length_cons, List.length_nil, List.all_cons, List.all_nil, List.contains_nil, List.isEmpty_nil, Bool.not_false, Bool.not_true, Bool.and_true, Bool.true_and, Bool.and_false, Bool.false_and, Bool.or_true, Bool.true_or, Bool.or_false, Bool.false_or, Bool.false_eq_true, Bool.and_self, Bool.or_self, Option.map_some, Option.map_none, and_self, and_true, true_and, era_nil, era_s, era_n, pur_nil, pur_s, pur_n, D.erase, eraseL, D.pure, pureL, D.closed, closedL, s_eq_str, s_ne_str, wq_one_one, wq_one_row, wq_one_or, wq_one_many, wq_one_maybe, wq_row_one, wq_row_row, wq_row_or, wq_row_many, wq_row_maybe, wq_or_one, wq_or_row, wq_or_or, wq_or_many, wq_or_maybe, wq_many_one, wq_many_row, wq_many_or, wq_many_many, wq_many_maybe, wq_maybe_one, wq_maybe_row, wq_maybe_or, wq_maybe_many, wq_maybe_maybe, s_in_ints, s_nin_ints, s_sorted_ints, s_eq_ints, s_min, s_eq_bl, s_ne_bl, intL_app, t_lst, s_in_two, b2, ex_sign_by2]⟩)
  have eT : (rangeD 0 (5 * (z : Int)).toNat).map (fun d => D.str [tabAt (cell + (match d with | .int i => i | _ => 0) * g)]) = (signsBy cell g (5 * z)).map fun c => D.str [c] := by
    unfold rangeD signsBy
    rw [show (5 * (z : Int)).toNat = 5 * z by omega, List.map_map, List.map_map]
    apply List.map_congr_left
    intro k _
    simp only [Function.comp]
    rw [Int.zero_add]
  rw [eT] at r1
  have nd := signsBy_nodup (c := cell) hg (n := 5 * z) (by omega)
  have lt := signsBy_lt (c := cell) (g := g) (n := 5 * z)
  have len := signsBy_len cell g (5 * z)
  generalize signsBy cell g (5 * z) = T at r1 nd lt len
  have bound : ∀ k : Nat, k < 5 → (k + 1) * z ≤ 5 * z := fun k hk => Nat.mul_le_mul_right z (by omega)
  have clen : ∀ k : Nat, k < 5 → (chunk T z k).length = z := fun k hk => by
    have := bound k hk
    unfold chunk
    rw [List.length_take, List.length_drop, len]
    rw [Nat.add_mul, Nat.one_mul] at this
    omega
  obtain ⟨q2, t1⟩ := ev_compm (G := run TT (n + 1)) (s := 4) (k := .rng1) (args := [.int 5]) (elt := (.op2 .join (.str []) (.slc (.var 3) (.op2 .mul (.var 4) (.var 2)) (.op2 .add (.op2 .mul (.var 4) (.var 2)) (.var 2))))) (e := [some (.int cell), some (.int g), some (.int z), some (.lst true (T.map fun c => D.str [c])), none]) (q := true)
    (ds := [.int 5]) (e1 := [some (.int cell), some (.int g), some (.int z), some (.lst true (T.map fun c => D.str [c])), none]) (xs := rangeD 0 5) (fun d => .str (chunk T z (match d with | .int i => i.toNat | _ => 0))) (by simp only [call1, ev.eq_1, ev.eq_2, ev.eq_3, ev.eq_4, ev.eq_5, ev.eq_6, ev.eq_7, ev.eq_8, ev.eq_9, ev.eq_10, ev.eq_11, ev.eq_12, ev.eq_13, ev.eq_14, ev.eq_15, ev.eq_16, ev.eq_17, ev.eq_18, ev.eq_19, ev.eq_20, ev.eq_21, ev.eq_22, ev.eq_23, ev.eq_24, ev.eq_25, ev.eq_28, ev.eq_29, ev.eq_30, ev.eq_31, ev.eq_32, ev.eq_33, ev.eq_34, ev.eq_35, evs, eva, evt, ended, outsOf, Il.start, okIO, called, backs, Il.fin, sets, optR, IE.isNop, chg, place, nodeOk, atP, setP, chgAt, ownLst, ownDct, unpD, LQ, reduceIte, reduceCtorEq, Nat.reduceSub, Nat.reduceAdd, Int.reduceLT, Int.reduceLE, Int.reduceNeg, decide_true, decide_false, ite_true, ite_false, if_true, if_false, bnd_ok, bnd_ex, bndS_ok, bndS_ex, gets_zero, gets_succ, own_non, own_bl, own_int, own_str, own_lst, own_tup, own_scr, frz_non, frz_bl, frz_int, frz_str, frz_scr, l_set0, l_setS, noOwn_nil, noOwn_cons, x_nil, x_pas, x_brk, x_cont, x_retN, x_ret, x_exp, x_set, x_unp, x_ite, x_app, x_apS, x_ext, nown_ok, seq_nx, seq_none, s_neg, s_len_lst, s_len_tup, s_len_scr, s_int_bl, s_int_int, s_add_int, s_sub_int, s_mul_l, s_mul_r, sm_48271, sm_10, sm_5, s_fdiv_int, s_mod_int, s_pow9, s_lt_int, s_le_int, s_gt_int, s_ge_int, s_eq_int, s_ne_int, s_find, s_index, s_in_str, s_nin_str, rcv_find, rcv_index, rcv_join, rcv_add, rcv_sub, rcv_mul, rcv_fdiv, rcv_mod, rcv_pow, rcv_eq, rcv_ne, rcv_lt, rcv_le, rcv_gt, rcv_ge, rcv_in, rcv_nin, t_bl, x_lst, x_tup, x_scr, i_str, i_lst, i_tup, ty_ii, ty_bi, ty_in, ty_ib, ty_bb, List.map_cons, List.map_nil, List.cons_append, List.nil_append, List.append_nil, List.replicate_succ, List.replicate_zero, List.length_cons, List.length_nil, List.all_cons, List.all_nil, List.contains_nil, List.isEmpty_nil, Bool.not_false, Bool.not_true, Bool.and_true, Bool.true_and, Bool.and_false, Bool.false_and, Bool.or_true, Bool.true_or, Bool.or_false, Bool.false_or, Bool.false_eq_true, Bool.and_self, Bool.or_self, Option.map_some, Option.map_none, and_self, and_true, true_and, era_nil, era_s, era_n, pur_nil, pur_s, pur_n, D.erase, eraseL, D.pure, pureL, D.closed, closedL, s_eq_str, s_ne_str, wq_one_one, wq_one_row, wq_one_or, wq_one_many, wq_one_maybe, wq_row_one, wq_row_row, wq_row_or, wq_row_many, wq_row_maybe, wq_or_one, wq_or_row, wq_or_or, wq_or_many, wq_or_maybe, wq_many_one, wq_many_row, wq_many_or, wq_many_many, wq_many_maybe, wq_maybe_one, wq_maybe_row, wq_maybe_or, wq_maybe_many, wq_maybe_maybe, s_in_ints, s_nin_ints, s_sorted_ints, s_eq_ints, s_min, s_eq_bl, s_ne_bl, intL_app, t_lst, s_in_two]) (i_rng1 (b62_ok (by omega) (by omega))) (by rw [range_len]; omega) (fun x hx => by
      obtain ⟨k, hk, rfl⟩ := range_mem hx
      have hk5 : k < 5 := by omega
      have b2 : small64 (0 + k) = true := small_ok (by omega) (by omega)
      have e1 : (0 + (k : Int)) * z = ((k * z : Nat) : Int) := by rw [Int.zero_add]; simp
      have bd := bound k hk5
      rw [Nat.add_mul, Nat.one_mul] at bd
      have cc : cutL (T.map fun c => D.str [c]) (some ((0 + (k : Int)) * z)) (some ((0 + (k : Int)) * z + z)) = (chunk T z k).map fun c => D.str [c] := by
        rw [cut_map]
        congr 1
        unfold cutL chunk
        rw [e1, sIx_ok (by omega), sIx_ok (by omega), len]
        congr 1
        · omega
        · congr 1
          omega
      have hj := s_join (o := false) (strs_ones (chunk T z k)) (by rw [sum_ones, clen k hk5, lineEq]; omega)
      rw [flat_ones] at hj
      have kk : (0 + (k : Int)).toNat = k := by omega
      exact ⟨rfl, true, by simp only [call1, ev.eq_1, ev.eq_2, ev.eq_3, ev.eq_4, ev.eq_5, ev.eq_6, ev.eq_7, ev.eq_8, ev.eq_9, ev.eq_10, ev.eq_11, ev.eq_12, ev.eq_13, ev.eq_14, ev.eq_15, ev.eq_16, ev.eq_17, ev.eq_18, ev.eq_19, ev.eq_20, ev.eq_21, ev.eq_22, ev.eq_23, ev.eq_24, ev.eq_25, ev.eq_28, ev.eq_29, ev.eq_30, ev.eq_31, ev.eq_32, ev.eq_33, ev.eq_34, ev.eq_35, evs, eva, evt, ended, outsOf, Il.start, okIO, called, backs, Il.fin, sets, optR, IE.isNop, chg, place, nodeOk, atP, setP, chgAt, ownLst, ownDct, unpD, LQ, reduceIte, reduceCtorEq, Nat.reduceSub, Nat.reduceAdd, Int.reduceLT, Int.reduceLE, Int.reduceNeg, decide_true, decide_false, ite_true, ite_false, if_true, if_false, bnd_ok, bnd_ex, bndS_ok, bndS_ex, gets_zero, gets_succ, own_non, own_bl, own_int, own_str, own_lst, own_tup, own_scr, frz_non, frz_bl, frz_int, frz_str, frz_scr, l_set0, l_setS, noOwn_nil, noOwn_cons, x_nil, x_pas, x_brk, x_cont, x_retN, x_ret, x_exp, x_set, x_unp, x_ite, x_app, x_apS, x_ext, nown_ok, seq_nx, seq_none, s_neg, s_len_lst, s_len_tup, s_len_scr, s_int_bl, s_int_int, s_add_int, s_sub_int, s_mul_l, s_mul_r, sm_48271, sm_10, sm_5, s_fdiv_int, s_mod_int, s_pow9, s_lt_int, s_le_int, s_gt_int, s_ge_int, s_eq_int, s_ne_int, s_find, s_index, s_in_str, s_nin_str, rcv_find, rcv_index, rcv_join, rcv_add, rcv_sub, rcv_mul, rcv_fdiv, rcv_mod, rcv_pow, rcv_eq, rcv_ne, rcv_lt, rcv_le, rcv_gt, rcv_ge, rcv_in, rcv_nin, t_bl, x_lst, x_tup, x_scr, i_str, i_lst, i_tup, ty_ii, ty_bi, ty_in, ty_ib, ty_bb, List.map_cons, List.map_nil, List.cons_append, List.nil_append, List.append_nil, List.replicate_succ, List.replicate_zero, List.length_cons, List.length_nil, List.all_cons, List.all_nil, List.contains_nil, List.isEmpty_nil, Bool.not_false, Bool.not_true, Bool.and_true, Bool.true_and, Bool.and_false, Bool.false_and, Bool.or_true, Bool.true_or, Bool.or_false, Bool.false_or, Bool.false_eq_true, Bool.and_self, Bool.or_self, Option.map_some, Option.map_none, and_self, and_true, true_and, era_nil, era_s, era_n, pur_nil, pur_s, pur_n, D.erase, eraseL, D.pure, pureL, D.closed, closedL, s_eq_str, s_ne_str, wq_one_one, wq_one_row, wq_one_or, wq_one_many, wq_one_maybe, wq_row_one, wq_row_row, wq_row_or, wq_row_many, wq_row_maybe, wq_or_one, wq_or_row, wq_or_or, wq_or_many, wq_or_maybe, wq_many_one, wq_many_row, wq_many_or, wq_many_many, wq_many_maybe, wq_maybe_one, wq_maybe_row, wq_maybe_or, wq_maybe_many, wq_maybe_maybe, s_in_ints, s_nin_ints, s_sorted_ints, s_eq_ints, s_min, s_eq_bl, s_ne_bl, intL_app, t_lst, s_in_two, b2, y_lst (ones_own T), cc, frz_lst (ones_own _), hj, kk]⟩)
  have eS : (rangeD 0 5).map (fun d => D.str (chunk T z (match d with | .int i => i.toNat | _ => 0))) = strL [chunk T z 0, chunk T z 1, chunk T z 2, chunk T z 3, chunk T z 4] := by
    rfl
  rw [eS] at t1
  refine ⟨_, _, (do_set (r1 true) rfl).trans (do_ret (t1 true)), rfl, fun s hs => ?_, ?_⟩
  · have mem : ∃ k, k < 5 ∧ s = chunk T z k := by
      simp only [List.mem_cons, List.not_mem_nil, or_false] at hs
      rcases hs with h | h | h | h | h
      · exact ⟨0, by omega, h⟩
      · exact ⟨1, by omega, h⟩
      · exact ⟨2, by omega, h⟩
      · exact ⟨3, by omega, h⟩
      · exact ⟨4, by omega, h⟩
    obtain ⟨k, hk, rfl⟩ := mem
    have := clen k hk
    refine ⟨fun e => by rw [e] at this; simp at this; omega, by omega, fun c hc => lt c ?_⟩
    unfold chunk at hc
    exact List.mem_of_mem_drop (List.mem_of_mem_take hc)
  · have e5 : [chunk T z 0, chunk T z 1, chunk T z 2, chunk T z 3, chunk T z 4].flatten = T := by
      have h5 : T.drop (5 * z) = [] := List.drop_eq_nil_of_le (by omega)
      have step : ∀ k, T.drop (k * z) = chunk T z k ++ T.drop ((k + 1) * z) := fun k => by
        unfold chunk
        rw [Nat.add_mul, Nat.one_mul, ← List.drop_drop]
        exact (List.take_append_drop z _).symm
      have e0 : T = T.drop (0 * z) := by simp
      conv => rhs; rw [e0, step 0, step 1, step 2, step 3, step 4, h5]
      simp
    rw [e5]
    exact nd
theorem ex_letters2 (n : Nat) (cell : Int) : ∃ S, run TT (n + 2) i_letters [.int cell] = some (.ret (.lst true (strL S)) []) ∧ Groups S := by
  obtain ⟨g0, g1⟩ := mod_rng (a := cell / 96) (b := 8) (by omega)
  obtain ⟨gap, hgap, hm, _⟩ := atI_ok (xs := [D.int 1, .int 5, .int 7, .int 11, .int 13, .int 17, .int 19, .int 23]) g0 (by simpa using g1)
  have hg : ∃ g, gap = .int g ∧ Gap g := by
    simp only [List.mem_cons, List.not_mem_nil, or_false] at hm
    unfold Gap
    rcases hm with h | h | h | h | h | h | h | h <;> exact ⟨_, h, by simp⟩
  obtain ⟨g, rfl, gg⟩ := hg
  have hfin : ∀ z : Int, 1 ≤ z → z ≤ 19 → (∀ rest, exL (run TT (n + 1)) [] (b_letters.take 3 ++ rest) [some (.int cell), none, none, none, none] = exL (run TT (n + 1)) [] rest [some (.int cell), some (.int g), some (.int z), none, none]) →
      ∃ S, run TT (n + 2) i_letters [.int cell] = some (.ret (.lst true (strL S)) []) ∧ Groups S := by
    intro z h1 h2 h
    obtain ⟨m, rfl⟩ : ∃ m : Nat, z = m := ⟨z.toNat, by omega⟩
    obtain ⟨S, e', t1, t2⟩ := letters_tail2 n cell g m gg (by omega) (by omega)
    refine ⟨S, ?_, t2⟩
    rw [run_at (fd := d_letters) rfl]
    have e1 : exL (run TT (n + 1)) d_letters.io d_letters.body (Il.start d_letters [.int cell]) = some (.rt (.lst true (strL S)) e') := (h (b_letters.drop 3)).trans t1
    unfold call1
    rw [e1]
    rfl
  by_cases hc : (cell / 768 % 4 == 1) = true
  · refine hfin (2 + cell / 3072 % 8 + 10 * (cell / 24576 % 2)) (by omega) (by omega) ?_
    intro rest
    simp only [call1, ev.eq_1, ev.eq_2, ev.eq_3, ev.eq_4, ev.eq_5, ev.eq_6, ev.eq_7, ev.eq_8, ev.eq_9, ev.eq_10, ev.eq_11, ev.eq_12, ev.eq_13, ev.eq_14, ev.eq_15, ev.eq_16, ev.eq_17, ev.eq_18, ev.eq_19, ev.eq_20, ev.eq_21, ev.eq_22, ev.eq_23, ev.eq_24, ev.eq_25, ev.eq_28, ev.eq_29, ev.eq_30, ev.eq_31, ev.eq_32, ev.eq_33, ev.eq_34, ev.eq_35, evs, eva, evt, ended, outsOf, Il.start, okIO, called, backs, Il.fin, sets, optR, IE.isNop, chg, place, nodeOk, atP, setP, chgAt, ownLst, ownDct, unpD, LQ, reduceIte, reduceCtorEq, Nat.reduceSub, Nat.reduceAdd, Int.reduceLT, Int.reduceLE, Int.reduceNeg, decide_true, decide_false, ite_true, ite_false, if_true, if_false, bnd_ok, bnd_ex, bndS_ok, bndS_ex, gets_zero, gets_succ, own_non, own_bl, own_int, own_str, own_lst, own_tup, own_scr, frz_non, frz_bl, frz_int, frz_str, frz_scr, l_set0, l_setS, noOwn_nil, noOwn_cons, x_nil, x_pas, x_brk, x_cont, x_retN, x_ret, x_exp, x_set, x_unp, x_ite, x_app, x_apS, x_ext, nown_ok, seq_nx, seq_none, s_neg, s_len_lst, s_len_tup, s_len_scr, s_int_bl, s_int_int, s_add_int, s_sub_int, s_mul_l, s_mul_r, sm_48271, sm_10, sm_5, s_fdiv_int, s_mod_int, s_pow9, s_lt_int, s_le_int, s_gt_int, s_ge_int, s_eq_int, s_ne_int, s_find, s_index, s_in_str, s_nin_str, rcv_find, rcv_index, rcv_join, rcv_add, rcv_sub, rcv_mul, rcv_fdiv, rcv_mod, rcv_pow, rcv_eq, rcv_ne, rcv_lt, rcv_le, rcv_gt, rcv_ge, rcv_in, rcv_nin, t_bl, x_lst, x_tup, x_scr, i_str, i_lst, i_tup, ty_ii, ty_bi, ty_in, ty_ib, ty_bb, List.map_cons, List.map_nil, List.cons_append, List.nil_append, List.append_nil, List.replicate_succ, List.replicate_zero, List.length_cons, List.length_nil, List.all_cons, List.all_nil, List.contains_nil, List.isEmpty_nil, Bool.not_false, Bool.not_true, Bool.and_true, Bool.true_and, Bool.and_false, Bool.false_and, Bool.or_true, Bool.true_or, Bool.or_false, Bool.false_or, Bool.false_eq_true, Bool.and_self, Bool.or_self, Option.map_some, Option.map_none, and_self, and_true, true_and, era_nil, era_s, era_n, pur_nil, pur_s, pur_n, D.erase, eraseL, D.pure, pureL, D.closed, closedL, s_eq_str, s_ne_str, wq_one_one, wq_one_row, wq_one_or, wq_one_many, wq_one_maybe, wq_row_one, wq_row_row, wq_row_or, wq_row_many, wq_row_maybe, wq_or_one, wq_or_row, wq_or_or, wq_or_many, wq_or_maybe, wq_many_one, wq_many_row, wq_many_or, wq_many_many, wq_many_maybe, wq_maybe_one, wq_maybe_row, wq_maybe_or, wq_maybe_many, wq_maybe_maybe, s_in_ints, s_nin_ints, s_sorted_ints, s_eq_ints, s_min, s_eq_bl, s_ne_bl, intL_app, t_lst, s_in_two, b_letters, List.take_succ_cons, List.take_zero, frz_lst, hgap, hc]
  · have hc : (cell / 768 % 4 == 1) = false := by simpa using hc
    refine hfin 1 (by omega) (by omega) ?_
    intro rest
    simp only [call1, ev.eq_1, ev.eq_2, ev.eq_3, ev.eq_4, ev.eq_5, ev.eq_6, ev.eq_7, ev.eq_8, ev.eq_9, ev.eq_10, ev.eq_11, ev.eq_12, ev.eq_13, ev.eq_14, ev.eq_15, ev.eq_16, ev.eq_17, ev.eq_18, ev.eq_19, ev.eq_20, ev.eq_21, ev.eq_22, ev.eq_23, ev.eq_24, ev.eq_25, ev.eq_28, ev.eq_29, ev.eq_30, ev.eq_31, ev.eq_32, ev.eq_33, ev.eq_34, ev.eq_35, evs, eva, evt, ended, outsOf, Il.start, okIO, called, backs, Il.fin, sets, optR, IE.isNop, chg, place, nodeOk, atP, setP, chgAt, ownLst, ownDct, unpD, LQ, reduceIte, reduceCtorEq, Nat.reduceSub, Nat.reduceAdd, Int.reduceLT, Int.reduceLE, Int.reduceNeg, decide_true, decide_false, ite_true, ite_false, if_true, if_false, bnd_ok, bnd_ex, bndS_ok, bndS_ex, gets_zero, gets_succ, own_non, own_bl, own_int, own_str, own_lst, own_tup, own_scr, frz_non, frz_bl, frz_int, frz_str, frz_scr, l_set0, l_setS, noOwn_nil, noOwn_cons, x_nil, x_pas, x_brk, x_cont, x_retN, x_ret, x_exp, x_set, x_unp, x_ite, x_app, x_apS, x_ext, nown_ok, seq_nx, seq_none, s_neg, s_len_lst, s_len_tup, s_len_scr, s_int_bl, s_int_int, s_add_int, s_sub_int, s_mul_l, s_mul_r, sm_48271, sm_10, sm_5, s_fdiv_int, s_mod_int, s_pow9, s_lt_int, s_le_int, s_gt_int, s_ge_int, s_eq_int, s_ne_int, s_find, s_index, s_in_str, s_nin_str, rcv_find, rcv_index, rcv_join, rcv_add, rcv_sub, rcv_mul, rcv_fdiv, rcv_mod, rcv_pow, rcv_eq, rcv_ne, rcv_lt, rcv_le, rcv_gt, rcv_ge, rcv_in, rcv_nin, t_bl, x_lst, x_tup, x_scr, i_str, i_lst, i_tup, ty_ii, ty_bi, ty_in, ty_ib, ty_bb, List.map_cons, List.map_nil, List.cons_append, List.nil_append, List.append_nil, List.replicate_succ, List.replicate_zero, List.length_cons, List.length_nil, List.all_cons, List.all_nil, List.contains_nil, List.isEmpty_nil, Bool.not_false, Bool.not_true, Bool.and_true, Bool.true_and, Bool.and_false, Bool.false_and, Bool.or_true, Bool.true_or, Bool.or_false, Bool.false_or, Bool.false_eq_true, Bool.and_self, Bool.or_self, Option.map_some, Option.map_none, and_self, and_true, true_and, era_nil, era_s, era_n, pur_nil, pur_s, pur_n, D.erase, eraseL, D.pure, pureL, D.closed, closedL, s_eq_str, s_ne_str, wq_one_one, wq_one_row, wq_one_or, wq_one_many, wq_one_maybe, wq_row_one, wq_row_row, wq_row_or, wq_row_many, wq_row_maybe, wq_or_one, wq_or_row, wq_or_or, wq_or_many, wq_or_maybe, wq_many_one, wq_many_row, wq_many_or, wq_many_many, wq_many_maybe, wq_maybe_one, wq_maybe_row, wq_maybe_or, wq_maybe_many, wq_maybe_maybe, s_in_ints, s_nin_ints, s_sorted_ints, s_eq_ints, s_min, s_eq_bl, s_ne_bl, intL_app, t_lst, s_in_two, b_letters, List.take_succ_cons, List.take_zero, frz_lst, hgap, hc]
end Il.Q
set_option Elab.async false
set_option linter.all false
set_option maxRecDepth 100000
set_option maxHeartbeats 1000000
namespace Il.Q
open Il
theorem groups_at {S : List (List Nat)} (h : Groups S) {i : Nat} (hi : i < 5) : ∃ s, atI (strL S) (i : Int) = some (.str s) ∧ S[i]? = some s ∧ s ≠ [] ∧ s.length ≤ 19 ∧ ∀ c ∈ s, c < 128 := by
  have hl : i < S.length := by rw [h.five]; exact hi
  have h2 : atI (strL S) (i : Int) = some (.str S[i]) := by
    unfold atI
    rw [ixN_ok (by omega) (by rw [strL, List.length_map, h.five]; omega)]
    show (strL S)[(i : Int).toNat]? = _
    unfold strL
    rw [Int.toNat_natCast, List.getElem?_map, List.getElem?_eq_getElem hl]
    rfl
  exact ⟨S[i], h2, List.getElem?_eq_getElem hl, h.ok _ (List.getElem_mem hl)⟩
theorem groups_apart {S : List (List Nat)} (h : Groups S) {i : Nat} {s : List Nat} (hs : S[i]? = some s) : s.Nodup ∧ ∀ j s', j < i → S[j]? = some s' → ∀ c ∈ s, c ∉ s' := by
  have nd := h.nodup
  rw [List.Nodup, List.pairwise_flatten] at nd
  refine ⟨nd.1 s (List.mem_of_getElem? hs), fun j s' hj hs' c hc hc' => ?_⟩
  obtain ⟨li, e1⟩ := List.getElem?_eq_some_iff.mp hs
  obtain ⟨lj, e2⟩ := List.getElem?_eq_some_iff.mp hs'
  have := List.pairwise_iff_getElem.mp nd.2 j i lj li hj c (by rw [e2]; exact hc') c (by rw [e1]; exact hc)
  exact this rfl
/-- some of the groups, as one leaf -/
theorem ex_some_of (n : Nat) {S : List (List Nat)} (h : Groups S) {m : Int} (m0 : 1 ≤ m) (m1 : m ≤ 15) : ∃ s, run TT (n + 1) i_some_of [.lst false (strL S), .int m] = some (.ret (.str s) []) ∧ (Pat.one s).Ok := by
  obtain ⟨out, h1, s, rfl, h2⟩ := run_W (P := fun out => ∃ s, out = .ret (.str s) [] ∧ (Pat.one s).Ok) (n := n) (f := i_some_of) (T := TT) (ds := [.lst false (strL S), .int m]) (fd := d_some_of) rfl rfl (by
    simp only [d_some_of, b_some_of]
    simp only [call1, ev.eq_1, ev.eq_2, ev.eq_3, ev.eq_4, ev.eq_5, ev.eq_6, ev.eq_7, ev.eq_8, ev.eq_9, ev.eq_10, ev.eq_11, ev.eq_12, ev.eq_13, ev.eq_14, ev.eq_15, ev.eq_16, ev.eq_17, ev.eq_18, ev.eq_19, ev.eq_20, ev.eq_21, ev.eq_22, ev.eq_23, ev.eq_24, ev.eq_25, ev.eq_28, ev.eq_29, ev.eq_30, ev.eq_31, ev.eq_32, ev.eq_33, ev.eq_34, ev.eq_35, evs, eva, evt, ended, outsOf, Il.start, okIO, called, backs, Il.fin, sets, optR, IE.isNop, chg, place, nodeOk, atP, setP, chgAt, ownLst, ownDct, unpD, LQ, reduceIte, reduceCtorEq, Nat.reduceSub, Nat.reduceAdd, Int.reduceLT, Int.reduceLE, Int.reduceNeg, decide_true, decide_false, ite_true, ite_false, if_true, if_false, bnd_ok, bnd_ex, bndS_ok, bndS_ex, gets_zero, gets_succ, own_non, own_bl, own_int, own_str, own_lst, own_tup, own_scr, frz_non, frz_bl, frz_int, frz_str, frz_scr, l_set0, l_setS, noOwn_nil, noOwn_cons, x_nil, x_pas, x_brk, x_cont, x_retN, x_ret, x_exp, x_set, x_unp, x_ite, x_app, x_apS, x_ext, nown_ok, seq_nx, seq_none, s_neg, s_len_lst, s_len_tup, s_len_scr, s_int_bl, s_int_int, s_add_int, s_sub_int, s_mul_l, s_mul_r, sm_48271, sm_10, sm_5, s_fdiv_int, s_mod_int, s_pow9, s_lt_int, s_le_int, s_gt_int, s_ge_int, s_eq_int, s_ne_int, s_find, s_index, s_in_str, s_nin_str, rcv_find, rcv_index, rcv_join, rcv_add, rcv_sub, rcv_mul, rcv_fdiv, rcv_mod, rcv_pow, rcv_eq, rcv_ne, rcv_lt, rcv_le, rcv_gt, rcv_ge, rcv_in, rcv_nin, t_bl, x_lst, x_tup, x_scr, i_str, i_lst, i_tup, ty_ii, ty_bi, ty_in, ty_ib, ty_bb, List.map_cons, List.map_nil, List.cons_append, List.nil_append, List.append_nil, List.replicate_succ, List.replicate_zero, List.length_cons, List.length_nil, List.all_cons, List.all_nil, List.contains_nil, List.isEmpty_nil, Bool.not_false, Bool.not_true, Bool.and_true, Bool.true_and, Bool.and_false, Bool.false_and, Bool.or_true, Bool.true_or, Bool.or_false, Bool.false_or, Bool.false_eq_true, Bool.and_self, Bool.or_self, Option.map_some, Option.map_none, and_self, and_true, true_and, era_nil, era_s, era_n, pur_nil, pur_s, pur_n, D.erase, eraseL, D.pure, pureL, D.closed, closedL, s_eq_str, s_ne_str, wq_one_one, wq_one_row, wq_one_or, wq_one_many, wq_one_maybe, wq_row_one, wq_row_row, wq_row_or, wq_row_many, wq_row_maybe, wq_or_one, wq_or_row, wq_or_or, wq_or_many, wq_or_maybe, wq_many_one, wq_many_row, wq_many_or, wq_many_many, wq_many_maybe, wq_maybe_one, wq_maybe_row, wq_maybe_or, wq_maybe_many, wq_maybe_maybe, s_in_ints, s_nin_ints, s_sorted_ints, s_eq_ints, s_min, s_eq_bl, s_ne_bl, intL_app, t_lst, s_in_two]
    refine W_for1 (q := true) (by simp only [call1, ev.eq_1, ev.eq_2, ev.eq_3, ev.eq_4, ev.eq_5, ev.eq_6, ev.eq_7, ev.eq_8, ev.eq_9, ev.eq_10, ev.eq_11, ev.eq_12, ev.eq_13, ev.eq_14, ev.eq_15, ev.eq_16, ev.eq_17, ev.eq_18, ev.eq_19, ev.eq_20, ev.eq_21, ev.eq_22, ev.eq_23, ev.eq_24, ev.eq_25, ev.eq_28, ev.eq_29, ev.eq_30, ev.eq_31, ev.eq_32, ev.eq_33, ev.eq_34, ev.eq_35, evs, eva, evt, ended, outsOf, Il.start, okIO, called, backs, Il.fin, sets, optR, IE.isNop, chg, place, nodeOk, atP, setP, chgAt, ownLst, ownDct, unpD, LQ, reduceIte, reduceCtorEq, Nat.reduceSub, Nat.reduceAdd, Int.reduceLT, Int.reduceLE, Int.reduceNeg, decide_true, decide_false, ite_true, ite_false, if_true, if_false, bnd_ok, bnd_ex, bndS_ok, bndS_ex, gets_zero, gets_succ, own_non, own_bl, own_int, own_str, own_lst, own_tup, own_scr, frz_non, frz_bl, frz_int, frz_str, frz_scr, l_set0, l_setS, noOwn_nil, noOwn_cons, x_nil, x_pas, x_brk, x_cont, x_retN, x_ret, x_exp, x_set, x_unp, x_ite, x_app, x_apS, x_ext, nown_ok, seq_nx, seq_none, s_neg, s_len_lst, s_len_tup, s_len_scr, s_int_bl, s_int_int, s_add_int, s_sub_int, s_mul_l, s_mul_r, sm_48271, sm_10, sm_5, s_fdiv_int, s_mod_int, s_pow9, s_lt_int, s_le_int, s_gt_int, s_ge_int, s_eq_int, s_ne_int, s_find, s_index, s_in_str, s_nin_str, rcv_find, rcv_index, rcv_join, rcv_add, rcv_sub, rcv_mul, rcv_fdiv, rcv_mod, rcv_pow, rcv_eq, rcv_ne, rcv_lt, rcv_le, rcv_gt, rcv_ge, rcv_in, rcv_nin, t_bl, x_lst, x_tup, x_scr, i_str, i_lst, i_tup, ty_ii, ty_bi, ty_in, ty_ib, ty_bb, List.map_cons, List.map_nil, List.cons_append, List.nil_append, List.append_nil, List.replicate_succ, List.replicate_zero, List.length_cons, List.length_nil, List.all_cons, List.all_nil, List.contains_nil, List.isEmpty_nil, Bool.not_false, Bool.not_true, Bool.and_true, Bool.true_and, Bool.and_false, Bool.false_and, Bool.or_true, Bool.true_or, Bool.or_false, Bool.false_or, Bool.false_eq_true, Bool.and_self, Bool.or_self, Option.map_some, Option.map_none, and_self, and_true, true_and, era_nil, era_s, era_n, pur_nil, pur_s, pur_n, D.erase, eraseL, D.pure, pureL, D.closed, closedL, s_eq_str, s_ne_str, wq_one_one, wq_one_row, wq_one_or, wq_one_many, wq_one_maybe, wq_row_one, wq_row_row, wq_row_or, wq_row_many, wq_row_maybe, wq_or_one, wq_or_row, wq_or_or, wq_or_many, wq_or_maybe, wq_many_one, wq_many_row, wq_many_or, wq_many_many, wq_many_maybe, wq_maybe_one, wq_maybe_row, wq_maybe_or, wq_maybe_many, wq_maybe_maybe, s_in_ints, s_nin_ints, s_sorted_ints, s_eq_ints, s_min, s_eq_bl, s_ne_bl, intL_app, t_lst, s_in_two] <;> rfl) (i_rng1 (b62_ok (by omega) (by omega))) rfl (fun k e => ∃ (m : Int) (x : List Nat) (v : Option D), e = [some (.lst false (strL S)), some (.int m), some (.str x), v] ∧ 0 ≤ m ∧ m * 2 ^ k < 16 ∧ (m ≠ 0 ∨ x ≠ []) ∧ x.Nodup ∧ x.length ≤ 19 * k ∧ (∀ c ∈ x, c < 128) ∧ ∀ c ∈ x, ∃ j s, j < k ∧ S[j]? = some s ∧ c ∈ s)
      ⟨m, [], none, rfl, by omega, by omega, .inl (by omega), List.nodup_nil, by simp, by simp, by simp⟩ ?_ ?_
    · rintro k x e hx ⟨m, t, v, rfl, h1, h2, h3, h4, h5, h6, h7⟩
      obtain ⟨hk, rfl⟩ := rng_at hx
      have hk4 : k < 4 := by omega
      obtain ⟨s, s1, s2, s3, s4, s5⟩ := groups_at h (show k < 5 by omega)
      obtain ⟨a1, a2⟩ := groups_apart h s2
      have s1' : atI (strL S) (0 + (k : Int)) = some (.str s) := by rw [Int.zero_add]; exact s1
      have hm2 : m / 2 * 2 ^ (k + 1) < 16 := by
        have : m / 2 * 2 ≤ m := by omega
        have p : (0 : Int) ≤ 2 ^ k := Int.pow_nonneg (by omega)
        have := Int.mul_le_mul_of_nonneg_right this p
        rw [Int.pow_succ]
        have e : m / 2 * (2 ^ k * 2) = m / 2 * 2 * 2 ^ k := by
          rw [Int.mul_assoc, Int.mul_comm (2 : Int) (2 ^ k)]
        omega
      by_cases c : (m % 2 == 1) = true
      · have lt : s.length + t.length ≤ line := by rw [lineEq]; omega
        simp only [call1, ev.eq_1, ev.eq_2, ev.eq_3, ev.eq_4, ev.eq_5, ev.eq_6, ev.eq_7, ev.eq_8, ev.eq_9, ev.eq_10, ev.eq_11, ev.eq_12, ev.eq_13, ev.eq_14, ev.eq_15, ev.eq_16, ev.eq_17, ev.eq_18, ev.eq_19, ev.eq_20, ev.eq_21, ev.eq_22, ev.eq_23, ev.eq_24, ev.eq_25, ev.eq_28, ev.eq_29, ev.eq_30, ev.eq_31, ev.eq_32, ev.eq_33, ev.eq_34, ev.eq_35, evs, eva, evt, ended, outsOf, Il.start, okIO, called, backs, Il.fin, sets, optR, IE.isNop, chg, place, nodeOk, atP, setP, chgAt, ownLst, ownDct, unpD, LQ, reduceIte, reduceCtorEq, Nat.reduceSub, Nat.reduceAdd, Int.reduceLT, Int.reduceLE, Int.reduceNeg, decide_true, decide_false, ite_true, ite_false, if_true, if_false, bnd_ok, bnd_ex, bndS_ok, bndS_ex, gets_zero, gets_succ, own_non, own_bl, own_int, own_str, own_lst, own_tup, own_scr, frz_non, frz_bl, frz_int, frz_str, frz_scr, l_set0, l_setS, noOwn_nil, noOwn_cons, x_nil, x_pas, x_brk, x_cont, x_retN, x_ret, x_exp, x_set, x_unp, x_ite, x_app, x_apS, x_ext, nown_ok, seq_nx, seq_none, s_neg, s_len_lst, s_len_tup, s_len_scr, s_int_bl, s_int_int, s_add_int, s_sub_int, s_mul_l, s_mul_r, sm_48271, sm_10, sm_5, s_fdiv_int, s_mod_int, s_pow9, s_lt_int, s_le_int, s_gt_int, s_ge_int, s_eq_int, s_ne_int, s_find, s_index, s_in_str, s_nin_str, rcv_find, rcv_index, rcv_join, rcv_add, rcv_sub, rcv_mul, rcv_fdiv, rcv_mod, rcv_pow, rcv_eq, rcv_ne, rcv_lt, rcv_le, rcv_gt, rcv_ge, rcv_in, rcv_nin, t_bl, x_lst, x_tup, x_scr, i_str, i_lst, i_tup, ty_ii, ty_bi, ty_in, ty_ib, ty_bb, List.map_cons, List.map_nil, List.cons_append, List.nil_append, List.append_nil, List.replicate_succ, List.replicate_zero, List.length_cons, List.length_nil, List.all_cons, List.all_nil, List.contains_nil, List.isEmpty_nil, Bool.not_false, Bool.not_true, Bool.and_true, Bool.true_and, Bool.and_false, Bool.false_and, Bool.or_true, Bool.true_or, Bool.or_false, Bool.false_or, Bool.false_eq_true, Bool.and_self, Bool.or_self, Option.map_some, Option.map_none, and_self, and_true, true_and, era_nil, era_s, era_n, pur_nil, pur_s, pur_n, D.erase, eraseL, D.pure, pureL, D.closed, closedL, s_eq_str, s_ne_str, wq_one_one, wq_one_row, wq_one_or, wq_one_many, wq_one_maybe, wq_row_one, wq_row_row, wq_row_or, wq_row_many, wq_row_maybe, wq_or_one, wq_or_row, wq_or_or, wq_or_many, wq_or_maybe, wq_many_one, wq_many_row, wq_many_or, wq_many_many, wq_many_maybe, wq_maybe_one, wq_maybe_row, wq_maybe_or, wq_maybe_many, wq_maybe_maybe, s_in_ints, s_nin_ints, s_sorted_ints, s_eq_ints, s_min, s_eq_bl, s_ne_bl, intL_app, t_lst, s_in_two, c, s1', s_add_str lt]
        refine W_nx ⟨_, _, _, rfl, by omega, hm2, .inr (by simp [s3]), ?_, by rw [List.length_append]; omega, fun c hc => ?_, fun c hc => ?_⟩
        · rw [List.nodup_append]
          refine ⟨a1, h4, fun x hx y hy e => ?_⟩
          subst e
          obtain ⟨j, s', j1, j2, j3⟩ := h7 x hy
          exact a2 j s' j1 j2 x hx j3
        · rcases List.mem_append.mp hc with hc | hc
          · exact s5 c hc
          · exact h6 c hc
        · rcases List.mem_append.mp hc with hc | hc
          · exact ⟨k, s, by omega, s2, hc⟩
          · obtain ⟨j, s', j1, j2, j3⟩ := h7 c hc
            exact ⟨j, s', by omega, j2, j3⟩
      · have c : (m % 2 == 1) = false := by simpa using c
        have c2 : m % 2 ≠ 1 := beq_eq_false_iff_ne.mp c
        simp only [call1, ev.eq_1, ev.eq_2, ev.eq_3, ev.eq_4, ev.eq_5, ev.eq_6, ev.eq_7, ev.eq_8, ev.eq_9, ev.eq_10, ev.eq_11, ev.eq_12, ev.eq_13, ev.eq_14, ev.eq_15, ev.eq_16, ev.eq_17, ev.eq_18, ev.eq_19, ev.eq_20, ev.eq_21, ev.eq_22, ev.eq_23, ev.eq_24, ev.eq_25, ev.eq_28, ev.eq_29, ev.eq_30, ev.eq_31, ev.eq_32, ev.eq_33, ev.eq_34, ev.eq_35, evs, eva, evt, ended, outsOf, Il.start, okIO, called, backs, Il.fin, sets, optR, IE.isNop, chg, place, nodeOk, atP, setP, chgAt, ownLst, ownDct, unpD, LQ, reduceIte, reduceCtorEq, Nat.reduceSub, Nat.reduceAdd, Int.reduceLT, Int.reduceLE, Int.reduceNeg, decide_true, decide_false, ite_true, ite_false, if_true, if_false, bnd_ok, bnd_ex, bndS_ok, bndS_ex, gets_zero, gets_succ, own_non, own_bl, own_int, own_str, own_lst, own_tup, own_scr, frz_non, frz_bl, frz_int, frz_str, frz_scr, l_set0, l_setS, noOwn_nil, noOwn_cons, x_nil, x_pas, x_brk, x_cont, x_retN, x_ret, x_exp, x_set, x_unp, x_ite, x_app, x_apS, x_ext, nown_ok, seq_nx, seq_none, s_neg, s_len_lst, s_len_tup, s_len_scr, s_int_bl, s_int_int, s_add_int, s_sub_int, s_mul_l, s_mul_r, sm_48271, sm_10, sm_5, s_fdiv_int, s_mod_int, s_pow9, s_lt_int, s_le_int, s_gt_int, s_ge_int, s_eq_int, s_ne_int, s_find, s_index, s_in_str, s_nin_str, rcv_find, rcv_index, rcv_join, rcv_add, rcv_sub, rcv_mul, rcv_fdiv, rcv_mod, rcv_pow, rcv_eq, rcv_ne, rcv_lt, rcv_le, rcv_gt, rcv_ge, rcv_in, rcv_nin, t_bl, x_lst, x_tup, x_scr, i_str, i_lst, i_tup, ty_ii, ty_bi, ty_in, ty_ib, ty_bb, List.map_cons, List.map_nil, List.cons_append, List.nil_append, List.append_nil, List.replicate_succ, List.replicate_zero, List.length_cons, List.length_nil, List.all_cons, List.all_nil, List.contains_nil, List.isEmpty_nil, Bool.not_false, Bool.not_true, Bool.and_true, Bool.true_and, Bool.and_false, Bool.false_and, Bool.or_true, Bool.true_or, Bool.or_false, Bool.false_or, Bool.false_eq_true, Bool.and_self, Bool.or_self, Option.map_some, Option.map_none, and_self, and_true, true_and, era_nil, era_s, era_n, pur_nil, pur_s, pur_n, D.erase, eraseL, D.pure, pureL, D.closed, closedL, s_eq_str, s_ne_str, wq_one_one, wq_one_row, wq_one_or, wq_one_many, wq_one_maybe, wq_row_one, wq_row_row, wq_row_or, wq_row_many, wq_row_maybe, wq_or_one, wq_or_row, wq_or_or, wq_or_many, wq_or_maybe, wq_many_one, wq_many_row, wq_many_or, wq_many_many, wq_many_maybe, wq_maybe_one, wq_maybe_row, wq_maybe_or, wq_maybe_many, wq_maybe_maybe, s_in_ints, s_nin_ints, s_sorted_ints, s_eq_ints, s_min, s_eq_bl, s_ne_bl, intL_app, t_lst, s_in_two, c]
        refine W_nx ⟨_, _, _, rfl, by omega, hm2, ?_, h4, by omega, h6, fun c hc => ?_⟩
        · rcases h3 with h3 | h3
          · exact .inl (by omega)
          · exact .inr h3
        · obtain ⟨j, s', j1, j2, j3⟩ := h7 c hc
          exact ⟨j, s', by omega, j2, j3⟩
    · rintro e ⟨m, t, v, rfl, h1, h2, h3, h4, h5, h6, h7⟩
      rw [range_len] at h2 h5
      have m0 : m = 0 := by
        have e : (4 : Int).toNat = 4 := rfl
        rw [e] at h2
        have : m * 16 < 16 := h2
        omega
      have tn : t ≠ [] := by
        rcases h3 with h3 | h3
        · exact absurd m0 h3
        · exact h3
      simp only [call1, ev.eq_1, ev.eq_2, ev.eq_3, ev.eq_4, ev.eq_5, ev.eq_6, ev.eq_7, ev.eq_8, ev.eq_9, ev.eq_10, ev.eq_11, ev.eq_12, ev.eq_13, ev.eq_14, ev.eq_15, ev.eq_16, ev.eq_17, ev.eq_18, ev.eq_19, ev.eq_20, ev.eq_21, ev.eq_22, ev.eq_23, ev.eq_24, ev.eq_25, ev.eq_28, ev.eq_29, ev.eq_30, ev.eq_31, ev.eq_32, ev.eq_33, ev.eq_34, ev.eq_35, evs, eva, evt, ended, outsOf, Il.start, okIO, called, backs, Il.fin, sets, optR, IE.isNop, chg, place, nodeOk, atP, setP, chgAt, ownLst, ownDct, unpD, LQ, reduceIte, reduceCtorEq, Nat.reduceSub, Nat.reduceAdd, Int.reduceLT, Int.reduceLE, Int.reduceNeg, decide_true, decide_false, ite_true, ite_false, if_true, if_false, bnd_ok, bnd_ex, bndS_ok, bndS_ex, gets_zero, gets_succ, own_non, own_bl, own_int, own_str, own_lst, own_tup, own_scr, frz_non, frz_bl, frz_int, frz_str, frz_scr, l_set0, l_setS, noOwn_nil, noOwn_cons, x_nil, x_pas, x_brk, x_cont, x_retN, x_ret, x_exp, x_set, x_unp, x_ite, x_app, x_apS, x_ext, nown_ok, seq_nx, seq_none, s_neg, s_len_lst, s_len_tup, s_len_scr, s_int_bl, s_int_int, s_add_int, s_sub_int, s_mul_l, s_mul_r, sm_48271, sm_10, sm_5, s_fdiv_int, s_mod_int, s_pow9, s_lt_int, s_le_int, s_gt_int, s_ge_int, s_eq_int, s_ne_int, s_find, s_index, s_in_str, s_nin_str, rcv_find, rcv_index, rcv_join, rcv_add, rcv_sub, rcv_mul, rcv_fdiv, rcv_mod, rcv_pow, rcv_eq, rcv_ne, rcv_lt, rcv_le, rcv_gt, rcv_ge, rcv_in, rcv_nin, t_bl, x_lst, x_tup, x_scr, i_str, i_lst, i_tup, ty_ii, ty_bi, ty_in, ty_ib, ty_bb, List.map_cons, List.map_nil, List.cons_append, List.nil_append, List.append_nil, List.replicate_succ, List.replicate_zero, List.length_cons, List.length_nil, List.all_cons, List.all_nil, List.contains_nil, List.isEmpty_nil, Bool.not_false, Bool.not_true, Bool.and_true, Bool.true_and, Bool.and_false, Bool.false_and, Bool.or_true, Bool.true_or, Bool.or_false, Bool.false_or, Bool.false_eq_true, Bool.and_self, Bool.or_self, Option.map_some, Option.map_none, and_self, and_true, true_and, era_nil, era_s, era_n, pur_nil, pur_s, pur_n, D.erase, eraseL, D.pure, pureL, D.closed, closedL, s_eq_str, s_ne_str, wq_one_one, wq_one_row, wq_one_or, wq_one_many, wq_one_maybe, wq_row_one, wq_row_row, wq_row_or, wq_row_many, wq_row_maybe, wq_or_one, wq_or_row, wq_or_or, wq_or_many, wq_or_maybe, wq_many_one, wq_many_row, wq_many_or, wq_many_many, wq_many_maybe, wq_maybe_one, wq_maybe_row, wq_maybe_or, wq_maybe_many, wq_maybe_maybe, s_in_ints, s_nin_ints, s_sorted_ints, s_eq_ints, s_min, s_eq_bl, s_ne_bl, intL_app, t_lst, s_in_two]
      refine W_some ⟨_, rfl, t, rfl, ?_⟩
      simp only [Pat.Ok]
      have e : (4 : Int).toNat = 4 := rfl
      rw [e] at h5
      exact ⟨tn, h4, by omega, h6⟩)
  exact ⟨s, h1, h2⟩
end Il.Q
set_option Elab.async false
set_option linter.all false
set_option maxRecDepth 100000
set_option maxHeartbeats 1000000
namespace Il.Q
open Il
/-- groups to draw from -/
def Some19 (L : List (List Nat)) : Prop := L ≠ [] ∧ ∀ s ∈ L, s ≠ [] ∧ s.length ≤ 19 ∧ ∀ c ∈ s, c < 128
theorem ex_text_by2 (n : Nat) (cell sz : Int) {L : List (List Nat)} (hL : Some19 L) (h0 : 0 ≤ sz) (h2 : sz ≤ 2000) : ∃ t : List Nat, (t.length : Int) = sz ∧ (∀ c ∈ t, c < 128) ∧ run TT (n + 1) i_text_by [.int cell, .int sz, .lst false (strL L)] = some (.ret (.str t) []) := by
  obtain ⟨ln, hs⟩ := hL
  have lp : 0 < L.length := List.length_pos_iff.mpr ln
  obtain ⟨out, h1, t, rfl, h3, h4⟩ := run_W (P := fun out => ∃ t, out = .ret (.str t) [] ∧ (t.length : Int) = sz ∧ ∀ c ∈ t, c < 128) (n := n) (f := i_text_by) (T := TT) (ds := [.int cell, .int sz, .lst false (strL L)]) (fd := d_text_by) rfl rfl (by
    simp only [d_text_by, b_text_by]
    simp only [call1, ev.eq_1, ev.eq_2, ev.eq_3, ev.eq_4, ev.eq_5, ev.eq_6, ev.eq_7, ev.eq_8, ev.eq_9, ev.eq_10, ev.eq_11, ev.eq_12, ev.eq_13, ev.eq_14, ev.eq_15, ev.eq_16, ev.eq_17, ev.eq_18, ev.eq_19, ev.eq_20, ev.eq_21, ev.eq_22, ev.eq_23, ev.eq_24, ev.eq_25, ev.eq_28, ev.eq_29, ev.eq_30, ev.eq_31, ev.eq_32, ev.eq_33, ev.eq_34, ev.eq_35, evs, eva, evt, ended, outsOf, Il.start, okIO, called, backs, Il.fin, sets, optR, IE.isNop, chg, place, nodeOk, atP, setP, chgAt, ownLst, ownDct, unpD, LQ, reduceIte, reduceCtorEq, Nat.reduceSub, Nat.reduceAdd, Int.reduceLT, Int.reduceLE, Int.reduceNeg, decide_true, decide_false, ite_true, ite_false, if_true, if_false, bnd_ok, bnd_ex, bndS_ok, bndS_ex, gets_zero, gets_succ, own_non, own_bl, own_int, own_str, own_lst, own_tup, own_scr, frz_non, frz_bl, frz_int, frz_str, frz_scr, l_set0, l_setS, noOwn_nil, noOwn_cons, x_nil, x_pas, x_brk, x_cont, x_retN, x_ret, x_exp, x_set, x_unp, x_ite, x_app, x_apS, x_ext, nown_ok, seq_nx, seq_none, s_neg, s_len_lst, s_len_tup, s_len_scr, s_int_bl, s_int_int, s_add_int, s_sub_int, s_mul_l, s_mul_r, sm_48271, sm_10, sm_5, s_fdiv_int, s_mod_int, s_pow9, s_lt_int, s_le_int, s_gt_int, s_ge_int, s_eq_int, s_ne_int, s_find, s_index, s_in_str, s_nin_str, rcv_find, rcv_index, rcv_join, rcv_add, rcv_sub, rcv_mul, rcv_fdiv, rcv_mod, rcv_pow, rcv_eq, rcv_ne, rcv_lt, rcv_le, rcv_gt, rcv_ge, rcv_in, rcv_nin, t_bl, x_lst, x_tup, x_scr, i_str, i_lst, i_tup, ty_ii, ty_bi, ty_in, ty_ib, ty_bb, List.map_cons, List.map_nil, List.cons_append, List.nil_append, List.append_nil, List.replicate_succ, List.replicate_zero, List.length_cons, List.length_nil, List.all_cons, List.all_nil, List.contains_nil, List.isEmpty_nil, Bool.not_false, Bool.not_true, Bool.and_true, Bool.true_and, Bool.and_false, Bool.false_and, Bool.or_true, Bool.true_or, Bool.or_false, Bool.false_or, Bool.false_eq_true, Bool.and_self, Bool.or_self, Option.map_some, Option.map_none, and_self, and_true, true_and, era_nil, era_s, era_n, pur_nil, pur_s, pur_n, D.erase, eraseL, D.pure, pureL, D.closed, closedL, s_eq_str, s_ne_str, wq_one_one, wq_one_row, wq_one_or, wq_one_many, wq_one_maybe, wq_row_one, wq_row_row, wq_row_or, wq_row_many, wq_row_maybe, wq_or_one, wq_or_row, wq_or_or, wq_or_many, wq_or_maybe, wq_many_one, wq_many_row, wq_many_or, wq_many_many, wq_many_maybe, wq_maybe_one, wq_maybe_row, wq_maybe_or, wq_maybe_many, wq_maybe_maybe, s_in_ints, s_nin_ints, s_sorted_ints, s_eq_ints, s_min, s_eq_bl, s_ne_bl, intL_app, t_lst, s_in_two]
    refine W_for1 (q := true) (by simp only [call1, ev.eq_1, ev.eq_2, ev.eq_3, ev.eq_4, ev.eq_5, ev.eq_6, ev.eq_7, ev.eq_8, ev.eq_9, ev.eq_10, ev.eq_11, ev.eq_12, ev.eq_13, ev.eq_14, ev.eq_15, ev.eq_16, ev.eq_17, ev.eq_18, ev.eq_19, ev.eq_20, ev.eq_21, ev.eq_22, ev.eq_23, ev.eq_24, ev.eq_25, ev.eq_28, ev.eq_29, ev.eq_30, ev.eq_31, ev.eq_32, ev.eq_33, ev.eq_34, ev.eq_35, evs, eva, evt, ended, outsOf, Il.start, okIO, called, backs, Il.fin, sets, optR, IE.isNop, chg, place, nodeOk, atP, setP, chgAt, ownLst, ownDct, unpD, LQ, reduceIte, reduceCtorEq, Nat.reduceSub, Nat.reduceAdd, Int.reduceLT, Int.reduceLE, Int.reduceNeg, decide_true, decide_false, ite_true, ite_false, if_true, if_false, bnd_ok, bnd_ex, bndS_ok, bndS_ex, gets_zero, gets_succ, own_non, own_bl, own_int, own_str, own_lst, own_tup, own_scr, frz_non, frz_bl, frz_int, frz_str, frz_scr, l_set0, l_setS, noOwn_nil, noOwn_cons, x_nil, x_pas, x_brk, x_cont, x_retN, x_ret, x_exp, x_set, x_unp, x_ite, x_app, x_apS, x_ext, nown_ok, seq_nx, seq_none, s_neg, s_len_lst, s_len_tup, s_len_scr, s_int_bl, s_int_int, s_add_int, s_sub_int, s_mul_l, s_mul_r, sm_48271, sm_10, sm_5, s_fdiv_int, s_mod_int, s_pow9, s_lt_int, s_le_int, s_gt_int, s_ge_int, s_eq_int, s_ne_int, s_find, s_index, s_in_str, s_nin_str, rcv_find, rcv_index, rcv_join, rcv_add, rcv_sub, rcv_mul, rcv_fdiv, rcv_mod, rcv_pow, rcv_eq, rcv_ne, rcv_lt, rcv_le, rcv_gt, rcv_ge, rcv_in, rcv_nin, t_bl, x_lst, x_tup, x_scr, i_str, i_lst, i_tup, ty_ii, ty_bi, ty_in, ty_ib, ty_bb, List.map_cons, List.map_nil, List.cons_append, List.nil_append, List.append_nil, List.replicate_succ, List.replicate_zero, List.length_cons, List.length_nil, List.all_cons, List.all_nil, List.contains_nil, List.isEmpty_nil, Bool.not_false, Bool.not_true, Bool.and_true, Bool.true_and, Bool.and_false, Bool.false_and, Bool.or_true, Bool.true_or, Bool.or_false, Bool.false_or, Bool.false_eq_true, Bool.and_self, Bool.or_self, Option.map_some, Option.map_none, and_self, and_true, true_and, era_nil, era_s, era_n, pur_nil, pur_s, pur_n, D.erase, eraseL, D.pure, pureL, D.closed, closedL, s_eq_str, s_ne_str, wq_one_one, wq_one_row, wq_one_or, wq_one_many, wq_one_maybe, wq_row_one, wq_row_row, wq_row_or, wq_row_many, wq_row_maybe, wq_or_one, wq_or_row, wq_or_or, wq_or_many, wq_or_maybe, wq_many_one, wq_many_row, wq_many_or, wq_many_many, wq_many_maybe, wq_maybe_one, wq_maybe_row, wq_maybe_or, wq_maybe_many, wq_maybe_maybe, s_in_ints, s_nin_ints, s_sorted_ints, s_eq_ints, s_min, s_eq_bl, s_ne_bl, intL_app, t_lst, s_in_two] <;> rfl) (i_rng1 (b62_ok (by omega) (by omega))) rfl (fun k e => ∃ (t : List Nat) (num : Int) (v5 v6 : Option D), e = [some (.int cell), some (.int sz), some (.lst false (strL L)), some (.str t), some (.int num), v5, v6] ∧ t.length = k ∧ ∀ c ∈ t, c < 128) ⟨[], _, _, _, rfl, rfl, by simp⟩ ?_ ?_
    · rintro j x e hx ⟨t, num, v5, v6, rfl, k1, k2⟩
      obtain ⟨hj, rfl⟩ := rng_at hx
      generalize hn : (num * 48271 + 11) % 2147483647 = num'
      have sl := strs_len L
      obtain ⟨m0, m1⟩ := mod_rng (a := num' / 7) (b := L.length) (by omega)
      obtain ⟨w, hw, hm, _⟩ := atI_ok (xs := strL L) m0 (by omega)
      obtain ⟨s, s1, rfl⟩ := List.mem_map.mp hm
      obtain ⟨s2, s3, s4⟩ := hs s s1
      have sp : 0 < s.length := List.length_pos_iff.mpr s2
      obtain ⟨n0, n1⟩ := mod_rng (a := num' / 700) (b := s.length) (by omega)
      obtain ⟨c, hc, cm, _⟩ := atI_ok (xs := s) n0 n1
      have l1 : s.length ≤ line := by rw [lineEq]; omega
      have l2 : t.length + [c].length ≤ line := by rw [lineEq, List.length_singleton]; omega
      have l3 : 0 < (L.length : Int) := by omega
      have l4 : 0 < (s.length : Int) := by omega
      simp only [call1, ev.eq_1, ev.eq_2, ev.eq_3, ev.eq_4, ev.eq_5, ev.eq_6, ev.eq_7, ev.eq_8, ev.eq_9, ev.eq_10, ev.eq_11, ev.eq_12, ev.eq_13, ev.eq_14, ev.eq_15, ev.eq_16, ev.eq_17, ev.eq_18, ev.eq_19, ev.eq_20, ev.eq_21, ev.eq_22, ev.eq_23, ev.eq_24, ev.eq_25, ev.eq_28, ev.eq_29, ev.eq_30, ev.eq_31, ev.eq_32, ev.eq_33, ev.eq_34, ev.eq_35, evs, eva, evt, ended, outsOf, Il.start, okIO, called, backs, Il.fin, sets, optR, IE.isNop, chg, place, nodeOk, atP, setP, chgAt, ownLst, ownDct, unpD, LQ, reduceIte, reduceCtorEq, Nat.reduceSub, Nat.reduceAdd, Int.reduceLT, Int.reduceLE, Int.reduceNeg, decide_true, decide_false, ite_true, ite_false, if_true, if_false, bnd_ok, bnd_ex, bndS_ok, bndS_ex, gets_zero, gets_succ, own_non, own_bl, own_int, own_str, own_lst, own_tup, own_scr, frz_non, frz_bl, frz_int, frz_str, frz_scr, l_set0, l_setS, noOwn_nil, noOwn_cons, x_nil, x_pas, x_brk, x_cont, x_retN, x_ret, x_exp, x_set, x_unp, x_ite, x_app, x_apS, x_ext, nown_ok, seq_nx, seq_none, s_neg, s_len_lst, s_len_tup, s_len_scr, s_int_bl, s_int_int, s_add_int, s_sub_int, s_mul_l, s_mul_r, sm_48271, sm_10, sm_5, s_fdiv_int, s_mod_int, s_pow9, s_lt_int, s_le_int, s_gt_int, s_ge_int, s_eq_int, s_ne_int, s_find, s_index, s_in_str, s_nin_str, rcv_find, rcv_index, rcv_join, rcv_add, rcv_sub, rcv_mul, rcv_fdiv, rcv_mod, rcv_pow, rcv_eq, rcv_ne, rcv_lt, rcv_le, rcv_gt, rcv_ge, rcv_in, rcv_nin, t_bl, x_lst, x_tup, x_scr, i_str, i_lst, i_tup, ty_ii, ty_bi, ty_in, ty_ib, ty_bb, List.map_cons, List.map_nil, List.cons_append, List.nil_append, List.append_nil, List.replicate_succ, List.replicate_zero, List.length_cons, List.length_nil, List.all_cons, List.all_nil, List.contains_nil, List.isEmpty_nil, Bool.not_false, Bool.not_true, Bool.and_true, Bool.true_and, Bool.and_false, Bool.false_and, Bool.or_true, Bool.true_or, Bool.or_false, Bool.false_or, Bool.false_eq_true, Bool.and_self, Bool.or_self, Option.map_some, Option.map_none, and_self, and_true, true_and, era_nil, era_s, era_n, pur_nil, pur_s, pur_n, D.erase, eraseL, D.pure, pureL, D.closed, closedL, s_eq_str, s_ne_str, wq_one_one, wq_one_row, wq_one_or, wq_one_many, wq_one_maybe, wq_row_one, wq_row_row, wq_row_or, wq_row_many, wq_row_maybe, wq_or_one, wq_or_row, wq_or_or, wq_or_many, wq_or_maybe, wq_many_one, wq_many_row, wq_many_or, wq_many_many, wq_many_maybe, wq_maybe_one, wq_maybe_row, wq_maybe_or, wq_maybe_many, wq_maybe_maybe, s_in_ints, s_nin_ints, s_sorted_ints, s_eq_ints, s_min, s_eq_bl, s_ne_bl, intL_app, t_lst, s_in_two, hn, sl, hw, s_len_str l1, l3, l4, x_str l1, hc, s_add_str l2]
      refine W_nx ⟨_, _, _, _, rfl, by simp [k1], fun d hd => ?_⟩
      rcases List.mem_append.mp hd with hd | hd
      · exact k2 d hd
      · rw [List.mem_singleton] at hd
        subst hd
        exact s4 _ cm
    · rintro e ⟨t, num, v5, v6, rfl, k1, k2⟩
      rw [range_len] at k1
      simp only [call1, ev.eq_1, ev.eq_2, ev.eq_3, ev.eq_4, ev.eq_5, ev.eq_6, ev.eq_7, ev.eq_8, ev.eq_9, ev.eq_10, ev.eq_11, ev.eq_12, ev.eq_13, ev.eq_14, ev.eq_15, ev.eq_16, ev.eq_17, ev.eq_18, ev.eq_19, ev.eq_20, ev.eq_21, ev.eq_22, ev.eq_23, ev.eq_24, ev.eq_25, ev.eq_28, ev.eq_29, ev.eq_30, ev.eq_31, ev.eq_32, ev.eq_33, ev.eq_34, ev.eq_35, evs, eva, evt, ended, outsOf, Il.start, okIO, called, backs, Il.fin, sets, optR, IE.isNop, chg, place, nodeOk, atP, setP, chgAt, ownLst, ownDct, unpD, LQ, reduceIte, reduceCtorEq, Nat.reduceSub, Nat.reduceAdd, Int.reduceLT, Int.reduceLE, Int.reduceNeg, decide_true, decide_false, ite_true, ite_false, if_true, if_false, bnd_ok, bnd_ex, bndS_ok, bndS_ex, gets_zero, gets_succ, own_non, own_bl, own_int, own_str, own_lst, own_tup, own_scr, frz_non, frz_bl, frz_int, frz_str, frz_scr, l_set0, l_setS, noOwn_nil, noOwn_cons, x_nil, x_pas, x_brk, x_cont, x_retN, x_ret, x_exp, x_set, x_unp, x_ite, x_app, x_apS, x_ext, nown_ok, seq_nx, seq_none, s_neg, s_len_lst, s_len_tup, s_len_scr, s_int_bl, s_int_int, s_add_int, s_sub_int, s_mul_l, s_mul_r, sm_48271, sm_10, sm_5, s_fdiv_int, s_mod_int, s_pow9, s_lt_int, s_le_int, s_gt_int, s_ge_int, s_eq_int, s_ne_int, s_find, s_index, s_in_str, s_nin_str, rcv_find, rcv_index, rcv_join, rcv_add, rcv_sub, rcv_mul, rcv_fdiv, rcv_mod, rcv_pow, rcv_eq, rcv_ne, rcv_lt, rcv_le, rcv_gt, rcv_ge, rcv_in, rcv_nin, t_bl, x_lst, x_tup, x_scr, i_str, i_lst, i_tup, ty_ii, ty_bi, ty_in, ty_ib, ty_bb, List.map_cons, List.map_nil, List.cons_append, List.nil_append, List.append_nil, List.replicate_succ, List.replicate_zero, List.length_cons, List.length_nil, List.all_cons, List.all_nil, List.contains_nil, List.isEmpty_nil, Bool.not_false, Bool.not_true, Bool.and_true, Bool.true_and, Bool.and_false, Bool.false_and, Bool.or_true, Bool.true_or, Bool.or_false, Bool.false_or, Bool.false_eq_true, Bool.and_self, Bool.or_self, Option.map_some, Option.map_none, and_self, and_true, true_and, era_nil, era_s, era_n, pur_nil, pur_s, pur_n, D.erase, eraseL, D.pure, pureL, D.closed, closedL, s_eq_str, s_ne_str, wq_one_one, wq_one_row, wq_one_or, wq_one_many, wq_one_maybe, wq_row_one, wq_row_row, wq_row_or, wq_row_many, wq_row_maybe, wq_or_one, wq_or_row, wq_or_or, wq_or_many, wq_or_maybe, wq_many_one, wq_many_row, wq_many_or, wq_many_many, wq_many_maybe, wq_maybe_one, wq_maybe_row, wq_maybe_or, wq_maybe_many, wq_maybe_maybe, s_in_ints, s_nin_ints, s_sorted_ints, s_eq_ints, s_min, s_eq_bl, s_ne_bl, intL_app, t_lst, s_in_two]
      exact W_some ⟨_, rfl, t, rfl, by omega, k2⟩)
  exact ⟨t, h3, h4, h1⟩
end Il.Q
set_option Elab.async false
set_option linter.all false
set_option maxRecDepth 100000
set_option maxHeartbeats 1000000
namespace Il.Q
open Il
theorem some19_groups {S : List (List Nat)} (h : Groups S) : Some19 S := ⟨fun e => by have := h.five; rw [e] at this; simp at this, h.ok⟩
theorem some19_ones {l : List Nat} (h0 : l ≠ []) (h : ∀ c ∈ l, c < 128) : Some19 (l.map fun c => [c]) := by
  refine ⟨by simpa using h0, fun s hs => ?_⟩
  obtain ⟨c, hc, rfl⟩ := List.mem_map.mp hs
  refine ⟨by simp, by simp, fun d hd => ?_⟩
  rw [List.mem_singleton] at hd
  subst hd
  exact h d hc
theorem ex_wide (n : Nat) (cell : Int) : ∃ L, run TT (n + 2) i_wide [.int cell] = some (.ret (.lst true (strL L)) []) ∧ Some19 L := by
  obtain ⟨g0, g1⟩ := mod_rng (a := cell / 96) (b := 8) (by omega)
  obtain ⟨gap, hgap, hm, _⟩ := atI_ok (xs := [D.int 1, .int 5, .int 7, .int 11, .int 13, .int 17, .int 19, .int 23]) g0 (by simpa using g1)
  have hg : ∃ g, gap = .int g := by
    simp only [List.mem_cons, List.not_mem_nil, or_false] at hm
    rcases hm with h | h | h | h | h | h | h | h <;> exact ⟨_, h⟩
  obtain ⟨g, rfl⟩ := hg
  obtain ⟨out, h1, L, rfl, h2⟩ := run_W (P := fun out => ∃ L, out = .ret (.lst true (strL L)) [] ∧ Some19 L) (n := n + 1) (f := i_wide) (T := TT) (ds := [.int cell]) (fd := d_wide) rfl rfl (by
    simp only [d_wide, b_wide]
    obtain ⟨w0, w1⟩ : 2 ≤ 2 + cell / 768 % 60 ∧ 2 + cell / 768 % 60 ≤ 100 := by omega
    generalize hz : 2 + cell / 768 % 60 = z at w0 w1
    obtain ⟨q1, r1⟩ := ev_compm (G := run TT (n + 1)) (s := 2) (k := .rng1) (args := [(.op2 .add (.int 2) (.op2 .mod (.op2 .fdiv (.var 0) (.int 768)) (.int 60)))]) (elt := (.call i_sign_by [(.op2 .add (.var 0) (.op2 .mul (.var 2) (.var 1)))] [])) (e := [some (.int cell), some (.int g), none]) (q := true)
      (ds := [.int z]) (e1 := [some (.int cell), some (.int g), none]) (xs := rangeD 0 z.toNat) (fun d => .str [tabAt (cell + (match d with | .int i => i | _ => 0) * g)]) (by simp only [call1, ev.eq_1, ev.eq_2, ev.eq_3, ev.eq_4, ev.eq_5, ev.eq_6, ev.eq_7, ev.eq_8, ev.eq_9, ev.eq_10, ev.eq_11, ev.eq_12, ev.eq_13, ev.eq_14, ev.eq_15, ev.eq_16, ev.eq_17, ev.eq_18, ev.eq_19, ev.eq_20, ev.eq_21, ev.eq_22, ev.eq_23, ev.eq_24, ev.eq_25, ev.eq_28, ev.eq_29, ev.eq_30, ev.eq_31, ev.eq_32, ev.eq_33, ev.eq_34, ev.eq_35, evs, eva, evt, ended, outsOf, Il.start, okIO, called, backs, Il.fin, sets, optR, IE.isNop, chg, place, nodeOk, atP, setP, chgAt, ownLst, ownDct, unpD, LQ, reduceIte, reduceCtorEq, Nat.reduceSub, Nat.reduceAdd, Int.reduceLT, Int.reduceLE, Int.reduceNeg, decide_true, decide_false, ite_true, ite_false, if_true, if_false, bnd_ok, bnd_ex, bndS_ok, bndS_ex, gets_zero, gets_succ, own_non, own_bl, own_int, own_str, own_lst, own_tup, own_scr, frz_non, frz_bl, frz_int, frz_str, frz_scr, l_set0, l_setS, noOwn_nil, noOwn_cons, x_nil, x_pas, x_brk, x_cont, x_retN, x_ret, x_exp, x_set, x_unp, x_ite, x_app, x_apS, x_ext, nown_ok, seq_nx, seq_none, s_neg, s_len_lst, s_len_tup, s_len_scr, s_int_bl, s_int_int, s_add_int, s_sub_int, s_mul_l, s_mul_r, sm_48271, sm_10, sm_5, s_fdiv_int, s_mod_int, s_pow9, s_lt_int, s_le_int, s_gt_int, s_ge_int, s_eq_int, s_ne_int, s_find, s_index, s_in_str, s_nin_str, rcv_find, rcv_index, rcv_join, rcv_add, rcv_sub, rcv_mul, rcv_fdiv, rcv_mod, rcv_pow, rcv_eq, rcv_ne, rcv_lt, rcv_le, rcv_gt, rcv_ge, rcv_in, rcv_nin, t_bl, x_lst, x_tup, x_scr, i_str, i_lst, i_tup, ty_ii, ty_bi, ty_in, ty_ib, ty_bb, List.map_cons, List.map_nil, List.cons_append, List.nil_append, List.append_nil, List.replicate_succ, List.replicate_zero, List.length_cons, List.length_nil, List.all_cons, List.all_nil, List.contains_nil, List.isEmpty_nil, Bool.not_false, Bool.not_true, Bool.and_true, Bool.true_and, Bool.and_false, Bool.false_and, Bool.or_true, Bool.true_or, Bool.or_false, Bool.false_or, Bool.false_eq_true, Bool.and_self, Bool.or_self, Option.map_some, Option.map_none, and_self, and_true, true_and, era_nil, era_s, era_n, pur_nil, pur_s, pur_n, D.erase, eraseL, D.pure, pureL, D.closed, closedL, s_eq_str, s_ne_str, wq_one_one, wq_one_row, wq_one_or, wq_one_many, wq_one_maybe, wq_row_one, wq_row_row, wq_row_or, wq_row_many, wq_row_maybe, wq_or_one, wq_or_row, wq_or_or, wq_or_many, wq_or_maybe, wq_many_one, wq_many_row, wq_many_or, wq_many_many, wq_many_maybe, wq_maybe_one, wq_maybe_row, wq_maybe_or, wq_maybe_many, wq_maybe_maybe, s_in_ints, s_nin_ints, s_sorted_ints, s_eq_ints, s_min, s_eq_bl, s_ne_bl, intL_app, t_lst, s_in_two, hz]) (i_rng1 (b62_ok (by omega) (by omega))) (by rw [range_len]; omega) (fun x hx => by
        obtain ⟨k, hk, rfl⟩ := range_mem hx
        have b2 : small64 (0 + k) = true := small_ok (by omega) (by omega)
        exact ⟨rfl, true, by simp only [call1, ev.eq_1, ev.eq_2, ev.eq_3, ev.eq_4, ev.eq_5, ev.eq_6, ev.eq_7, ev.eq_8, ev.eq_9, ev.eq_10, ev.eq_11, ev.eq_12, ev.eq_13, ev.eq_14, ev.eq_15, ev.eq_16, ev.eq_17, ev.eq_18, ev.eq_19, ev.eq_20, ev.eq_21, ev.eq_22, ev.eq_23, ev.eq_24, ev.eq_25, ev.eq_28, ev.eq_29, ev.eq_30, ev.eq_31, ev.eq_32, ev.eq_33, ev.eq_34, ev.eq_35, evs, eva, evt, ended, outsOf, Il.start, okIO, called, backs, Il.fin, sets, optR, IE.isNop, chg, place, nodeOk, atP, setP, chgAt, ownLst, ownDct, unpD, LQ, reduceIte, reduceCtorEq, Nat.reduceSub, Nat.reduceAdd, Int.reduceLT, Int.reduceLE, Int.reduceNeg, decide_true, decide_false, ite_true, ite_false, if_true, if_false, bnd_ok, bnd_ex, bndS_ok, bndS_ex, gets_zero, gets_succ, own_non, own_bl, own_int, own_str, own_lst, own_tup, own_scr, frz_non, frz_bl, frz_int, frz_str, frz_scr, l_set0, l_setS, noOwn_nil, noOwn_cons, x_nil, x_pas, x_brk, x_cont, x_retN, x_ret, x_exp, x_set, x_unp, x_ite, x_app, x_apS, x_ext, nown_ok, seq_nx, seq_none, s_neg, s_len_lst, s_len_tup, s_len_scr, s_int_bl, s_int_int, s_add_int, s_sub_int, s_mul_l, s_mul_r, sm_48271, sm_10, sm_5, s_fdiv_int, s_mod_int, s_pow9, s_lt_int, s_le_int, s_gt_int, s_ge_int, s_eq_int, s_ne_int, s_find, s_index, s_in_str, s_nin_str, rcv_find, rcv_index, rcv_join, rcv_add, rcv_sub, rcv_mul, rcv_fdiv, rcv_mod, rcv_pow, rcv_eq, rcv_ne, rcv_lt, rcv_le, rcv_gt, rcv_ge, rcv_in, rcv_nin, t_bl, x_lst, x_tup, x_scr, i_str, i_lst, i_tup, ty_ii, ty_bi, ty_in, ty_ib, ty_bb, List.map_cons, List.map_nil, List.cons_append, List.nil_append, List.append_nil, List.replicate_succ, List.replicate_zero, List.length_cons, List.length_nil, List.all_cons, List.all_nil, List.contains_nil, List.isEmpty_nil, Bool.not_false, Bool.not_true, Bool.and_true, Bool.true_and, Bool.and_false, Bool.false_and, Bool.or_true, Bool.true_or, Bool.or_false, Bool.false_or, Bool.false_eq_true, Bool.and_self, Bool.or_self, Option.map_some, Option.map_none, and_self, and_true, true_and, era_nil, era_s, era_n, pur_nil, pur_s, pur_n, D.erase, eraseL, D.pure, pureL, D.closed, closedL, s_eq_str, s_ne_str, wq_one_one, wq_one_row, wq_one_or, wq_one_many, wq_one_maybe, wq_row_one, wq_row_row, wq_row_or, wq_row_many, wq_row_maybe, wq_or_one, wq_or_row, wq_or_or, wq_or_many, wq_or_maybe, wq_many_one, wq_many_row, wq_many_or, wq_many_many, wq_many_maybe, wq_maybe_one, wq_maybe_row, wq_maybe_or, wq_maybe_many, wq_maybe_maybe, s_in_ints, s_nin_ints, s_sorted_ints, s_eq_ints, s_min, s_eq_bl, s_ne_bl, intL_app, t_lst, s_in_two, b2, ex_sign_by2]⟩)
    have eT : (rangeD 0 z.toNat).map (fun d => D.str [tabAt (cell + (match d with | .int i => i | _ => 0) * g)]) = strL (((List.range z.toNat).map fun (k : Nat) => tabAt (cell + (0 + (k : Int)) * g)).map fun c => [c]) := by
      unfold rangeD strL
      rw [List.map_map, List.map_map, List.map_map]
      rfl
    rw [eT] at r1
    simp only [call1, ev.eq_1, ev.eq_2, ev.eq_3, ev.eq_4, ev.eq_5, ev.eq_6, ev.eq_7, ev.eq_8, ev.eq_9, ev.eq_10, ev.eq_11, ev.eq_12, ev.eq_13, ev.eq_14, ev.eq_15, ev.eq_16, ev.eq_17, ev.eq_18, ev.eq_19, ev.eq_20, ev.eq_21, ev.eq_22, ev.eq_23, ev.eq_24, ev.eq_25, ev.eq_28, ev.eq_29, ev.eq_30, ev.eq_31, ev.eq_32, ev.eq_33, ev.eq_34, ev.eq_35, evs, eva, evt, ended, outsOf, Il.start, okIO, called, backs, Il.fin, sets, optR, IE.isNop, chg, place, nodeOk, atP, setP, chgAt, ownLst, ownDct, unpD, LQ, reduceIte, reduceCtorEq, Nat.reduceSub, Nat.reduceAdd, Int.reduceLT, Int.reduceLE, Int.reduceNeg, decide_true, decide_false, ite_true, ite_false, if_true, if_false, bnd_ok, bnd_ex, bndS_ok, bndS_ex, gets_zero, gets_succ, own_non, own_bl, own_int, own_str, own_lst, own_tup, own_scr, frz_non, frz_bl, frz_int, frz_str, frz_scr, l_set0, l_setS, noOwn_nil, noOwn_cons, x_nil, x_pas, x_brk, x_cont, x_retN, x_ret, x_exp, x_set, x_unp, x_ite, x_app, x_apS, x_ext, nown_ok, seq_nx, seq_none, s_neg, s_len_lst, s_len_tup, s_len_scr, s_int_bl, s_int_int, s_add_int, s_sub_int, s_mul_l, s_mul_r, sm_48271, sm_10, sm_5, s_fdiv_int, s_mod_int, s_pow9, s_lt_int, s_le_int, s_gt_int, s_ge_int, s_eq_int, s_ne_int, s_find, s_index, s_in_str, s_nin_str, rcv_find, rcv_index, rcv_join, rcv_add, rcv_sub, rcv_mul, rcv_fdiv, rcv_mod, rcv_pow, rcv_eq, rcv_ne, rcv_lt, rcv_le, rcv_gt, rcv_ge, rcv_in, rcv_nin, t_bl, x_lst, x_tup, x_scr, i_str, i_lst, i_tup, ty_ii, ty_bi, ty_in, ty_ib, ty_bb, List.map_cons, List.map_nil, List.cons_append, List.nil_append, List.append_nil, List.replicate_succ, List.replicate_zero, List.length_cons, List.length_nil, List.all_cons, List.all_nil, List.contains_nil, List.isEmpty_nil, Bool.not_false, Bool.not_true, Bool.and_true, Bool.true_and, Bool.and_false, Bool.false_and, Bool.or_true, Bool.true_or, Bool.or_false, Bool.false_or, Bool.false_eq_true, Bool.and_self, Bool.or_self, Option.map_some, Option.map_none, and_self, and_true, true_and, era_nil, era_s, era_n, pur_nil, pur_s, pur_n, D.erase, eraseL, D.pure, pureL, D.closed, closedL, s_eq_str, s_ne_str, wq_one_one, wq_one_row, wq_one_or, wq_one_many, wq_one_maybe, wq_row_one, wq_row_row, wq_row_or, wq_row_many, wq_row_maybe, wq_or_one, wq_or_row, wq_or_or, wq_or_many, wq_or_maybe, wq_many_one, wq_many_row, wq_many_or, wq_many_many, wq_many_maybe, wq_maybe_one, wq_maybe_row, wq_maybe_or, wq_maybe_many, wq_maybe_maybe, s_in_ints, s_nin_ints, s_sorted_ints, s_eq_ints, s_min, s_eq_bl, s_ne_bl, intL_app, t_lst, s_in_two, frz_lst, hgap, r1]
    refine W_some ⟨_, rfl, _, rfl, some19_ones ?_ ?_⟩
    · intro e
      have := congrArg List.length e
      simp at this
      omega
    · intro c hc
      obtain ⟨k, _, rfl⟩ := List.mem_map.mp hc
      exact tabAt_lt _)
  exact ⟨L, h1, h2⟩
end Il.Q
set_option Elab.async false
set_option linter.all false
set_option maxRecDepth 100000
set_option maxHeartbeats 1000000
namespace Il.Q
open Il
/-- a row of leaves of one sign -/
def ones (t : List Nat) : List Pat := t.map fun c => Pat.one [c]
theorem ones_facts {t : List Nat} (h : ∀ c ∈ t, c < 128) : OkL (ones t) ∧ (leavesL (ones t)).length = t.length ∧ deepL (ones t) = 0 ∧ sizeL (ones t) = t.length := by
  unfold ones
  induction t with
  | nil => exact ⟨trivial, rfl, rfl, rfl⟩
  | cons c t ih =>
    obtain ⟨a1, a2, a3, a4⟩ := ih fun d hd => h d (List.mem_cons_of_mem _ hd)
    simp only [List.map_cons, OkL, leavesL, deepL, sizeL, Pat.leaves, Pat.deep, Pat.size, List.length_append, List.length_singleton, List.length_cons, a2, a3, a4]
    refine ⟨⟨?_, a1⟩, by simp only [List.length_nil]; omega, by omega, by omega⟩
    simp only [Pat.Ok]
    refine ⟨by simp, by simp, by simp, fun d hd => ?_⟩
    rw [List.mem_singleton] at hd
    subst hd
    exact h _ (List.mem_cons_self ..)
theorem ones_enc (t : List Nat) : (t.map fun c => D.str [c]).map (fun d => D.tup false [.str [111, 110, 101], d]) = encs (ones t) := by
  unfold ones
  rw [encs_map, List.map_map, List.map_map]
  rfl
theorem encs_app (ps : List Pat) (p : Pat) : encs ps ++ [p.enc] = encs (ps ++ [p]) := by simp only [encs_map, List.map_append, List.map_cons, List.map_nil]
theorem encs_app2 (ps qs : List Pat) : encs ps ++ encs qs = encs (ps ++ qs) := by simp only [encs_map, List.map_append]
theorem a_enc {ps : List Pat} (p : Pat) (h : ps.length < 10000) : fApp (.lst true (encs ps)) p.enc = some (.lst true (encs (ps ++ [p]))) := by
  rw [a_lst (by rw [encs_len, lineEq]; omega), encs_app]
theorem deepL_app : ∀ ps qs : List Pat, deepL (ps ++ qs) = max (deepL ps) (deepL qs)
  | [], qs => by simp [deepL]
  | p :: ps, qs => by
    simp only [List.cons_append, deepL, deepL_app ps qs]
    omega
theorem okL_app2 {ps qs : List Pat} : OkL (ps ++ qs) ↔ OkL ps ∧ OkL qs := by
  simp only [okL_mem, List.mem_append]
  constructor
  · intro h
    exact ⟨fun q hq => h q (.inl hq), fun q hq => h q (.inr hq)⟩
  · rintro ⟨h1, h2⟩ q (hq | hq)
    · exact h1 q hq
    · exact h2 q hq
/-- what a law's patterns are -/
structure Good (ps : List Pat) : Prop where
  ok : OkL ps
  some : ps ≠ []
  eight : ps.length ≤ 8
  leaves : (leavesL ps).length ≤ 60
  deep : deepL ps ≤ 14
  size : sizeL ps ≤ 200
/-- new patterns, shared -/
def Gives (d : D) (ps : List Pat) : Prop := d.freeze = some (.lst false (encs ps))
theorem gives_lst (o : Bool) (ps : List Pat) : Gives (.lst o (encs ps)) ps := frz_lst (encs_own ps)
theorem gives_or (o o' : Bool) (ps : List Pat) : Gives (.lst o [.tup o' [.str [111, 114], .lst false (encs ps)]]) [.or ps] := by
  unfold Gives
  obtain ⟨e1, e2⟩ := shdL_ok _ (encs_shd ps)
  cases o' with
  | false => exact gives_lst o [.or ps]
  | true =>
    have n : noOwn [D.tup true [.str [111, 114], .lst false (encs ps)]] = false := rfl
    have p : pureL [D.tup true [.str [111, 114], .lst false (encs ps)]] = true := by simp only [pureL, D.pure, e2, Bool.and_self]
    simp only [D.freeze, n, Bool.false_eq_true, if_false, p, if_true, eraseL, D.erase, e1]
    rfl
end Il.Q
set_option Elab.async false
set_option linter.all false
set_option maxRecDepth 100000
set_option maxHeartbeats 1000000
namespace Il.Q
open Il
theorem at3 {α : Type} (a b c d : α) (l : List α) : atI (a :: b :: c :: d :: l) 3 = some d := by
  unfold atI
  rw [ixN_ok (by omega) (by simp only [List.length_cons]; omega)]
  rfl
/-- a row of leaves of one sign each -/
theorem row_ok {t : List Nat} (h : ∀ c ∈ t, c < 128) : (Pat.row (ones t)).Ok ∧ (Pat.row (ones t)).leaves.length = t.length ∧ (Pat.row (ones t)).deep = 1 ∧ (Pat.row (ones t)).size = t.length + 1 := by
  obtain ⟨a1, a2, a3, a4⟩ := ones_facts h
  simp only [Pat.Ok, Pat.leaves, Pat.deep, Pat.size, a2, a3, a4]
  exact ⟨a1, trivial, trivial, trivial⟩
/-- rows of leaves -/
structure Rws (ps : List Pat) (k l : Nat) : Prop where
  ok : OkL ps
  len : ps.length = k
  leaves : (leavesL ps).length ≤ l
  deep : deepL ps ≤ 1
  size : sizeL ps ≤ l + k
theorem Rws.nil : Rws [] 0 0 := ⟨trivial, rfl, by simp [leavesL], by simp [deepL], by simp [sizeL]⟩
theorem Rws.add {ps : List Pat} {k l m : Nat} (h : Rws ps k l) {t : List Nat} (hc : ∀ c ∈ t, c < 128) (hl : t.length ≤ m) : Rws (ps ++ [.row (ones t)]) (k + 1) (l + m) := by
  obtain ⟨a1, a2, a3, a4⟩ := row_ok hc
  obtain ⟨b1, b2, b3, b4, b5⟩ := h
  refine ⟨okL_app.mpr ⟨b1, a1⟩, by simp [b2], ?_, ?_, ?_⟩
  · rw [leavesL_app]
    simp only [leavesL, List.append_nil, List.length_append, a2]
    omega
  · rw [deepL_app]
    simp only [deepL, a3]
    omega
  · rw [sizeL_app]
    simp only [sizeL, a4]
    omega
theorem ex_words (n : Nat) (ns : List Int) : ∃ d ps, run TT (n + 4) i_words [.scr ns] = some (.ret d []) ∧ Gives d ps ∧ Good ps := by
  obtain ⟨c20, g20⟩ := ex_cell_at ns 20 (by omega)
  obtain ⟨c2, g2⟩ := ex_cell_at ns 2 (by omega)
  obtain ⟨c3, g3⟩ := ex_cell_at ns 3 (by omega)
  obtain ⟨c4, g4⟩ := ex_cell_at ns 4 (by omega)
  obtain ⟨L, hL, sL⟩ := ex_wide (n + 1) c20
  have oL := strs_own L
  have main : ∀ (shape : Int) (count most : Nat), 1 ≤ count → count ≤ 58 → most ≤ 40 → count * most ≤ 58 → (count ≤ 8 ∨ (shape % 2 == 1) = true) → W (exL (run TT (n + 3)) [] (b_words.drop 4) [some (.scr ns), some (.lst true (strL L)), some (.int shape), some (.int count), some (.int most), none, none, none, none, none, none]) fun r => ∃ o, ended [] (some r) = some o ∧ ∃ d ps, o = .ret d [] ∧ Gives d ps ∧ Good ps := by
    intro shape count most h1 h2 h3 h4 h5
    simp only [b_words, List.drop_succ_cons, List.drop_zero]
    simp only [call1, ev.eq_1, ev.eq_2, ev.eq_3, ev.eq_4, ev.eq_5, ev.eq_6, ev.eq_7, ev.eq_8, ev.eq_9, ev.eq_10, ev.eq_11, ev.eq_12, ev.eq_13, ev.eq_14, ev.eq_15, ev.eq_16, ev.eq_17, ev.eq_18, ev.eq_19, ev.eq_20, ev.eq_21, ev.eq_22, ev.eq_23, ev.eq_24, ev.eq_25, ev.eq_28, ev.eq_29, ev.eq_30, ev.eq_31, ev.eq_32, ev.eq_33, ev.eq_34, ev.eq_35, evs, eva, evt, ended, outsOf, Il.start, okIO, called, backs, Il.fin, sets, optR, IE.isNop, chg, place, nodeOk, atP, setP, chgAt, ownLst, ownDct, unpD, LQ, reduceIte, reduceCtorEq, Nat.reduceSub, Nat.reduceAdd, Int.reduceLT, Int.reduceLE, Int.reduceNeg, decide_true, decide_false, ite_true, ite_false, if_true, if_false, bnd_ok, bnd_ex, bndS_ok, bndS_ex, gets_zero, gets_succ, own_non, own_bl, own_int, own_str, own_lst, own_tup, own_scr, frz_non, frz_bl, frz_int, frz_str, frz_scr, l_set0, l_setS, noOwn_nil, noOwn_cons, x_nil, x_pas, x_brk, x_cont, x_retN, x_ret, x_exp, x_set, x_unp, x_ite, x_app, x_apS, x_ext, nown_ok, seq_nx, seq_none, s_neg, s_len_lst, s_len_tup, s_len_scr, s_int_bl, s_int_int, s_add_int, s_sub_int, s_mul_l, s_mul_r, sm_48271, sm_10, sm_5, s_fdiv_int, s_mod_int, s_pow9, s_lt_int, s_le_int, s_gt_int, s_ge_int, s_eq_int, s_ne_int, s_find, s_index, s_in_str, s_nin_str, rcv_find, rcv_index, rcv_join, rcv_add, rcv_sub, rcv_mul, rcv_fdiv, rcv_mod, rcv_pow, rcv_eq, rcv_ne, rcv_lt, rcv_le, rcv_gt, rcv_ge, rcv_in, rcv_nin, t_bl, x_lst, x_tup, x_scr, i_str, i_lst, i_tup, ty_ii, ty_bi, ty_in, ty_ib, ty_bb, List.map_cons, List.map_nil, List.cons_append, List.nil_append, List.append_nil, List.replicate_succ, List.replicate_zero, List.length_cons, List.length_nil, List.all_cons, List.all_nil, List.contains_nil, List.isEmpty_nil, Bool.not_false, Bool.not_true, Bool.and_true, Bool.true_and, Bool.and_false, Bool.false_and, Bool.or_true, Bool.true_or, Bool.or_false, Bool.false_or, Bool.false_eq_true, Bool.and_self, Bool.or_self, Option.map_some, Option.map_none, and_self, and_true, true_and, era_nil, era_s, era_n, pur_nil, pur_s, pur_n, D.erase, eraseL, D.pure, pureL, D.closed, closedL, s_eq_str, s_ne_str, wq_one_one, wq_one_row, wq_one_or, wq_one_many, wq_one_maybe, wq_row_one, wq_row_row, wq_row_or, wq_row_many, wq_row_maybe, wq_or_one, wq_or_row, wq_or_or, wq_or_many, wq_or_maybe, wq_many_one, wq_many_row, wq_many_or, wq_many_many, wq_many_maybe, wq_maybe_one, wq_maybe_row, wq_maybe_or, wq_maybe_many, wq_maybe_maybe, s_in_ints, s_nin_ints, s_sorted_ints, s_eq_ints, s_min, s_eq_bl, s_ne_bl, intL_app, t_lst, s_in_two, g3]
    refine W_for1 (q := true) (by simp only [call1, ev.eq_1, ev.eq_2, ev.eq_3, ev.eq_4, ev.eq_5, ev.eq_6, ev.eq_7, ev.eq_8, ev.eq_9, ev.eq_10, ev.eq_11, ev.eq_12, ev.eq_13, ev.eq_14, ev.eq_15, ev.eq_16, ev.eq_17, ev.eq_18, ev.eq_19, ev.eq_20, ev.eq_21, ev.eq_22, ev.eq_23, ev.eq_24, ev.eq_25, ev.eq_28, ev.eq_29, ev.eq_30, ev.eq_31, ev.eq_32, ev.eq_33, ev.eq_34, ev.eq_35, evs, eva, evt, ended, outsOf, Il.start, okIO, called, backs, Il.fin, sets, optR, IE.isNop, chg, place, nodeOk, atP, setP, chgAt, ownLst, ownDct, unpD, LQ, reduceIte, reduceCtorEq, Nat.reduceSub, Nat.reduceAdd, Int.reduceLT, Int.reduceLE, Int.reduceNeg, decide_true, decide_false, ite_true, ite_false, if_true, if_false, bnd_ok, bnd_ex, bndS_ok, bndS_ex, gets_zero, gets_succ, own_non, own_bl, own_int, own_str, own_lst, own_tup, own_scr, frz_non, frz_bl, frz_int, frz_str, frz_scr, l_set0, l_setS, noOwn_nil, noOwn_cons, x_nil, x_pas, x_brk, x_cont, x_retN, x_ret, x_exp, x_set, x_unp, x_ite, x_app, x_apS, x_ext, nown_ok, seq_nx, seq_none, s_neg, s_len_lst, s_len_tup, s_len_scr, s_int_bl, s_int_int, s_add_int, s_sub_int, s_mul_l, s_mul_r, sm_48271, sm_10, sm_5, s_fdiv_int, s_mod_int, s_pow9, s_lt_int, s_le_int, s_gt_int, s_ge_int, s_eq_int, s_ne_int, s_find, s_index, s_in_str, s_nin_str, rcv_find, rcv_index, rcv_join, rcv_add, rcv_sub, rcv_mul, rcv_fdiv, rcv_mod, rcv_pow, rcv_eq, rcv_ne, rcv_lt, rcv_le, rcv_gt, rcv_ge, rcv_in, rcv_nin, t_bl, x_lst, x_tup, x_scr, i_str, i_lst, i_tup, ty_ii, ty_bi, ty_in, ty_ib, ty_bb, List.map_cons, List.map_nil, List.cons_append, List.nil_append, List.append_nil, List.replicate_succ, List.replicate_zero, List.length_cons, List.length_nil, List.all_cons, List.all_nil, List.contains_nil, List.isEmpty_nil, Bool.not_false, Bool.not_true, Bool.and_true, Bool.true_and, Bool.and_false, Bool.false_and, Bool.or_true, Bool.true_or, Bool.or_false, Bool.false_or, Bool.false_eq_true, Bool.and_self, Bool.or_self, Option.map_some, Option.map_none, and_self, and_true, true_and, era_nil, era_s, era_n, pur_nil, pur_s, pur_n, D.erase, eraseL, D.pure, pureL, D.closed, closedL, s_eq_str, s_ne_str, wq_one_one, wq_one_row, wq_one_or, wq_one_many, wq_one_maybe, wq_row_one, wq_row_row, wq_row_or, wq_row_many, wq_row_maybe, wq_or_one, wq_or_row, wq_or_or, wq_or_many, wq_or_maybe, wq_many_one, wq_many_row, wq_many_or, wq_many_many, wq_many_maybe, wq_maybe_one, wq_maybe_row, wq_maybe_or, wq_maybe_many, wq_maybe_maybe, s_in_ints, s_nin_ints, s_sorted_ints, s_eq_ints, s_min, s_eq_bl, s_ne_bl, intL_app, t_lst, s_in_two] <;> rfl) (i_rng1 (b62_ok (by omega) (by omega))) rfl (fun i e => ∃ (oL : Bool) (held : List Pat) (num : Int) (v7 v8 v9 : Option D), e = [some (.scr ns), some (.lst oL (strL L)), some (.int shape), some (.int count), some (.int most), some (.int num), some (.lst true (encs held)), v7, v8, v9, none] ∧ Rws held i (i * most)) ⟨_, [], _, _, _, _, rfl, by simpa using Rws.nil⟩ ?_ ?_
    · rintro i x e hx ⟨o, held, num, v7, v8, v9, rfl, hr⟩
      obtain ⟨hi, rfl⟩ := rng_at hx
      have p1 : (0 : Int) < (most : Int) + 1 := by omega
      generalize hn : (num * 48271 + 11) % 2147483647 = num'
      obtain ⟨z0, z1⟩ := mod_rng (a := num' / 7) (b := (most : Int) + 1) p1
      have step : ∀ (z : Int), 0 ≤ z → z ≤ most → ∃ (t : List Nat) (q' : Bool), (∀ c ∈ t, c < 128) ∧ t.length ≤ most ∧ run TT (n + 3) i_text_by [.int num', .int z, .lst false (strL L)] = some (.ret (.str t) []) ∧
          (∀ w, ev (run TT (n + 3)) (.comp 10 .it [(.shr 9)] (.tup [(.str [111, 110, 101]), (.shr 10)]) .nop) w [some (.scr ns), some (.lst false (strL L)), some (.int shape), some (.int count), some (.int most), some (.int num'), some (.lst true (encs held)), some (.int (0 + (i : Int))), some (.int z), some (.str t), none] = Il.fin w (.lst true (encs (ones t))) q' [some (.scr ns), some (.lst false (strL L)), some (.int shape), some (.int count), some (.int most), some (.int num'), some (.lst true (encs held)), some (.int (0 + (i : Int))), some (.int z), some (.str t), none]) ∧
          fApp (.lst true (encs held)) (.tup false [.str [114, 111, 119], .lst false (encs (ones t))]) = some (.lst true (encs (held ++ [.row (ones t)]))) := by
        intro z y0 y1
        obtain ⟨t, t1, t2, t3⟩ := ex_text_by2 (n + 2) num' z sL y0 (by omega)
        have tl : t.length ≤ line := by rw [lineEq]; omega
        obtain ⟨q', hc⟩ := ev_compm (G := run TT (n + 3)) (s := 10) (k := .it) (args := [(.shr 9)]) (elt := (.tup [(.str [111, 110, 101]), (.shr 10)])) (e := [some (.scr ns), some (.lst false (strL L)), some (.int shape), some (.int count), some (.int most), some (.int num'), some (.lst true (encs held)), some (.int (0 + (i : Int))), some (.int z), some (.str t), none]) (e1 := [some (.scr ns), some (.lst false (strL L)), some (.int shape), some (.int count), some (.int most), some (.int num'), some (.lst true (encs held)), some (.int (0 + (i : Int))), some (.int z), some (.str t), none]) (q := true) (ds := [.str t]) (xs := t.map fun c => .str [c]) (fun d => .tup false [.str [111, 110, 101], d]) (by simp only [call1, ev.eq_1, ev.eq_2, ev.eq_3, ev.eq_4, ev.eq_5, ev.eq_6, ev.eq_7, ev.eq_8, ev.eq_9, ev.eq_10, ev.eq_11, ev.eq_12, ev.eq_13, ev.eq_14, ev.eq_15, ev.eq_16, ev.eq_17, ev.eq_18, ev.eq_19, ev.eq_20, ev.eq_21, ev.eq_22, ev.eq_23, ev.eq_24, ev.eq_25, ev.eq_28, ev.eq_29, ev.eq_30, ev.eq_31, ev.eq_32, ev.eq_33, ev.eq_34, ev.eq_35, evs, eva, evt, ended, outsOf, Il.start, okIO, called, backs, Il.fin, sets, optR, IE.isNop, chg, place, nodeOk, atP, setP, chgAt, ownLst, ownDct, unpD, LQ, reduceIte, reduceCtorEq, Nat.reduceSub, Nat.reduceAdd, Int.reduceLT, Int.reduceLE, Int.reduceNeg, decide_true, decide_false, ite_true, ite_false, if_true, if_false, bnd_ok, bnd_ex, bndS_ok, bndS_ex, gets_zero, gets_succ, own_non, own_bl, own_int, own_str, own_lst, own_tup, own_scr, frz_non, frz_bl, frz_int, frz_str, frz_scr, l_set0, l_setS, noOwn_nil, noOwn_cons, x_nil, x_pas, x_brk, x_cont, x_retN, x_ret, x_exp, x_set, x_unp, x_ite, x_app, x_apS, x_ext, nown_ok, seq_nx, seq_none, s_neg, s_len_lst, s_len_tup, s_len_scr, s_int_bl, s_int_int, s_add_int, s_sub_int, s_mul_l, s_mul_r, sm_48271, sm_10, sm_5, s_fdiv_int, s_mod_int, s_pow9, s_lt_int, s_le_int, s_gt_int, s_ge_int, s_eq_int, s_ne_int, s_find, s_index, s_in_str, s_nin_str, rcv_find, rcv_index, rcv_join, rcv_add, rcv_sub, rcv_mul, rcv_fdiv, rcv_mod, rcv_pow, rcv_eq, rcv_ne, rcv_lt, rcv_le, rcv_gt, rcv_ge, rcv_in, rcv_nin, t_bl, x_lst, x_tup, x_scr, i_str, i_lst, i_tup, ty_ii, ty_bi, ty_in, ty_ib, ty_bb, List.map_cons, List.map_nil, List.cons_append, List.nil_append, List.append_nil, List.replicate_succ, List.replicate_zero, List.length_cons, List.length_nil, List.all_cons, List.all_nil, List.contains_nil, List.isEmpty_nil, Bool.not_false, Bool.not_true, Bool.and_true, Bool.true_and, Bool.and_false, Bool.false_and, Bool.or_true, Bool.true_or, Bool.or_false, Bool.false_or, Bool.false_eq_true, Bool.and_self, Bool.or_self, Option.map_some, Option.map_none, and_self, and_true, true_and, era_nil, era_s, era_n, pur_nil, pur_s, pur_n, D.erase, eraseL, D.pure, pureL, D.closed, closedL, s_eq_str, s_ne_str, wq_one_one, wq_one_row, wq_one_or, wq_one_many, wq_one_maybe, wq_row_one, wq_row_row, wq_row_or, wq_row_many, wq_row_maybe, wq_or_one, wq_or_row, wq_or_or, wq_or_many, wq_or_maybe, wq_many_one, wq_many_row, wq_many_or, wq_many_many, wq_many_maybe, wq_maybe_one, wq_maybe_row, wq_maybe_or, wq_maybe_many, wq_maybe_maybe, s_in_ints, s_nin_ints, s_sorted_ints, s_eq_ints, s_min, s_eq_bl, s_ne_bl, intL_app, t_lst, s_in_two] <;> rfl) (by first | exact i_str tl | simp only [call1, ev.eq_1, ev.eq_2, ev.eq_3, ev.eq_4, ev.eq_5, ev.eq_6, ev.eq_7, ev.eq_8, ev.eq_9, ev.eq_10, ev.eq_11, ev.eq_12, ev.eq_13, ev.eq_14, ev.eq_15, ev.eq_16, ev.eq_17, ev.eq_18, ev.eq_19, ev.eq_20, ev.eq_21, ev.eq_22, ev.eq_23, ev.eq_24, ev.eq_25, ev.eq_28, ev.eq_29, ev.eq_30, ev.eq_31, ev.eq_32, ev.eq_33, ev.eq_34, ev.eq_35, evs, eva, evt, ended, outsOf, Il.start, okIO, called, backs, Il.fin, sets, optR, IE.isNop, chg, place, nodeOk, atP, setP, chgAt, ownLst, ownDct, unpD, LQ, reduceIte, reduceCtorEq, Nat.reduceSub, Nat.reduceAdd, Int.reduceLT, Int.reduceLE, Int.reduceNeg, decide_true, decide_false, ite_true, ite_false, if_true, if_false, bnd_ok, bnd_ex, bndS_ok, bndS_ex, gets_zero, gets_succ, own_non, own_bl, own_int, own_str, own_lst, own_tup, own_scr, frz_non, frz_bl, frz_int, frz_str, frz_scr, l_set0, l_setS, noOwn_nil, noOwn_cons, x_nil, x_pas, x_brk, x_cont, x_retN, x_ret, x_exp, x_set, x_unp, x_ite, x_app, x_apS, x_ext, nown_ok, seq_nx, seq_none, s_neg, s_len_lst, s_len_tup, s_len_scr, s_int_bl, s_int_int, s_add_int, s_sub_int, s_mul_l, s_mul_r, sm_48271, sm_10, sm_5, s_fdiv_int, s_mod_int, s_pow9, s_lt_int, s_le_int, s_gt_int, s_ge_int, s_eq_int, s_ne_int, s_find, s_index, s_in_str, s_nin_str, rcv_find, rcv_index, rcv_join, rcv_add, rcv_sub, rcv_mul, rcv_fdiv, rcv_mod, rcv_pow, rcv_eq, rcv_ne, rcv_lt, rcv_le, rcv_gt, rcv_ge, rcv_in, rcv_nin, t_bl, x_lst, x_tup, x_scr, i_str, i_lst, i_tup, ty_ii, ty_bi, ty_in, ty_ib, ty_bb, List.map_cons, List.map_nil, List.cons_append, List.nil_append, List.append_nil, List.replicate_succ, List.replicate_zero, List.length_cons, List.length_nil, List.all_cons, List.all_nil, List.contains_nil, List.isEmpty_nil, Bool.not_false, Bool.not_true, Bool.and_true, Bool.true_and, Bool.and_false, Bool.false_and, Bool.or_true, Bool.true_or, Bool.or_false, Bool.false_or, Bool.false_eq_true, Bool.and_self, Bool.or_self, Option.map_some, Option.map_none, and_self, and_true, true_and, era_nil, era_s, era_n, pur_nil, pur_s, pur_n, D.erase, eraseL, D.pure, pureL, D.closed, closedL, s_eq_str, s_ne_str, wq_one_one, wq_one_row, wq_one_or, wq_one_many, wq_one_maybe, wq_row_one, wq_row_row, wq_row_or, wq_row_many, wq_row_maybe, wq_or_one, wq_or_row, wq_or_or, wq_or_many, wq_or_maybe, wq_many_one, wq_many_row, wq_many_or, wq_many_many, wq_many_maybe, wq_maybe_one, wq_maybe_row, wq_maybe_or, wq_maybe_many, wq_maybe_maybe, s_in_ints, s_nin_ints, s_sorted_ints, s_eq_ints, s_min, s_eq_bl, s_ne_bl, intL_app, t_lst, s_in_two, tl]) (by rw [List.length_map]; omega) (fun x hx => by
          obtain ⟨c, hc, rfl⟩ := List.mem_map.mp hx
          exact ⟨rfl, true, by simp only [call1, ev.eq_1, ev.eq_2, ev.eq_3, ev.eq_4, ev.eq_5, ev.eq_6, ev.eq_7, ev.eq_8, ev.eq_9, ev.eq_10, ev.eq_11, ev.eq_12, ev.eq_13, ev.eq_14, ev.eq_15, ev.eq_16, ev.eq_17, ev.eq_18, ev.eq_19, ev.eq_20, ev.eq_21, ev.eq_22, ev.eq_23, ev.eq_24, ev.eq_25, ev.eq_28, ev.eq_29, ev.eq_30, ev.eq_31, ev.eq_32, ev.eq_33, ev.eq_34, ev.eq_35, evs, eva, evt, ended, outsOf, Il.start, okIO, called, backs, Il.fin, sets, optR, IE.isNop, chg, place, nodeOk, atP, setP, chgAt, ownLst, ownDct, unpD, LQ, reduceIte, reduceCtorEq, Nat.reduceSub, Nat.reduceAdd, Int.reduceLT, Int.reduceLE, Int.reduceNeg, decide_true, decide_false, ite_true, ite_false, if_true, if_false, bnd_ok, bnd_ex, bndS_ok, bndS_ex, gets_zero, gets_succ, own_non, own_bl, own_int, own_str, own_lst, own_tup, own_scr, frz_non, frz_bl, frz_int, frz_str, frz_scr, l_set0, l_setS, noOwn_nil, noOwn_cons, x_nil, x_pas, x_brk, x_cont, x_retN, x_ret, x_exp, x_set, x_unp, x_ite, x_app, x_apS, x_ext, nown_ok, seq_nx, seq_none, s_neg, s_len_lst, s_len_tup, s_len_scr, s_int_bl, s_int_int, s_add_int, s_sub_int, s_mul_l, s_mul_r, sm_48271, sm_10, sm_5, s_fdiv_int, s_mod_int, s_pow9, s_lt_int, s_le_int, s_gt_int, s_ge_int, s_eq_int, s_ne_int, s_find, s_index, s_in_str, s_nin_str, rcv_find, rcv_index, rcv_join, rcv_add, rcv_sub, rcv_mul, rcv_fdiv, rcv_mod, rcv_pow, rcv_eq, rcv_ne, rcv_lt, rcv_le, rcv_gt, rcv_ge, rcv_in, rcv_nin, t_bl, x_lst, x_tup, x_scr, i_str, i_lst, i_tup, ty_ii, ty_bi, ty_in, ty_ib, ty_bb, List.map_cons, List.map_nil, List.cons_append, List.nil_append, List.append_nil, List.replicate_succ, List.replicate_zero, List.length_cons, List.length_nil, List.all_cons, List.all_nil, List.contains_nil, List.isEmpty_nil, Bool.not_false, Bool.not_true, Bool.and_true, Bool.true_and, Bool.and_false, Bool.false_and, Bool.or_true, Bool.true_or, Bool.or_false, Bool.false_or, Bool.false_eq_true, Bool.and_self, Bool.or_self, Option.map_some, Option.map_none, and_self, and_true, true_and, era_nil, era_s, era_n, pur_nil, pur_s, pur_n, D.erase, eraseL, D.pure, pureL, D.closed, closedL, s_eq_str, s_ne_str, wq_one_one, wq_one_row, wq_one_or, wq_one_many, wq_one_maybe, wq_row_one, wq_row_row, wq_row_or, wq_row_many, wq_row_maybe, wq_or_one, wq_or_row, wq_or_or, wq_or_many, wq_or_maybe, wq_many_one, wq_many_row, wq_many_or, wq_many_many, wq_many_maybe, wq_maybe_one, wq_maybe_row, wq_maybe_or, wq_maybe_many, wq_maybe_maybe, s_in_ints, s_nin_ints, s_sorted_ints, s_eq_ints, s_min, s_eq_bl, s_ne_bl, intL_app, t_lst, s_in_two, frz_tup] <;> rfl⟩)
        rw [ones_enc] at hc
        have ae := a_enc (ps := held) (.row (ones t)) (by have := hr.len; omega)
        simp only [Pat.enc] at ae
        exact ⟨t, q', t2, by omega, t3, hc, ae⟩
      cases hb : (c4 % 3 == 1) with
      | false =>
        obtain ⟨t, q', t1, t2, t3, hc, ae⟩ := step (num' / 7 % ((most : Int) + 1)) z0 (by omega)
        have nx := hr.add t1 t2
        cases o <;> simp only [call1, ev.eq_1, ev.eq_2, ev.eq_3, ev.eq_4, ev.eq_5, ev.eq_6, ev.eq_7, ev.eq_8, ev.eq_9, ev.eq_10, ev.eq_11, ev.eq_12, ev.eq_13, ev.eq_14, ev.eq_15, ev.eq_16, ev.eq_17, ev.eq_18, ev.eq_19, ev.eq_20, ev.eq_21, ev.eq_22, ev.eq_23, ev.eq_24, ev.eq_25, ev.eq_28, ev.eq_29, ev.eq_30, ev.eq_31, ev.eq_32, ev.eq_33, ev.eq_34, ev.eq_35, evs, eva, evt, ended, outsOf, Il.start, okIO, called, backs, Il.fin, sets, optR, IE.isNop, chg, place, nodeOk, atP, setP, chgAt, ownLst, ownDct, unpD, LQ, reduceIte, reduceCtorEq, Nat.reduceSub, Nat.reduceAdd, Int.reduceLT, Int.reduceLE, Int.reduceNeg, decide_true, decide_false, ite_true, ite_false, if_true, if_false, bnd_ok, bnd_ex, bndS_ok, bndS_ex, gets_zero, gets_succ, own_non, own_bl, own_int, own_str, own_lst, own_tup, own_scr, frz_non, frz_bl, frz_int, frz_str, frz_scr, l_set0, l_setS, noOwn_nil, noOwn_cons, x_nil, x_pas, x_brk, x_cont, x_retN, x_ret, x_exp, x_set, x_unp, x_ite, x_app, x_apS, x_ext, nown_ok, seq_nx, seq_none, s_neg, s_len_lst, s_len_tup, s_len_scr, s_int_bl, s_int_int, s_add_int, s_sub_int, s_mul_l, s_mul_r, sm_48271, sm_10, sm_5, s_fdiv_int, s_mod_int, s_pow9, s_lt_int, s_le_int, s_gt_int, s_ge_int, s_eq_int, s_ne_int, s_find, s_index, s_in_str, s_nin_str, rcv_find, rcv_index, rcv_join, rcv_add, rcv_sub, rcv_mul, rcv_fdiv, rcv_mod, rcv_pow, rcv_eq, rcv_ne, rcv_lt, rcv_le, rcv_gt, rcv_ge, rcv_in, rcv_nin, t_bl, x_lst, x_tup, x_scr, i_str, i_lst, i_tup, ty_ii, ty_bi, ty_in, ty_ib, ty_bb, List.map_cons, List.map_nil, List.cons_append, List.nil_append, List.append_nil, List.replicate_succ, List.replicate_zero, List.length_cons, List.length_nil, List.all_cons, List.all_nil, List.contains_nil, List.isEmpty_nil, Bool.not_false, Bool.not_true, Bool.and_true, Bool.true_and, Bool.and_false, Bool.false_and, Bool.or_true, Bool.true_or, Bool.or_false, Bool.false_or, Bool.false_eq_true, Bool.and_self, Bool.or_self, Option.map_some, Option.map_none, and_self, and_true, true_and, era_nil, era_s, era_n, pur_nil, pur_s, pur_n, D.erase, eraseL, D.pure, pureL, D.closed, closedL, s_eq_str, s_ne_str, wq_one_one, wq_one_row, wq_one_or, wq_one_many, wq_one_maybe, wq_row_one, wq_row_row, wq_row_or, wq_row_many, wq_row_maybe, wq_or_one, wq_or_row, wq_or_or, wq_or_many, wq_or_maybe, wq_many_one, wq_many_row, wq_many_or, wq_many_many, wq_many_maybe, wq_maybe_one, wq_maybe_row, wq_maybe_or, wq_maybe_many, wq_maybe_maybe, s_in_ints, s_nin_ints, s_sorted_ints, s_eq_ints, s_min, s_eq_bl, s_ne_bl, intL_app, t_lst, s_in_two, hn, p1, g4, hb, t3, hc, frz_lst (encs_own _), frz_lst oL, frz_tup, ae] <;> exact W_nx ⟨_, _, _, _, _, _, rfl, by rw [Nat.add_mul, Nat.one_mul]; exact nx⟩
      | true =>
        obtain ⟨t, q', t1, t2, t3, hc, ae⟩ := step ((most : Int) - num' / 7 % ((most : Int) + 1) / 3) (by omega) (by omega)
        have nx := hr.add t1 t2
        cases o <;> simp only [call1, ev.eq_1, ev.eq_2, ev.eq_3, ev.eq_4, ev.eq_5, ev.eq_6, ev.eq_7, ev.eq_8, ev.eq_9, ev.eq_10, ev.eq_11, ev.eq_12, ev.eq_13, ev.eq_14, ev.eq_15, ev.eq_16, ev.eq_17, ev.eq_18, ev.eq_19, ev.eq_20, ev.eq_21, ev.eq_22, ev.eq_23, ev.eq_24, ev.eq_25, ev.eq_28, ev.eq_29, ev.eq_30, ev.eq_31, ev.eq_32, ev.eq_33, ev.eq_34, ev.eq_35, evs, eva, evt, ended, outsOf, Il.start, okIO, called, backs, Il.fin, sets, optR, IE.isNop, chg, place, nodeOk, atP, setP, chgAt, ownLst, ownDct, unpD, LQ, reduceIte, reduceCtorEq, Nat.reduceSub, Nat.reduceAdd, Int.reduceLT, Int.reduceLE, Int.reduceNeg, decide_true, decide_false, ite_true, ite_false, if_true, if_false, bnd_ok, bnd_ex, bndS_ok, bndS_ex, gets_zero, gets_succ, own_non, own_bl, own_int, own_str, own_lst, own_tup, own_scr, frz_non, frz_bl, frz_int, frz_str, frz_scr, l_set0, l_setS, noOwn_nil, noOwn_cons, x_nil, x_pas, x_brk, x_cont, x_retN, x_ret, x_exp, x_set, x_unp, x_ite, x_app, x_apS, x_ext, nown_ok, seq_nx, seq_none, s_neg, s_len_lst, s_len_tup, s_len_scr, s_int_bl, s_int_int, s_add_int, s_sub_int, s_mul_l, s_mul_r, sm_48271, sm_10, sm_5, s_fdiv_int, s_mod_int, s_pow9, s_lt_int, s_le_int, s_gt_int, s_ge_int, s_eq_int, s_ne_int, s_find, s_index, s_in_str, s_nin_str, rcv_find, rcv_index, rcv_join, rcv_add, rcv_sub, rcv_mul, rcv_fdiv, rcv_mod, rcv_pow, rcv_eq, rcv_ne, rcv_lt, rcv_le, rcv_gt, rcv_ge, rcv_in, rcv_nin, t_bl, x_lst, x_tup, x_scr, i_str, i_lst, i_tup, ty_ii, ty_bi, ty_in, ty_ib, ty_bb, List.map_cons, List.map_nil, List.cons_append, List.nil_append, List.append_nil, List.replicate_succ, List.replicate_zero, List.length_cons, List.length_nil, List.all_cons, List.all_nil, List.contains_nil, List.isEmpty_nil, Bool.not_false, Bool.not_true, Bool.and_true, Bool.true_and, Bool.and_false, Bool.false_and, Bool.or_true, Bool.true_or, Bool.or_false, Bool.false_or, Bool.false_eq_true, Bool.and_self, Bool.or_self, Option.map_some, Option.map_none, and_self, and_true, true_and, era_nil, era_s, era_n, pur_nil, pur_s, pur_n, D.erase, eraseL, D.pure, pureL, D.closed, closedL, s_eq_str, s_ne_str, wq_one_one, wq_one_row, wq_one_or, wq_one_many, wq_one_maybe, wq_row_one, wq_row_row, wq_row_or, wq_row_many, wq_row_maybe, wq_or_one, wq_or_row, wq_or_or, wq_or_many, wq_or_maybe, wq_many_one, wq_many_row, wq_many_or, wq_many_many, wq_many_maybe, wq_maybe_one, wq_maybe_row, wq_maybe_or, wq_maybe_many, wq_maybe_maybe, s_in_ints, s_nin_ints, s_sorted_ints, s_eq_ints, s_min, s_eq_bl, s_ne_bl, intL_app, t_lst, s_in_two, hn, p1, g4, hb, t3, hc, frz_lst (encs_own _), frz_lst oL, frz_tup, ae] <;> exact W_nx ⟨_, _, _, _, _, _, rfl, by rw [Nat.add_mul, Nat.one_mul]; exact nx⟩
    · rintro e ⟨o, held, num, v7, v8, v9, rfl, hr⟩
      rw [range_len, show (count : Int).toNat = count by omega] at hr
      obtain ⟨b1, b2, b3, b4, b5⟩ := hr
      have hne : held ≠ [] := fun e => by rw [e] at b2; simp at b2; omega
      cases hb : (shape % 2 == 1) with
      | false =>
        rw [hb] at h5
        simp only [call1, ev.eq_1, ev.eq_2, ev.eq_3, ev.eq_4, ev.eq_5, ev.eq_6, ev.eq_7, ev.eq_8, ev.eq_9, ev.eq_10, ev.eq_11, ev.eq_12, ev.eq_13, ev.eq_14, ev.eq_15, ev.eq_16, ev.eq_17, ev.eq_18, ev.eq_19, ev.eq_20, ev.eq_21, ev.eq_22, ev.eq_23, ev.eq_24, ev.eq_25, ev.eq_28, ev.eq_29, ev.eq_30, ev.eq_31, ev.eq_32, ev.eq_33, ev.eq_34, ev.eq_35, evs, eva, evt, ended, outsOf, Il.start, okIO, called, backs, Il.fin, sets, optR, IE.isNop, chg, place, nodeOk, atP, setP, chgAt, ownLst, ownDct, unpD, LQ, reduceIte, reduceCtorEq, Nat.reduceSub, Nat.reduceAdd, Int.reduceLT, Int.reduceLE, Int.reduceNeg, decide_true, decide_false, ite_true, ite_false, if_true, if_false, bnd_ok, bnd_ex, bndS_ok, bndS_ex, gets_zero, gets_succ, own_non, own_bl, own_int, own_str, own_lst, own_tup, own_scr, frz_non, frz_bl, frz_int, frz_str, frz_scr, l_set0, l_setS, noOwn_nil, noOwn_cons, x_nil, x_pas, x_brk, x_cont, x_retN, x_ret, x_exp, x_set, x_unp, x_ite, x_app, x_apS, x_ext, nown_ok, seq_nx, seq_none, s_neg, s_len_lst, s_len_tup, s_len_scr, s_int_bl, s_int_int, s_add_int, s_sub_int, s_mul_l, s_mul_r, sm_48271, sm_10, sm_5, s_fdiv_int, s_mod_int, s_pow9, s_lt_int, s_le_int, s_gt_int, s_ge_int, s_eq_int, s_ne_int, s_find, s_index, s_in_str, s_nin_str, rcv_find, rcv_index, rcv_join, rcv_add, rcv_sub, rcv_mul, rcv_fdiv, rcv_mod, rcv_pow, rcv_eq, rcv_ne, rcv_lt, rcv_le, rcv_gt, rcv_ge, rcv_in, rcv_nin, t_bl, x_lst, x_tup, x_scr, i_str, i_lst, i_tup, ty_ii, ty_bi, ty_in, ty_ib, ty_bb, List.map_cons, List.map_nil, List.cons_append, List.nil_append, List.append_nil, List.replicate_succ, List.replicate_zero, List.length_cons, List.length_nil, List.all_cons, List.all_nil, List.contains_nil, List.isEmpty_nil, Bool.not_false, Bool.not_true, Bool.and_true, Bool.true_and, Bool.and_false, Bool.false_and, Bool.or_true, Bool.true_or, Bool.or_false, Bool.false_or, Bool.false_eq_true, Bool.and_self, Bool.or_self, Option.map_some, Option.map_none, and_self, and_true, true_and, era_nil, era_s, era_n, pur_nil, pur_s, pur_n, D.erase, eraseL, D.pure, pureL, D.closed, closedL, s_eq_str, s_ne_str, wq_one_one, wq_one_row, wq_one_or, wq_one_many, wq_one_maybe, wq_row_one, wq_row_row, wq_row_or, wq_row_many, wq_row_maybe, wq_or_one, wq_or_row, wq_or_or, wq_or_many, wq_or_maybe, wq_many_one, wq_many_row, wq_many_or, wq_many_many, wq_many_maybe, wq_maybe_one, wq_maybe_row, wq_maybe_or, wq_maybe_many, wq_maybe_maybe, s_in_ints, s_nin_ints, s_sorted_ints, s_eq_ints, s_min, s_eq_bl, s_ne_bl, intL_app, t_lst, s_in_two, hb, frz_lst (encs_own _)]
        refine W_some ⟨_, rfl, _, held, rfl, gives_lst _ _, b1, hne, ?_, by omega, by omega, by omega⟩
        rcases h5 with h5 | h5
        · omega
        · cases h5
      | true =>
        simp only [call1, ev.eq_1, ev.eq_2, ev.eq_3, ev.eq_4, ev.eq_5, ev.eq_6, ev.eq_7, ev.eq_8, ev.eq_9, ev.eq_10, ev.eq_11, ev.eq_12, ev.eq_13, ev.eq_14, ev.eq_15, ev.eq_16, ev.eq_17, ev.eq_18, ev.eq_19, ev.eq_20, ev.eq_21, ev.eq_22, ev.eq_23, ev.eq_24, ev.eq_25, ev.eq_28, ev.eq_29, ev.eq_30, ev.eq_31, ev.eq_32, ev.eq_33, ev.eq_34, ev.eq_35, evs, eva, evt, ended, outsOf, Il.start, okIO, called, backs, Il.fin, sets, optR, IE.isNop, chg, place, nodeOk, atP, setP, chgAt, ownLst, ownDct, unpD, LQ, reduceIte, reduceCtorEq, Nat.reduceSub, Nat.reduceAdd, Int.reduceLT, Int.reduceLE, Int.reduceNeg, decide_true, decide_false, ite_true, ite_false, if_true, if_false, bnd_ok, bnd_ex, bndS_ok, bndS_ex, gets_zero, gets_succ, own_non, own_bl, own_int, own_str, own_lst, own_tup, own_scr, frz_non, frz_bl, frz_int, frz_str, frz_scr, l_set0, l_setS, noOwn_nil, noOwn_cons, x_nil, x_pas, x_brk, x_cont, x_retN, x_ret, x_exp, x_set, x_unp, x_ite, x_app, x_apS, x_ext, nown_ok, seq_nx, seq_none, s_neg, s_len_lst, s_len_tup, s_len_scr, s_int_bl, s_int_int, s_add_int, s_sub_int, s_mul_l, s_mul_r, sm_48271, sm_10, sm_5, s_fdiv_int, s_mod_int, s_pow9, s_lt_int, s_le_int, s_gt_int, s_ge_int, s_eq_int, s_ne_int, s_find, s_index, s_in_str, s_nin_str, rcv_find, rcv_index, rcv_join, rcv_add, rcv_sub, rcv_mul, rcv_fdiv, rcv_mod, rcv_pow, rcv_eq, rcv_ne, rcv_lt, rcv_le, rcv_gt, rcv_ge, rcv_in, rcv_nin, t_bl, x_lst, x_tup, x_scr, i_str, i_lst, i_tup, ty_ii, ty_bi, ty_in, ty_ib, ty_bb, List.map_cons, List.map_nil, List.cons_append, List.nil_append, List.append_nil, List.replicate_succ, List.replicate_zero, List.length_cons, List.length_nil, List.all_cons, List.all_nil, List.contains_nil, List.isEmpty_nil, Bool.not_false, Bool.not_true, Bool.and_true, Bool.true_and, Bool.and_false, Bool.false_and, Bool.or_true, Bool.true_or, Bool.or_false, Bool.false_or, Bool.false_eq_true, Bool.and_self, Bool.or_self, Option.map_some, Option.map_none, and_self, and_true, true_and, era_nil, era_s, era_n, pur_nil, pur_s, pur_n, D.erase, eraseL, D.pure, pureL, D.closed, closedL, s_eq_str, s_ne_str, wq_one_one, wq_one_row, wq_one_or, wq_one_many, wq_one_maybe, wq_row_one, wq_row_row, wq_row_or, wq_row_many, wq_row_maybe, wq_or_one, wq_or_row, wq_or_or, wq_or_many, wq_or_maybe, wq_many_one, wq_many_row, wq_many_or, wq_many_many, wq_many_maybe, wq_maybe_one, wq_maybe_row, wq_maybe_or, wq_maybe_many, wq_maybe_maybe, s_in_ints, s_nin_ints, s_sorted_ints, s_eq_ints, s_min, s_eq_bl, s_ne_bl, intL_app, t_lst, s_in_two, hb, frz_lst (encs_own _)]
        refine W_some ⟨_, rfl, _, [.or held], rfl, gives_or _ _ _, ?_, by simp, by simp, ?_, ?_, ?_⟩
        · simp only [OkL, Pat.Ok]
          exact ⟨⟨hne, b1⟩, trivial⟩
        · simp only [leavesL, Pat.leaves, List.append_nil]
          omega
        · simp only [deepL, Pat.deep]
          omega
        · simp only [sizeL, Pat.size]
          omega
  have goal : ∀ (shape : Int) (count most : Nat), 1 ≤ count → count ≤ 58 → most ≤ 40 → count * most ≤ 58 → (count ≤ 8 ∨ (shape % 2 == 1) = true) → (∀ more, exL (run TT (n + 3)) [] (b_words.take 4 ++ more) [some (.scr ns), none, none, none, none, none, none, none, none, none, none] = exL (run TT (n + 3)) [] more [some (.scr ns), some (.lst true (strL L)), some (.int shape), some (.int count), some (.int most), none, none, none, none, none, none]) → ∃ d ps, run TT (n + 4) i_words [.scr ns] = some (.ret d []) ∧ Gives d ps ∧ Good ps := by
    intro shape count most h1 h2 h3 h4 h5 h
    obtain ⟨o, r1, d, ps, rfl, r2, r3⟩ := run_W (P := fun o => ∃ d ps, o = .ret d [] ∧ Gives d ps ∧ Good ps) (n := n + 3) (f := i_words) (T := TT) (ds := [.scr ns]) (fd := d_words) rfl rfl (by
      show W (exL (run TT (n + 3)) [] (b_words.take 4 ++ b_words.drop 4) _) _
      exact (congrArg (fun o => W o _) (h (b_words.drop 4))).mpr (main shape count most h1 h2 h3 h4 h5))
    exact ⟨d, ps, r1, r2, r3⟩
  have mn : ∀ q : Int, 0 ≤ q → q < 58 → ∃ m : Nat, (if 58 / (1 + q) < 40 then 58 / (1 + q) else 40) = (m : Int) ∧ m ≤ 40 ∧ (1 + q).toNat * m ≤ 58 := by
    intro q q0 q1
    have d0 : 0 ≤ 58 / (1 + q) := Int.ediv_nonneg (by omega) (by omega)
    have d1 : 58 / (1 + q) * (1 + q) ≤ 58 := Int.ediv_mul_le 58 (by omega)
    have d2 : (if 58 / (1 + q) < 40 then 58 / (1 + q) else 40) ≤ 58 / (1 + q) ∧ 0 ≤ (if 58 / (1 + q) < 40 then 58 / (1 + q) else 40) ∧ (if 58 / (1 + q) < 40 then 58 / (1 + q) else 40) ≤ 40 := by split <;> omega
    generalize (if 58 / (1 + q) < 40 then 58 / (1 + q) else 40) = m at d2
    refine ⟨m.toNat, by omega, by omega, ?_⟩
    have d3 : m * (1 + q) ≤ 58 / (1 + q) * (1 + q) := Int.mul_le_mul_of_nonneg_right d2.1 (by omega)
    have d4 : (((1 + q).toNat * m.toNat : Nat) : Int) = m * (1 + q) := by
      rw [Int.natCast_mul, Int.toNat_of_nonneg (by omega), Int.toNat_of_nonneg (by omega), Int.mul_comm]
    omega
  rcases (show c2 % 4 = 0 ∨ c2 % 4 = 1 ∨ c2 % 4 = 2 ∨ c2 % 4 = 3 by omega) with hs | hs | hs | hs
  · obtain ⟨q0, q1⟩ : 0 ≤ c2 / 4 % 8 ∧ c2 / 4 % 8 < 8 := by omega
    generalize hq : c2 / 4 % 8 = q at q0 q1
    refine goal 0 (1 + q).toNat 6 (by omega) (by omega) (by omega) (by omega) (.inl (by omega)) fun more => ?_
    rw [show (((1 + q).toNat : Nat) : Int) = 1 + q by omega]
    have p1 : 0 < 1 + q := by omega
    have p2 : 1 + q < 1073741824 := by omega
    simp only [b_words, List.take_succ_cons, List.take_zero]
    simp only [call1, ev.eq_1, ev.eq_2, ev.eq_3, ev.eq_4, ev.eq_5, ev.eq_6, ev.eq_7, ev.eq_8, ev.eq_9, ev.eq_10, ev.eq_11, ev.eq_12, ev.eq_13, ev.eq_14, ev.eq_15, ev.eq_16, ev.eq_17, ev.eq_18, ev.eq_19, ev.eq_20, ev.eq_21, ev.eq_22, ev.eq_23, ev.eq_24, ev.eq_25, ev.eq_28, ev.eq_29, ev.eq_30, ev.eq_31, ev.eq_32, ev.eq_33, ev.eq_34, ev.eq_35, evs, eva, evt, ended, outsOf, Il.start, okIO, called, backs, Il.fin, sets, optR, IE.isNop, chg, place, nodeOk, atP, setP, chgAt, ownLst, ownDct, unpD, LQ, reduceIte, reduceCtorEq, Nat.reduceSub, Nat.reduceAdd, Int.reduceLT, Int.reduceLE, Int.reduceNeg, decide_true, decide_false, ite_true, ite_false, if_true, if_false, bnd_ok, bnd_ex, bndS_ok, bndS_ex, gets_zero, gets_succ, own_non, own_bl, own_int, own_str, own_lst, own_tup, own_scr, frz_non, frz_bl, frz_int, frz_str, frz_scr, l_set0, l_setS, noOwn_nil, noOwn_cons, x_nil, x_pas, x_brk, x_cont, x_retN, x_ret, x_exp, x_set, x_unp, x_ite, x_app, x_apS, x_ext, nown_ok, seq_nx, seq_none, s_neg, s_len_lst, s_len_tup, s_len_scr, s_int_bl, s_int_int, s_add_int, s_sub_int, s_mul_l, s_mul_r, sm_48271, sm_10, sm_5, s_fdiv_int, s_mod_int, s_pow9, s_lt_int, s_le_int, s_gt_int, s_ge_int, s_eq_int, s_ne_int, s_find, s_index, s_in_str, s_nin_str, rcv_find, rcv_index, rcv_join, rcv_add, rcv_sub, rcv_mul, rcv_fdiv, rcv_mod, rcv_pow, rcv_eq, rcv_ne, rcv_lt, rcv_le, rcv_gt, rcv_ge, rcv_in, rcv_nin, t_bl, x_lst, x_tup, x_scr, i_str, i_lst, i_tup, ty_ii, ty_bi, ty_in, ty_ib, ty_bb, List.map_cons, List.map_nil, List.cons_append, List.nil_append, List.append_nil, List.replicate_succ, List.replicate_zero, List.length_cons, List.length_nil, List.all_cons, List.all_nil, List.contains_nil, List.isEmpty_nil, Bool.not_false, Bool.not_true, Bool.and_true, Bool.true_and, Bool.and_false, Bool.false_and, Bool.or_true, Bool.true_or, Bool.or_false, Bool.false_or, Bool.false_eq_true, Bool.and_self, Bool.or_self, Option.map_some, Option.map_none, and_self, and_true, true_and, era_nil, era_s, era_n, pur_nil, pur_s, pur_n, D.erase, eraseL, D.pure, pureL, D.closed, closedL, s_eq_str, s_ne_str, wq_one_one, wq_one_row, wq_one_or, wq_one_many, wq_one_maybe, wq_row_one, wq_row_row, wq_row_or, wq_row_many, wq_row_maybe, wq_or_one, wq_or_row, wq_or_or, wq_or_many, wq_or_maybe, wq_many_one, wq_many_row, wq_many_or, wq_many_many, wq_many_maybe, wq_maybe_one, wq_maybe_row, wq_maybe_or, wq_maybe_many, wq_maybe_maybe, s_in_ints, s_nin_ints, s_sorted_ints, s_eq_ints, s_min, s_eq_bl, s_ne_bl, intL_app, t_lst, s_in_two, g20, hL, g2, hs, frz_lst, at0, hq, p1, p2]
    rfl
  · obtain ⟨q0, q1⟩ : 0 ≤ c2 / 4 % 8 ∧ c2 / 4 % 8 < 8 := by omega
    generalize hq : c2 / 4 % 8 = q at q0 q1
    refine goal 1 (1 + q).toNat 6 (by omega) (by omega) (by omega) (by omega) (.inl (by omega)) fun more => ?_
    rw [show (((1 + q).toNat : Nat) : Int) = 1 + q by omega]
    have p1 : 0 < 1 + q := by omega
    have p2 : 1 + q < 1073741824 := by omega
    simp only [b_words, List.take_succ_cons, List.take_zero]
    simp only [call1, ev.eq_1, ev.eq_2, ev.eq_3, ev.eq_4, ev.eq_5, ev.eq_6, ev.eq_7, ev.eq_8, ev.eq_9, ev.eq_10, ev.eq_11, ev.eq_12, ev.eq_13, ev.eq_14, ev.eq_15, ev.eq_16, ev.eq_17, ev.eq_18, ev.eq_19, ev.eq_20, ev.eq_21, ev.eq_22, ev.eq_23, ev.eq_24, ev.eq_25, ev.eq_28, ev.eq_29, ev.eq_30, ev.eq_31, ev.eq_32, ev.eq_33, ev.eq_34, ev.eq_35, evs, eva, evt, ended, outsOf, Il.start, okIO, called, backs, Il.fin, sets, optR, IE.isNop, chg, place, nodeOk, atP, setP, chgAt, ownLst, ownDct, unpD, LQ, reduceIte, reduceCtorEq, Nat.reduceSub, Nat.reduceAdd, Int.reduceLT, Int.reduceLE, Int.reduceNeg, decide_true, decide_false, ite_true, ite_false, if_true, if_false, bnd_ok, bnd_ex, bndS_ok, bndS_ex, gets_zero, gets_succ, own_non, own_bl, own_int, own_str, own_lst, own_tup, own_scr, frz_non, frz_bl, frz_int, frz_str, frz_scr, l_set0, l_setS, noOwn_nil, noOwn_cons, x_nil, x_pas, x_brk, x_cont, x_retN, x_ret, x_exp, x_set, x_unp, x_ite, x_app, x_apS, x_ext, nown_ok, seq_nx, seq_none, s_neg, s_len_lst, s_len_tup, s_len_scr, s_int_bl, s_int_int, s_add_int, s_sub_int, s_mul_l, s_mul_r, sm_48271, sm_10, sm_5, s_fdiv_int, s_mod_int, s_pow9, s_lt_int, s_le_int, s_gt_int, s_ge_int, s_eq_int, s_ne_int, s_find, s_index, s_in_str, s_nin_str, rcv_find, rcv_index, rcv_join, rcv_add, rcv_sub, rcv_mul, rcv_fdiv, rcv_mod, rcv_pow, rcv_eq, rcv_ne, rcv_lt, rcv_le, rcv_gt, rcv_ge, rcv_in, rcv_nin, t_bl, x_lst, x_tup, x_scr, i_str, i_lst, i_tup, ty_ii, ty_bi, ty_in, ty_ib, ty_bb, List.map_cons, List.map_nil, List.cons_append, List.nil_append, List.append_nil, List.replicate_succ, List.replicate_zero, List.length_cons, List.length_nil, List.all_cons, List.all_nil, List.contains_nil, List.isEmpty_nil, Bool.not_false, Bool.not_true, Bool.and_true, Bool.true_and, Bool.and_false, Bool.false_and, Bool.or_true, Bool.true_or, Bool.or_false, Bool.false_or, Bool.false_eq_true, Bool.and_self, Bool.or_self, Option.map_some, Option.map_none, and_self, and_true, true_and, era_nil, era_s, era_n, pur_nil, pur_s, pur_n, D.erase, eraseL, D.pure, pureL, D.closed, closedL, s_eq_str, s_ne_str, wq_one_one, wq_one_row, wq_one_or, wq_one_many, wq_one_maybe, wq_row_one, wq_row_row, wq_row_or, wq_row_many, wq_row_maybe, wq_or_one, wq_or_row, wq_or_or, wq_or_many, wq_or_maybe, wq_many_one, wq_many_row, wq_many_or, wq_many_many, wq_many_maybe, wq_maybe_one, wq_maybe_row, wq_maybe_or, wq_maybe_many, wq_maybe_maybe, s_in_ints, s_nin_ints, s_sorted_ints, s_eq_ints, s_min, s_eq_bl, s_ne_bl, intL_app, t_lst, s_in_two, g20, hL, g2, hs, frz_lst, at1, hq, p1, p2]
    rfl
  · obtain ⟨q0, q1⟩ : 0 ≤ c2 / 4 % 3 ∧ c2 / 4 % 3 < 3 := by omega
    generalize hq : c2 / 4 % 3 = q at q0 q1
    obtain ⟨m, m1, m2, m3⟩ := mn q q0 (by omega)
    refine goal 2 (1 + q).toNat m (by omega) (by omega) m2 m3 (.inl (by omega)) fun more => ?_
    rw [show (((1 + q).toNat : Nat) : Int) = 1 + q by omega]
    have p1 : 0 < 1 + q := by omega
    have p2 : 1 + q < 1073741824 := by omega
    simp only [b_words, List.take_succ_cons, List.take_zero]
    simp only [call1, ev.eq_1, ev.eq_2, ev.eq_3, ev.eq_4, ev.eq_5, ev.eq_6, ev.eq_7, ev.eq_8, ev.eq_9, ev.eq_10, ev.eq_11, ev.eq_12, ev.eq_13, ev.eq_14, ev.eq_15, ev.eq_16, ev.eq_17, ev.eq_18, ev.eq_19, ev.eq_20, ev.eq_21, ev.eq_22, ev.eq_23, ev.eq_24, ev.eq_25, ev.eq_28, ev.eq_29, ev.eq_30, ev.eq_31, ev.eq_32, ev.eq_33, ev.eq_34, ev.eq_35, evs, eva, evt, ended, outsOf, Il.start, okIO, called, backs, Il.fin, sets, optR, IE.isNop, chg, place, nodeOk, atP, setP, chgAt, ownLst, ownDct, unpD, LQ, reduceIte, reduceCtorEq, Nat.reduceSub, Nat.reduceAdd, Int.reduceLT, Int.reduceLE, Int.reduceNeg, decide_true, decide_false, ite_true, ite_false, if_true, if_false, bnd_ok, bnd_ex, bndS_ok, bndS_ex, gets_zero, gets_succ, own_non, own_bl, own_int, own_str, own_lst, own_tup, own_scr, frz_non, frz_bl, frz_int, frz_str, frz_scr, l_set0, l_setS, noOwn_nil, noOwn_cons, x_nil, x_pas, x_brk, x_cont, x_retN, x_ret, x_exp, x_set, x_unp, x_ite, x_app, x_apS, x_ext, nown_ok, seq_nx, seq_none, s_neg, s_len_lst, s_len_tup, s_len_scr, s_int_bl, s_int_int, s_add_int, s_sub_int, s_mul_l, s_mul_r, sm_48271, sm_10, sm_5, s_fdiv_int, s_mod_int, s_pow9, s_lt_int, s_le_int, s_gt_int, s_ge_int, s_eq_int, s_ne_int, s_find, s_index, s_in_str, s_nin_str, rcv_find, rcv_index, rcv_join, rcv_add, rcv_sub, rcv_mul, rcv_fdiv, rcv_mod, rcv_pow, rcv_eq, rcv_ne, rcv_lt, rcv_le, rcv_gt, rcv_ge, rcv_in, rcv_nin, t_bl, x_lst, x_tup, x_scr, i_str, i_lst, i_tup, ty_ii, ty_bi, ty_in, ty_ib, ty_bb, List.map_cons, List.map_nil, List.cons_append, List.nil_append, List.append_nil, List.replicate_succ, List.replicate_zero, List.length_cons, List.length_nil, List.all_cons, List.all_nil, List.contains_nil, List.isEmpty_nil, Bool.not_false, Bool.not_true, Bool.and_true, Bool.true_and, Bool.and_false, Bool.false_and, Bool.or_true, Bool.true_or, Bool.or_false, Bool.false_or, Bool.false_eq_true, Bool.and_self, Bool.or_self, Option.map_some, Option.map_none, and_self, and_true, true_and, era_nil, era_s, era_n, pur_nil, pur_s, pur_n, D.erase, eraseL, D.pure, pureL, D.closed, closedL, s_eq_str, s_ne_str, wq_one_one, wq_one_row, wq_one_or, wq_one_many, wq_one_maybe, wq_row_one, wq_row_row, wq_row_or, wq_row_many, wq_row_maybe, wq_or_one, wq_or_row, wq_or_or, wq_or_many, wq_or_maybe, wq_many_one, wq_many_row, wq_many_or, wq_many_many, wq_many_maybe, wq_maybe_one, wq_maybe_row, wq_maybe_or, wq_maybe_many, wq_maybe_maybe, s_in_ints, s_nin_ints, s_sorted_ints, s_eq_ints, s_min, s_eq_bl, s_ne_bl, intL_app, t_lst, s_in_two, g20, hL, g2, hs, frz_lst, at2, hq, p1, p2, m1]
  · obtain ⟨q0, q1⟩ : 0 ≤ c2 / 4 % 58 ∧ c2 / 4 % 58 < 58 := by omega
    generalize hq : c2 / 4 % 58 = q at q0 q1
    obtain ⟨m, m1, m2, m3⟩ := mn q q0 q1
    refine goal 3 (1 + q).toNat m (by omega) (by omega) m2 m3 (.inr (by decide)) fun more => ?_
    rw [show (((1 + q).toNat : Nat) : Int) = 1 + q by omega]
    have p1 : 0 < 1 + q := by omega
    have p2 : 1 + q < 1073741824 := by omega
    simp only [b_words, List.take_succ_cons, List.take_zero]
    simp only [call1, ev.eq_1, ev.eq_2, ev.eq_3, ev.eq_4, ev.eq_5, ev.eq_6, ev.eq_7, ev.eq_8, ev.eq_9, ev.eq_10, ev.eq_11, ev.eq_12, ev.eq_13, ev.eq_14, ev.eq_15, ev.eq_16, ev.eq_17, ev.eq_18, ev.eq_19, ev.eq_20, ev.eq_21, ev.eq_22, ev.eq_23, ev.eq_24, ev.eq_25, ev.eq_28, ev.eq_29, ev.eq_30, ev.eq_31, ev.eq_32, ev.eq_33, ev.eq_34, ev.eq_35, evs, eva, evt, ended, outsOf, Il.start, okIO, called, backs, Il.fin, sets, optR, IE.isNop, chg, place, nodeOk, atP, setP, chgAt, ownLst, ownDct, unpD, LQ, reduceIte, reduceCtorEq, Nat.reduceSub, Nat.reduceAdd, Int.reduceLT, Int.reduceLE, Int.reduceNeg, decide_true, decide_false, ite_true, ite_false, if_true, if_false, bnd_ok, bnd_ex, bndS_ok, bndS_ex, gets_zero, gets_succ, own_non, own_bl, own_int, own_str, own_lst, own_tup, own_scr, frz_non, frz_bl, frz_int, frz_str, frz_scr, l_set0, l_setS, noOwn_nil, noOwn_cons, x_nil, x_pas, x_brk, x_cont, x_retN, x_ret, x_exp, x_set, x_unp, x_ite, x_app, x_apS, x_ext, nown_ok, seq_nx, seq_none, s_neg, s_len_lst, s_len_tup, s_len_scr, s_int_bl, s_int_int, s_add_int, s_sub_int, s_mul_l, s_mul_r, sm_48271, sm_10, sm_5, s_fdiv_int, s_mod_int, s_pow9, s_lt_int, s_le_int, s_gt_int, s_ge_int, s_eq_int, s_ne_int, s_find, s_index, s_in_str, s_nin_str, rcv_find, rcv_index, rcv_join, rcv_add, rcv_sub, rcv_mul, rcv_fdiv, rcv_mod, rcv_pow, rcv_eq, rcv_ne, rcv_lt, rcv_le, rcv_gt, rcv_ge, rcv_in, rcv_nin, t_bl, x_lst, x_tup, x_scr, i_str, i_lst, i_tup, ty_ii, ty_bi, ty_in, ty_ib, ty_bb, List.map_cons, List.map_nil, List.cons_append, List.nil_append, List.append_nil, List.replicate_succ, List.replicate_zero, List.length_cons, List.length_nil, List.all_cons, List.all_nil, List.contains_nil, List.isEmpty_nil, Bool.not_false, Bool.not_true, Bool.and_true, Bool.true_and, Bool.and_false, Bool.false_and, Bool.or_true, Bool.true_or, Bool.or_false, Bool.false_or, Bool.false_eq_true, Bool.and_self, Bool.or_self, Option.map_some, Option.map_none, and_self, and_true, true_and, era_nil, era_s, era_n, pur_nil, pur_s, pur_n, D.erase, eraseL, D.pure, pureL, D.closed, closedL, s_eq_str, s_ne_str, wq_one_one, wq_one_row, wq_one_or, wq_one_many, wq_one_maybe, wq_row_one, wq_row_row, wq_row_or, wq_row_many, wq_row_maybe, wq_or_one, wq_or_row, wq_or_or, wq_or_many, wq_or_maybe, wq_many_one, wq_many_row, wq_many_or, wq_many_many, wq_many_maybe, wq_maybe_one, wq_maybe_row, wq_maybe_or, wq_maybe_many, wq_maybe_maybe, s_in_ints, s_nin_ints, s_sorted_ints, s_eq_ints, s_min, s_eq_bl, s_ne_bl, intL_app, t_lst, s_in_two, g20, hL, g2, hs, frz_lst, at3, hq, p1, p2, m1]
end Il.Q
set_option Elab.async false
set_option linter.all false
set_option maxRecDepth 100000
set_option maxHeartbeats 1000000
namespace Il.Q
open Il
theorem pop_enc (ps : List Pat) (p : Pat) : popD (.lst true (encs (ps ++ [p]))) = some (p.enc, .lst true (encs ps)) := by
  rw [← encs_app]
  unfold popD
  have e : (encs ps ++ [p.enc]).getLast? = some p.enc := by simp
  simp only [e, enc_own, Bool.false_eq_true, if_false, List.dropLast_concat]
theorem at_last (ps : List Pat) (p : Pat) : atI (encs (ps ++ [p])) (-1) = some p.enc := by
  rw [← encs_app]
  exact a_neg1 _ _
theorem some_emp (ps : List Pat) (p : Pat) : (encs (ps ++ [p])).isEmpty = false := by
  rw [← encs_app]
  simp
/-- what the stack of patterns may be -/
structure Held (ps : List Pat) (l : Nat) : Prop where
  ok : OkL ps
  eight : ps.length ≤ 8
  size : sizeL ps ≤ l
theorem frz_nil : (D.lst true []).freeze = some (.lst false []) := rfl
theorem ex_grown (n : Nat) {S : List (List Nat)} (hS : Groups S) {ps : List Pat} {l : Nat} (h : Held ps l) (hl : l ≤ 20) (cell room : Int) : ∃ ps' room', run TT (n + 30) i_grown [.lst true (encs ps), .int cell, .lst false (strL S), .int room] = some (.ret (.int room') [.lst true (encs ps')]) ∧ Held ps' (l + 1) := by
  obtain ⟨ok, e8, hsz⟩ := h
  obtain ⟨out, h1, ps', room', rfl, h2⟩ := run_W (P := fun out => ∃ ps' room', out = .ret (.int room') [.lst true (encs ps')] ∧ Held ps' (l + 1)) (n := n + 29) (f := i_grown) (T := TT) (ds := [.lst true (encs ps), .int cell, .lst false (strL S), .int room]) (fd := d_grown) rfl rfl (by
    simp only [d_grown, b_grown]
    have rd : 0 ≤ cell / 10 % 15 ∧ cell / 10 % 15 < 15 := by omega
    have w0 : 0 ≤ cell % 10 ∧ cell % 10 < 10 := by omega
    have mm : 0 ≤ cell % 10 / 2 % 2 ∧ cell % 10 / 2 % 2 < 2 := by omega
    show W (exL (run TT (n + 29)) [0] _ [some (.lst true (encs ps)), some (.int cell), some (.lst false (strL S)), some (.int room), none, none, none, none]) _
    refine W_set (q := true) (d := .int (cell % 10)) (e1 := [some (.lst true (encs ps)), some (.int cell), some (.lst false (strL S)), some (.int room), none, none, none, none]) (by simp only [call1, ev.eq_1, ev.eq_2, ev.eq_3, ev.eq_4, ev.eq_5, ev.eq_6, ev.eq_7, ev.eq_8, ev.eq_9, ev.eq_10, ev.eq_11, ev.eq_12, ev.eq_13, ev.eq_14, ev.eq_15, ev.eq_16, ev.eq_17, ev.eq_18, ev.eq_19, ev.eq_20, ev.eq_21, ev.eq_22, ev.eq_23, ev.eq_24, ev.eq_25, ev.eq_28, ev.eq_29, ev.eq_30, ev.eq_31, ev.eq_32, ev.eq_33, ev.eq_34, ev.eq_35, evs, eva, evt, ended, outsOf, Il.start, okIO, called, backs, Il.fin, sets, optR, IE.isNop, chg, place, nodeOk, atP, setP, chgAt, ownLst, ownDct, unpD, LQ, reduceIte, reduceCtorEq, Nat.reduceSub, Nat.reduceAdd, Int.reduceLT, Int.reduceLE, Int.reduceNeg, decide_true, decide_false, ite_true, ite_false, if_true, if_false, bnd_ok, bnd_ex, bndS_ok, bndS_ex, gets_zero, gets_succ, own_non, own_bl, own_int, own_str, own_lst, own_tup, own_scr, frz_non, frz_bl, frz_int, frz_str, frz_scr, l_set0, l_setS, noOwn_nil, noOwn_cons, x_nil, x_pas, x_brk, x_cont, x_retN, x_ret, x_exp, x_set, x_unp, x_ite, x_app, x_apS, x_ext, nown_ok, seq_nx, seq_none, s_neg, s_len_lst, s_len_tup, s_len_scr, s_int_bl, s_int_int, s_add_int, s_sub_int, s_mul_l, s_mul_r, sm_48271, sm_10, sm_5, s_fdiv_int, s_mod_int, s_pow9, s_lt_int, s_le_int, s_gt_int, s_ge_int, s_eq_int, s_ne_int, s_find, s_index, s_in_str, s_nin_str, rcv_find, rcv_index, rcv_join, rcv_add, rcv_sub, rcv_mul, rcv_fdiv, rcv_mod, rcv_pow, rcv_eq, rcv_ne, rcv_lt, rcv_le, rcv_gt, rcv_ge, rcv_in, rcv_nin, t_bl, x_lst, x_tup, x_scr, i_str, i_lst, i_tup, ty_ii, ty_bi, ty_in, ty_ib, ty_bb, List.map_cons, List.map_nil, List.cons_append, List.nil_append, List.append_nil, List.replicate_succ, List.replicate_zero, List.length_cons, List.length_nil, List.all_cons, List.all_nil, List.contains_nil, List.isEmpty_nil, Bool.not_false, Bool.not_true, Bool.and_true, Bool.true_and, Bool.and_false, Bool.false_and, Bool.or_true, Bool.true_or, Bool.or_false, Bool.false_or, Bool.false_eq_true, Bool.and_self, Bool.or_self, Option.map_some, Option.map_none, and_self, and_true, true_and, era_nil, era_s, era_n, pur_nil, pur_s, pur_n, D.erase, eraseL, D.pure, pureL, D.closed, closedL, s_eq_str, s_ne_str, wq_one_one, wq_one_row, wq_one_or, wq_one_many, wq_one_maybe, wq_row_one, wq_row_row, wq_row_or, wq_row_many, wq_row_maybe, wq_or_one, wq_or_row, wq_or_or, wq_or_many, wq_or_maybe, wq_many_one, wq_many_row, wq_many_or, wq_many_many, wq_many_maybe, wq_maybe_one, wq_maybe_row, wq_maybe_or, wq_maybe_many, wq_maybe_maybe, s_in_ints, s_nin_ints, s_sorted_ints, s_eq_ints, s_min, s_eq_bl, s_ne_bl, intL_app, t_lst, s_in_two]) rfl ?_
    simp only [l_set0, l_setS]
    refine W_set (q := true) (d := .int (cell / 10)) (e1 := [some (.lst true (encs ps)), some (.int cell), some (.lst false (strL S)), some (.int room), some (.int (cell % 10)), none, none, none]) (by simp only [call1, ev.eq_1, ev.eq_2, ev.eq_3, ev.eq_4, ev.eq_5, ev.eq_6, ev.eq_7, ev.eq_8, ev.eq_9, ev.eq_10, ev.eq_11, ev.eq_12, ev.eq_13, ev.eq_14, ev.eq_15, ev.eq_16, ev.eq_17, ev.eq_18, ev.eq_19, ev.eq_20, ev.eq_21, ev.eq_22, ev.eq_23, ev.eq_24, ev.eq_25, ev.eq_28, ev.eq_29, ev.eq_30, ev.eq_31, ev.eq_32, ev.eq_33, ev.eq_34, ev.eq_35, evs, eva, evt, ended, outsOf, Il.start, okIO, called, backs, Il.fin, sets, optR, IE.isNop, chg, place, nodeOk, atP, setP, chgAt, ownLst, ownDct, unpD, LQ, reduceIte, reduceCtorEq, Nat.reduceSub, Nat.reduceAdd, Int.reduceLT, Int.reduceLE, Int.reduceNeg, decide_true, decide_false, ite_true, ite_false, if_true, if_false, bnd_ok, bnd_ex, bndS_ok, bndS_ex, gets_zero, gets_succ, own_non, own_bl, own_int, own_str, own_lst, own_tup, own_scr, frz_non, frz_bl, frz_int, frz_str, frz_scr, l_set0, l_setS, noOwn_nil, noOwn_cons, x_nil, x_pas, x_brk, x_cont, x_retN, x_ret, x_exp, x_set, x_unp, x_ite, x_app, x_apS, x_ext, nown_ok, seq_nx, seq_none, s_neg, s_len_lst, s_len_tup, s_len_scr, s_int_bl, s_int_int, s_add_int, s_sub_int, s_mul_l, s_mul_r, sm_48271, sm_10, sm_5, s_fdiv_int, s_mod_int, s_pow9, s_lt_int, s_le_int, s_gt_int, s_ge_int, s_eq_int, s_ne_int, s_find, s_index, s_in_str, s_nin_str, rcv_find, rcv_index, rcv_join, rcv_add, rcv_sub, rcv_mul, rcv_fdiv, rcv_mod, rcv_pow, rcv_eq, rcv_ne, rcv_lt, rcv_le, rcv_gt, rcv_ge, rcv_in, rcv_nin, t_bl, x_lst, x_tup, x_scr, i_str, i_lst, i_tup, ty_ii, ty_bi, ty_in, ty_ib, ty_bb, List.map_cons, List.map_nil, List.cons_append, List.nil_append, List.append_nil, List.replicate_succ, List.replicate_zero, List.length_cons, List.length_nil, List.all_cons, List.all_nil, List.contains_nil, List.isEmpty_nil, Bool.not_false, Bool.not_true, Bool.and_true, Bool.true_and, Bool.and_false, Bool.false_and, Bool.or_true, Bool.true_or, Bool.or_false, Bool.false_or, Bool.false_eq_true, Bool.and_self, Bool.or_self, Option.map_some, Option.map_none, and_self, and_true, true_and, era_nil, era_s, era_n, pur_nil, pur_s, pur_n, D.erase, eraseL, D.pure, pureL, D.closed, closedL, s_eq_str, s_ne_str, wq_one_one, wq_one_row, wq_one_or, wq_one_many, wq_one_maybe, wq_row_one, wq_row_row, wq_row_or, wq_row_many, wq_row_maybe, wq_or_one, wq_or_row, wq_or_or, wq_or_many, wq_or_maybe, wq_many_one, wq_many_row, wq_many_or, wq_many_many, wq_many_maybe, wq_maybe_one, wq_maybe_row, wq_maybe_or, wq_maybe_many, wq_maybe_maybe, s_in_ints, s_nin_ints, s_sorted_ints, s_eq_ints, s_min, s_eq_bl, s_ne_bl, intL_app, t_lst, s_in_two]) rfl ?_
    simp only [l_set0, l_setS]
    generalize cell / 10 = more at rd
    generalize cell % 10 = way at w0 mm
    -- the first test
    have t1 : ∃ b, evt (run TT (n + 29)) (.band (.op2 .gt (.var 4) (.int 5)) (.band (.op2 .gt (.var 3) (.int 0)) (.op2 .lt (.op1 .len (.var 0)) (.int 8)))) [some (.lst true (encs ps)), some (.int cell), some (.lst false (strL S)), some (.int room), some (.int way), some (.int more), none, none] = some (.ok b true [some (.lst true (encs ps)), some (.int cell), some (.lst false (strL S)), some (.int room), some (.int way), some (.int more), none, none]) ∧ (b = true → ps.length < 8) := by
      refine ⟨decide (5 < way) && (decide (0 < room) && decide ((ps.length : Int) < 8)), ?_, fun hb => ?_⟩
      · cases h1 : decide (5 < way) <;> cases h2 : decide (0 < room) <;> simp only [call1, ev.eq_1, ev.eq_2, ev.eq_3, ev.eq_4, ev.eq_5, ev.eq_6, ev.eq_7, ev.eq_8, ev.eq_9, ev.eq_10, ev.eq_11, ev.eq_12, ev.eq_13, ev.eq_14, ev.eq_15, ev.eq_16, ev.eq_17, ev.eq_18, ev.eq_19, ev.eq_20, ev.eq_21, ev.eq_22, ev.eq_23, ev.eq_24, ev.eq_25, ev.eq_28, ev.eq_29, ev.eq_30, ev.eq_31, ev.eq_32, ev.eq_33, ev.eq_34, ev.eq_35, evs, eva, evt, ended, outsOf, Il.start, okIO, called, backs, Il.fin, sets, optR, IE.isNop, chg, place, nodeOk, atP, setP, chgAt, ownLst, ownDct, unpD, LQ, reduceIte, reduceCtorEq, Nat.reduceSub, Nat.reduceAdd, Int.reduceLT, Int.reduceLE, Int.reduceNeg, decide_true, decide_false, ite_true, ite_false, if_true, if_false, bnd_ok, bnd_ex, bndS_ok, bndS_ex, gets_zero, gets_succ, own_non, own_bl, own_int, own_str, own_lst, own_tup, own_scr, frz_non, frz_bl, frz_int, frz_str, frz_scr, l_set0, l_setS, noOwn_nil, noOwn_cons, x_nil, x_pas, x_brk, x_cont, x_retN, x_ret, x_exp, x_set, x_unp, x_ite, x_app, x_apS, x_ext, nown_ok, seq_nx, seq_none, s_neg, s_len_lst, s_len_tup, s_len_scr, s_int_bl, s_int_int, s_add_int, s_sub_int, s_mul_l, s_mul_r, sm_48271, sm_10, sm_5, s_fdiv_int, s_mod_int, s_pow9, s_lt_int, s_le_int, s_gt_int, s_ge_int, s_eq_int, s_ne_int, s_find, s_index, s_in_str, s_nin_str, rcv_find, rcv_index, rcv_join, rcv_add, rcv_sub, rcv_mul, rcv_fdiv, rcv_mod, rcv_pow, rcv_eq, rcv_ne, rcv_lt, rcv_le, rcv_gt, rcv_ge, rcv_in, rcv_nin, t_bl, x_lst, x_tup, x_scr, i_str, i_lst, i_tup, ty_ii, ty_bi, ty_in, ty_ib, ty_bb, List.map_cons, List.map_nil, List.cons_append, List.nil_append, List.append_nil, List.replicate_succ, List.replicate_zero, List.length_cons, List.length_nil, List.all_cons, List.all_nil, List.contains_nil, List.isEmpty_nil, Bool.not_false, Bool.not_true, Bool.and_true, Bool.true_and, Bool.and_false, Bool.false_and, Bool.or_true, Bool.true_or, Bool.or_false, Bool.false_or, Bool.false_eq_true, Bool.and_self, Bool.or_self, Option.map_some, Option.map_none, and_self, and_true, true_and, era_nil, era_s, era_n, pur_nil, pur_s, pur_n, D.erase, eraseL, D.pure, pureL, D.closed, closedL, s_eq_str, s_ne_str, wq_one_one, wq_one_row, wq_one_or, wq_one_many, wq_one_maybe, wq_row_one, wq_row_row, wq_row_or, wq_row_many, wq_row_maybe, wq_or_one, wq_or_row, wq_or_or, wq_or_many, wq_or_maybe, wq_many_one, wq_many_row, wq_many_or, wq_many_many, wq_many_maybe, wq_maybe_one, wq_maybe_row, wq_maybe_or, wq_maybe_many, wq_maybe_maybe, s_in_ints, s_nin_ints, s_sorted_ints, s_eq_ints, s_min, s_eq_bl, s_ne_bl, intL_app, t_lst, s_in_two, h1, h2, encs_len]
      · simp only [Bool.and_eq_true, decide_eq_true_eq] at hb
        omega
    obtain ⟨b1, hb1, hb2⟩ := t1
    refine W_ite hb1 ?_
    cases b1 with
    | true =>
      have l8 := hb2 rfl
      obtain ⟨s, s1, s2⟩ := ex_some_of (n + 28) hS (m := 1 + more % 15) (by omega) (by omega)
      have ae := a_enc (ps := ps) (.one s) (by omega)
      simp only [Pat.enc] at ae
      simp only [call1, ev.eq_1, ev.eq_2, ev.eq_3, ev.eq_4, ev.eq_5, ev.eq_6, ev.eq_7, ev.eq_8, ev.eq_9, ev.eq_10, ev.eq_11, ev.eq_12, ev.eq_13, ev.eq_14, ev.eq_15, ev.eq_16, ev.eq_17, ev.eq_18, ev.eq_19, ev.eq_20, ev.eq_21, ev.eq_22, ev.eq_23, ev.eq_24, ev.eq_25, ev.eq_28, ev.eq_29, ev.eq_30, ev.eq_31, ev.eq_32, ev.eq_33, ev.eq_34, ev.eq_35, evs, eva, evt, ended, outsOf, Il.start, okIO, called, backs, Il.fin, sets, optR, IE.isNop, chg, place, nodeOk, atP, setP, chgAt, ownLst, ownDct, unpD, LQ, reduceIte, reduceCtorEq, Nat.reduceSub, Nat.reduceAdd, Int.reduceLT, Int.reduceLE, Int.reduceNeg, decide_true, decide_false, ite_true, ite_false, if_true, if_false, bnd_ok, bnd_ex, bndS_ok, bndS_ex, gets_zero, gets_succ, own_non, own_bl, own_int, own_str, own_lst, own_tup, own_scr, frz_non, frz_bl, frz_int, frz_str, frz_scr, l_set0, l_setS, noOwn_nil, noOwn_cons, x_nil, x_pas, x_brk, x_cont, x_retN, x_ret, x_exp, x_set, x_unp, x_ite, x_app, x_apS, x_ext, nown_ok, seq_nx, seq_none, s_neg, s_len_lst, s_len_tup, s_len_scr, s_int_bl, s_int_int, s_add_int, s_sub_int, s_mul_l, s_mul_r, sm_48271, sm_10, sm_5, s_fdiv_int, s_mod_int, s_pow9, s_lt_int, s_le_int, s_gt_int, s_ge_int, s_eq_int, s_ne_int, s_find, s_index, s_in_str, s_nin_str, rcv_find, rcv_index, rcv_join, rcv_add, rcv_sub, rcv_mul, rcv_fdiv, rcv_mod, rcv_pow, rcv_eq, rcv_ne, rcv_lt, rcv_le, rcv_gt, rcv_ge, rcv_in, rcv_nin, t_bl, x_lst, x_tup, x_scr, i_str, i_lst, i_tup, ty_ii, ty_bi, ty_in, ty_ib, ty_bb, List.map_cons, List.map_nil, List.cons_append, List.nil_append, List.append_nil, List.replicate_succ, List.replicate_zero, List.length_cons, List.length_nil, List.all_cons, List.all_nil, List.contains_nil, List.isEmpty_nil, Bool.not_false, Bool.not_true, Bool.and_true, Bool.true_and, Bool.and_false, Bool.false_and, Bool.or_true, Bool.true_or, Bool.or_false, Bool.false_or, Bool.false_eq_true, Bool.and_self, Bool.or_self, Option.map_some, Option.map_none, and_self, and_true, true_and, era_nil, era_s, era_n, pur_nil, pur_s, pur_n, D.erase, eraseL, D.pure, pureL, D.closed, closedL, s_eq_str, s_ne_str, wq_one_one, wq_one_row, wq_one_or, wq_one_many, wq_one_maybe, wq_row_one, wq_row_row, wq_row_or, wq_row_many, wq_row_maybe, wq_or_one, wq_or_row, wq_or_or, wq_or_many, wq_or_maybe, wq_many_one, wq_many_row, wq_many_or, wq_many_many, wq_many_maybe, wq_maybe_one, wq_maybe_row, wq_maybe_or, wq_maybe_many, wq_maybe_maybe, s_in_ints, s_nin_ints, s_sorted_ints, s_eq_ints, s_min, s_eq_bl, s_ne_bl, intL_app, t_lst, s_in_two, s1, frz_tup, ae]
      refine W_some ⟨_, rfl, ps ++ [.one s], room - 1, rfl, okL_app.mpr ⟨ok, s2⟩, by simp; omega, by rw [sizeL_app]; simp only [sizeL, Pat.size]; omega⟩
    | false =>
      simp only [Bool.false_eq_true, if_false, List.nil_append]
      have same : ∃ ps' room', some (Out.ret (D.int room) [D.lst true (encs ps)]) = some (Out.ret (D.int room') [D.lst true (encs ps')]) ∧ Held ps' (l + 1) := ⟨ps, room, rfl, ok, e8, by omega⟩
      have keep : ∃ (o : Out), some (Out.ret (D.int room) [D.lst true (encs ps)]) = some o ∧ ∃ ps' room', o = .ret (.int room') [.lst true (encs ps')] ∧ Held ps' (l + 1) := ⟨_, rfl, ps, room, rfl, ok, e8, by omega⟩
      by_cases w00 : way = 0
      · subst w00
        by_cases l8 : ps.length < 8
        · have g8 : decide ((ps.length : Int) < 8) = true := decide_eq_true (by omega)
          have ae := a_enc (ps := ps) (.row []) (by omega)
          simp only [Pat.enc, encs] at ae
          simp only [call1, ev.eq_1, ev.eq_2, ev.eq_3, ev.eq_4, ev.eq_5, ev.eq_6, ev.eq_7, ev.eq_8, ev.eq_9, ev.eq_10, ev.eq_11, ev.eq_12, ev.eq_13, ev.eq_14, ev.eq_15, ev.eq_16, ev.eq_17, ev.eq_18, ev.eq_19, ev.eq_20, ev.eq_21, ev.eq_22, ev.eq_23, ev.eq_24, ev.eq_25, ev.eq_28, ev.eq_29, ev.eq_30, ev.eq_31, ev.eq_32, ev.eq_33, ev.eq_34, ev.eq_35, evs, eva, evt, ended, outsOf, Il.start, okIO, called, backs, Il.fin, sets, optR, IE.isNop, chg, place, nodeOk, atP, setP, chgAt, ownLst, ownDct, unpD, LQ, reduceIte, reduceCtorEq, Nat.reduceSub, Nat.reduceAdd, Int.reduceLT, Int.reduceLE, Int.reduceNeg, decide_true, decide_false, ite_true, ite_false, if_true, if_false, bnd_ok, bnd_ex, bndS_ok, bndS_ex, gets_zero, gets_succ, own_non, own_bl, own_int, own_str, own_lst, own_tup, own_scr, frz_non, frz_bl, frz_int, frz_str, frz_scr, l_set0, l_setS, noOwn_nil, noOwn_cons, x_nil, x_pas, x_brk, x_cont, x_retN, x_ret, x_exp, x_set, x_unp, x_ite, x_app, x_apS, x_ext, nown_ok, seq_nx, seq_none, s_neg, s_len_lst, s_len_tup, s_len_scr, s_int_bl, s_int_int, s_add_int, s_sub_int, s_mul_l, s_mul_r, sm_48271, sm_10, sm_5, s_fdiv_int, s_mod_int, s_pow9, s_lt_int, s_le_int, s_gt_int, s_ge_int, s_eq_int, s_ne_int, s_find, s_index, s_in_str, s_nin_str, rcv_find, rcv_index, rcv_join, rcv_add, rcv_sub, rcv_mul, rcv_fdiv, rcv_mod, rcv_pow, rcv_eq, rcv_ne, rcv_lt, rcv_le, rcv_gt, rcv_ge, rcv_in, rcv_nin, t_bl, x_lst, x_tup, x_scr, i_str, i_lst, i_tup, ty_ii, ty_bi, ty_in, ty_ib, ty_bb, List.map_cons, List.map_nil, List.cons_append, List.nil_append, List.append_nil, List.replicate_succ, List.replicate_zero, List.length_cons, List.length_nil, List.all_cons, List.all_nil, List.contains_nil, List.isEmpty_nil, Bool.not_false, Bool.not_true, Bool.and_true, Bool.true_and, Bool.and_false, Bool.false_and, Bool.or_true, Bool.true_or, Bool.or_false, Bool.false_or, Bool.false_eq_true, Bool.and_self, Bool.or_self, Option.map_some, Option.map_none, and_self, and_true, true_and, era_nil, era_s, era_n, pur_nil, pur_s, pur_n, D.erase, eraseL, D.pure, pureL, D.closed, closedL, s_eq_str, s_ne_str, wq_one_one, wq_one_row, wq_one_or, wq_one_many, wq_one_maybe, wq_row_one, wq_row_row, wq_row_or, wq_row_many, wq_row_maybe, wq_or_one, wq_or_row, wq_or_or, wq_or_many, wq_or_maybe, wq_many_one, wq_many_row, wq_many_or, wq_many_many, wq_many_maybe, wq_maybe_one, wq_maybe_row, wq_maybe_or, wq_maybe_many, wq_maybe_maybe, s_in_ints, s_nin_ints, s_sorted_ints, s_eq_ints, s_min, s_eq_bl, s_ne_bl, intL_app, t_lst, s_in_two, encs_len, g8, frz_nil, frz_tup, ae, beq_self_eq_true]
          refine W_some ⟨_, rfl, ps ++ [.row []], room, rfl, okL_app.mpr ⟨ok, by simp only [Pat.Ok, OkL]⟩, by simp; omega, by rw [sizeL_app]; simp only [sizeL, Pat.size]; omega⟩
        · have g8 : decide ((ps.length : Int) < 8) = false := decide_eq_false (by omega)
          have f1 : ((0 : Int) == 1) = false := by decide
          have f2 : ((0 : Int) == 2) = false := by decide
          have f3 : decide ((2 : Int) < 0) = false := by decide
          simp only [call1, ev.eq_1, ev.eq_2, ev.eq_3, ev.eq_4, ev.eq_5, ev.eq_6, ev.eq_7, ev.eq_8, ev.eq_9, ev.eq_10, ev.eq_11, ev.eq_12, ev.eq_13, ev.eq_14, ev.eq_15, ev.eq_16, ev.eq_17, ev.eq_18, ev.eq_19, ev.eq_20, ev.eq_21, ev.eq_22, ev.eq_23, ev.eq_24, ev.eq_25, ev.eq_28, ev.eq_29, ev.eq_30, ev.eq_31, ev.eq_32, ev.eq_33, ev.eq_34, ev.eq_35, evs, eva, evt, ended, outsOf, Il.start, okIO, called, backs, Il.fin, sets, optR, IE.isNop, chg, place, nodeOk, atP, setP, chgAt, ownLst, ownDct, unpD, LQ, reduceIte, reduceCtorEq, Nat.reduceSub, Nat.reduceAdd, Int.reduceLT, Int.reduceLE, Int.reduceNeg, decide_true, decide_false, ite_true, ite_false, if_true, if_false, bnd_ok, bnd_ex, bndS_ok, bndS_ex, gets_zero, gets_succ, own_non, own_bl, own_int, own_str, own_lst, own_tup, own_scr, frz_non, frz_bl, frz_int, frz_str, frz_scr, l_set0, l_setS, noOwn_nil, noOwn_cons, x_nil, x_pas, x_brk, x_cont, x_retN, x_ret, x_exp, x_set, x_unp, x_ite, x_app, x_apS, x_ext, nown_ok, seq_nx, seq_none, s_neg, s_len_lst, s_len_tup, s_len_scr, s_int_bl, s_int_int, s_add_int, s_sub_int, s_mul_l, s_mul_r, sm_48271, sm_10, sm_5, s_fdiv_int, s_mod_int, s_pow9, s_lt_int, s_le_int, s_gt_int, s_ge_int, s_eq_int, s_ne_int, s_find, s_index, s_in_str, s_nin_str, rcv_find, rcv_index, rcv_join, rcv_add, rcv_sub, rcv_mul, rcv_fdiv, rcv_mod, rcv_pow, rcv_eq, rcv_ne, rcv_lt, rcv_le, rcv_gt, rcv_ge, rcv_in, rcv_nin, t_bl, x_lst, x_tup, x_scr, i_str, i_lst, i_tup, ty_ii, ty_bi, ty_in, ty_ib, ty_bb, List.map_cons, List.map_nil, List.cons_append, List.nil_append, List.append_nil, List.replicate_succ, List.replicate_zero, List.length_cons, List.length_nil, List.all_cons, List.all_nil, List.contains_nil, List.isEmpty_nil, Bool.not_false, Bool.not_true, Bool.and_true, Bool.true_and, Bool.and_false, Bool.false_and, Bool.or_true, Bool.true_or, Bool.or_false, Bool.false_or, Bool.false_eq_true, Bool.and_self, Bool.or_self, Option.map_some, Option.map_none, and_self, and_true, true_and, era_nil, era_s, era_n, pur_nil, pur_s, pur_n, D.erase, eraseL, D.pure, pureL, D.closed, closedL, s_eq_str, s_ne_str, wq_one_one, wq_one_row, wq_one_or, wq_one_many, wq_one_maybe, wq_row_one, wq_row_row, wq_row_or, wq_row_many, wq_row_maybe, wq_or_one, wq_or_row, wq_or_or, wq_or_many, wq_or_maybe, wq_many_one, wq_many_row, wq_many_or, wq_many_many, wq_many_maybe, wq_maybe_one, wq_maybe_row, wq_maybe_or, wq_maybe_many, wq_maybe_maybe, s_in_ints, s_nin_ints, s_sorted_ints, s_eq_ints, s_min, s_eq_bl, s_ne_bl, intL_app, t_lst, s_in_two, encs_len, g8, f1, f2, f3, beq_self_eq_true]
          exact W_some keep
      · have f0 : (way == 0) = false := beq_eq_false_iff_ne.mpr w00
        rcases List.eq_nil_or_concat ps with rfl | ⟨ps0, p, rfl⟩
        · have g1 : decide ((1 : Int) < 0) = false := by decide
          have g0 : decide ((1 : Int) < ((0 : Nat) : Int)) = false := by decide
          simp only [encs] at *
          cases f1 : (way == 1) <;> cases f2 : (way == 2) <;> cases f3 : decide (2 < way) <;> (simp only [call1, ev.eq_1, ev.eq_2, ev.eq_3, ev.eq_4, ev.eq_5, ev.eq_6, ev.eq_7, ev.eq_8, ev.eq_9, ev.eq_10, ev.eq_11, ev.eq_12, ev.eq_13, ev.eq_14, ev.eq_15, ev.eq_16, ev.eq_17, ev.eq_18, ev.eq_19, ev.eq_20, ev.eq_21, ev.eq_22, ev.eq_23, ev.eq_24, ev.eq_25, ev.eq_28, ev.eq_29, ev.eq_30, ev.eq_31, ev.eq_32, ev.eq_33, ev.eq_34, ev.eq_35, evs, eva, evt, ended, outsOf, Il.start, okIO, called, backs, Il.fin, sets, optR, IE.isNop, chg, place, nodeOk, atP, setP, chgAt, ownLst, ownDct, unpD, LQ, reduceIte, reduceCtorEq, Nat.reduceSub, Nat.reduceAdd, Int.reduceLT, Int.reduceLE, Int.reduceNeg, decide_true, decide_false, ite_true, ite_false, if_true, if_false, bnd_ok, bnd_ex, bndS_ok, bndS_ex, gets_zero, gets_succ, own_non, own_bl, own_int, own_str, own_lst, own_tup, own_scr, frz_non, frz_bl, frz_int, frz_str, frz_scr, l_set0, l_setS, noOwn_nil, noOwn_cons, x_nil, x_pas, x_brk, x_cont, x_retN, x_ret, x_exp, x_set, x_unp, x_ite, x_app, x_apS, x_ext, nown_ok, seq_nx, seq_none, s_neg, s_len_lst, s_len_tup, s_len_scr, s_int_bl, s_int_int, s_add_int, s_sub_int, s_mul_l, s_mul_r, sm_48271, sm_10, sm_5, s_fdiv_int, s_mod_int, s_pow9, s_lt_int, s_le_int, s_gt_int, s_ge_int, s_eq_int, s_ne_int, s_find, s_index, s_in_str, s_nin_str, rcv_find, rcv_index, rcv_join, rcv_add, rcv_sub, rcv_mul, rcv_fdiv, rcv_mod, rcv_pow, rcv_eq, rcv_ne, rcv_lt, rcv_le, rcv_gt, rcv_ge, rcv_in, rcv_nin, t_bl, x_lst, x_tup, x_scr, i_str, i_lst, i_tup, ty_ii, ty_bi, ty_in, ty_ib, ty_bb, List.map_cons, List.map_nil, List.cons_append, List.nil_append, List.append_nil, List.replicate_succ, List.replicate_zero, List.length_cons, List.length_nil, List.all_cons, List.all_nil, List.contains_nil, List.isEmpty_nil, Bool.not_false, Bool.not_true, Bool.and_true, Bool.true_and, Bool.and_false, Bool.false_and, Bool.or_true, Bool.true_or, Bool.or_false, Bool.false_or, Bool.false_eq_true, Bool.and_self, Bool.or_self, Option.map_some, Option.map_none, and_self, and_true, true_and, era_nil, era_s, era_n, pur_nil, pur_s, pur_n, D.erase, eraseL, D.pure, pureL, D.closed, closedL, s_eq_str, s_ne_str, wq_one_one, wq_one_row, wq_one_or, wq_one_many, wq_one_maybe, wq_row_one, wq_row_row, wq_row_or, wq_row_many, wq_row_maybe, wq_or_one, wq_or_row, wq_or_or, wq_or_many, wq_or_maybe, wq_many_one, wq_many_row, wq_many_or, wq_many_many, wq_many_maybe, wq_maybe_one, wq_maybe_row, wq_maybe_or, wq_maybe_many, wq_maybe_maybe, s_in_ints, s_nin_ints, s_sorted_ints, s_eq_ints, s_min, s_eq_bl, s_ne_bl, intL_app, t_lst, s_in_two, f0, f1, f2, f3, g1, g0]; exact W_some keep)
        · rw [List.concat_eq_append] at *
          obtain ⟨ok0, okp⟩ := okL_app.mp ok
          rw [sizeL_app] at hsz
          simp only [sizeL] at hsz
          have len0 : ps0.length + 1 ≤ 8 := by simpa using e8
          by_cases w1 : way = 1
          · subst w1
            have ae := a_enc (ps := ps0) (.many p) (by omega)
            simp only [Pat.enc] at ae
            simp only [call1, ev.eq_1, ev.eq_2, ev.eq_3, ev.eq_4, ev.eq_5, ev.eq_6, ev.eq_7, ev.eq_8, ev.eq_9, ev.eq_10, ev.eq_11, ev.eq_12, ev.eq_13, ev.eq_14, ev.eq_15, ev.eq_16, ev.eq_17, ev.eq_18, ev.eq_19, ev.eq_20, ev.eq_21, ev.eq_22, ev.eq_23, ev.eq_24, ev.eq_25, ev.eq_28, ev.eq_29, ev.eq_30, ev.eq_31, ev.eq_32, ev.eq_33, ev.eq_34, ev.eq_35, evs, eva, evt, ended, outsOf, Il.start, okIO, called, backs, Il.fin, sets, optR, IE.isNop, chg, place, nodeOk, atP, setP, chgAt, ownLst, ownDct, unpD, LQ, reduceIte, reduceCtorEq, Nat.reduceSub, Nat.reduceAdd, Int.reduceLT, Int.reduceLE, Int.reduceNeg, decide_true, decide_false, ite_true, ite_false, if_true, if_false, bnd_ok, bnd_ex, bndS_ok, bndS_ex, gets_zero, gets_succ, own_non, own_bl, own_int, own_str, own_lst, own_tup, own_scr, frz_non, frz_bl, frz_int, frz_str, frz_scr, l_set0, l_setS, noOwn_nil, noOwn_cons, x_nil, x_pas, x_brk, x_cont, x_retN, x_ret, x_exp, x_set, x_unp, x_ite, x_app, x_apS, x_ext, nown_ok, seq_nx, seq_none, s_neg, s_len_lst, s_len_tup, s_len_scr, s_int_bl, s_int_int, s_add_int, s_sub_int, s_mul_l, s_mul_r, sm_48271, sm_10, sm_5, s_fdiv_int, s_mod_int, s_pow9, s_lt_int, s_le_int, s_gt_int, s_ge_int, s_eq_int, s_ne_int, s_find, s_index, s_in_str, s_nin_str, rcv_find, rcv_index, rcv_join, rcv_add, rcv_sub, rcv_mul, rcv_fdiv, rcv_mod, rcv_pow, rcv_eq, rcv_ne, rcv_lt, rcv_le, rcv_gt, rcv_ge, rcv_in, rcv_nin, t_bl, x_lst, x_tup, x_scr, i_str, i_lst, i_tup, ty_ii, ty_bi, ty_in, ty_ib, ty_bb, List.map_cons, List.map_nil, List.cons_append, List.nil_append, List.append_nil, List.replicate_succ, List.replicate_zero, List.length_cons, List.length_nil, List.all_cons, List.all_nil, List.contains_nil, List.isEmpty_nil, Bool.not_false, Bool.not_true, Bool.and_true, Bool.true_and, Bool.and_false, Bool.false_and, Bool.or_true, Bool.true_or, Bool.or_false, Bool.false_or, Bool.false_eq_true, Bool.and_self, Bool.or_self, Option.map_some, Option.map_none, and_self, and_true, true_and, era_nil, era_s, era_n, pur_nil, pur_s, pur_n, D.erase, eraseL, D.pure, pureL, D.closed, closedL, s_eq_str, s_ne_str, wq_one_one, wq_one_row, wq_one_or, wq_one_many, wq_one_maybe, wq_row_one, wq_row_row, wq_row_or, wq_row_many, wq_row_maybe, wq_or_one, wq_or_row, wq_or_or, wq_or_many, wq_or_maybe, wq_many_one, wq_many_row, wq_many_or, wq_many_many, wq_many_maybe, wq_maybe_one, wq_maybe_row, wq_maybe_or, wq_maybe_many, wq_maybe_maybe, s_in_ints, s_nin_ints, s_sorted_ints, s_eq_ints, s_min, s_eq_bl, s_ne_bl, intL_app, t_lst, s_in_two, f0, beq_self_eq_true, some_emp, enc_own, pop_enc, frz_tup, ae]
            refine W_some ⟨_, rfl, ps0 ++ [.many p], room, rfl, okL_app.mpr ⟨ok0, okp⟩, by simp; omega, by rw [sizeL_app]; simp only [sizeL, Pat.size]; omega⟩
          · have f1 : (way == 1) = false := beq_eq_false_iff_ne.mpr w1
            by_cases w2 : way = 2
            · subst w2
              have ae := a_enc (ps := ps0) (.maybe p) (by omega)
              simp only [Pat.enc] at ae
              simp only [call1, ev.eq_1, ev.eq_2, ev.eq_3, ev.eq_4, ev.eq_5, ev.eq_6, ev.eq_7, ev.eq_8, ev.eq_9, ev.eq_10, ev.eq_11, ev.eq_12, ev.eq_13, ev.eq_14, ev.eq_15, ev.eq_16, ev.eq_17, ev.eq_18, ev.eq_19, ev.eq_20, ev.eq_21, ev.eq_22, ev.eq_23, ev.eq_24, ev.eq_25, ev.eq_28, ev.eq_29, ev.eq_30, ev.eq_31, ev.eq_32, ev.eq_33, ev.eq_34, ev.eq_35, evs, eva, evt, ended, outsOf, Il.start, okIO, called, backs, Il.fin, sets, optR, IE.isNop, chg, place, nodeOk, atP, setP, chgAt, ownLst, ownDct, unpD, LQ, reduceIte, reduceCtorEq, Nat.reduceSub, Nat.reduceAdd, Int.reduceLT, Int.reduceLE, Int.reduceNeg, decide_true, decide_false, ite_true, ite_false, if_true, if_false, bnd_ok, bnd_ex, bndS_ok, bndS_ex, gets_zero, gets_succ, own_non, own_bl, own_int, own_str, own_lst, own_tup, own_scr, frz_non, frz_bl, frz_int, frz_str, frz_scr, l_set0, l_setS, noOwn_nil, noOwn_cons, x_nil, x_pas, x_brk, x_cont, x_retN, x_ret, x_exp, x_set, x_unp, x_ite, x_app, x_apS, x_ext, nown_ok, seq_nx, seq_none, s_neg, s_len_lst, s_len_tup, s_len_scr, s_int_bl, s_int_int, s_add_int, s_sub_int, s_mul_l, s_mul_r, sm_48271, sm_10, sm_5, s_fdiv_int, s_mod_int, s_pow9, s_lt_int, s_le_int, s_gt_int, s_ge_int, s_eq_int, s_ne_int, s_find, s_index, s_in_str, s_nin_str, rcv_find, rcv_index, rcv_join, rcv_add, rcv_sub, rcv_mul, rcv_fdiv, rcv_mod, rcv_pow, rcv_eq, rcv_ne, rcv_lt, rcv_le, rcv_gt, rcv_ge, rcv_in, rcv_nin, t_bl, x_lst, x_tup, x_scr, i_str, i_lst, i_tup, ty_ii, ty_bi, ty_in, ty_ib, ty_bb, List.map_cons, List.map_nil, List.cons_append, List.nil_append, List.append_nil, List.replicate_succ, List.replicate_zero, List.length_cons, List.length_nil, List.all_cons, List.all_nil, List.contains_nil, List.isEmpty_nil, Bool.not_false, Bool.not_true, Bool.and_true, Bool.true_and, Bool.and_false, Bool.false_and, Bool.or_true, Bool.true_or, Bool.or_false, Bool.false_or, Bool.false_eq_true, Bool.and_self, Bool.or_self, Option.map_some, Option.map_none, and_self, and_true, true_and, era_nil, era_s, era_n, pur_nil, pur_s, pur_n, D.erase, eraseL, D.pure, pureL, D.closed, closedL, s_eq_str, s_ne_str, wq_one_one, wq_one_row, wq_one_or, wq_one_many, wq_one_maybe, wq_row_one, wq_row_row, wq_row_or, wq_row_many, wq_row_maybe, wq_or_one, wq_or_row, wq_or_or, wq_or_many, wq_or_maybe, wq_many_one, wq_many_row, wq_many_or, wq_many_many, wq_many_maybe, wq_maybe_one, wq_maybe_row, wq_maybe_or, wq_maybe_many, wq_maybe_maybe, s_in_ints, s_nin_ints, s_sorted_ints, s_eq_ints, s_min, s_eq_bl, s_ne_bl, intL_app, t_lst, s_in_two, f0, f1, beq_self_eq_true, some_emp, enc_own, pop_enc, frz_tup, ae]
              refine W_some ⟨_, rfl, ps0 ++ [.maybe p], room, rfl, okL_app.mpr ⟨ok0, okp⟩, by simp; omega, by rw [sizeL_app]; simp only [sizeL, Pat.size]; omega⟩
            · have f2 : (way == 2) = false := beq_eq_false_iff_ne.mpr w2
              have f3 : decide (2 < way) = true := decide_eq_true (by omega)
              rcases List.eq_nil_or_concat ps0 with rfl | ⟨ps1, q, rfl⟩
              · have g1 : decide ((1 : Int) < (([] ++ [p] : List Pat).length : Nat)) = false := decide_eq_false (by simp)
                simp only [call1, ev.eq_1, ev.eq_2, ev.eq_3, ev.eq_4, ev.eq_5, ev.eq_6, ev.eq_7, ev.eq_8, ev.eq_9, ev.eq_10, ev.eq_11, ev.eq_12, ev.eq_13, ev.eq_14, ev.eq_15, ev.eq_16, ev.eq_17, ev.eq_18, ev.eq_19, ev.eq_20, ev.eq_21, ev.eq_22, ev.eq_23, ev.eq_24, ev.eq_25, ev.eq_28, ev.eq_29, ev.eq_30, ev.eq_31, ev.eq_32, ev.eq_33, ev.eq_34, ev.eq_35, evs, eva, evt, ended, outsOf, Il.start, okIO, called, backs, Il.fin, sets, optR, IE.isNop, chg, place, nodeOk, atP, setP, chgAt, ownLst, ownDct, unpD, LQ, reduceIte, reduceCtorEq, Nat.reduceSub, Nat.reduceAdd, Int.reduceLT, Int.reduceLE, Int.reduceNeg, decide_true, decide_false, ite_true, ite_false, if_true, if_false, bnd_ok, bnd_ex, bndS_ok, bndS_ex, gets_zero, gets_succ, own_non, own_bl, own_int, own_str, own_lst, own_tup, own_scr, frz_non, frz_bl, frz_int, frz_str, frz_scr, l_set0, l_setS, noOwn_nil, noOwn_cons, x_nil, x_pas, x_brk, x_cont, x_retN, x_ret, x_exp, x_set, x_unp, x_ite, x_app, x_apS, x_ext, nown_ok, seq_nx, seq_none, s_neg, s_len_lst, s_len_tup, s_len_scr, s_int_bl, s_int_int, s_add_int, s_sub_int, s_mul_l, s_mul_r, sm_48271, sm_10, sm_5, s_fdiv_int, s_mod_int, s_pow9, s_lt_int, s_le_int, s_gt_int, s_ge_int, s_eq_int, s_ne_int, s_find, s_index, s_in_str, s_nin_str, rcv_find, rcv_index, rcv_join, rcv_add, rcv_sub, rcv_mul, rcv_fdiv, rcv_mod, rcv_pow, rcv_eq, rcv_ne, rcv_lt, rcv_le, rcv_gt, rcv_ge, rcv_in, rcv_nin, t_bl, x_lst, x_tup, x_scr, i_str, i_lst, i_tup, ty_ii, ty_bi, ty_in, ty_ib, ty_bb, List.map_cons, List.map_nil, List.cons_append, List.nil_append, List.append_nil, List.replicate_succ, List.replicate_zero, List.length_cons, List.length_nil, List.all_cons, List.all_nil, List.contains_nil, List.isEmpty_nil, Bool.not_false, Bool.not_true, Bool.and_true, Bool.true_and, Bool.and_false, Bool.false_and, Bool.or_true, Bool.true_or, Bool.or_false, Bool.false_or, Bool.false_eq_true, Bool.and_self, Bool.or_self, Option.map_some, Option.map_none, and_self, and_true, true_and, era_nil, era_s, era_n, pur_nil, pur_s, pur_n, D.erase, eraseL, D.pure, pureL, D.closed, closedL, s_eq_str, s_ne_str, wq_one_one, wq_one_row, wq_one_or, wq_one_many, wq_one_maybe, wq_row_one, wq_row_row, wq_row_or, wq_row_many, wq_row_maybe, wq_or_one, wq_or_row, wq_or_or, wq_or_many, wq_or_maybe, wq_many_one, wq_many_row, wq_many_or, wq_many_many, wq_many_maybe, wq_maybe_one, wq_maybe_row, wq_maybe_or, wq_maybe_many, wq_maybe_maybe, s_in_ints, s_nin_ints, s_sorted_ints, s_eq_ints, s_min, s_eq_bl, s_ne_bl, intL_app, t_lst, s_in_two, f0, f1, f2, f3, encs_len, g1]
                exact W_some keep
              · rw [List.concat_eq_append] at *
                obtain ⟨ok1, okq⟩ := okL_app.mp ok0
                rw [sizeL_app] at hsz
                simp only [sizeL] at hsz
                have len1 : ps1.length + 2 ≤ 8 := by simp at len0; omega
                have g1 : decide ((1 : Int) < ((ps1 ++ [q] ++ [p] : List Pat).length : Nat)) = true := decide_eq_true (by simp; omega)
                -- the word, and the end
                have fin : ∀ (ps2 qs : List Pat), OkL ps2 → OkL qs → qs ≠ [] → ps2.length ≤ 7 → sizeL ps2 + sizeL qs ≤ l → ∃ wd, atI [D.str [114, 111, 119], .str [111, 114]] (way / 2 % 2) = some (.str wd) ∧ ∃ ps', fApp (.lst true (encs ps2)) (.tup false [.str wd, .lst false (encs qs)]) = some (.lst true (encs ps')) ∧ Held ps' (l + 1) := by
                  intro ps2 qs o1 o2 o3 o4 o5
                  rcases (show way / 2 % 2 = 0 ∨ way / 2 % 2 = 1 by omega) with z | z
                  · refine ⟨_, by rw [z]; exact at0 _ _, ps2 ++ [.row qs], ?_, okL_app.mpr ⟨o1, by simp only [Pat.Ok]; exact o2⟩, by simp; omega, by rw [sizeL_app]; simp only [sizeL, Pat.size]; omega⟩
                    have := a_enc (ps := ps2) (.row qs) (by omega)
                    simpa only [Pat.enc] using this
                  · refine ⟨_, by rw [z]; exact at1 _ _ _, ps2 ++ [.or qs], ?_, okL_app.mpr ⟨o1, by simp only [Pat.Ok]; exact ⟨o3, o2⟩⟩, by simp; omega, by rw [sizeL_app]; simp only [sizeL, Pat.size]; omega⟩
                    have := a_enc (ps := ps2) (.or qs) (by omega)
                    simpa only [Pat.enc] using this
                cases f4 : (more % 3 == 1) with
                | false =>
                  obtain ⟨wd, x1, ps', x2, x3⟩ := fin ps1 [q, p] ok1 ⟨okq, okp, trivial⟩ (by simp) (by omega) (by simp only [sizeL]; omega)
                  simp only [encs] at x2
                  simp only [call1, ev.eq_1, ev.eq_2, ev.eq_3, ev.eq_4, ev.eq_5, ev.eq_6, ev.eq_7, ev.eq_8, ev.eq_9, ev.eq_10, ev.eq_11, ev.eq_12, ev.eq_13, ev.eq_14, ev.eq_15, ev.eq_16, ev.eq_17, ev.eq_18, ev.eq_19, ev.eq_20, ev.eq_21, ev.eq_22, ev.eq_23, ev.eq_24, ev.eq_25, ev.eq_28, ev.eq_29, ev.eq_30, ev.eq_31, ev.eq_32, ev.eq_33, ev.eq_34, ev.eq_35, evs, eva, evt, ended, outsOf, Il.start, okIO, called, backs, Il.fin, sets, optR, IE.isNop, chg, place, nodeOk, atP, setP, chgAt, ownLst, ownDct, unpD, LQ, reduceIte, reduceCtorEq, Nat.reduceSub, Nat.reduceAdd, Int.reduceLT, Int.reduceLE, Int.reduceNeg, decide_true, decide_false, ite_true, ite_false, if_true, if_false, bnd_ok, bnd_ex, bndS_ok, bndS_ex, gets_zero, gets_succ, own_non, own_bl, own_int, own_str, own_lst, own_tup, own_scr, frz_non, frz_bl, frz_int, frz_str, frz_scr, l_set0, l_setS, noOwn_nil, noOwn_cons, x_nil, x_pas, x_brk, x_cont, x_retN, x_ret, x_exp, x_set, x_unp, x_ite, x_app, x_apS, x_ext, nown_ok, seq_nx, seq_none, s_neg, s_len_lst, s_len_tup, s_len_scr, s_int_bl, s_int_int, s_add_int, s_sub_int, s_mul_l, s_mul_r, sm_48271, sm_10, sm_5, s_fdiv_int, s_mod_int, s_pow9, s_lt_int, s_le_int, s_gt_int, s_ge_int, s_eq_int, s_ne_int, s_find, s_index, s_in_str, s_nin_str, rcv_find, rcv_index, rcv_join, rcv_add, rcv_sub, rcv_mul, rcv_fdiv, rcv_mod, rcv_pow, rcv_eq, rcv_ne, rcv_lt, rcv_le, rcv_gt, rcv_ge, rcv_in, rcv_nin, t_bl, x_lst, x_tup, x_scr, i_str, i_lst, i_tup, ty_ii, ty_bi, ty_in, ty_ib, ty_bb, List.map_cons, List.map_nil, List.cons_append, List.nil_append, List.append_nil, List.replicate_succ, List.replicate_zero, List.length_cons, List.length_nil, List.all_cons, List.all_nil, List.contains_nil, List.isEmpty_nil, Bool.not_false, Bool.not_true, Bool.and_true, Bool.true_and, Bool.and_false, Bool.false_and, Bool.or_true, Bool.true_or, Bool.or_false, Bool.false_or, Bool.false_eq_true, Bool.and_self, Bool.or_self, Option.map_some, Option.map_none, and_self, and_true, true_and, era_nil, era_s, era_n, pur_nil, pur_s, pur_n, D.erase, eraseL, D.pure, pureL, D.closed, closedL, s_eq_str, s_ne_str, wq_one_one, wq_one_row, wq_one_or, wq_one_many, wq_one_maybe, wq_row_one, wq_row_row, wq_row_or, wq_row_many, wq_row_maybe, wq_or_one, wq_or_row, wq_or_or, wq_or_many, wq_or_maybe, wq_many_one, wq_many_row, wq_many_or, wq_many_many, wq_many_maybe, wq_maybe_one, wq_maybe_row, wq_maybe_or, wq_maybe_many, wq_maybe_maybe, s_in_ints, s_nin_ints, s_sorted_ints, s_eq_ints, s_min, s_eq_bl, s_ne_bl, intL_app, t_lst, s_in_two, f0, f1, f2, f3, encs_len, g1, pop_enc, enc_own, f4, frz_lst, frz_tup, x1, x2]
                  exact W_some ⟨_, rfl, ps', room, rfl, x3⟩
                | true =>
                  rcases List.eq_nil_or_concat ps1 with rfl | ⟨ps2, r, rfl⟩
                  · obtain ⟨wd, x1, ps', x2, x3⟩ := fin [] [q, p] ok1 ⟨okq, okp, trivial⟩ (by simp) (by simp) (by simp only [sizeL] at hsz ⊢; omega)
                    simp only [encs] at x2
                    have emp : encs [] = [] := rfl
                    have g1' : decide ((1 : Int) < ((2 : Nat) : Int)) = true := by decide
                    have p1 : popD (.lst true (encs [q, p])) = some (p.enc, .lst true (encs [q])) := pop_enc [q] p
                    have p2 : popD (.lst true (encs [q])) = some (q.enc, .lst true (encs [])) := pop_enc [] q
                    simp only [call1, ev.eq_1, ev.eq_2, ev.eq_3, ev.eq_4, ev.eq_5, ev.eq_6, ev.eq_7, ev.eq_8, ev.eq_9, ev.eq_10, ev.eq_11, ev.eq_12, ev.eq_13, ev.eq_14, ev.eq_15, ev.eq_16, ev.eq_17, ev.eq_18, ev.eq_19, ev.eq_20, ev.eq_21, ev.eq_22, ev.eq_23, ev.eq_24, ev.eq_25, ev.eq_28, ev.eq_29, ev.eq_30, ev.eq_31, ev.eq_32, ev.eq_33, ev.eq_34, ev.eq_35, evs, eva, evt, ended, outsOf, Il.start, okIO, called, backs, Il.fin, sets, optR, IE.isNop, chg, place, nodeOk, atP, setP, chgAt, ownLst, ownDct, unpD, LQ, reduceIte, reduceCtorEq, Nat.reduceSub, Nat.reduceAdd, Int.reduceLT, Int.reduceLE, Int.reduceNeg, decide_true, decide_false, ite_true, ite_false, if_true, if_false, bnd_ok, bnd_ex, bndS_ok, bndS_ex, gets_zero, gets_succ, own_non, own_bl, own_int, own_str, own_lst, own_tup, own_scr, frz_non, frz_bl, frz_int, frz_str, frz_scr, l_set0, l_setS, noOwn_nil, noOwn_cons, x_nil, x_pas, x_brk, x_cont, x_retN, x_ret, x_exp, x_set, x_unp, x_ite, x_app, x_apS, x_ext, nown_ok, seq_nx, seq_none, s_neg, s_len_lst, s_len_tup, s_len_scr, s_int_bl, s_int_int, s_add_int, s_sub_int, s_mul_l, s_mul_r, sm_48271, sm_10, sm_5, s_fdiv_int, s_mod_int, s_pow9, s_lt_int, s_le_int, s_gt_int, s_ge_int, s_eq_int, s_ne_int, s_find, s_index, s_in_str, s_nin_str, rcv_find, rcv_index, rcv_join, rcv_add, rcv_sub, rcv_mul, rcv_fdiv, rcv_mod, rcv_pow, rcv_eq, rcv_ne, rcv_lt, rcv_le, rcv_gt, rcv_ge, rcv_in, rcv_nin, t_bl, x_lst, x_tup, x_scr, i_str, i_lst, i_tup, ty_ii, ty_bi, ty_in, ty_ib, ty_bb, List.map_cons, List.map_nil, List.cons_append, List.nil_append, List.append_nil, List.replicate_succ, List.replicate_zero, List.length_cons, List.length_nil, List.all_cons, List.all_nil, List.contains_nil, List.isEmpty_nil, Bool.not_false, Bool.not_true, Bool.and_true, Bool.true_and, Bool.and_false, Bool.false_and, Bool.or_true, Bool.true_or, Bool.or_false, Bool.false_or, Bool.false_eq_true, Bool.and_self, Bool.or_self, Option.map_some, Option.map_none, and_self, and_true, true_and, era_nil, era_s, era_n, pur_nil, pur_s, pur_n, D.erase, eraseL, D.pure, pureL, D.closed, closedL, s_eq_str, s_ne_str, wq_one_one, wq_one_row, wq_one_or, wq_one_many, wq_one_maybe, wq_row_one, wq_row_row, wq_row_or, wq_row_many, wq_row_maybe, wq_or_one, wq_or_row, wq_or_or, wq_or_many, wq_or_maybe, wq_many_one, wq_many_row, wq_many_or, wq_many_many, wq_many_maybe, wq_maybe_one, wq_maybe_row, wq_maybe_or, wq_maybe_many, wq_maybe_maybe, s_in_ints, s_nin_ints, s_sorted_ints, s_eq_ints, s_min, s_eq_bl, s_ne_bl, intL_app, t_lst, s_in_two, f0, f1, f2, f3, encs_len, g1', p1, p2, enc_own, f4, emp, frz_lst, frz_tup, x1, x2]
                    exact W_some ⟨_, rfl, ps', room, rfl, x3⟩
                  · rw [List.concat_eq_append] at *
                    obtain ⟨ok2, okr⟩ := okL_app.mp ok1
                    rw [sizeL_app] at hsz
                    simp only [sizeL] at hsz
                    obtain ⟨wd, x1, ps', x2, x3⟩ := fin ps2 [r, q, p] ok2 ⟨okr, okq, okp, trivial⟩ (by simp) (by simp at len1; omega) (by simp only [sizeL]; omega)
                    simp only [encs] at x2
                    have ad : ∀ (a b c : D), a.own = false → b.own = false → c.own = false → sem2 .add (.lst false [a]) (.lst true [b, c]) = some (.lst true [a, b, c]) := fun a b c h1 h2 h3 => by
                      show (if noOwn [a] && noOwn [b, c] && decide (1 + 2 ≤ line) then some (D.lst true ([a] ++ [b, c])) else none) = _
                      rw [noOwn_cons, noOwn_nil, noOwn_cons, noOwn_cons, noOwn_nil, h1, h2, h3]
                      rfl
                    have ad2 := ad r.enc q.enc p.enc (enc_own _) (enc_own _) (enc_own _)
                    simp only [call1, ev.eq_1, ev.eq_2, ev.eq_3, ev.eq_4, ev.eq_5, ev.eq_6, ev.eq_7, ev.eq_8, ev.eq_9, ev.eq_10, ev.eq_11, ev.eq_12, ev.eq_13, ev.eq_14, ev.eq_15, ev.eq_16, ev.eq_17, ev.eq_18, ev.eq_19, ev.eq_20, ev.eq_21, ev.eq_22, ev.eq_23, ev.eq_24, ev.eq_25, ev.eq_28, ev.eq_29, ev.eq_30, ev.eq_31, ev.eq_32, ev.eq_33, ev.eq_34, ev.eq_35, evs, eva, evt, ended, outsOf, Il.start, okIO, called, backs, Il.fin, sets, optR, IE.isNop, chg, place, nodeOk, atP, setP, chgAt, ownLst, ownDct, unpD, LQ, reduceIte, reduceCtorEq, Nat.reduceSub, Nat.reduceAdd, Int.reduceLT, Int.reduceLE, Int.reduceNeg, decide_true, decide_false, ite_true, ite_false, if_true, if_false, bnd_ok, bnd_ex, bndS_ok, bndS_ex, gets_zero, gets_succ, own_non, own_bl, own_int, own_str, own_lst, own_tup, own_scr, frz_non, frz_bl, frz_int, frz_str, frz_scr, l_set0, l_setS, noOwn_nil, noOwn_cons, x_nil, x_pas, x_brk, x_cont, x_retN, x_ret, x_exp, x_set, x_unp, x_ite, x_app, x_apS, x_ext, nown_ok, seq_nx, seq_none, s_neg, s_len_lst, s_len_tup, s_len_scr, s_int_bl, s_int_int, s_add_int, s_sub_int, s_mul_l, s_mul_r, sm_48271, sm_10, sm_5, s_fdiv_int, s_mod_int, s_pow9, s_lt_int, s_le_int, s_gt_int, s_ge_int, s_eq_int, s_ne_int, s_find, s_index, s_in_str, s_nin_str, rcv_find, rcv_index, rcv_join, rcv_add, rcv_sub, rcv_mul, rcv_fdiv, rcv_mod, rcv_pow, rcv_eq, rcv_ne, rcv_lt, rcv_le, rcv_gt, rcv_ge, rcv_in, rcv_nin, t_bl, x_lst, x_tup, x_scr, i_str, i_lst, i_tup, ty_ii, ty_bi, ty_in, ty_ib, ty_bb, List.map_cons, List.map_nil, List.cons_append, List.nil_append, List.append_nil, List.replicate_succ, List.replicate_zero, List.length_cons, List.length_nil, List.all_cons, List.all_nil, List.contains_nil, List.isEmpty_nil, Bool.not_false, Bool.not_true, Bool.and_true, Bool.true_and, Bool.and_false, Bool.false_and, Bool.or_true, Bool.true_or, Bool.or_false, Bool.false_or, Bool.false_eq_true, Bool.and_self, Bool.or_self, Option.map_some, Option.map_none, and_self, and_true, true_and, era_nil, era_s, era_n, pur_nil, pur_s, pur_n, D.erase, eraseL, D.pure, pureL, D.closed, closedL, s_eq_str, s_ne_str, wq_one_one, wq_one_row, wq_one_or, wq_one_many, wq_one_maybe, wq_row_one, wq_row_row, wq_row_or, wq_row_many, wq_row_maybe, wq_or_one, wq_or_row, wq_or_or, wq_or_many, wq_or_maybe, wq_many_one, wq_many_row, wq_many_or, wq_many_many, wq_many_maybe, wq_maybe_one, wq_maybe_row, wq_maybe_or, wq_maybe_many, wq_maybe_maybe, s_in_ints, s_nin_ints, s_sorted_ints, s_eq_ints, s_min, s_eq_bl, s_ne_bl, intL_app, t_lst, s_in_two, f0, f1, f2, f3, encs_len, g1, pop_enc, enc_own, f4, some_emp, frz_lst, frz_tup, ad2, x1, x2]
                    exact W_some ⟨_, rfl, ps', room, rfl, x3⟩)
  exact ⟨ps', room', h1, h2⟩
end Il.Q
set_option Elab.async false
set_option linter.all false
set_option maxRecDepth 100000
set_option maxHeartbeats 1000000
namespace Il.Q
open Il
theorem frz_row (t : List Nat) : (D.tup true [.str [114, 111, 119], .lst true (encs (ones t))]).freeze = some (.tup false [.str [114, 111, 119], .lst false (encs (ones t))]) := by
  obtain ⟨e1, e2⟩ := shdL_ok _ (encs_shd (ones t))
  have n : noOwn [.str [114, 111, 119], D.lst true (encs (ones t))] = false := rfl
  have p : pureL [.str [114, 111, 119], D.lst true (encs (ones t))] = true := by simp only [pureL, D.pure, e2, Bool.and_self]
  simp only [D.freeze, n, Bool.false_eq_true, if_false, p, if_true, eraseL, D.erase, e1]
theorem ones_own2 (l : List Nat) : noOwn (strL (l.map fun c => [c])) = true := strs_own _
theorem take_sizeL (ps : List Pat) (k : Nat) : sizeL (ps.take k) ≤ sizeL ps := by
  have : sizeL ps = sizeL (ps.take k) + sizeL (ps.drop k) := by rw [← sizeL_app, List.take_append_drop]
  omega
theorem take_ok {ps : List Pat} (h : OkL ps) (k : Nat) : OkL (ps.take k) := okL_mem.mpr fun p hp => okL_mem.mp h p (List.mem_of_mem_take hp)
/-- a handful of patterns beside the rows -/
structure Few (ps : List Pat) : Prop where
  ok : OkL ps
  two : ps.length ≤ 2
  leaves : (leavesL ps).length ≤ 12
  deep : deepL ps ≤ 10
  size : sizeL ps ≤ 20
theorem few_good {ps qs : List Pat} {k : Nat} (h : Rws ps k (k * 6)) (h1 : 1 ≤ k) (h6 : k ≤ 6) (f : Few qs) : Good (ps ++ qs) ∧ Good (qs ++ ps) := by
  obtain ⟨a1, a2, a3, a4, a5⟩ := h
  obtain ⟨b1, b2, b3, b4, b5⟩ := f
  have hne : ps ≠ [] := fun e => by rw [e] at a2; simp at a2; omega
  constructor
  · refine ⟨okL_app2.mpr ⟨a1, b1⟩, by simp [hne], by rw [List.length_append]; omega, ?_, ?_, ?_⟩
    · rw [leavesL_app, List.length_append]
      omega
    · rw [deepL_app]
      omega
    · rw [sizeL_app]
      omega
  · refine ⟨okL_app2.mpr ⟨b1, a1⟩, by simp [hne], by rw [List.length_append]; omega, ?_, ?_, ?_⟩
    · rw [leavesL_app, List.length_append]
      omega
    · rw [deepL_app]
      omega
    · rw [sizeL_app]
      omega
theorem s_add_encs {o o' : Bool} {a b : List Pat} (h : a.length + b.length ≤ 10000) : sem2 .add (.lst o (encs a)) (.lst o' (encs b)) = some (.lst true (encs (a ++ b))) := by
  have h1 : (encs a).length + (encs b).length ≤ line := by rw [encs_len, encs_len, lineEq]; omega
  show (if noOwn (encs a) && noOwn (encs b) && decide ((encs a).length + (encs b).length ≤ line) then some (D.lst true (encs a ++ encs b)) else none) = _
  rw [encs_own, encs_own, decide_eq_true h1, encs_app2]
  rfl
theorem strs_of (l : List (List Nat)) : strsD (strL l) = some l := by
  induction l with
  | nil => rfl
  | cons s l ih =>
    show (strsD (strL l)).map _ = _
    rw [ih]
    rfl
theorem sum_flat (l : List (List Nat)) : (l.map List.length).sum = l.flatten.length := by rw [List.length_flatten]
theorem strs_cut (l : List (List Nat)) (lo hi : Option Int) : cutL (strL l) lo hi = strL (cutL l lo hi) := cut_map _ _ _ _
theorem cut_take {α : Type} (l : List α) (k : Nat) : cutL l none (some (k : Int)) = l.take k := by
  unfold cutL
  rw [sIx_none]
  simp only [List.drop_zero, Nat.sub_zero]
  by_cases h : k ≤ l.length
  · rw [sIx_ok (by omega)]
    congr 1
    omega
  · rw [sIx_ok (by omega)]
    rw [List.take_of_length_le (by omega), List.take_of_length_le (by omega)]
theorem s_list_str {s : List Nat} (h : s.length ≤ line) : sem1 .list (.str s) = some (.lst true (s.map fun c => .str [c])) := by simp only [sem1, h, if_true]
theorem groups_flat {S : List (List Nat)} (hS : Groups S) (k : Nat) (hk : 1 ≤ k) (k5 : k ≤ 5) : (S.take k).flatten ≠ [] ∧ (S.take k).flatten.length ≤ 95 ∧ ∀ c ∈ (S.take k).flatten, c < 128 := by
  have h5 := hS.five
  have hok := hS.ok
  refine ⟨?_, ?_, ?_⟩
  · cases S with
    | nil => simp at h5
    | cons s S =>
      cases k with
      | zero => omega
      | succ k =>
        simp only [List.take_succ_cons, List.flatten_cons]
        intro e
        have := (List.append_eq_nil_iff.mp e).1
        exact (hok s (List.mem_cons_self ..)).1 this
  · have : ∀ l : List (List Nat), (∀ s ∈ l, s.length ≤ 19) → l.flatten.length ≤ 19 * l.length := by
      intro l
      induction l with
      | nil => simp
      | cons s l ih =>
        intro h
        have h1 := ih fun x hx => h x (List.mem_cons_of_mem _ hx)
        have h2 := h s (List.mem_cons_self ..)
        simp only [List.flatten_cons, List.length_append, List.length_cons]
        omega
    have := this (S.take k) fun s hs => (hok s (List.mem_of_mem_take hs)).2.1
    rw [List.length_take] at this
    omega
  · intro c hc
    obtain ⟨s, hs, hc⟩ := List.mem_flatten.mp hc
    exact (hok s (List.mem_of_mem_take hs)).2.2 c hc
theorem ex_loops (n : Nat) (ns : List Int) {S : List (List Nat)} (hS : Groups S) : ∃ d ps, run TT (n + 31) i_loops [.scr ns, .lst false (strL S)] = some (.ret d []) ∧ Gives d ps ∧ Good ps := by
  obtain ⟨c2, g2⟩ := ex_cell_at ns 2 (by omega)
  obtain ⟨c3, g3⟩ := ex_cell_at ns 3 (by omega)
  obtain ⟨c21, g21⟩ := ex_cell_at ns 21 (by omega)
  obtain ⟨c22, g22⟩ := ex_cell_at ns 22 (by omega)
  obtain ⟨c23, g23⟩ := ex_cell_at ns 23 (by omega)
  have oS := strs_own S
  obtain ⟨f1, f2, f3⟩ := groups_flat hS 4 (by omega) (by omega)
  generalize hfl : (S.take 4).flatten = flat at f1 f2 f3
  have hj : sem2 .join (.str []) (.lst false (strL (S.take 4))) = some (.str flat) := by
    rw [s_join (strs_of (S.take 4)) (by rw [sum_flat, hfl, lineEq]; omega), hfl]
  have c4 : cutL (strL S) none (some 4) = strL (S.take 4) := by rw [strs_cut]; congr 1; exact cut_take S 4
  have c12 : cutL (flat.map fun c => D.str [c]) none (some 12) = strL ((flat.take 12).map fun c => [c]) := by
    rw [cut_map, show (12 : Int) = ((12 : Nat) : Int) from rfl, cut_take]
    unfold strL
    rw [List.map_map]
    rfl
  have fl : flat.length ≤ line := by rw [lineEq]; omega
  have sP : Some19 ((flat.take 12).map fun c => [c]) := some19_ones (by
    cases flat with
    | nil => exact absurd rfl f1
    | cons c l => simp) fun c hc => f3 c (List.mem_of_mem_take hc)
  generalize (flat.take 12).map (fun c => [c]) = pool at c12 sP
  have oP := strs_own pool
  have key : ∀ more, exL (run TT (n + 30)) [] (b_loops.take 3 ++ more) [some (.scr ns), some (.lst false (strL S)), none, none, none, none, none, none, none, none, none] = exL (run TT (n + 30)) [] more [some (.scr ns), some (.lst false (strL S)), some (.lst true (strL pool)), some (.int (c3 % 2147483647)), some (.lst true []), none, none, none, none, none, none] := by
    intro more
    simp only [b_loops, List.take_succ_cons, List.take_zero]
    simp only [call1, ev.eq_1, ev.eq_2, ev.eq_3, ev.eq_4, ev.eq_5, ev.eq_6, ev.eq_7, ev.eq_8, ev.eq_9, ev.eq_10, ev.eq_11, ev.eq_12, ev.eq_13, ev.eq_14, ev.eq_15, ev.eq_16, ev.eq_17, ev.eq_18, ev.eq_19, ev.eq_20, ev.eq_21, ev.eq_22, ev.eq_23, ev.eq_24, ev.eq_25, ev.eq_28, ev.eq_29, ev.eq_30, ev.eq_31, ev.eq_32, ev.eq_33, ev.eq_34, ev.eq_35, evs, eva, evt, ended, outsOf, Il.start, okIO, called, backs, Il.fin, sets, optR, IE.isNop, chg, place, nodeOk, atP, setP, chgAt, ownLst, ownDct, unpD, LQ, reduceIte, reduceCtorEq, Nat.reduceSub, Nat.reduceAdd, Int.reduceLT, Int.reduceLE, Int.reduceNeg, decide_true, decide_false, ite_true, ite_false, if_true, if_false, bnd_ok, bnd_ex, bndS_ok, bndS_ex, gets_zero, gets_succ, own_non, own_bl, own_int, own_str, own_lst, own_tup, own_scr, frz_non, frz_bl, frz_int, frz_str, frz_scr, l_set0, l_setS, noOwn_nil, noOwn_cons, x_nil, x_pas, x_brk, x_cont, x_retN, x_ret, x_exp, x_set, x_unp, x_ite, x_app, x_apS, x_ext, nown_ok, seq_nx, seq_none, s_neg, s_len_lst, s_len_tup, s_len_scr, s_int_bl, s_int_int, s_add_int, s_sub_int, s_mul_l, s_mul_r, sm_48271, sm_10, sm_5, s_fdiv_int, s_mod_int, s_pow9, s_lt_int, s_le_int, s_gt_int, s_ge_int, s_eq_int, s_ne_int, s_find, s_index, s_in_str, s_nin_str, rcv_find, rcv_index, rcv_join, rcv_add, rcv_sub, rcv_mul, rcv_fdiv, rcv_mod, rcv_pow, rcv_eq, rcv_ne, rcv_lt, rcv_le, rcv_gt, rcv_ge, rcv_in, rcv_nin, t_bl, x_lst, x_tup, x_scr, i_str, i_lst, i_tup, ty_ii, ty_bi, ty_in, ty_ib, ty_bb, List.map_cons, List.map_nil, List.cons_append, List.nil_append, List.append_nil, List.replicate_succ, List.replicate_zero, List.length_cons, List.length_nil, List.all_cons, List.all_nil, List.contains_nil, List.isEmpty_nil, Bool.not_false, Bool.not_true, Bool.and_true, Bool.true_and, Bool.and_false, Bool.false_and, Bool.or_true, Bool.true_or, Bool.or_false, Bool.false_or, Bool.false_eq_true, Bool.and_self, Bool.or_self, Option.map_some, Option.map_none, and_self, and_true, true_and, era_nil, era_s, era_n, pur_nil, pur_s, pur_n, D.erase, eraseL, D.pure, pureL, D.closed, closedL, s_eq_str, s_ne_str, wq_one_one, wq_one_row, wq_one_or, wq_one_many, wq_one_maybe, wq_row_one, wq_row_row, wq_row_or, wq_row_many, wq_row_maybe, wq_or_one, wq_or_row, wq_or_or, wq_or_many, wq_or_maybe, wq_many_one, wq_many_row, wq_many_or, wq_many_many, wq_many_maybe, wq_maybe_one, wq_maybe_row, wq_maybe_or, wq_maybe_many, wq_maybe_maybe, s_in_ints, s_nin_ints, s_sorted_ints, s_eq_ints, s_min, s_eq_bl, s_ne_bl, intL_app, t_lst, s_in_two, y_lst oS, optI, c4, frz_lst (strs_own _), hj, s_list_str fl, frz_lst (ones_own flat), y_lst (ones_own flat), c12, g3]
  obtain ⟨o, r1, d, ps, rfl, r2, r3⟩ := run_W (P := fun o => ∃ d ps, o = .ret d [] ∧ Gives d ps ∧ Good ps) (n := n + 30) (f := i_loops) (T := TT) (ds := [.scr ns, .lst false (strL S)]) (fd := d_loops) rfl rfl (by
    show W (exL (run TT (n + 30)) [] (b_loops.take 3 ++ b_loops.drop 3) _) _
    refine (congrArg (fun o => W o _) (key (b_loops.drop 3))).mpr ?_
    simp only [b_loops, List.drop_succ_cons, List.drop_zero]
    have rg : 1 ≤ 1 + c2 % 6 ∧ 1 + c2 % 6 ≤ 6 := by omega
    generalize hk : 1 + c2 % 6 = count at rg
    refine W_for1 (q := true) (by simp only [call1, ev.eq_1, ev.eq_2, ev.eq_3, ev.eq_4, ev.eq_5, ev.eq_6, ev.eq_7, ev.eq_8, ev.eq_9, ev.eq_10, ev.eq_11, ev.eq_12, ev.eq_13, ev.eq_14, ev.eq_15, ev.eq_16, ev.eq_17, ev.eq_18, ev.eq_19, ev.eq_20, ev.eq_21, ev.eq_22, ev.eq_23, ev.eq_24, ev.eq_25, ev.eq_28, ev.eq_29, ev.eq_30, ev.eq_31, ev.eq_32, ev.eq_33, ev.eq_34, ev.eq_35, evs, eva, evt, ended, outsOf, Il.start, okIO, called, backs, Il.fin, sets, optR, IE.isNop, chg, place, nodeOk, atP, setP, chgAt, ownLst, ownDct, unpD, LQ, reduceIte, reduceCtorEq, Nat.reduceSub, Nat.reduceAdd, Int.reduceLT, Int.reduceLE, Int.reduceNeg, decide_true, decide_false, ite_true, ite_false, if_true, if_false, bnd_ok, bnd_ex, bndS_ok, bndS_ex, gets_zero, gets_succ, own_non, own_bl, own_int, own_str, own_lst, own_tup, own_scr, frz_non, frz_bl, frz_int, frz_str, frz_scr, l_set0, l_setS, noOwn_nil, noOwn_cons, x_nil, x_pas, x_brk, x_cont, x_retN, x_ret, x_exp, x_set, x_unp, x_ite, x_app, x_apS, x_ext, nown_ok, seq_nx, seq_none, s_neg, s_len_lst, s_len_tup, s_len_scr, s_int_bl, s_int_int, s_add_int, s_sub_int, s_mul_l, s_mul_r, sm_48271, sm_10, sm_5, s_fdiv_int, s_mod_int, s_pow9, s_lt_int, s_le_int, s_gt_int, s_ge_int, s_eq_int, s_ne_int, s_find, s_index, s_in_str, s_nin_str, rcv_find, rcv_index, rcv_join, rcv_add, rcv_sub, rcv_mul, rcv_fdiv, rcv_mod, rcv_pow, rcv_eq, rcv_ne, rcv_lt, rcv_le, rcv_gt, rcv_ge, rcv_in, rcv_nin, t_bl, x_lst, x_tup, x_scr, i_str, i_lst, i_tup, ty_ii, ty_bi, ty_in, ty_ib, ty_bb, List.map_cons, List.map_nil, List.cons_append, List.nil_append, List.append_nil, List.replicate_succ, List.replicate_zero, List.length_cons, List.length_nil, List.all_cons, List.all_nil, List.contains_nil, List.isEmpty_nil, Bool.not_false, Bool.not_true, Bool.and_true, Bool.true_and, Bool.and_false, Bool.false_and, Bool.or_true, Bool.true_or, Bool.or_false, Bool.false_or, Bool.false_eq_true, Bool.and_self, Bool.or_self, Option.map_some, Option.map_none, and_self, and_true, true_and, era_nil, era_s, era_n, pur_nil, pur_s, pur_n, D.erase, eraseL, D.pure, pureL, D.closed, closedL, s_eq_str, s_ne_str, wq_one_one, wq_one_row, wq_one_or, wq_one_many, wq_one_maybe, wq_row_one, wq_row_row, wq_row_or, wq_row_many, wq_row_maybe, wq_or_one, wq_or_row, wq_or_or, wq_or_many, wq_or_maybe, wq_many_one, wq_many_row, wq_many_or, wq_many_many, wq_many_maybe, wq_maybe_one, wq_maybe_row, wq_maybe_or, wq_maybe_many, wq_maybe_maybe, s_in_ints, s_nin_ints, s_sorted_ints, s_eq_ints, s_min, s_eq_bl, s_ne_bl, intL_app, t_lst, s_in_two, g2, hk] <;> rfl) (i_rng1 (b62_ok (by omega) (by omega))) rfl (fun i e => ∃ (o : Bool) (held : List Pat) (num : Int) (v5 v6 : Option D), e = [some (.scr ns), some (.lst false (strL S)), some (.lst o (strL pool)), some (.int num), some (.lst true (encs held)), v5, v6, none, none, none, none] ∧ Rws held i (i * 6)) ⟨_, [], _, _, _, rfl, by simpa using Rws.nil⟩ ?_ ?_
    · rintro i x e hx ⟨o, held, num, v5, v6, rfl, hr⟩
      obtain ⟨hi, rfl⟩ := rng_at hx
      generalize hn : (num * 48271 + 11) % 2147483647 = num'
      have z0 : 3 ≤ 3 + num' / 7 % 4 ∧ 3 + num' / 7 % 4 ≤ 6 := by omega
      generalize hz : 3 + num' / 7 % 4 = z at z0
      obtain ⟨t, t1, t2, t3⟩ := ex_text_by2 (n + 29) num' z sP (by omega) (by omega)
      have tl : t.length ≤ line := by rw [lineEq]; omega
      obtain ⟨q', hc⟩ := ev_compm (G := run TT (n + 30)) (s := 7) (k := .it) (args := [(.shr 6)]) (elt := (.tup [(.str [111, 110, 101]), (.shr 7)])) (e := [some (.scr ns), some (.lst false (strL S)), some (.lst false (strL pool)), some (.int num'), some (.lst true (encs held)), some (.int (0 + (i : Int))), some (.str t), none, none, none, none]) (e1 := [some (.scr ns), some (.lst false (strL S)), some (.lst false (strL pool)), some (.int num'), some (.lst true (encs held)), some (.int (0 + (i : Int))), some (.str t), none, none, none, none]) (q := true) (ds := [.str t]) (xs := t.map fun c => .str [c]) (fun d => .tup false [.str [111, 110, 101], d]) (by simp only [call1, ev.eq_1, ev.eq_2, ev.eq_3, ev.eq_4, ev.eq_5, ev.eq_6, ev.eq_7, ev.eq_8, ev.eq_9, ev.eq_10, ev.eq_11, ev.eq_12, ev.eq_13, ev.eq_14, ev.eq_15, ev.eq_16, ev.eq_17, ev.eq_18, ev.eq_19, ev.eq_20, ev.eq_21, ev.eq_22, ev.eq_23, ev.eq_24, ev.eq_25, ev.eq_28, ev.eq_29, ev.eq_30, ev.eq_31, ev.eq_32, ev.eq_33, ev.eq_34, ev.eq_35, evs, eva, evt, ended, outsOf, Il.start, okIO, called, backs, Il.fin, sets, optR, IE.isNop, chg, place, nodeOk, atP, setP, chgAt, ownLst, ownDct, unpD, LQ, reduceIte, reduceCtorEq, Nat.reduceSub, Nat.reduceAdd, Int.reduceLT, Int.reduceLE, Int.reduceNeg, decide_true, decide_false, ite_true, ite_false, if_true, if_false, bnd_ok, bnd_ex, bndS_ok, bndS_ex, gets_zero, gets_succ, own_non, own_bl, own_int, own_str, own_lst, own_tup, own_scr, frz_non, frz_bl, frz_int, frz_str, frz_scr, l_set0, l_setS, noOwn_nil, noOwn_cons, x_nil, x_pas, x_brk, x_cont, x_retN, x_ret, x_exp, x_set, x_unp, x_ite, x_app, x_apS, x_ext, nown_ok, seq_nx, seq_none, s_neg, s_len_lst, s_len_tup, s_len_scr, s_int_bl, s_int_int, s_add_int, s_sub_int, s_mul_l, s_mul_r, sm_48271, sm_10, sm_5, s_fdiv_int, s_mod_int, s_pow9, s_lt_int, s_le_int, s_gt_int, s_ge_int, s_eq_int, s_ne_int, s_find, s_index, s_in_str, s_nin_str, rcv_find, rcv_index, rcv_join, rcv_add, rcv_sub, rcv_mul, rcv_fdiv, rcv_mod, rcv_pow, rcv_eq, rcv_ne, rcv_lt, rcv_le, rcv_gt, rcv_ge, rcv_in, rcv_nin, t_bl, x_lst, x_tup, x_scr, i_str, i_lst, i_tup, ty_ii, ty_bi, ty_in, ty_ib, ty_bb, List.map_cons, List.map_nil, List.cons_append, List.nil_append, List.append_nil, List.replicate_succ, List.replicate_zero, List.length_cons, List.length_nil, List.all_cons, List.all_nil, List.contains_nil, List.isEmpty_nil, Bool.not_false, Bool.not_true, Bool.and_true, Bool.true_and, Bool.and_false, Bool.false_and, Bool.or_true, Bool.true_or, Bool.or_false, Bool.false_or, Bool.false_eq_true, Bool.and_self, Bool.or_self, Option.map_some, Option.map_none, and_self, and_true, true_and, era_nil, era_s, era_n, pur_nil, pur_s, pur_n, D.erase, eraseL, D.pure, pureL, D.closed, closedL, s_eq_str, s_ne_str, wq_one_one, wq_one_row, wq_one_or, wq_one_many, wq_one_maybe, wq_row_one, wq_row_row, wq_row_or, wq_row_many, wq_row_maybe, wq_or_one, wq_or_row, wq_or_or, wq_or_many, wq_or_maybe, wq_many_one, wq_many_row, wq_many_or, wq_many_many, wq_many_maybe, wq_maybe_one, wq_maybe_row, wq_maybe_or, wq_maybe_many, wq_maybe_maybe, s_in_ints, s_nin_ints, s_sorted_ints, s_eq_ints, s_min, s_eq_bl, s_ne_bl, intL_app, t_lst, s_in_two] <;> rfl) (by first | exact i_str tl | simp only [call1, ev.eq_1, ev.eq_2, ev.eq_3, ev.eq_4, ev.eq_5, ev.eq_6, ev.eq_7, ev.eq_8, ev.eq_9, ev.eq_10, ev.eq_11, ev.eq_12, ev.eq_13, ev.eq_14, ev.eq_15, ev.eq_16, ev.eq_17, ev.eq_18, ev.eq_19, ev.eq_20, ev.eq_21, ev.eq_22, ev.eq_23, ev.eq_24, ev.eq_25, ev.eq_28, ev.eq_29, ev.eq_30, ev.eq_31, ev.eq_32, ev.eq_33, ev.eq_34, ev.eq_35, evs, eva, evt, ended, outsOf, Il.start, okIO, called, backs, Il.fin, sets, optR, IE.isNop, chg, place, nodeOk, atP, setP, chgAt, ownLst, ownDct, unpD, LQ, reduceIte, reduceCtorEq, Nat.reduceSub, Nat.reduceAdd, Int.reduceLT, Int.reduceLE, Int.reduceNeg, decide_true, decide_false, ite_true, ite_false, if_true, if_false, bnd_ok, bnd_ex, bndS_ok, bndS_ex, gets_zero, gets_succ, own_non, own_bl, own_int, own_str, own_lst, own_tup, own_scr, frz_non, frz_bl, frz_int, frz_str, frz_scr, l_set0, l_setS, noOwn_nil, noOwn_cons, x_nil, x_pas, x_brk, x_cont, x_retN, x_ret, x_exp, x_set, x_unp, x_ite, x_app, x_apS, x_ext, nown_ok, seq_nx, seq_none, s_neg, s_len_lst, s_len_tup, s_len_scr, s_int_bl, s_int_int, s_add_int, s_sub_int, s_mul_l, s_mul_r, sm_48271, sm_10, sm_5, s_fdiv_int, s_mod_int, s_pow9, s_lt_int, s_le_int, s_gt_int, s_ge_int, s_eq_int, s_ne_int, s_find, s_index, s_in_str, s_nin_str, rcv_find, rcv_index, rcv_join, rcv_add, rcv_sub, rcv_mul, rcv_fdiv, rcv_mod, rcv_pow, rcv_eq, rcv_ne, rcv_lt, rcv_le, rcv_gt, rcv_ge, rcv_in, rcv_nin, t_bl, x_lst, x_tup, x_scr, i_str, i_lst, i_tup, ty_ii, ty_bi, ty_in, ty_ib, ty_bb, List.map_cons, List.map_nil, List.cons_append, List.nil_append, List.append_nil, List.replicate_succ, List.replicate_zero, List.length_cons, List.length_nil, List.all_cons, List.all_nil, List.contains_nil, List.isEmpty_nil, Bool.not_false, Bool.not_true, Bool.and_true, Bool.true_and, Bool.and_false, Bool.false_and, Bool.or_true, Bool.true_or, Bool.or_false, Bool.false_or, Bool.false_eq_true, Bool.and_self, Bool.or_self, Option.map_some, Option.map_none, and_self, and_true, true_and, era_nil, era_s, era_n, pur_nil, pur_s, pur_n, D.erase, eraseL, D.pure, pureL, D.closed, closedL, s_eq_str, s_ne_str, wq_one_one, wq_one_row, wq_one_or, wq_one_many, wq_one_maybe, wq_row_one, wq_row_row, wq_row_or, wq_row_many, wq_row_maybe, wq_or_one, wq_or_row, wq_or_or, wq_or_many, wq_or_maybe, wq_many_one, wq_many_row, wq_many_or, wq_many_many, wq_many_maybe, wq_maybe_one, wq_maybe_row, wq_maybe_or, wq_maybe_many, wq_maybe_maybe, s_in_ints, s_nin_ints, s_sorted_ints, s_eq_ints, s_min, s_eq_bl, s_ne_bl, intL_app, t_lst, s_in_two, tl]) (by rw [List.length_map]; omega) (fun x hx => by
        obtain ⟨c, hc, rfl⟩ := List.mem_map.mp hx
        exact ⟨rfl, true, by simp only [call1, ev.eq_1, ev.eq_2, ev.eq_3, ev.eq_4, ev.eq_5, ev.eq_6, ev.eq_7, ev.eq_8, ev.eq_9, ev.eq_10, ev.eq_11, ev.eq_12, ev.eq_13, ev.eq_14, ev.eq_15, ev.eq_16, ev.eq_17, ev.eq_18, ev.eq_19, ev.eq_20, ev.eq_21, ev.eq_22, ev.eq_23, ev.eq_24, ev.eq_25, ev.eq_28, ev.eq_29, ev.eq_30, ev.eq_31, ev.eq_32, ev.eq_33, ev.eq_34, ev.eq_35, evs, eva, evt, ended, outsOf, Il.start, okIO, called, backs, Il.fin, sets, optR, IE.isNop, chg, place, nodeOk, atP, setP, chgAt, ownLst, ownDct, unpD, LQ, reduceIte, reduceCtorEq, Nat.reduceSub, Nat.reduceAdd, Int.reduceLT, Int.reduceLE, Int.reduceNeg, decide_true, decide_false, ite_true, ite_false, if_true, if_false, bnd_ok, bnd_ex, bndS_ok, bndS_ex, gets_zero, gets_succ, own_non, own_bl, own_int, own_str, own_lst, own_tup, own_scr, frz_non, frz_bl, frz_int, frz_str, frz_scr, l_set0, l_setS, noOwn_nil, noOwn_cons, x_nil, x_pas, x_brk, x_cont, x_retN, x_ret, x_exp, x_set, x_unp, x_ite, x_app, x_apS, x_ext, nown_ok, seq_nx, seq_none, s_neg, s_len_lst, s_len_tup, s_len_scr, s_int_bl, s_int_int, s_add_int, s_sub_int, s_mul_l, s_mul_r, sm_48271, sm_10, sm_5, s_fdiv_int, s_mod_int, s_pow9, s_lt_int, s_le_int, s_gt_int, s_ge_int, s_eq_int, s_ne_int, s_find, s_index, s_in_str, s_nin_str, rcv_find, rcv_index, rcv_join, rcv_add, rcv_sub, rcv_mul, rcv_fdiv, rcv_mod, rcv_pow, rcv_eq, rcv_ne, rcv_lt, rcv_le, rcv_gt, rcv_ge, rcv_in, rcv_nin, t_bl, x_lst, x_tup, x_scr, i_str, i_lst, i_tup, ty_ii, ty_bi, ty_in, ty_ib, ty_bb, List.map_cons, List.map_nil, List.cons_append, List.nil_append, List.append_nil, List.replicate_succ, List.replicate_zero, List.length_cons, List.length_nil, List.all_cons, List.all_nil, List.contains_nil, List.isEmpty_nil, Bool.not_false, Bool.not_true, Bool.and_true, Bool.true_and, Bool.and_false, Bool.false_and, Bool.or_true, Bool.true_or, Bool.or_false, Bool.false_or, Bool.false_eq_true, Bool.and_self, Bool.or_self, Option.map_some, Option.map_none, and_self, and_true, true_and, era_nil, era_s, era_n, pur_nil, pur_s, pur_n, D.erase, eraseL, D.pure, pureL, D.closed, closedL, s_eq_str, s_ne_str, wq_one_one, wq_one_row, wq_one_or, wq_one_many, wq_one_maybe, wq_row_one, wq_row_row, wq_row_or, wq_row_many, wq_row_maybe, wq_or_one, wq_or_row, wq_or_or, wq_or_many, wq_or_maybe, wq_many_one, wq_many_row, wq_many_or, wq_many_many, wq_many_maybe, wq_maybe_one, wq_maybe_row, wq_maybe_or, wq_maybe_many, wq_maybe_maybe, s_in_ints, s_nin_ints, s_sorted_ints, s_eq_ints, s_min, s_eq_bl, s_ne_bl, intL_app, t_lst, s_in_two, frz_tup] <;> rfl⟩)
      rw [ones_enc] at hc
      have ae := a_enc (ps := held) (.row (ones t)) (by have := hr.len; omega)
      simp only [Pat.enc] at ae
      have nx := hr.add (m := 6) t2 (by omega)
      cases o <;> simp only [call1, ev.eq_1, ev.eq_2, ev.eq_3, ev.eq_4, ev.eq_5, ev.eq_6, ev.eq_7, ev.eq_8, ev.eq_9, ev.eq_10, ev.eq_11, ev.eq_12, ev.eq_13, ev.eq_14, ev.eq_15, ev.eq_16, ev.eq_17, ev.eq_18, ev.eq_19, ev.eq_20, ev.eq_21, ev.eq_22, ev.eq_23, ev.eq_24, ev.eq_25, ev.eq_28, ev.eq_29, ev.eq_30, ev.eq_31, ev.eq_32, ev.eq_33, ev.eq_34, ev.eq_35, evs, eva, evt, ended, outsOf, Il.start, okIO, called, backs, Il.fin, sets, optR, IE.isNop, chg, place, nodeOk, atP, setP, chgAt, ownLst, ownDct, unpD, LQ, reduceIte, reduceCtorEq, Nat.reduceSub, Nat.reduceAdd, Int.reduceLT, Int.reduceLE, Int.reduceNeg, decide_true, decide_false, ite_true, ite_false, if_true, if_false, bnd_ok, bnd_ex, bndS_ok, bndS_ex, gets_zero, gets_succ, own_non, own_bl, own_int, own_str, own_lst, own_tup, own_scr, frz_non, frz_bl, frz_int, frz_str, frz_scr, l_set0, l_setS, noOwn_nil, noOwn_cons, x_nil, x_pas, x_brk, x_cont, x_retN, x_ret, x_exp, x_set, x_unp, x_ite, x_app, x_apS, x_ext, nown_ok, seq_nx, seq_none, s_neg, s_len_lst, s_len_tup, s_len_scr, s_int_bl, s_int_int, s_add_int, s_sub_int, s_mul_l, s_mul_r, sm_48271, sm_10, sm_5, s_fdiv_int, s_mod_int, s_pow9, s_lt_int, s_le_int, s_gt_int, s_ge_int, s_eq_int, s_ne_int, s_find, s_index, s_in_str, s_nin_str, rcv_find, rcv_index, rcv_join, rcv_add, rcv_sub, rcv_mul, rcv_fdiv, rcv_mod, rcv_pow, rcv_eq, rcv_ne, rcv_lt, rcv_le, rcv_gt, rcv_ge, rcv_in, rcv_nin, t_bl, x_lst, x_tup, x_scr, i_str, i_lst, i_tup, ty_ii, ty_bi, ty_in, ty_ib, ty_bb, List.map_cons, List.map_nil, List.cons_append, List.nil_append, List.append_nil, List.replicate_succ, List.replicate_zero, List.length_cons, List.length_nil, List.all_cons, List.all_nil, List.contains_nil, List.isEmpty_nil, Bool.not_false, Bool.not_true, Bool.and_true, Bool.true_and, Bool.and_false, Bool.false_and, Bool.or_true, Bool.true_or, Bool.or_false, Bool.false_or, Bool.false_eq_true, Bool.and_self, Bool.or_self, Option.map_some, Option.map_none, and_self, and_true, true_and, era_nil, era_s, era_n, pur_nil, pur_s, pur_n, D.erase, eraseL, D.pure, pureL, D.closed, closedL, s_eq_str, s_ne_str, wq_one_one, wq_one_row, wq_one_or, wq_one_many, wq_one_maybe, wq_row_one, wq_row_row, wq_row_or, wq_row_many, wq_row_maybe, wq_or_one, wq_or_row, wq_or_or, wq_or_many, wq_or_maybe, wq_many_one, wq_many_row, wq_many_or, wq_many_many, wq_many_maybe, wq_maybe_one, wq_maybe_row, wq_maybe_or, wq_maybe_many, wq_maybe_maybe, s_in_ints, s_nin_ints, s_sorted_ints, s_eq_ints, s_min, s_eq_bl, s_ne_bl, intL_app, t_lst, s_in_two, hn, hz, t3, hc, frz_lst (encs_own _), frz_lst oP, frz_tup, ae] <;> exact W_nx ⟨_, _, _, _, _, rfl, by rw [Nat.add_mul, Nat.one_mul]; exact nx⟩
    · rintro e ⟨o, held, num, v5, v6, rfl, hr⟩
      rw [range_len] at hr
      have fin : ∀ (o8 : Bool) (lp : List Pat), Few lp → Good (held ++ lp) ∧ Good (lp ++ held) ∧ sem2 .add (.lst true (encs held)) (.lst o8 (encs lp)) = some (.lst true (encs (held ++ lp))) ∧ sem2 .add (.lst o8 (encs lp)) (.lst true (encs held)) = some (.lst true (encs (lp ++ held))) := by
        intro o8 lp hf
        obtain ⟨h1, h2⟩ := few_good hr (by omega) (by omega) hf
        have := hr.len
        have := hf.two
        exact ⟨h1, h2, s_add_encs (by omega), s_add_encs (by omega)⟩
      cases hb : (c2 / 6 % 2 == 1) with
      | true =>
        have z0 : 1 ≤ 1 + c22 % 12 ∧ 1 + c22 % 12 ≤ 12 := by omega
        generalize hz : 1 + c22 % 12 = z at z0
        obtain ⟨t, t1, t2, t3⟩ := ex_text_by2 (n + 29) c21 z sP (by omega) (by omega)
        have tl : t.length ≤ line := by rw [lineEq]; omega
        obtain ⟨q', hc⟩ := ev_compm (G := run TT (n + 30)) (s := 7) (k := .it) (args := [(.shr 6)]) (elt := (.tup [(.str [111, 110, 101]), (.shr 7)])) (e := [some (.scr ns), some (.lst false (strL S)), some (.lst false (strL pool)), some (.int num), some (.lst true (encs held)), v5, some (.str t), none, some (.lst true []), none, none]) (e1 := [some (.scr ns), some (.lst false (strL S)), some (.lst false (strL pool)), some (.int num), some (.lst true (encs held)), v5, some (.str t), none, some (.lst true []), none, none]) (q := true) (ds := [.str t]) (xs := t.map fun c => .str [c]) (fun d => .tup false [.str [111, 110, 101], d]) (by simp only [call1, ev.eq_1, ev.eq_2, ev.eq_3, ev.eq_4, ev.eq_5, ev.eq_6, ev.eq_7, ev.eq_8, ev.eq_9, ev.eq_10, ev.eq_11, ev.eq_12, ev.eq_13, ev.eq_14, ev.eq_15, ev.eq_16, ev.eq_17, ev.eq_18, ev.eq_19, ev.eq_20, ev.eq_21, ev.eq_22, ev.eq_23, ev.eq_24, ev.eq_25, ev.eq_28, ev.eq_29, ev.eq_30, ev.eq_31, ev.eq_32, ev.eq_33, ev.eq_34, ev.eq_35, evs, eva, evt, ended, outsOf, Il.start, okIO, called, backs, Il.fin, sets, optR, IE.isNop, chg, place, nodeOk, atP, setP, chgAt, ownLst, ownDct, unpD, LQ, reduceIte, reduceCtorEq, Nat.reduceSub, Nat.reduceAdd, Int.reduceLT, Int.reduceLE, Int.reduceNeg, decide_true, decide_false, ite_true, ite_false, if_true, if_false, bnd_ok, bnd_ex, bndS_ok, bndS_ex, gets_zero, gets_succ, own_non, own_bl, own_int, own_str, own_lst, own_tup, own_scr, frz_non, frz_bl, frz_int, frz_str, frz_scr, l_set0, l_setS, noOwn_nil, noOwn_cons, x_nil, x_pas, x_brk, x_cont, x_retN, x_ret, x_exp, x_set, x_unp, x_ite, x_app, x_apS, x_ext, nown_ok, seq_nx, seq_none, s_neg, s_len_lst, s_len_tup, s_len_scr, s_int_bl, s_int_int, s_add_int, s_sub_int, s_mul_l, s_mul_r, sm_48271, sm_10, sm_5, s_fdiv_int, s_mod_int, s_pow9, s_lt_int, s_le_int, s_gt_int, s_ge_int, s_eq_int, s_ne_int, s_find, s_index, s_in_str, s_nin_str, rcv_find, rcv_index, rcv_join, rcv_add, rcv_sub, rcv_mul, rcv_fdiv, rcv_mod, rcv_pow, rcv_eq, rcv_ne, rcv_lt, rcv_le, rcv_gt, rcv_ge, rcv_in, rcv_nin, t_bl, x_lst, x_tup, x_scr, i_str, i_lst, i_tup, ty_ii, ty_bi, ty_in, ty_ib, ty_bb, List.map_cons, List.map_nil, List.cons_append, List.nil_append, List.append_nil, List.replicate_succ, List.replicate_zero, List.length_cons, List.length_nil, List.all_cons, List.all_nil, List.contains_nil, List.isEmpty_nil, Bool.not_false, Bool.not_true, Bool.and_true, Bool.true_and, Bool.and_false, Bool.false_and, Bool.or_true, Bool.true_or, Bool.or_false, Bool.false_or, Bool.false_eq_true, Bool.and_self, Bool.or_self, Option.map_some, Option.map_none, and_self, and_true, true_and, era_nil, era_s, era_n, pur_nil, pur_s, pur_n, D.erase, eraseL, D.pure, pureL, D.closed, closedL, s_eq_str, s_ne_str, wq_one_one, wq_one_row, wq_one_or, wq_one_many, wq_one_maybe, wq_row_one, wq_row_row, wq_row_or, wq_row_many, wq_row_maybe, wq_or_one, wq_or_row, wq_or_or, wq_or_many, wq_or_maybe, wq_many_one, wq_many_row, wq_many_or, wq_many_many, wq_many_maybe, wq_maybe_one, wq_maybe_row, wq_maybe_or, wq_maybe_many, wq_maybe_maybe, s_in_ints, s_nin_ints, s_sorted_ints, s_eq_ints, s_min, s_eq_bl, s_ne_bl, intL_app, t_lst, s_in_two] <;> rfl) (by first | exact i_str tl | simp only [call1, ev.eq_1, ev.eq_2, ev.eq_3, ev.eq_4, ev.eq_5, ev.eq_6, ev.eq_7, ev.eq_8, ev.eq_9, ev.eq_10, ev.eq_11, ev.eq_12, ev.eq_13, ev.eq_14, ev.eq_15, ev.eq_16, ev.eq_17, ev.eq_18, ev.eq_19, ev.eq_20, ev.eq_21, ev.eq_22, ev.eq_23, ev.eq_24, ev.eq_25, ev.eq_28, ev.eq_29, ev.eq_30, ev.eq_31, ev.eq_32, ev.eq_33, ev.eq_34, ev.eq_35, evs, eva, evt, ended, outsOf, Il.start, okIO, called, backs, Il.fin, sets, optR, IE.isNop, chg, place, nodeOk, atP, setP, chgAt, ownLst, ownDct, unpD, LQ, reduceIte, reduceCtorEq, Nat.reduceSub, Nat.reduceAdd, Int.reduceLT, Int.reduceLE, Int.reduceNeg, decide_true, decide_false, ite_true, ite_false, if_true, if_false, bnd_ok, bnd_ex, bndS_ok, bndS_ex, gets_zero, gets_succ, own_non, own_bl, own_int, own_str, own_lst, own_tup, own_scr, frz_non, frz_bl, frz_int, frz_str, frz_scr, l_set0, l_setS, noOwn_nil, noOwn_cons, x_nil, x_pas, x_brk, x_cont, x_retN, x_ret, x_exp, x_set, x_unp, x_ite, x_app, x_apS, x_ext, nown_ok, seq_nx, seq_none, s_neg, s_len_lst, s_len_tup, s_len_scr, s_int_bl, s_int_int, s_add_int, s_sub_int, s_mul_l, s_mul_r, sm_48271, sm_10, sm_5, s_fdiv_int, s_mod_int, s_pow9, s_lt_int, s_le_int, s_gt_int, s_ge_int, s_eq_int, s_ne_int, s_find, s_index, s_in_str, s_nin_str, rcv_find, rcv_index, rcv_join, rcv_add, rcv_sub, rcv_mul, rcv_fdiv, rcv_mod, rcv_pow, rcv_eq, rcv_ne, rcv_lt, rcv_le, rcv_gt, rcv_ge, rcv_in, rcv_nin, t_bl, x_lst, x_tup, x_scr, i_str, i_lst, i_tup, ty_ii, ty_bi, ty_in, ty_ib, ty_bb, List.map_cons, List.map_nil, List.cons_append, List.nil_append, List.append_nil, List.replicate_succ, List.replicate_zero, List.length_cons, List.length_nil, List.all_cons, List.all_nil, List.contains_nil, List.isEmpty_nil, Bool.not_false, Bool.not_true, Bool.and_true, Bool.true_and, Bool.and_false, Bool.false_and, Bool.or_true, Bool.true_or, Bool.or_false, Bool.false_or, Bool.false_eq_true, Bool.and_self, Bool.or_self, Option.map_some, Option.map_none, and_self, and_true, true_and, era_nil, era_s, era_n, pur_nil, pur_s, pur_n, D.erase, eraseL, D.pure, pureL, D.closed, closedL, s_eq_str, s_ne_str, wq_one_one, wq_one_row, wq_one_or, wq_one_many, wq_one_maybe, wq_row_one, wq_row_row, wq_row_or, wq_row_many, wq_row_maybe, wq_or_one, wq_or_row, wq_or_or, wq_or_many, wq_or_maybe, wq_many_one, wq_many_row, wq_many_or, wq_many_many, wq_many_maybe, wq_maybe_one, wq_maybe_row, wq_maybe_or, wq_maybe_many, wq_maybe_maybe, s_in_ints, s_nin_ints, s_sorted_ints, s_eq_ints, s_min, s_eq_bl, s_ne_bl, intL_app, t_lst, s_in_two, tl]) (by rw [List.length_map]; omega) (fun x hx => by
          obtain ⟨c, hc, rfl⟩ := List.mem_map.mp hx
          exact ⟨rfl, true, by simp only [call1, ev.eq_1, ev.eq_2, ev.eq_3, ev.eq_4, ev.eq_5, ev.eq_6, ev.eq_7, ev.eq_8, ev.eq_9, ev.eq_10, ev.eq_11, ev.eq_12, ev.eq_13, ev.eq_14, ev.eq_15, ev.eq_16, ev.eq_17, ev.eq_18, ev.eq_19, ev.eq_20, ev.eq_21, ev.eq_22, ev.eq_23, ev.eq_24, ev.eq_25, ev.eq_28, ev.eq_29, ev.eq_30, ev.eq_31, ev.eq_32, ev.eq_33, ev.eq_34, ev.eq_35, evs, eva, evt, ended, outsOf, Il.start, okIO, called, backs, Il.fin, sets, optR, IE.isNop, chg, place, nodeOk, atP, setP, chgAt, ownLst, ownDct, unpD, LQ, reduceIte, reduceCtorEq, Nat.reduceSub, Nat.reduceAdd, Int.reduceLT, Int.reduceLE, Int.reduceNeg, decide_true, decide_false, ite_true, ite_false, if_true, if_false, bnd_ok, bnd_ex, bndS_ok, bndS_ex, gets_zero, gets_succ, own_non, own_bl, own_int, own_str, own_lst, own_tup, own_scr, frz_non, frz_bl, frz_int, frz_str, frz_scr, l_set0, l_setS, noOwn_nil, noOwn_cons, x_nil, x_pas, x_brk, x_cont, x_retN, x_ret, x_exp, x_set, x_unp, x_ite, x_app, x_apS, x_ext, nown_ok, seq_nx, seq_none, s_neg, s_len_lst, s_len_tup, s_len_scr, s_int_bl, s_int_int, s_add_int, s_sub_int, s_mul_l, s_mul_r, sm_48271, sm_10, sm_5, s_fdiv_int, s_mod_int, s_pow9, s_lt_int, s_le_int, s_gt_int, s_ge_int, s_eq_int, s_ne_int, s_find, s_index, s_in_str, s_nin_str, rcv_find, rcv_index, rcv_join, rcv_add, rcv_sub, rcv_mul, rcv_fdiv, rcv_mod, rcv_pow, rcv_eq, rcv_ne, rcv_lt, rcv_le, rcv_gt, rcv_ge, rcv_in, rcv_nin, t_bl, x_lst, x_tup, x_scr, i_str, i_lst, i_tup, ty_ii, ty_bi, ty_in, ty_ib, ty_bb, List.map_cons, List.map_nil, List.cons_append, List.nil_append, List.append_nil, List.replicate_succ, List.replicate_zero, List.length_cons, List.length_nil, List.all_cons, List.all_nil, List.contains_nil, List.isEmpty_nil, Bool.not_false, Bool.not_true, Bool.and_true, Bool.true_and, Bool.and_false, Bool.false_and, Bool.or_true, Bool.true_or, Bool.or_false, Bool.false_or, Bool.false_eq_true, Bool.and_self, Bool.or_self, Option.map_some, Option.map_none, and_self, and_true, true_and, era_nil, era_s, era_n, pur_nil, pur_s, pur_n, D.erase, eraseL, D.pure, pureL, D.closed, closedL, s_eq_str, s_ne_str, wq_one_one, wq_one_row, wq_one_or, wq_one_many, wq_one_maybe, wq_row_one, wq_row_row, wq_row_or, wq_row_many, wq_row_maybe, wq_or_one, wq_or_row, wq_or_or, wq_or_many, wq_or_maybe, wq_many_one, wq_many_row, wq_many_or, wq_many_many, wq_many_maybe, wq_maybe_one, wq_maybe_row, wq_maybe_or, wq_maybe_many, wq_maybe_maybe, s_in_ints, s_nin_ints, s_sorted_ints, s_eq_ints, s_min, s_eq_bl, s_ne_bl, intL_app, t_lst, s_in_two, frz_tup] <;> rfl⟩)
        rw [ones_enc] at hc
        obtain ⟨b1, b2, b3, b4⟩ := row_ok t2
        have fz := frz_row t
        have am := a_enc (ps := []) (.many (.row (ones t))) (by simp)
        have ay := a_enc (ps := []) (.maybe (.row (ones t))) (by simp)
        simp only [Pat.enc, encs, List.nil_append] at am ay
        have fm : Few [.many (.row (ones t))] := ⟨by simp only [OkL, Pat.Ok] at b1 ⊢; exact ⟨b1, trivial⟩, by simp, by simp only [leavesL, List.append_nil]; rw [Pat.leaves, b2]; omega, by simp only [deepL]; rw [Pat.deep, b3]; omega, by simp only [sizeL]; rw [Pat.size, b4]; omega⟩
        have fy : Few [.maybe (.row (ones t))] := ⟨by simp only [OkL, Pat.Ok] at b1 ⊢; exact ⟨b1, trivial⟩, by simp, by simp only [leavesL, List.append_nil]; rw [Pat.leaves, b2]; omega, by simp only [deepL]; rw [Pat.deep, b3]; omega, by simp only [sizeL]; rw [Pat.size, b4]; omega⟩
        obtain ⟨m1, m2, m3, m4⟩ := fin true _ fm
        obtain ⟨y1, y2, y3, y4⟩ := fin true _ fy
        simp only [encs, Pat.enc] at m3 m4 y3 y4
        cases hd : (c2 / 12 % 2 == 1) <;> cases he : (c23 % 3 == 0) <;> cases o <;> simp only [call1, ev.eq_1, ev.eq_2, ev.eq_3, ev.eq_4, ev.eq_5, ev.eq_6, ev.eq_7, ev.eq_8, ev.eq_9, ev.eq_10, ev.eq_11, ev.eq_12, ev.eq_13, ev.eq_14, ev.eq_15, ev.eq_16, ev.eq_17, ev.eq_18, ev.eq_19, ev.eq_20, ev.eq_21, ev.eq_22, ev.eq_23, ev.eq_24, ev.eq_25, ev.eq_28, ev.eq_29, ev.eq_30, ev.eq_31, ev.eq_32, ev.eq_33, ev.eq_34, ev.eq_35, evs, eva, evt, ended, outsOf, Il.start, okIO, called, backs, Il.fin, sets, optR, IE.isNop, chg, place, nodeOk, atP, setP, chgAt, ownLst, ownDct, unpD, LQ, reduceIte, reduceCtorEq, Nat.reduceSub, Nat.reduceAdd, Int.reduceLT, Int.reduceLE, Int.reduceNeg, decide_true, decide_false, ite_true, ite_false, if_true, if_false, bnd_ok, bnd_ex, bndS_ok, bndS_ex, gets_zero, gets_succ, own_non, own_bl, own_int, own_str, own_lst, own_tup, own_scr, frz_non, frz_bl, frz_int, frz_str, frz_scr, l_set0, l_setS, noOwn_nil, noOwn_cons, x_nil, x_pas, x_brk, x_cont, x_retN, x_ret, x_exp, x_set, x_unp, x_ite, x_app, x_apS, x_ext, nown_ok, seq_nx, seq_none, s_neg, s_len_lst, s_len_tup, s_len_scr, s_int_bl, s_int_int, s_add_int, s_sub_int, s_mul_l, s_mul_r, sm_48271, sm_10, sm_5, s_fdiv_int, s_mod_int, s_pow9, s_lt_int, s_le_int, s_gt_int, s_ge_int, s_eq_int, s_ne_int, s_find, s_index, s_in_str, s_nin_str, rcv_find, rcv_index, rcv_join, rcv_add, rcv_sub, rcv_mul, rcv_fdiv, rcv_mod, rcv_pow, rcv_eq, rcv_ne, rcv_lt, rcv_le, rcv_gt, rcv_ge, rcv_in, rcv_nin, t_bl, x_lst, x_tup, x_scr, i_str, i_lst, i_tup, ty_ii, ty_bi, ty_in, ty_ib, ty_bb, List.map_cons, List.map_nil, List.cons_append, List.nil_append, List.append_nil, List.replicate_succ, List.replicate_zero, List.length_cons, List.length_nil, List.all_cons, List.all_nil, List.contains_nil, List.isEmpty_nil, Bool.not_false, Bool.not_true, Bool.and_true, Bool.true_and, Bool.and_false, Bool.false_and, Bool.or_true, Bool.true_or, Bool.or_false, Bool.false_or, Bool.false_eq_true, Bool.and_self, Bool.or_self, Option.map_some, Option.map_none, and_self, and_true, true_and, era_nil, era_s, era_n, pur_nil, pur_s, pur_n, D.erase, eraseL, D.pure, pureL, D.closed, closedL, s_eq_str, s_ne_str, wq_one_one, wq_one_row, wq_one_or, wq_one_many, wq_one_maybe, wq_row_one, wq_row_row, wq_row_or, wq_row_many, wq_row_maybe, wq_or_one, wq_or_row, wq_or_or, wq_or_many, wq_or_maybe, wq_many_one, wq_many_row, wq_many_or, wq_many_many, wq_many_maybe, wq_maybe_one, wq_maybe_row, wq_maybe_or, wq_maybe_many, wq_maybe_maybe, s_in_ints, s_nin_ints, s_sorted_ints, s_eq_ints, s_min, s_eq_bl, s_ne_bl, intL_app, t_lst, s_in_two, g2, hb, hd, he, g21, g22, g23, hz, t3, frz_lst oP, hc, fz, frz_lst (encs_own _), frz_lst, at0, at1, frz_tup, am, ay, m3, m4, y3, y4] <;> first | exact W_some ⟨_, rfl, _, _, rfl, gives_lst _ _, m1⟩ | exact W_some ⟨_, rfl, _, _, rfl, gives_lst _ _, m2⟩ | exact W_some ⟨_, rfl, _, _, rfl, gives_lst _ _, y1⟩ | exact W_some ⟨_, rfl, _, _, rfl, gives_lst _ _, y2⟩
      | false =>
        simp only [call1, ev.eq_1, ev.eq_2, ev.eq_3, ev.eq_4, ev.eq_5, ev.eq_6, ev.eq_7, ev.eq_8, ev.eq_9, ev.eq_10, ev.eq_11, ev.eq_12, ev.eq_13, ev.eq_14, ev.eq_15, ev.eq_16, ev.eq_17, ev.eq_18, ev.eq_19, ev.eq_20, ev.eq_21, ev.eq_22, ev.eq_23, ev.eq_24, ev.eq_25, ev.eq_28, ev.eq_29, ev.eq_30, ev.eq_31, ev.eq_32, ev.eq_33, ev.eq_34, ev.eq_35, evs, eva, evt, ended, outsOf, Il.start, okIO, called, backs, Il.fin, sets, optR, IE.isNop, chg, place, nodeOk, atP, setP, chgAt, ownLst, ownDct, unpD, LQ, reduceIte, reduceCtorEq, Nat.reduceSub, Nat.reduceAdd, Int.reduceLT, Int.reduceLE, Int.reduceNeg, decide_true, decide_false, ite_true, ite_false, if_true, if_false, bnd_ok, bnd_ex, bndS_ok, bndS_ex, gets_zero, gets_succ, own_non, own_bl, own_int, own_str, own_lst, own_tup, own_scr, frz_non, frz_bl, frz_int, frz_str, frz_scr, l_set0, l_setS, noOwn_nil, noOwn_cons, x_nil, x_pas, x_brk, x_cont, x_retN, x_ret, x_exp, x_set, x_unp, x_ite, x_app, x_apS, x_ext, nown_ok, seq_nx, seq_none, s_neg, s_len_lst, s_len_tup, s_len_scr, s_int_bl, s_int_int, s_add_int, s_sub_int, s_mul_l, s_mul_r, sm_48271, sm_10, sm_5, s_fdiv_int, s_mod_int, s_pow9, s_lt_int, s_le_int, s_gt_int, s_ge_int, s_eq_int, s_ne_int, s_find, s_index, s_in_str, s_nin_str, rcv_find, rcv_index, rcv_join, rcv_add, rcv_sub, rcv_mul, rcv_fdiv, rcv_mod, rcv_pow, rcv_eq, rcv_ne, rcv_lt, rcv_le, rcv_gt, rcv_ge, rcv_in, rcv_nin, t_bl, x_lst, x_tup, x_scr, i_str, i_lst, i_tup, ty_ii, ty_bi, ty_in, ty_ib, ty_bb, List.map_cons, List.map_nil, List.cons_append, List.nil_append, List.append_nil, List.replicate_succ, List.replicate_zero, List.length_cons, List.length_nil, List.all_cons, List.all_nil, List.contains_nil, List.isEmpty_nil, Bool.not_false, Bool.not_true, Bool.and_true, Bool.true_and, Bool.and_false, Bool.false_and, Bool.or_true, Bool.true_or, Bool.or_false, Bool.false_or, Bool.false_eq_true, Bool.and_self, Bool.or_self, Option.map_some, Option.map_none, and_self, and_true, true_and, era_nil, era_s, era_n, pur_nil, pur_s, pur_n, D.erase, eraseL, D.pure, pureL, D.closed, closedL, s_eq_str, s_ne_str, wq_one_one, wq_one_row, wq_one_or, wq_one_many, wq_one_maybe, wq_row_one, wq_row_row, wq_row_or, wq_row_many, wq_row_maybe, wq_or_one, wq_or_row, wq_or_or, wq_or_many, wq_or_maybe, wq_many_one, wq_many_row, wq_many_or, wq_many_many, wq_many_maybe, wq_maybe_one, wq_maybe_row, wq_maybe_or, wq_maybe_many, wq_maybe_maybe, s_in_ints, s_nin_ints, s_sorted_ints, s_eq_ints, s_min, s_eq_bl, s_ne_bl, intL_app, t_lst, s_in_two, g2, hb]
        refine W_for1 (q := true) (by simp only [call1, ev.eq_1, ev.eq_2, ev.eq_3, ev.eq_4, ev.eq_5, ev.eq_6, ev.eq_7, ev.eq_8, ev.eq_9, ev.eq_10, ev.eq_11, ev.eq_12, ev.eq_13, ev.eq_14, ev.eq_15, ev.eq_16, ev.eq_17, ev.eq_18, ev.eq_19, ev.eq_20, ev.eq_21, ev.eq_22, ev.eq_23, ev.eq_24, ev.eq_25, ev.eq_28, ev.eq_29, ev.eq_30, ev.eq_31, ev.eq_32, ev.eq_33, ev.eq_34, ev.eq_35, evs, eva, evt, ended, outsOf, Il.start, okIO, called, backs, Il.fin, sets, optR, IE.isNop, chg, place, nodeOk, atP, setP, chgAt, ownLst, ownDct, unpD, LQ, reduceIte, reduceCtorEq, Nat.reduceSub, Nat.reduceAdd, Int.reduceLT, Int.reduceLE, Int.reduceNeg, decide_true, decide_false, ite_true, ite_false, if_true, if_false, bnd_ok, bnd_ex, bndS_ok, bndS_ex, gets_zero, gets_succ, own_non, own_bl, own_int, own_str, own_lst, own_tup, own_scr, frz_non, frz_bl, frz_int, frz_str, frz_scr, l_set0, l_setS, noOwn_nil, noOwn_cons, x_nil, x_pas, x_brk, x_cont, x_retN, x_ret, x_exp, x_set, x_unp, x_ite, x_app, x_apS, x_ext, nown_ok, seq_nx, seq_none, s_neg, s_len_lst, s_len_tup, s_len_scr, s_int_bl, s_int_int, s_add_int, s_sub_int, s_mul_l, s_mul_r, sm_48271, sm_10, sm_5, s_fdiv_int, s_mod_int, s_pow9, s_lt_int, s_le_int, s_gt_int, s_ge_int, s_eq_int, s_ne_int, s_find, s_index, s_in_str, s_nin_str, rcv_find, rcv_index, rcv_join, rcv_add, rcv_sub, rcv_mul, rcv_fdiv, rcv_mod, rcv_pow, rcv_eq, rcv_ne, rcv_lt, rcv_le, rcv_gt, rcv_ge, rcv_in, rcv_nin, t_bl, x_lst, x_tup, x_scr, i_str, i_lst, i_tup, ty_ii, ty_bi, ty_in, ty_ib, ty_bb, List.map_cons, List.map_nil, List.cons_append, List.nil_append, List.append_nil, List.replicate_succ, List.replicate_zero, List.length_cons, List.length_nil, List.all_cons, List.all_nil, List.contains_nil, List.isEmpty_nil, Bool.not_false, Bool.not_true, Bool.and_true, Bool.true_and, Bool.and_false, Bool.false_and, Bool.or_true, Bool.true_or, Bool.or_false, Bool.false_or, Bool.false_eq_true, Bool.and_self, Bool.or_self, Option.map_some, Option.map_none, and_self, and_true, true_and, era_nil, era_s, era_n, pur_nil, pur_s, pur_n, D.erase, eraseL, D.pure, pureL, D.closed, closedL, s_eq_str, s_ne_str, wq_one_one, wq_one_row, wq_one_or, wq_one_many, wq_one_maybe, wq_row_one, wq_row_row, wq_row_or, wq_row_many, wq_row_maybe, wq_or_one, wq_or_row, wq_or_or, wq_or_many, wq_or_maybe, wq_many_one, wq_many_row, wq_many_or, wq_many_many, wq_many_maybe, wq_maybe_one, wq_maybe_row, wq_maybe_or, wq_maybe_many, wq_maybe_maybe, s_in_ints, s_nin_ints, s_sorted_ints, s_eq_ints, s_min, s_eq_bl, s_ne_bl, intL_app, t_lst, s_in_two] <;> rfl) (i_rng1 (b62_ok (by omega) (by omega))) rfl (fun i e => ∃ (lp : List Pat) (room : Int) (v5 : Option D), e = [some (.scr ns), some (.lst false (strL S)), some (.lst o (strL pool)), some (.int num), some (.lst true (encs held)), v5, v6, none, some (.lst true (encs lp)), none, some (.int room)] ∧ Held lp i) ⟨[], _, _, rfl, trivial, by simp, by simp [sizeL]⟩ ?_ ?_
        · rintro i x e hx ⟨lp, room, v5, rfl, hh⟩
          obtain ⟨hi, rfl⟩ := rng_at hx
          obtain ⟨ck, gk⟩ := ex_cell_at ns (21 + (0 + (i : Int))) (by omega)
          obtain ⟨lp', room', gg, hh'⟩ := ex_grown n hS hh (by omega) ck room
          simp only [call1, ev.eq_1, ev.eq_2, ev.eq_3, ev.eq_4, ev.eq_5, ev.eq_6, ev.eq_7, ev.eq_8, ev.eq_9, ev.eq_10, ev.eq_11, ev.eq_12, ev.eq_13, ev.eq_14, ev.eq_15, ev.eq_16, ev.eq_17, ev.eq_18, ev.eq_19, ev.eq_20, ev.eq_21, ev.eq_22, ev.eq_23, ev.eq_24, ev.eq_25, ev.eq_28, ev.eq_29, ev.eq_30, ev.eq_31, ev.eq_32, ev.eq_33, ev.eq_34, ev.eq_35, evs, eva, evt, ended, outsOf, Il.start, okIO, called, backs, Il.fin, sets, optR, IE.isNop, chg, place, nodeOk, atP, setP, chgAt, ownLst, ownDct, unpD, LQ, reduceIte, reduceCtorEq, Nat.reduceSub, Nat.reduceAdd, Int.reduceLT, Int.reduceLE, Int.reduceNeg, decide_true, decide_false, ite_true, ite_false, if_true, if_false, bnd_ok, bnd_ex, bndS_ok, bndS_ex, gets_zero, gets_succ, own_non, own_bl, own_int, own_str, own_lst, own_tup, own_scr, frz_non, frz_bl, frz_int, frz_str, frz_scr, l_set0, l_setS, noOwn_nil, noOwn_cons, x_nil, x_pas, x_brk, x_cont, x_retN, x_ret, x_exp, x_set, x_unp, x_ite, x_app, x_apS, x_ext, nown_ok, seq_nx, seq_none, s_neg, s_len_lst, s_len_tup, s_len_scr, s_int_bl, s_int_int, s_add_int, s_sub_int, s_mul_l, s_mul_r, sm_48271, sm_10, sm_5, s_fdiv_int, s_mod_int, s_pow9, s_lt_int, s_le_int, s_gt_int, s_ge_int, s_eq_int, s_ne_int, s_find, s_index, s_in_str, s_nin_str, rcv_find, rcv_index, rcv_join, rcv_add, rcv_sub, rcv_mul, rcv_fdiv, rcv_mod, rcv_pow, rcv_eq, rcv_ne, rcv_lt, rcv_le, rcv_gt, rcv_ge, rcv_in, rcv_nin, t_bl, x_lst, x_tup, x_scr, i_str, i_lst, i_tup, ty_ii, ty_bi, ty_in, ty_ib, ty_bb, List.map_cons, List.map_nil, List.cons_append, List.nil_append, List.append_nil, List.replicate_succ, List.replicate_zero, List.length_cons, List.length_nil, List.all_cons, List.all_nil, List.contains_nil, List.isEmpty_nil, Bool.not_false, Bool.not_true, Bool.and_true, Bool.true_and, Bool.and_false, Bool.false_and, Bool.or_true, Bool.true_or, Bool.or_false, Bool.false_or, Bool.false_eq_true, Bool.and_self, Bool.or_self, Option.map_some, Option.map_none, and_self, and_true, true_and, era_nil, era_s, era_n, pur_nil, pur_s, pur_n, D.erase, eraseL, D.pure, pureL, D.closed, closedL, s_eq_str, s_ne_str, wq_one_one, wq_one_row, wq_one_or, wq_one_many, wq_one_maybe, wq_row_one, wq_row_row, wq_row_or, wq_row_many, wq_row_maybe, wq_or_one, wq_or_row, wq_or_or, wq_or_many, wq_or_maybe, wq_many_one, wq_many_row, wq_many_or, wq_many_many, wq_many_maybe, wq_maybe_one, wq_maybe_row, wq_maybe_or, wq_maybe_many, wq_maybe_maybe, s_in_ints, s_nin_ints, s_sorted_ints, s_eq_ints, s_min, s_eq_bl, s_ne_bl, intL_app, t_lst, s_in_two, gk, gg]
          exact W_nx ⟨lp', room', _, rfl, hh'⟩
        · rintro e ⟨lp, room, v5, rfl, hh⟩
          rw [range_len] at hh
          obtain ⟨h1, h2, h3⟩ := hh
          have e8 : (8 : Int).toNat = 8 := rfl
          have c2' : cutL (encs lp) none (some 2) = encs (lp.take 2) := by
            rw [encs_map, cut_map, encs_map]
            congr 1
            exact cut_take lp 2
          have ts := take_sizeL lp 2
          have tl := leavesL_size (lp.take 2)
          have td := deepL_size (lp.take 2)
          have ff : Few (lp.take 2) := ⟨take_ok h1 2, by rw [List.length_take]; omega, by omega, by omega, by omega⟩
          obtain ⟨m1, m2, m3, m4⟩ := fin true _ ff
          cases hd : (c2 / 12 % 2 == 1) <;> simp only [call1, ev.eq_1, ev.eq_2, ev.eq_3, ev.eq_4, ev.eq_5, ev.eq_6, ev.eq_7, ev.eq_8, ev.eq_9, ev.eq_10, ev.eq_11, ev.eq_12, ev.eq_13, ev.eq_14, ev.eq_15, ev.eq_16, ev.eq_17, ev.eq_18, ev.eq_19, ev.eq_20, ev.eq_21, ev.eq_22, ev.eq_23, ev.eq_24, ev.eq_25, ev.eq_28, ev.eq_29, ev.eq_30, ev.eq_31, ev.eq_32, ev.eq_33, ev.eq_34, ev.eq_35, evs, eva, evt, ended, outsOf, Il.start, okIO, called, backs, Il.fin, sets, optR, IE.isNop, chg, place, nodeOk, atP, setP, chgAt, ownLst, ownDct, unpD, LQ, reduceIte, reduceCtorEq, Nat.reduceSub, Nat.reduceAdd, Int.reduceLT, Int.reduceLE, Int.reduceNeg, decide_true, decide_false, ite_true, ite_false, if_true, if_false, bnd_ok, bnd_ex, bndS_ok, bndS_ex, gets_zero, gets_succ, own_non, own_bl, own_int, own_str, own_lst, own_tup, own_scr, frz_non, frz_bl, frz_int, frz_str, frz_scr, l_set0, l_setS, noOwn_nil, noOwn_cons, x_nil, x_pas, x_brk, x_cont, x_retN, x_ret, x_exp, x_set, x_unp, x_ite, x_app, x_apS, x_ext, nown_ok, seq_nx, seq_none, s_neg, s_len_lst, s_len_tup, s_len_scr, s_int_bl, s_int_int, s_add_int, s_sub_int, s_mul_l, s_mul_r, sm_48271, sm_10, sm_5, s_fdiv_int, s_mod_int, s_pow9, s_lt_int, s_le_int, s_gt_int, s_ge_int, s_eq_int, s_ne_int, s_find, s_index, s_in_str, s_nin_str, rcv_find, rcv_index, rcv_join, rcv_add, rcv_sub, rcv_mul, rcv_fdiv, rcv_mod, rcv_pow, rcv_eq, rcv_ne, rcv_lt, rcv_le, rcv_gt, rcv_ge, rcv_in, rcv_nin, t_bl, x_lst, x_tup, x_scr, i_str, i_lst, i_tup, ty_ii, ty_bi, ty_in, ty_ib, ty_bb, List.map_cons, List.map_nil, List.cons_append, List.nil_append, List.append_nil, List.replicate_succ, List.replicate_zero, List.length_cons, List.length_nil, List.all_cons, List.all_nil, List.contains_nil, List.isEmpty_nil, Bool.not_false, Bool.not_true, Bool.and_true, Bool.true_and, Bool.and_false, Bool.false_and, Bool.or_true, Bool.true_or, Bool.or_false, Bool.false_or, Bool.false_eq_true, Bool.and_self, Bool.or_self, Option.map_some, Option.map_none, and_self, and_true, true_and, era_nil, era_s, era_n, pur_nil, pur_s, pur_n, D.erase, eraseL, D.pure, pureL, D.closed, closedL, s_eq_str, s_ne_str, wq_one_one, wq_one_row, wq_one_or, wq_one_many, wq_one_maybe, wq_row_one, wq_row_row, wq_row_or, wq_row_many, wq_row_maybe, wq_or_one, wq_or_row, wq_or_or, wq_or_many, wq_or_maybe, wq_many_one, wq_many_row, wq_many_or, wq_many_many, wq_many_maybe, wq_maybe_one, wq_maybe_row, wq_maybe_or, wq_maybe_many, wq_maybe_maybe, s_in_ints, s_nin_ints, s_sorted_ints, s_eq_ints, s_min, s_eq_bl, s_ne_bl, intL_app, t_lst, s_in_two, g2, hd, optI, y_lst (encs_own lp), c2', m3, m4] <;> first | exact W_some ⟨_, rfl, _, _, rfl, gives_lst _ _, m1⟩ | exact W_some ⟨_, rfl, _, _, rfl, gives_lst _ _, m2⟩)
  exact ⟨d, ps, r1, r2, r3⟩
end Il.Q
set_option Elab.async false
set_option linter.all false
set_option maxRecDepth 100000
set_option maxHeartbeats 1000000
namespace Il.Q
open Il
/-- what a part of a long one may be -/
def parts8 (a b : Pat) : List Pat := [.row [], a, .many a, .maybe a, .row [a, b], .or [a, b]] ++ [.maybe (.row [a, .many b]), .or [.row [a, b], a]]
structure Part (p : Pat) : Prop where
  ok : p.Ok
  leaves : p.leaves.length ≤ 3
  deep : p.deep ≤ 3
  size : p.size ≤ 5
theorem parts8_ok {s s' : List Nat} (h : (Pat.one s).Ok) (h' : (Pat.one s').Ok) : ∀ p ∈ parts8 (.one s) (.one s'), Part p := by
  intro p hp
  simp only [parts8, List.cons_append, List.nil_append, List.mem_cons, List.not_mem_nil, or_false] at hp
  have o1 : ∀ p : Pat, (Pat.many p).Ok ↔ p.Ok := fun p => by simp only [Pat.Ok]
  have o2 : ∀ p : Pat, (Pat.maybe p).Ok ↔ p.Ok := fun p => by simp only [Pat.Ok]
  have o3 : ∀ ps, (Pat.row ps).Ok ↔ OkL ps := fun p => by simp only [Pat.Ok]
  have o4 : ∀ ps, (Pat.or ps).Ok ↔ ps ≠ [] ∧ OkL ps := fun p => by simp only [Pat.Ok]
  rcases hp with rfl | rfl | rfl | rfl | rfl | rfl | rfl | rfl
  · exact ⟨trivial, by simp [Pat.leaves, leavesL], by simp [Pat.deep, deepL], by simp [Pat.size, sizeL]⟩
  · exact ⟨h, by simp [Pat.leaves], by simp [Pat.deep], by simp [Pat.size]⟩
  · exact ⟨h, by simp [Pat.leaves], by simp [Pat.deep], by simp [Pat.size]⟩
  · exact ⟨h, by simp [Pat.leaves], by simp [Pat.deep], by simp [Pat.size]⟩
  · exact ⟨⟨h, h', trivial⟩, by simp [Pat.leaves, leavesL], by simp [Pat.deep, deepL], by simp [Pat.size, sizeL]⟩
  · exact ⟨⟨by simp, h, h', trivial⟩, by simp [Pat.leaves, leavesL], by simp [Pat.deep, deepL], by simp [Pat.size, sizeL]⟩
  · exact ⟨⟨h, h', trivial⟩, by simp [Pat.leaves, leavesL], by simp [Pat.deep, deepL], by simp [Pat.size, sizeL]⟩
  · exact ⟨⟨by simp, ⟨h, h', trivial⟩, h, trivial⟩, by simp [Pat.leaves, leavesL], by simp [Pat.deep, deepL], by simp [Pat.size, sizeL]⟩
structure Pts (ps : List Pat) (k : Nat) : Prop where
  ok : OkL ps
  len : ps.length = k
  leaves : (leavesL ps).length ≤ 3 * k
  deep : deepL ps ≤ 3
  size : sizeL ps ≤ 5 * k
theorem Pts.add {ps : List Pat} {k : Nat} (h : Pts ps k) {p : Pat} (hp : Part p) : Pts (ps ++ [p]) (k + 1) := by
  obtain ⟨a1, a2, a3, a4⟩ := hp
  obtain ⟨b1, b2, b3, b4, b5⟩ := h
  refine ⟨okL_app.mpr ⟨b1, a1⟩, by simp [b2], ?_, ?_, ?_⟩
  · rw [leavesL_app]
    simp only [leavesL, List.append_nil, List.length_append]
    omega
  · rw [deepL_app]
    simp only [deepL]
    omega
  · rw [sizeL_app]
    simp only [sizeL]
    omega
/-- the whole, and a short one beside -/
theorem long_good {W : Pat} {c0 c1 : Nat} (k0 : c0 < 128) (k1 : c1 < 128) (h1 : W.Ok) (h2 : W.leaves.length ≤ 24) (h3 : W.deep ≤ 6) (h4 : W.size ≤ 50) : Good [W] ∧ Good [.row (ones [c0, c1]), W] ∧ Good [W, .row (ones [c0, c1])] := by
  obtain ⟨b1, b2, b3, b4⟩ := row_ok (t := [c0, c1]) (by
    intro c hc
    simp only [List.mem_cons, List.not_mem_nil, or_false] at hc
    rcases hc with rfl | rfl
    · exact k0
    · exact k1)
  simp only [List.length_cons, List.length_nil] at b2 b4
  refine ⟨⟨⟨h1, trivial⟩, by simp, by simp, ?_, ?_, ?_⟩, ⟨⟨b1, h1, trivial⟩, by simp, by simp, ?_, ?_, ?_⟩, ⟨⟨h1, b1, trivial⟩, by simp, by simp, ?_, ?_, ?_⟩⟩
  all_goals simp only [leavesL, deepL, sizeL, List.length_append, List.length_nil, b2, b3, b4] <;> omega
theorem eight {x : D} {p : Pat → Prop} {a b : Pat} (h : x ∈ encs (parts8 a b)) (hp : ∀ q ∈ parts8 a b, p q) : ∃ q, x = q.enc ∧ p q := by
  rw [encs_map] at h
  obtain ⟨q, hq, rfl⟩ := List.mem_map.mp h
  exact ⟨q, rfl, hp q hq⟩
theorem ex_long (n : Nat) (ns : List Int) {S : List (List Nat)} (hS : Groups S) : ∃ d ps, run TT (n + 4) i_long [.scr ns, .lst false (strL S)] = some (.ret d []) ∧ Gives d ps ∧ Good ps := by
  obtain ⟨c2, g2⟩ := ex_cell_at ns 2 (by omega)
  have sm2 : small64 2 = true := by decide
  obtain ⟨s0, a0, _, b0, _, l0⟩ := groups_at hS (i := 0) (by omega)
  obtain ⟨s1, a1, _, b1, _, l1⟩ := groups_at hS (i := 1) (by omega)
  obtain ⟨k0, t0, rfl⟩ : ∃ c t, s0 = c :: t := by
    cases s0 with
    | nil => exact absurd rfl b0
    | cons c t => exact ⟨c, t, rfl⟩
  obtain ⟨k1, t1, rfl⟩ : ∃ c t, s1 = c :: t := by
    cases s1 with
    | nil => exact absurd rfl b1
    | cons c t => exact ⟨c, t, rfl⟩
  obtain ⟨o, r1, d, ps, rfl, r2, r3⟩ := run_W (P := fun o => ∃ d ps, o = .ret d [] ∧ Gives d ps ∧ Good ps) (n := n + 3) (f := i_long) (T := TT) (ds := [.scr ns, .lst false (strL S)]) (fd := d_long) rfl rfl (by
    simp only [d_long, b_long]
    have rg : 3 ≤ 3 + c2 % 6 ∧ 3 + c2 % 6 ≤ 8 := by omega
    generalize hk : 3 + c2 % 6 = count at rg
    simp only [call1, ev.eq_1, ev.eq_2, ev.eq_3, ev.eq_4, ev.eq_5, ev.eq_6, ev.eq_7, ev.eq_8, ev.eq_9, ev.eq_10, ev.eq_11, ev.eq_12, ev.eq_13, ev.eq_14, ev.eq_15, ev.eq_16, ev.eq_17, ev.eq_18, ev.eq_19, ev.eq_20, ev.eq_21, ev.eq_22, ev.eq_23, ev.eq_24, ev.eq_25, ev.eq_28, ev.eq_29, ev.eq_30, ev.eq_31, ev.eq_32, ev.eq_33, ev.eq_34, ev.eq_35, evs, eva, evt, ended, outsOf, Il.start, okIO, called, backs, Il.fin, sets, optR, IE.isNop, chg, place, nodeOk, atP, setP, chgAt, ownLst, ownDct, unpD, LQ, reduceIte, reduceCtorEq, Nat.reduceSub, Nat.reduceAdd, Int.reduceLT, Int.reduceLE, Int.reduceNeg, decide_true, decide_false, ite_true, ite_false, if_true, if_false, bnd_ok, bnd_ex, bndS_ok, bndS_ex, gets_zero, gets_succ, own_non, own_bl, own_int, own_str, own_lst, own_tup, own_scr, frz_non, frz_bl, frz_int, frz_str, frz_scr, l_set0, l_setS, noOwn_nil, noOwn_cons, x_nil, x_pas, x_brk, x_cont, x_retN, x_ret, x_exp, x_set, x_unp, x_ite, x_app, x_apS, x_ext, nown_ok, seq_nx, seq_none, s_neg, s_len_lst, s_len_tup, s_len_scr, s_int_bl, s_int_int, s_add_int, s_sub_int, s_mul_l, s_mul_r, sm_48271, sm_10, sm_5, s_fdiv_int, s_mod_int, s_pow9, s_lt_int, s_le_int, s_gt_int, s_ge_int, s_eq_int, s_ne_int, s_find, s_index, s_in_str, s_nin_str, rcv_find, rcv_index, rcv_join, rcv_add, rcv_sub, rcv_mul, rcv_fdiv, rcv_mod, rcv_pow, rcv_eq, rcv_ne, rcv_lt, rcv_le, rcv_gt, rcv_ge, rcv_in, rcv_nin, t_bl, x_lst, x_tup, x_scr, i_str, i_lst, i_tup, ty_ii, ty_bi, ty_in, ty_ib, ty_bb, List.map_cons, List.map_nil, List.cons_append, List.nil_append, List.append_nil, List.replicate_succ, List.replicate_zero, List.length_cons, List.length_nil, List.all_cons, List.all_nil, List.contains_nil, List.isEmpty_nil, Bool.not_false, Bool.not_true, Bool.and_true, Bool.true_and, Bool.and_false, Bool.false_and, Bool.or_true, Bool.true_or, Bool.or_false, Bool.false_or, Bool.false_eq_true, Bool.and_self, Bool.or_self, Option.map_some, Option.map_none, and_self, and_true, true_and, era_nil, era_s, era_n, pur_nil, pur_s, pur_n, D.erase, eraseL, D.pure, pureL, D.closed, closedL, s_eq_str, s_ne_str, wq_one_one, wq_one_row, wq_one_or, wq_one_many, wq_one_maybe, wq_row_one, wq_row_row, wq_row_or, wq_row_many, wq_row_maybe, wq_or_one, wq_or_row, wq_or_or, wq_or_many, wq_or_maybe, wq_many_one, wq_many_row, wq_many_or, wq_many_many, wq_many_maybe, wq_maybe_one, wq_maybe_row, wq_maybe_or, wq_maybe_many, wq_maybe_maybe, s_in_ints, s_nin_ints, s_sorted_ints, s_eq_ints, s_min, s_eq_bl, s_ne_bl, intL_app, t_lst, s_in_two, g2, s_mul_l sm2]
    refine W_for1 (q := true) (by simp only [call1, ev.eq_1, ev.eq_2, ev.eq_3, ev.eq_4, ev.eq_5, ev.eq_6, ev.eq_7, ev.eq_8, ev.eq_9, ev.eq_10, ev.eq_11, ev.eq_12, ev.eq_13, ev.eq_14, ev.eq_15, ev.eq_16, ev.eq_17, ev.eq_18, ev.eq_19, ev.eq_20, ev.eq_21, ev.eq_22, ev.eq_23, ev.eq_24, ev.eq_25, ev.eq_28, ev.eq_29, ev.eq_30, ev.eq_31, ev.eq_32, ev.eq_33, ev.eq_34, ev.eq_35, evs, eva, evt, ended, outsOf, Il.start, okIO, called, backs, Il.fin, sets, optR, IE.isNop, chg, place, nodeOk, atP, setP, chgAt, ownLst, ownDct, unpD, LQ, reduceIte, reduceCtorEq, Nat.reduceSub, Nat.reduceAdd, Int.reduceLT, Int.reduceLE, Int.reduceNeg, decide_true, decide_false, ite_true, ite_false, if_true, if_false, bnd_ok, bnd_ex, bndS_ok, bndS_ex, gets_zero, gets_succ, own_non, own_bl, own_int, own_str, own_lst, own_tup, own_scr, frz_non, frz_bl, frz_int, frz_str, frz_scr, l_set0, l_setS, noOwn_nil, noOwn_cons, x_nil, x_pas, x_brk, x_cont, x_retN, x_ret, x_exp, x_set, x_unp, x_ite, x_app, x_apS, x_ext, nown_ok, seq_nx, seq_none, s_neg, s_len_lst, s_len_tup, s_len_scr, s_int_bl, s_int_int, s_add_int, s_sub_int, s_mul_l, s_mul_r, sm_48271, sm_10, sm_5, s_fdiv_int, s_mod_int, s_pow9, s_lt_int, s_le_int, s_gt_int, s_ge_int, s_eq_int, s_ne_int, s_find, s_index, s_in_str, s_nin_str, rcv_find, rcv_index, rcv_join, rcv_add, rcv_sub, rcv_mul, rcv_fdiv, rcv_mod, rcv_pow, rcv_eq, rcv_ne, rcv_lt, rcv_le, rcv_gt, rcv_ge, rcv_in, rcv_nin, t_bl, x_lst, x_tup, x_scr, i_str, i_lst, i_tup, ty_ii, ty_bi, ty_in, ty_ib, ty_bb, List.map_cons, List.map_nil, List.cons_append, List.nil_append, List.append_nil, List.replicate_succ, List.replicate_zero, List.length_cons, List.length_nil, List.all_cons, List.all_nil, List.contains_nil, List.isEmpty_nil, Bool.not_false, Bool.not_true, Bool.and_true, Bool.true_and, Bool.and_false, Bool.false_and, Bool.or_true, Bool.true_or, Bool.or_false, Bool.false_or, Bool.false_eq_true, Bool.and_self, Bool.or_self, Option.map_some, Option.map_none, and_self, and_true, true_and, era_nil, era_s, era_n, pur_nil, pur_s, pur_n, D.erase, eraseL, D.pure, pureL, D.closed, closedL, s_eq_str, s_ne_str, wq_one_one, wq_one_row, wq_one_or, wq_one_many, wq_one_maybe, wq_row_one, wq_row_row, wq_row_or, wq_row_many, wq_row_maybe, wq_or_one, wq_or_row, wq_or_or, wq_or_many, wq_or_maybe, wq_many_one, wq_many_row, wq_many_or, wq_many_many, wq_many_maybe, wq_maybe_one, wq_maybe_row, wq_maybe_or, wq_maybe_many, wq_maybe_maybe, s_in_ints, s_nin_ints, s_sorted_ints, s_eq_ints, s_min, s_eq_bl, s_ne_bl, intL_app, t_lst, s_in_two, hk] <;> rfl) (i_rng1 (b62_ok (by omega) (by omega))) rfl (fun i e => ∃ (ps : List Pat) (room : Int) (v5 v6 v7 v8 v9 v10 v11 : Option D), e = [some (.scr ns), some (.lst false (strL S)), some (.int c2), some (.int room), some (.lst true (encs ps)), v5, v6, v7, v8, v9, v10, v11, none, none] ∧ Pts ps i) ⟨[], _, _, _, _, _, _, _, _, rfl, trivial, rfl, by simp [leavesL], by simp [deepL], by simp [sizeL]⟩ ?_ ?_
    · rintro i x e hx ⟨ps, room, v5, v6, v7, v8, v9, v10, v11, rfl, hr⟩
      obtain ⟨hi, rfl⟩ := rng_at hx
      obtain ⟨ck, gk⟩ := ex_cell_at ns (3 + (0 + (i : Int))) (by omega)
      have m1 : 1 ≤ 1 + ck / 8 % 15 ∧ 1 + ck / 8 % 15 ≤ 15 := by omega
      have m2 : 1 ≤ 1 + ck / 120 % 15 ∧ 1 + ck / 120 % 15 ≤ 15 := by omega
      generalize hm1 : 1 + ck / 8 % 15 = z1 at m1
      generalize hm2 : 1 + ck / 120 % 15 = z2 at m2
      obtain ⟨s, e1, o1⟩ := ex_some_of (n + 2) hS m1.1 m1.2
      obtain ⟨s', e2, o2⟩ := ex_some_of (n + 2) hS m2.1 m2.2
      have ha := s_add_encs (o := false) (o' := false) (a := [.row [], .one s, .many (.one s), .maybe (.one s), .row [.one s, .one s'], .or [.one s, .one s']]) (b := [.maybe (.row [.one s, .many (.one s')]), .or [.row [.one s, .one s'], .one s]]) (by simp)
      simp only [encs, Pat.enc, List.cons_append, List.nil_append] at ha
      have p8 := parts8_ok o1 o2
      have at8 : ∀ j : Int, 0 ≤ j → j < 8 → ∃ q : Pat, atI (encs (parts8 (.one s) (.one s'))) j = some q.enc ∧ Part q := by
        intro j j0 j1
        obtain ⟨x, x1, x2, _⟩ := atI_ok (xs := encs (parts8 (.one s) (.one s'))) j0 (by rw [encs_len]; simpa [parts8] using j1)
        obtain ⟨q, rfl, hq⟩ := eight x2 p8
        exact ⟨q, x1, hq⟩
      obtain ⟨j0, j1⟩ : 0 ≤ ck % 8 ∧ ck % 8 < 8 := by omega
      generalize hj : ck % 8 = j at j0 j1
      obtain ⟨q0, x0, y0⟩ := at8 0 (by omega) (by omega)
      obtain ⟨qj, xj, yj⟩ := at8 j j0 j1
      simp only [parts8, encs, Pat.enc, List.cons_append, List.nil_append] at x0 xj
      obtain ⟨w, hw, hwm, _⟩ := atI_ok (xs := [D.int 0, .int 1, .int 1, .int 1, .int 2, .int 2, .int 2, .int 3]) j0 (by simpa using j1)
      obtain ⟨sz, rfl⟩ : ∃ sz, w = .int sz := by
        simp only [List.mem_cons, List.not_mem_nil, or_false] at hwm
        rcases hwm with h | h | h | h | h | h | h | h <;> exact ⟨_, h⟩
      have len := hr.len
      have ae0 := a_enc (ps := ps) q0 (by omega)
      have aej := a_enc (ps := ps) qj (by omega)
      cases hle : decide (sz ≤ room) with
      | false =>
        simp only [call1, ev.eq_1, ev.eq_2, ev.eq_3, ev.eq_4, ev.eq_5, ev.eq_6, ev.eq_7, ev.eq_8, ev.eq_9, ev.eq_10, ev.eq_11, ev.eq_12, ev.eq_13, ev.eq_14, ev.eq_15, ev.eq_16, ev.eq_17, ev.eq_18, ev.eq_19, ev.eq_20, ev.eq_21, ev.eq_22, ev.eq_23, ev.eq_24, ev.eq_25, ev.eq_28, ev.eq_29, ev.eq_30, ev.eq_31, ev.eq_32, ev.eq_33, ev.eq_34, ev.eq_35, evs, eva, evt, ended, outsOf, Il.start, okIO, called, backs, Il.fin, sets, optR, IE.isNop, chg, place, nodeOk, atP, setP, chgAt, ownLst, ownDct, unpD, LQ, reduceIte, reduceCtorEq, Nat.reduceSub, Nat.reduceAdd, Int.reduceLT, Int.reduceLE, Int.reduceNeg, decide_true, decide_false, ite_true, ite_false, if_true, if_false, bnd_ok, bnd_ex, bndS_ok, bndS_ex, gets_zero, gets_succ, own_non, own_bl, own_int, own_str, own_lst, own_tup, own_scr, frz_non, frz_bl, frz_int, frz_str, frz_scr, l_set0, l_setS, noOwn_nil, noOwn_cons, x_nil, x_pas, x_brk, x_cont, x_retN, x_ret, x_exp, x_set, x_unp, x_ite, x_app, x_apS, x_ext, nown_ok, seq_nx, seq_none, s_neg, s_len_lst, s_len_tup, s_len_scr, s_int_bl, s_int_int, s_add_int, s_sub_int, s_mul_l, s_mul_r, sm_48271, sm_10, sm_5, s_fdiv_int, s_mod_int, s_pow9, s_lt_int, s_le_int, s_gt_int, s_ge_int, s_eq_int, s_ne_int, s_find, s_index, s_in_str, s_nin_str, rcv_find, rcv_index, rcv_join, rcv_add, rcv_sub, rcv_mul, rcv_fdiv, rcv_mod, rcv_pow, rcv_eq, rcv_ne, rcv_lt, rcv_le, rcv_gt, rcv_ge, rcv_in, rcv_nin, t_bl, x_lst, x_tup, x_scr, i_str, i_lst, i_tup, ty_ii, ty_bi, ty_in, ty_ib, ty_bb, List.map_cons, List.map_nil, List.cons_append, List.nil_append, List.append_nil, List.replicate_succ, List.replicate_zero, List.length_cons, List.length_nil, List.all_cons, List.all_nil, List.contains_nil, List.isEmpty_nil, Bool.not_false, Bool.not_true, Bool.and_true, Bool.true_and, Bool.and_false, Bool.false_and, Bool.or_true, Bool.true_or, Bool.or_false, Bool.false_or, Bool.false_eq_true, Bool.and_self, Bool.or_self, Option.map_some, Option.map_none, and_self, and_true, true_and, era_nil, era_s, era_n, pur_nil, pur_s, pur_n, D.erase, eraseL, D.pure, pureL, D.closed, closedL, s_eq_str, s_ne_str, wq_one_one, wq_one_row, wq_one_or, wq_one_many, wq_one_maybe, wq_row_one, wq_row_row, wq_row_or, wq_row_many, wq_row_maybe, wq_or_one, wq_or_row, wq_or_or, wq_or_many, wq_or_maybe, wq_many_one, wq_many_row, wq_many_or, wq_many_many, wq_many_maybe, wq_maybe_one, wq_maybe_row, wq_maybe_or, wq_maybe_many, wq_maybe_maybe, s_in_ints, s_nin_ints, s_sorted_ints, s_eq_ints, s_min, s_eq_bl, s_ne_bl, intL_app, t_lst, s_in_two, gk, hm1, hm2, e1, e2, frz_tup, frz_nil, frz_lst, ha, hj, hw, hle, at0, x0, enc_own q0, ae0]
        exact W_nx ⟨_, _, _, _, _, _, _, _, _, rfl, hr.add y0⟩
      | true =>
        simp only [call1, ev.eq_1, ev.eq_2, ev.eq_3, ev.eq_4, ev.eq_5, ev.eq_6, ev.eq_7, ev.eq_8, ev.eq_9, ev.eq_10, ev.eq_11, ev.eq_12, ev.eq_13, ev.eq_14, ev.eq_15, ev.eq_16, ev.eq_17, ev.eq_18, ev.eq_19, ev.eq_20, ev.eq_21, ev.eq_22, ev.eq_23, ev.eq_24, ev.eq_25, ev.eq_28, ev.eq_29, ev.eq_30, ev.eq_31, ev.eq_32, ev.eq_33, ev.eq_34, ev.eq_35, evs, eva, evt, ended, outsOf, Il.start, okIO, called, backs, Il.fin, sets, optR, IE.isNop, chg, place, nodeOk, atP, setP, chgAt, ownLst, ownDct, unpD, LQ, reduceIte, reduceCtorEq, Nat.reduceSub, Nat.reduceAdd, Int.reduceLT, Int.reduceLE, Int.reduceNeg, decide_true, decide_false, ite_true, ite_false, if_true, if_false, bnd_ok, bnd_ex, bndS_ok, bndS_ex, gets_zero, gets_succ, own_non, own_bl, own_int, own_str, own_lst, own_tup, own_scr, frz_non, frz_bl, frz_int, frz_str, frz_scr, l_set0, l_setS, noOwn_nil, noOwn_cons, x_nil, x_pas, x_brk, x_cont, x_retN, x_ret, x_exp, x_set, x_unp, x_ite, x_app, x_apS, x_ext, nown_ok, seq_nx, seq_none, s_neg, s_len_lst, s_len_tup, s_len_scr, s_int_bl, s_int_int, s_add_int, s_sub_int, s_mul_l, s_mul_r, sm_48271, sm_10, sm_5, s_fdiv_int, s_mod_int, s_pow9, s_lt_int, s_le_int, s_gt_int, s_ge_int, s_eq_int, s_ne_int, s_find, s_index, s_in_str, s_nin_str, rcv_find, rcv_index, rcv_join, rcv_add, rcv_sub, rcv_mul, rcv_fdiv, rcv_mod, rcv_pow, rcv_eq, rcv_ne, rcv_lt, rcv_le, rcv_gt, rcv_ge, rcv_in, rcv_nin, t_bl, x_lst, x_tup, x_scr, i_str, i_lst, i_tup, ty_ii, ty_bi, ty_in, ty_ib, ty_bb, List.map_cons, List.map_nil, List.cons_append, List.nil_append, List.append_nil, List.replicate_succ, List.replicate_zero, List.length_cons, List.length_nil, List.all_cons, List.all_nil, List.contains_nil, List.isEmpty_nil, Bool.not_false, Bool.not_true, Bool.and_true, Bool.true_and, Bool.and_false, Bool.false_and, Bool.or_true, Bool.true_or, Bool.or_false, Bool.false_or, Bool.false_eq_true, Bool.and_self, Bool.or_self, Option.map_some, Option.map_none, and_self, and_true, true_and, era_nil, era_s, era_n, pur_nil, pur_s, pur_n, D.erase, eraseL, D.pure, pureL, D.closed, closedL, s_eq_str, s_ne_str, wq_one_one, wq_one_row, wq_one_or, wq_one_many, wq_one_maybe, wq_row_one, wq_row_row, wq_row_or, wq_row_many, wq_row_maybe, wq_or_one, wq_or_row, wq_or_or, wq_or_many, wq_or_maybe, wq_many_one, wq_many_row, wq_many_or, wq_many_many, wq_many_maybe, wq_maybe_one, wq_maybe_row, wq_maybe_or, wq_maybe_many, wq_maybe_maybe, s_in_ints, s_nin_ints, s_sorted_ints, s_eq_ints, s_min, s_eq_bl, s_ne_bl, intL_app, t_lst, s_in_two, gk, hm1, hm2, e1, e2, frz_tup, frz_nil, frz_lst, ha, hj, hw, hle, at1, xj, enc_own qj, aej]
        exact W_nx ⟨_, _, _, _, _, _, _, _, _, rfl, hr.add yj⟩
    · rintro e ⟨ps, room, v5, v6, v7, v8, v9, v10, v11, rfl, hr⟩
      rw [range_len] at hr
      obtain ⟨d1, d2, d3, d4, d5⟩ := hr
      have hne : ps ≠ [] := fun e => by rw [e] at d2; simp at d2; omega
      obtain ⟨w, P, hw, pe, p1, p2, p3, p4⟩ : ∃ (w : List Nat) (P : Pat), atI [D.str [114, 111, 119], .str [111, 114]] (c2 / 6 % 2) = some (.str w) ∧ D.tup false [.str w, .lst false (encs ps)] = P.enc ∧ P.Ok ∧ P.leaves.length ≤ 24 ∧ P.deep ≤ 5 ∧ P.size ≤ 45 := by
        rcases (show c2 / 6 % 2 = 0 ∨ c2 / 6 % 2 = 1 by omega) with z | z <;> rw [z]
        · exact ⟨_, .row ps, at0 _ _, by simp only [Pat.enc], by simp only [Pat.Ok]; exact d1, by simp only [Pat.leaves]; omega, by simp only [Pat.deep]; omega, by simp only [Pat.size]; omega⟩
        · exact ⟨_, .or ps, at1 _ _ _, by simp only [Pat.enc], by simp only [Pat.Ok]; exact ⟨hne, d1⟩, by simp only [Pat.leaves]; omega, by simp only [Pat.deep]; omega, by simp only [Pat.size]; omega⟩
      obtain ⟨V, hV, v1, v2, v3, v4⟩ : ∃ V : Pat, atI [P.enc, .tup false [.str [109, 97, 110, 121], P.enc], .tup false [.str [109, 97, 121, 98, 101], P.enc]] (c2 / 12 % 3) = some V.enc ∧ V.Ok ∧ V.leaves.length ≤ 24 ∧ V.deep ≤ 6 ∧ V.size ≤ 50 := by
        rcases (show c2 / 12 % 3 = 0 ∨ c2 / 12 % 3 = 1 ∨ c2 / 12 % 3 = 2 by omega) with z | z | z <;> rw [z]
        · exact ⟨P, at0 _ _, p1, p2, by omega, by omega⟩
        · exact ⟨.many P, by rw [at1]; simp only [Pat.enc], by simp only [Pat.Ok]; exact p1, by simp only [Pat.leaves]; exact p2, by simp only [Pat.deep]; omega, by simp only [Pat.size]; omega⟩
        · exact ⟨.maybe P, by rw [at2]; simp only [Pat.enc], by simp only [Pat.Ok]; exact p1, by simp only [Pat.leaves]; exact p2, by simp only [Pat.deep]; omega, by simp only [Pat.size]; omega⟩
      obtain ⟨f1, f2, f3⟩ := long_good (l0 _ (List.mem_cons_self ..)) (l1 _ (List.mem_cons_self ..)) v1 v2 v3 v4
      obtain ⟨fin, hF, fg⟩ : ∃ fin : List Pat, atI [D.lst false [V.enc], .lst false [V.enc], .lst false [.tup false [.str [114, 111, 119], .lst false [.tup false [.str [111, 110, 101], .str [k0]], .tup false [.str [111, 110, 101], .str [k1]]]], V.enc], .lst false [V.enc, .tup false [.str [114, 111, 119], .lst false [.tup false [.str [111, 110, 101], .str [k0]], .tup false [.str [111, 110, 101], .str [k1]]]]]] (c2 / 36 % 2 * 2 + c2 / 72 % 2) = some (.lst false (encs fin)) ∧ Good fin := by
        rcases (show c2 / 36 % 2 * 2 + c2 / 72 % 2 = 0 ∨ c2 / 36 % 2 * 2 + c2 / 72 % 2 = 1 ∨ c2 / 36 % 2 * 2 + c2 / 72 % 2 = 2 ∨ c2 / 36 % 2 * 2 + c2 / 72 % 2 = 3 by omega) with z | z | z | z <;> rw [z]
        · exact ⟨[V], at0 _ _, f1⟩
        · exact ⟨[V], at1 _ _ _, f1⟩
        · exact ⟨_, at2 _ _ _ _, f2⟩
        · exact ⟨_, at3 _ _ _ _ _, f3⟩
      have a0 : atI (strL S) 0 = some (D.str (k0 :: t0)) := a0
      have a1 : atI (strL S) 1 = some (D.str (k1 :: t1)) := a1
      have x0 : ixD (.str (k0 :: t0)) (.int 0) = some (.str [k0]) := by rw [x_str (by rw [lineEq]; omega), at0]; rfl
      have x1 : ixD (.str (k1 :: t1)) (.int 0) = some (.str [k1]) := by rw [x_str (by rw [lineEq]; omega), at0]; rfl
      simp only [call1, ev.eq_1, ev.eq_2, ev.eq_3, ev.eq_4, ev.eq_5, ev.eq_6, ev.eq_7, ev.eq_8, ev.eq_9, ev.eq_10, ev.eq_11, ev.eq_12, ev.eq_13, ev.eq_14, ev.eq_15, ev.eq_16, ev.eq_17, ev.eq_18, ev.eq_19, ev.eq_20, ev.eq_21, ev.eq_22, ev.eq_23, ev.eq_24, ev.eq_25, ev.eq_28, ev.eq_29, ev.eq_30, ev.eq_31, ev.eq_32, ev.eq_33, ev.eq_34, ev.eq_35, evs, eva, evt, ended, outsOf, Il.start, okIO, called, backs, Il.fin, sets, optR, IE.isNop, chg, place, nodeOk, atP, setP, chgAt, ownLst, ownDct, unpD, LQ, reduceIte, reduceCtorEq, Nat.reduceSub, Nat.reduceAdd, Int.reduceLT, Int.reduceLE, Int.reduceNeg, decide_true, decide_false, ite_true, ite_false, if_true, if_false, bnd_ok, bnd_ex, bndS_ok, bndS_ex, gets_zero, gets_succ, own_non, own_bl, own_int, own_str, own_lst, own_tup, own_scr, frz_non, frz_bl, frz_int, frz_str, frz_scr, l_set0, l_setS, noOwn_nil, noOwn_cons, x_nil, x_pas, x_brk, x_cont, x_retN, x_ret, x_exp, x_set, x_unp, x_ite, x_app, x_apS, x_ext, nown_ok, seq_nx, seq_none, s_neg, s_len_lst, s_len_tup, s_len_scr, s_int_bl, s_int_int, s_add_int, s_sub_int, s_mul_l, s_mul_r, sm_48271, sm_10, sm_5, s_fdiv_int, s_mod_int, s_pow9, s_lt_int, s_le_int, s_gt_int, s_ge_int, s_eq_int, s_ne_int, s_find, s_index, s_in_str, s_nin_str, rcv_find, rcv_index, rcv_join, rcv_add, rcv_sub, rcv_mul, rcv_fdiv, rcv_mod, rcv_pow, rcv_eq, rcv_ne, rcv_lt, rcv_le, rcv_gt, rcv_ge, rcv_in, rcv_nin, t_bl, x_lst, x_tup, x_scr, i_str, i_lst, i_tup, ty_ii, ty_bi, ty_in, ty_ib, ty_bb, List.map_cons, List.map_nil, List.cons_append, List.nil_append, List.append_nil, List.replicate_succ, List.replicate_zero, List.length_cons, List.length_nil, List.all_cons, List.all_nil, List.contains_nil, List.isEmpty_nil, Bool.not_false, Bool.not_true, Bool.and_true, Bool.true_and, Bool.and_false, Bool.false_and, Bool.or_true, Bool.true_or, Bool.or_false, Bool.false_or, Bool.false_eq_true, Bool.and_self, Bool.or_self, Option.map_some, Option.map_none, and_self, and_true, true_and, era_nil, era_s, era_n, pur_nil, pur_s, pur_n, D.erase, eraseL, D.pure, pureL, D.closed, closedL, s_eq_str, s_ne_str, wq_one_one, wq_one_row, wq_one_or, wq_one_many, wq_one_maybe, wq_row_one, wq_row_row, wq_row_or, wq_row_many, wq_row_maybe, wq_or_one, wq_or_row, wq_or_or, wq_or_many, wq_or_maybe, wq_many_one, wq_many_row, wq_many_or, wq_many_many, wq_many_maybe, wq_maybe_one, wq_maybe_row, wq_maybe_or, wq_maybe_many, wq_maybe_maybe, s_in_ints, s_nin_ints, s_sorted_ints, s_eq_ints, s_min, s_eq_bl, s_ne_bl, intL_app, t_lst, s_in_two, frz_lst (encs_own ps), hw, frz_tup, pe, enc_own P, frz_lst, hV, enc_own V, a0, a1, x0, x1, s_mul_r sm2, hF]
      exact W_some ⟨_, rfl, _, fin, rfl, gives_lst _ _, fg⟩)
  exact ⟨d, ps, r1, r2, r3⟩
end Il.Q
set_option Elab.async false
set_option linter.all false
set_option maxRecDepth 100000
set_option maxHeartbeats 1000000
namespace Il.Q
open Il
theorem held_good {ps : List Pat} {l : Nat} (h : Held ps l) (hl : l ≤ 12) (hn : ps ≠ []) : Good ps := by
  obtain ⟨h1, h2, h3⟩ := h
  have := leavesL_size ps
  have := deepL_size ps
  exact ⟨h1, hn, h2, by omega, by omega, by omega⟩
theorem ex_patterns (n : Nat) (ns : List Int) {S : List (List Nat)} (hS : Groups S) : ∃ d ps, run TT (n + 32) i_patterns [.scr ns, .lst false (strL S)] = some (.ret d []) ∧ Gives d ps ∧ Good ps := by
  obtain ⟨c1, g1⟩ := ex_cell_at ns 1 (by omega)
  obtain ⟨dw, pw, w1, w2, w3⟩ := ex_words (n + 27) ns
  obtain ⟨dl, pl, l1, l2, l3⟩ := ex_loops n ns hS
  obtain ⟨dg, pg, k1, k2, k3⟩ := ex_long (n + 27) ns hS
  obtain ⟨s0, a0, _, b0, b1, b2⟩ := groups_at hS (i := 0) (by omega)
  have a0 : atI (strL S) 0 = some (.str s0) := a0
  have nd : (Pat.one s0).Ok := ⟨b0, (groups_apart hS (i := 0) (by
    have h5 := hS.five
    obtain ⟨s, hs⟩ : ∃ s, S[0]? = some s := ⟨_, List.getElem?_eq_getElem (by omega)⟩
    have : atI (strL S) 0 = some (.str s) := by
      unfold atI
      rw [ixN_ok (by omega) (by rw [strs_len]; omega)]
      show (strL S)[0]? = _
      unfold strL
      rw [List.getElem?_map, hs]
      rfl
    rw [a0] at this
    cases this
    exact hs)).1, by omega, b2⟩
  obtain ⟨o, r1, d, ps, rfl, r2, r3⟩ := run_W (P := fun o => ∃ d ps, o = .ret d [] ∧ Gives d ps ∧ Good ps) (n := n + 31) (f := i_patterns) (T := TT) (ds := [.scr ns, .lst false (strL S)]) (fd := d_patterns) rfl rfl (by
    simp only [d_patterns, b_patterns]
    cases h1 : (c1 % 4 == 1) with
    | true =>
      simp only [call1, ev.eq_1, ev.eq_2, ev.eq_3, ev.eq_4, ev.eq_5, ev.eq_6, ev.eq_7, ev.eq_8, ev.eq_9, ev.eq_10, ev.eq_11, ev.eq_12, ev.eq_13, ev.eq_14, ev.eq_15, ev.eq_16, ev.eq_17, ev.eq_18, ev.eq_19, ev.eq_20, ev.eq_21, ev.eq_22, ev.eq_23, ev.eq_24, ev.eq_25, ev.eq_28, ev.eq_29, ev.eq_30, ev.eq_31, ev.eq_32, ev.eq_33, ev.eq_34, ev.eq_35, evs, eva, evt, ended, outsOf, Il.start, okIO, called, backs, Il.fin, sets, optR, IE.isNop, chg, place, nodeOk, atP, setP, chgAt, ownLst, ownDct, unpD, LQ, reduceIte, reduceCtorEq, Nat.reduceSub, Nat.reduceAdd, Int.reduceLT, Int.reduceLE, Int.reduceNeg, decide_true, decide_false, ite_true, ite_false, if_true, if_false, bnd_ok, bnd_ex, bndS_ok, bndS_ex, gets_zero, gets_succ, own_non, own_bl, own_int, own_str, own_lst, own_tup, own_scr, frz_non, frz_bl, frz_int, frz_str, frz_scr, l_set0, l_setS, noOwn_nil, noOwn_cons, x_nil, x_pas, x_brk, x_cont, x_retN, x_ret, x_exp, x_set, x_unp, x_ite, x_app, x_apS, x_ext, nown_ok, seq_nx, seq_none, s_neg, s_len_lst, s_len_tup, s_len_scr, s_int_bl, s_int_int, s_add_int, s_sub_int, s_mul_l, s_mul_r, sm_48271, sm_10, sm_5, s_fdiv_int, s_mod_int, s_pow9, s_lt_int, s_le_int, s_gt_int, s_ge_int, s_eq_int, s_ne_int, s_find, s_index, s_in_str, s_nin_str, rcv_find, rcv_index, rcv_join, rcv_add, rcv_sub, rcv_mul, rcv_fdiv, rcv_mod, rcv_pow, rcv_eq, rcv_ne, rcv_lt, rcv_le, rcv_gt, rcv_ge, rcv_in, rcv_nin, t_bl, x_lst, x_tup, x_scr, i_str, i_lst, i_tup, ty_ii, ty_bi, ty_in, ty_ib, ty_bb, List.map_cons, List.map_nil, List.cons_append, List.nil_append, List.append_nil, List.replicate_succ, List.replicate_zero, List.length_cons, List.length_nil, List.all_cons, List.all_nil, List.contains_nil, List.isEmpty_nil, Bool.not_false, Bool.not_true, Bool.and_true, Bool.true_and, Bool.and_false, Bool.false_and, Bool.or_true, Bool.true_or, Bool.or_false, Bool.false_or, Bool.false_eq_true, Bool.and_self, Bool.or_self, Option.map_some, Option.map_none, and_self, and_true, true_and, era_nil, era_s, era_n, pur_nil, pur_s, pur_n, D.erase, eraseL, D.pure, pureL, D.closed, closedL, s_eq_str, s_ne_str, wq_one_one, wq_one_row, wq_one_or, wq_one_many, wq_one_maybe, wq_row_one, wq_row_row, wq_row_or, wq_row_many, wq_row_maybe, wq_or_one, wq_or_row, wq_or_or, wq_or_many, wq_or_maybe, wq_many_one, wq_many_row, wq_many_or, wq_many_many, wq_many_maybe, wq_maybe_one, wq_maybe_row, wq_maybe_or, wq_maybe_many, wq_maybe_maybe, s_in_ints, s_nin_ints, s_sorted_ints, s_eq_ints, s_min, s_eq_bl, s_ne_bl, intL_app, t_lst, s_in_two, g1, h1, w1]
      exact W_some ⟨_, rfl, _, _, rfl, w2, w3⟩
    | false =>
      cases h2 : (c1 % 4 == 3) with
      | true =>
        simp only [call1, ev.eq_1, ev.eq_2, ev.eq_3, ev.eq_4, ev.eq_5, ev.eq_6, ev.eq_7, ev.eq_8, ev.eq_9, ev.eq_10, ev.eq_11, ev.eq_12, ev.eq_13, ev.eq_14, ev.eq_15, ev.eq_16, ev.eq_17, ev.eq_18, ev.eq_19, ev.eq_20, ev.eq_21, ev.eq_22, ev.eq_23, ev.eq_24, ev.eq_25, ev.eq_28, ev.eq_29, ev.eq_30, ev.eq_31, ev.eq_32, ev.eq_33, ev.eq_34, ev.eq_35, evs, eva, evt, ended, outsOf, Il.start, okIO, called, backs, Il.fin, sets, optR, IE.isNop, chg, place, nodeOk, atP, setP, chgAt, ownLst, ownDct, unpD, LQ, reduceIte, reduceCtorEq, Nat.reduceSub, Nat.reduceAdd, Int.reduceLT, Int.reduceLE, Int.reduceNeg, decide_true, decide_false, ite_true, ite_false, if_true, if_false, bnd_ok, bnd_ex, bndS_ok, bndS_ex, gets_zero, gets_succ, own_non, own_bl, own_int, own_str, own_lst, own_tup, own_scr, frz_non, frz_bl, frz_int, frz_str, frz_scr, l_set0, l_setS, noOwn_nil, noOwn_cons, x_nil, x_pas, x_brk, x_cont, x_retN, x_ret, x_exp, x_set, x_unp, x_ite, x_app, x_apS, x_ext, nown_ok, seq_nx, seq_none, s_neg, s_len_lst, s_len_tup, s_len_scr, s_int_bl, s_int_int, s_add_int, s_sub_int, s_mul_l, s_mul_r, sm_48271, sm_10, sm_5, s_fdiv_int, s_mod_int, s_pow9, s_lt_int, s_le_int, s_gt_int, s_ge_int, s_eq_int, s_ne_int, s_find, s_index, s_in_str, s_nin_str, rcv_find, rcv_index, rcv_join, rcv_add, rcv_sub, rcv_mul, rcv_fdiv, rcv_mod, rcv_pow, rcv_eq, rcv_ne, rcv_lt, rcv_le, rcv_gt, rcv_ge, rcv_in, rcv_nin, t_bl, x_lst, x_tup, x_scr, i_str, i_lst, i_tup, ty_ii, ty_bi, ty_in, ty_ib, ty_bb, List.map_cons, List.map_nil, List.cons_append, List.nil_append, List.append_nil, List.replicate_succ, List.replicate_zero, List.length_cons, List.length_nil, List.all_cons, List.all_nil, List.contains_nil, List.isEmpty_nil, Bool.not_false, Bool.not_true, Bool.and_true, Bool.true_and, Bool.and_false, Bool.false_and, Bool.or_true, Bool.true_or, Bool.or_false, Bool.false_or, Bool.false_eq_true, Bool.and_self, Bool.or_self, Option.map_some, Option.map_none, and_self, and_true, true_and, era_nil, era_s, era_n, pur_nil, pur_s, pur_n, D.erase, eraseL, D.pure, pureL, D.closed, closedL, s_eq_str, s_ne_str, wq_one_one, wq_one_row, wq_one_or, wq_one_many, wq_one_maybe, wq_row_one, wq_row_row, wq_row_or, wq_row_many, wq_row_maybe, wq_or_one, wq_or_row, wq_or_or, wq_or_many, wq_or_maybe, wq_many_one, wq_many_row, wq_many_or, wq_many_many, wq_many_maybe, wq_maybe_one, wq_maybe_row, wq_maybe_or, wq_maybe_many, wq_maybe_maybe, s_in_ints, s_nin_ints, s_sorted_ints, s_eq_ints, s_min, s_eq_bl, s_ne_bl, intL_app, t_lst, s_in_two, g1, h1, h2, l1]
        exact W_some ⟨_, rfl, _, _, rfl, l2, l3⟩
      | false =>
        cases h3 : (c1 % 8 == 4) with
        | true =>
          simp only [call1, ev.eq_1, ev.eq_2, ev.eq_3, ev.eq_4, ev.eq_5, ev.eq_6, ev.eq_7, ev.eq_8, ev.eq_9, ev.eq_10, ev.eq_11, ev.eq_12, ev.eq_13, ev.eq_14, ev.eq_15, ev.eq_16, ev.eq_17, ev.eq_18, ev.eq_19, ev.eq_20, ev.eq_21, ev.eq_22, ev.eq_23, ev.eq_24, ev.eq_25, ev.eq_28, ev.eq_29, ev.eq_30, ev.eq_31, ev.eq_32, ev.eq_33, ev.eq_34, ev.eq_35, evs, eva, evt, ended, outsOf, Il.start, okIO, called, backs, Il.fin, sets, optR, IE.isNop, chg, place, nodeOk, atP, setP, chgAt, ownLst, ownDct, unpD, LQ, reduceIte, reduceCtorEq, Nat.reduceSub, Nat.reduceAdd, Int.reduceLT, Int.reduceLE, Int.reduceNeg, decide_true, decide_false, ite_true, ite_false, if_true, if_false, bnd_ok, bnd_ex, bndS_ok, bndS_ex, gets_zero, gets_succ, own_non, own_bl, own_int, own_str, own_lst, own_tup, own_scr, frz_non, frz_bl, frz_int, frz_str, frz_scr, l_set0, l_setS, noOwn_nil, noOwn_cons, x_nil, x_pas, x_brk, x_cont, x_retN, x_ret, x_exp, x_set, x_unp, x_ite, x_app, x_apS, x_ext, nown_ok, seq_nx, seq_none, s_neg, s_len_lst, s_len_tup, s_len_scr, s_int_bl, s_int_int, s_add_int, s_sub_int, s_mul_l, s_mul_r, sm_48271, sm_10, sm_5, s_fdiv_int, s_mod_int, s_pow9, s_lt_int, s_le_int, s_gt_int, s_ge_int, s_eq_int, s_ne_int, s_find, s_index, s_in_str, s_nin_str, rcv_find, rcv_index, rcv_join, rcv_add, rcv_sub, rcv_mul, rcv_fdiv, rcv_mod, rcv_pow, rcv_eq, rcv_ne, rcv_lt, rcv_le, rcv_gt, rcv_ge, rcv_in, rcv_nin, t_bl, x_lst, x_tup, x_scr, i_str, i_lst, i_tup, ty_ii, ty_bi, ty_in, ty_ib, ty_bb, List.map_cons, List.map_nil, List.cons_append, List.nil_append, List.append_nil, List.replicate_succ, List.replicate_zero, List.length_cons, List.length_nil, List.all_cons, List.all_nil, List.contains_nil, List.isEmpty_nil, Bool.not_false, Bool.not_true, Bool.and_true, Bool.true_and, Bool.and_false, Bool.false_and, Bool.or_true, Bool.true_or, Bool.or_false, Bool.false_or, Bool.false_eq_true, Bool.and_self, Bool.or_self, Option.map_some, Option.map_none, and_self, and_true, true_and, era_nil, era_s, era_n, pur_nil, pur_s, pur_n, D.erase, eraseL, D.pure, pureL, D.closed, closedL, s_eq_str, s_ne_str, wq_one_one, wq_one_row, wq_one_or, wq_one_many, wq_one_maybe, wq_row_one, wq_row_row, wq_row_or, wq_row_many, wq_row_maybe, wq_or_one, wq_or_row, wq_or_or, wq_or_many, wq_or_maybe, wq_many_one, wq_many_row, wq_many_or, wq_many_many, wq_many_maybe, wq_maybe_one, wq_maybe_row, wq_maybe_or, wq_maybe_many, wq_maybe_maybe, s_in_ints, s_nin_ints, s_sorted_ints, s_eq_ints, s_min, s_eq_bl, s_ne_bl, intL_app, t_lst, s_in_two, g1, h1, h2, h3, k1]
          exact W_some ⟨_, rfl, _, _, rfl, k2, k3⟩
        | false =>
          simp only [call1, ev.eq_1, ev.eq_2, ev.eq_3, ev.eq_4, ev.eq_5, ev.eq_6, ev.eq_7, ev.eq_8, ev.eq_9, ev.eq_10, ev.eq_11, ev.eq_12, ev.eq_13, ev.eq_14, ev.eq_15, ev.eq_16, ev.eq_17, ev.eq_18, ev.eq_19, ev.eq_20, ev.eq_21, ev.eq_22, ev.eq_23, ev.eq_24, ev.eq_25, ev.eq_28, ev.eq_29, ev.eq_30, ev.eq_31, ev.eq_32, ev.eq_33, ev.eq_34, ev.eq_35, evs, eva, evt, ended, outsOf, Il.start, okIO, called, backs, Il.fin, sets, optR, IE.isNop, chg, place, nodeOk, atP, setP, chgAt, ownLst, ownDct, unpD, LQ, reduceIte, reduceCtorEq, Nat.reduceSub, Nat.reduceAdd, Int.reduceLT, Int.reduceLE, Int.reduceNeg, decide_true, decide_false, ite_true, ite_false, if_true, if_false, bnd_ok, bnd_ex, bndS_ok, bndS_ex, gets_zero, gets_succ, own_non, own_bl, own_int, own_str, own_lst, own_tup, own_scr, frz_non, frz_bl, frz_int, frz_str, frz_scr, l_set0, l_setS, noOwn_nil, noOwn_cons, x_nil, x_pas, x_brk, x_cont, x_retN, x_ret, x_exp, x_set, x_unp, x_ite, x_app, x_apS, x_ext, nown_ok, seq_nx, seq_none, s_neg, s_len_lst, s_len_tup, s_len_scr, s_int_bl, s_int_int, s_add_int, s_sub_int, s_mul_l, s_mul_r, sm_48271, sm_10, sm_5, s_fdiv_int, s_mod_int, s_pow9, s_lt_int, s_le_int, s_gt_int, s_ge_int, s_eq_int, s_ne_int, s_find, s_index, s_in_str, s_nin_str, rcv_find, rcv_index, rcv_join, rcv_add, rcv_sub, rcv_mul, rcv_fdiv, rcv_mod, rcv_pow, rcv_eq, rcv_ne, rcv_lt, rcv_le, rcv_gt, rcv_ge, rcv_in, rcv_nin, t_bl, x_lst, x_tup, x_scr, i_str, i_lst, i_tup, ty_ii, ty_bi, ty_in, ty_ib, ty_bb, List.map_cons, List.map_nil, List.cons_append, List.nil_append, List.append_nil, List.replicate_succ, List.replicate_zero, List.length_cons, List.length_nil, List.all_cons, List.all_nil, List.contains_nil, List.isEmpty_nil, Bool.not_false, Bool.not_true, Bool.and_true, Bool.true_and, Bool.and_false, Bool.false_and, Bool.or_true, Bool.true_or, Bool.or_false, Bool.false_or, Bool.false_eq_true, Bool.and_self, Bool.or_self, Option.map_some, Option.map_none, and_self, and_true, true_and, era_nil, era_s, era_n, pur_nil, pur_s, pur_n, D.erase, eraseL, D.pure, pureL, D.closed, closedL, s_eq_str, s_ne_str, wq_one_one, wq_one_row, wq_one_or, wq_one_many, wq_one_maybe, wq_row_one, wq_row_row, wq_row_or, wq_row_many, wq_row_maybe, wq_or_one, wq_or_row, wq_or_or, wq_or_many, wq_or_maybe, wq_many_one, wq_many_row, wq_many_or, wq_many_many, wq_many_maybe, wq_maybe_one, wq_maybe_row, wq_maybe_or, wq_maybe_many, wq_maybe_maybe, s_in_ints, s_nin_ints, s_sorted_ints, s_eq_ints, s_min, s_eq_bl, s_ne_bl, intL_app, t_lst, s_in_two, g1, h1, h2, h3]
          refine W_for1 (q := true) (by simp only [call1, ev.eq_1, ev.eq_2, ev.eq_3, ev.eq_4, ev.eq_5, ev.eq_6, ev.eq_7, ev.eq_8, ev.eq_9, ev.eq_10, ev.eq_11, ev.eq_12, ev.eq_13, ev.eq_14, ev.eq_15, ev.eq_16, ev.eq_17, ev.eq_18, ev.eq_19, ev.eq_20, ev.eq_21, ev.eq_22, ev.eq_23, ev.eq_24, ev.eq_25, ev.eq_28, ev.eq_29, ev.eq_30, ev.eq_31, ev.eq_32, ev.eq_33, ev.eq_34, ev.eq_35, evs, eva, evt, ended, outsOf, Il.start, okIO, called, backs, Il.fin, sets, optR, IE.isNop, chg, place, nodeOk, atP, setP, chgAt, ownLst, ownDct, unpD, LQ, reduceIte, reduceCtorEq, Nat.reduceSub, Nat.reduceAdd, Int.reduceLT, Int.reduceLE, Int.reduceNeg, decide_true, decide_false, ite_true, ite_false, if_true, if_false, bnd_ok, bnd_ex, bndS_ok, bndS_ex, gets_zero, gets_succ, own_non, own_bl, own_int, own_str, own_lst, own_tup, own_scr, frz_non, frz_bl, frz_int, frz_str, frz_scr, l_set0, l_setS, noOwn_nil, noOwn_cons, x_nil, x_pas, x_brk, x_cont, x_retN, x_ret, x_exp, x_set, x_unp, x_ite, x_app, x_apS, x_ext, nown_ok, seq_nx, seq_none, s_neg, s_len_lst, s_len_tup, s_len_scr, s_int_bl, s_int_int, s_add_int, s_sub_int, s_mul_l, s_mul_r, sm_48271, sm_10, sm_5, s_fdiv_int, s_mod_int, s_pow9, s_lt_int, s_le_int, s_gt_int, s_ge_int, s_eq_int, s_ne_int, s_find, s_index, s_in_str, s_nin_str, rcv_find, rcv_index, rcv_join, rcv_add, rcv_sub, rcv_mul, rcv_fdiv, rcv_mod, rcv_pow, rcv_eq, rcv_ne, rcv_lt, rcv_le, rcv_gt, rcv_ge, rcv_in, rcv_nin, t_bl, x_lst, x_tup, x_scr, i_str, i_lst, i_tup, ty_ii, ty_bi, ty_in, ty_ib, ty_bb, List.map_cons, List.map_nil, List.cons_append, List.nil_append, List.append_nil, List.replicate_succ, List.replicate_zero, List.length_cons, List.length_nil, List.all_cons, List.all_nil, List.contains_nil, List.isEmpty_nil, Bool.not_false, Bool.not_true, Bool.and_true, Bool.true_and, Bool.and_false, Bool.false_and, Bool.or_true, Bool.true_or, Bool.or_false, Bool.false_or, Bool.false_eq_true, Bool.and_self, Bool.or_self, Option.map_some, Option.map_none, and_self, and_true, true_and, era_nil, era_s, era_n, pur_nil, pur_s, pur_n, D.erase, eraseL, D.pure, pureL, D.closed, closedL, s_eq_str, s_ne_str, wq_one_one, wq_one_row, wq_one_or, wq_one_many, wq_one_maybe, wq_row_one, wq_row_row, wq_row_or, wq_row_many, wq_row_maybe, wq_or_one, wq_or_row, wq_or_or, wq_or_many, wq_or_maybe, wq_many_one, wq_many_row, wq_many_or, wq_many_many, wq_many_maybe, wq_maybe_one, wq_maybe_row, wq_maybe_or, wq_maybe_many, wq_maybe_maybe, s_in_ints, s_nin_ints, s_sorted_ints, s_eq_ints, s_min, s_eq_bl, s_ne_bl, intL_app, t_lst, s_in_two] <;> rfl) (i_rng1 (b62_ok (by omega) (by omega))) rfl (fun i e => ∃ (lp : List Pat) (room : Int) (v4 : Option D), e = [some (.scr ns), some (.lst false (strL S)), some (.lst true (encs lp)), some (.int room), v4] ∧ Held lp i) ⟨[], _, _, rfl, trivial, by simp, by simp [sizeL]⟩ ?_ ?_
          · rintro i x e hx ⟨lp, room, v4, rfl, hh⟩
            obtain ⟨hi, rfl⟩ := rng_at hx
            obtain ⟨ck, gk⟩ := ex_cell_at ns (2 + (0 + (i : Int))) (by omega)
            obtain ⟨lp', room', gg, hh'⟩ := ex_grown (n + 1) hS hh (by omega) ck room
            simp only [call1, ev.eq_1, ev.eq_2, ev.eq_3, ev.eq_4, ev.eq_5, ev.eq_6, ev.eq_7, ev.eq_8, ev.eq_9, ev.eq_10, ev.eq_11, ev.eq_12, ev.eq_13, ev.eq_14, ev.eq_15, ev.eq_16, ev.eq_17, ev.eq_18, ev.eq_19, ev.eq_20, ev.eq_21, ev.eq_22, ev.eq_23, ev.eq_24, ev.eq_25, ev.eq_28, ev.eq_29, ev.eq_30, ev.eq_31, ev.eq_32, ev.eq_33, ev.eq_34, ev.eq_35, evs, eva, evt, ended, outsOf, Il.start, okIO, called, backs, Il.fin, sets, optR, IE.isNop, chg, place, nodeOk, atP, setP, chgAt, ownLst, ownDct, unpD, LQ, reduceIte, reduceCtorEq, Nat.reduceSub, Nat.reduceAdd, Int.reduceLT, Int.reduceLE, Int.reduceNeg, decide_true, decide_false, ite_true, ite_false, if_true, if_false, bnd_ok, bnd_ex, bndS_ok, bndS_ex, gets_zero, gets_succ, own_non, own_bl, own_int, own_str, own_lst, own_tup, own_scr, frz_non, frz_bl, frz_int, frz_str, frz_scr, l_set0, l_setS, noOwn_nil, noOwn_cons, x_nil, x_pas, x_brk, x_cont, x_retN, x_ret, x_exp, x_set, x_unp, x_ite, x_app, x_apS, x_ext, nown_ok, seq_nx, seq_none, s_neg, s_len_lst, s_len_tup, s_len_scr, s_int_bl, s_int_int, s_add_int, s_sub_int, s_mul_l, s_mul_r, sm_48271, sm_10, sm_5, s_fdiv_int, s_mod_int, s_pow9, s_lt_int, s_le_int, s_gt_int, s_ge_int, s_eq_int, s_ne_int, s_find, s_index, s_in_str, s_nin_str, rcv_find, rcv_index, rcv_join, rcv_add, rcv_sub, rcv_mul, rcv_fdiv, rcv_mod, rcv_pow, rcv_eq, rcv_ne, rcv_lt, rcv_le, rcv_gt, rcv_ge, rcv_in, rcv_nin, t_bl, x_lst, x_tup, x_scr, i_str, i_lst, i_tup, ty_ii, ty_bi, ty_in, ty_ib, ty_bb, List.map_cons, List.map_nil, List.cons_append, List.nil_append, List.append_nil, List.replicate_succ, List.replicate_zero, List.length_cons, List.length_nil, List.all_cons, List.all_nil, List.contains_nil, List.isEmpty_nil, Bool.not_false, Bool.not_true, Bool.and_true, Bool.true_and, Bool.and_false, Bool.false_and, Bool.or_true, Bool.true_or, Bool.or_false, Bool.false_or, Bool.false_eq_true, Bool.and_self, Bool.or_self, Option.map_some, Option.map_none, and_self, and_true, true_and, era_nil, era_s, era_n, pur_nil, pur_s, pur_n, D.erase, eraseL, D.pure, pureL, D.closed, closedL, s_eq_str, s_ne_str, wq_one_one, wq_one_row, wq_one_or, wq_one_many, wq_one_maybe, wq_row_one, wq_row_row, wq_row_or, wq_row_many, wq_row_maybe, wq_or_one, wq_or_row, wq_or_or, wq_or_many, wq_or_maybe, wq_many_one, wq_many_row, wq_many_or, wq_many_many, wq_many_maybe, wq_maybe_one, wq_maybe_row, wq_maybe_or, wq_maybe_many, wq_maybe_maybe, s_in_ints, s_nin_ints, s_sorted_ints, s_eq_ints, s_min, s_eq_bl, s_ne_bl, intL_app, t_lst, s_in_two, gk, gg]
            exact W_nx ⟨lp', room', _, rfl, hh'⟩
          · rintro e ⟨lp, room, v4, rfl, hh⟩
            rw [range_len] at hh
            have e12 : (12 : Int).toNat = 12 := rfl
            cases lp with
            | nil =>
              have ae := a_enc (ps := []) (.one s0) (by simp)
              simp only [Pat.enc, encs, List.nil_append] at ae
              simp only [encs]
              simp only [call1, ev.eq_1, ev.eq_2, ev.eq_3, ev.eq_4, ev.eq_5, ev.eq_6, ev.eq_7, ev.eq_8, ev.eq_9, ev.eq_10, ev.eq_11, ev.eq_12, ev.eq_13, ev.eq_14, ev.eq_15, ev.eq_16, ev.eq_17, ev.eq_18, ev.eq_19, ev.eq_20, ev.eq_21, ev.eq_22, ev.eq_23, ev.eq_24, ev.eq_25, ev.eq_28, ev.eq_29, ev.eq_30, ev.eq_31, ev.eq_32, ev.eq_33, ev.eq_34, ev.eq_35, evs, eva, evt, ended, outsOf, Il.start, okIO, called, backs, Il.fin, sets, optR, IE.isNop, chg, place, nodeOk, atP, setP, chgAt, ownLst, ownDct, unpD, LQ, reduceIte, reduceCtorEq, Nat.reduceSub, Nat.reduceAdd, Int.reduceLT, Int.reduceLE, Int.reduceNeg, decide_true, decide_false, ite_true, ite_false, if_true, if_false, bnd_ok, bnd_ex, bndS_ok, bndS_ex, gets_zero, gets_succ, own_non, own_bl, own_int, own_str, own_lst, own_tup, own_scr, frz_non, frz_bl, frz_int, frz_str, frz_scr, l_set0, l_setS, noOwn_nil, noOwn_cons, x_nil, x_pas, x_brk, x_cont, x_retN, x_ret, x_exp, x_set, x_unp, x_ite, x_app, x_apS, x_ext, nown_ok, seq_nx, seq_none, s_neg, s_len_lst, s_len_tup, s_len_scr, s_int_bl, s_int_int, s_add_int, s_sub_int, s_mul_l, s_mul_r, sm_48271, sm_10, sm_5, s_fdiv_int, s_mod_int, s_pow9, s_lt_int, s_le_int, s_gt_int, s_ge_int, s_eq_int, s_ne_int, s_find, s_index, s_in_str, s_nin_str, rcv_find, rcv_index, rcv_join, rcv_add, rcv_sub, rcv_mul, rcv_fdiv, rcv_mod, rcv_pow, rcv_eq, rcv_ne, rcv_lt, rcv_le, rcv_gt, rcv_ge, rcv_in, rcv_nin, t_bl, x_lst, x_tup, x_scr, i_str, i_lst, i_tup, ty_ii, ty_bi, ty_in, ty_ib, ty_bb, List.map_cons, List.map_nil, List.cons_append, List.nil_append, List.append_nil, List.replicate_succ, List.replicate_zero, List.length_cons, List.length_nil, List.all_cons, List.all_nil, List.contains_nil, List.isEmpty_nil, Bool.not_false, Bool.not_true, Bool.and_true, Bool.true_and, Bool.and_false, Bool.false_and, Bool.or_true, Bool.true_or, Bool.or_false, Bool.false_or, Bool.false_eq_true, Bool.and_self, Bool.or_self, Option.map_some, Option.map_none, and_self, and_true, true_and, era_nil, era_s, era_n, pur_nil, pur_s, pur_n, D.erase, eraseL, D.pure, pureL, D.closed, closedL, s_eq_str, s_ne_str, wq_one_one, wq_one_row, wq_one_or, wq_one_many, wq_one_maybe, wq_row_one, wq_row_row, wq_row_or, wq_row_many, wq_row_maybe, wq_or_one, wq_or_row, wq_or_or, wq_or_many, wq_or_maybe, wq_many_one, wq_many_row, wq_many_or, wq_many_many, wq_many_maybe, wq_maybe_one, wq_maybe_row, wq_maybe_or, wq_maybe_many, wq_maybe_maybe, s_in_ints, s_nin_ints, s_sorted_ints, s_eq_ints, s_min, s_eq_bl, s_ne_bl, intL_app, t_lst, s_in_two, a0, frz_tup, ae, frz_lst]
              exact W_some ⟨_, rfl, _, [.one s0], rfl, gives_lst false [.one s0], ⟨nd, trivial⟩, by simp, by simp, by simp [leavesL, Pat.leaves], by simp [deepL, Pat.deep], by simp [sizeL, Pat.size]⟩
            | cons p lp =>
              have em : (encs (p :: lp)).isEmpty = false := rfl
              simp only [call1, ev.eq_1, ev.eq_2, ev.eq_3, ev.eq_4, ev.eq_5, ev.eq_6, ev.eq_7, ev.eq_8, ev.eq_9, ev.eq_10, ev.eq_11, ev.eq_12, ev.eq_13, ev.eq_14, ev.eq_15, ev.eq_16, ev.eq_17, ev.eq_18, ev.eq_19, ev.eq_20, ev.eq_21, ev.eq_22, ev.eq_23, ev.eq_24, ev.eq_25, ev.eq_28, ev.eq_29, ev.eq_30, ev.eq_31, ev.eq_32, ev.eq_33, ev.eq_34, ev.eq_35, evs, eva, evt, ended, outsOf, Il.start, okIO, called, backs, Il.fin, sets, optR, IE.isNop, chg, place, nodeOk, atP, setP, chgAt, ownLst, ownDct, unpD, LQ, reduceIte, reduceCtorEq, Nat.reduceSub, Nat.reduceAdd, Int.reduceLT, Int.reduceLE, Int.reduceNeg, decide_true, decide_false, ite_true, ite_false, if_true, if_false, bnd_ok, bnd_ex, bndS_ok, bndS_ex, gets_zero, gets_succ, own_non, own_bl, own_int, own_str, own_lst, own_tup, own_scr, frz_non, frz_bl, frz_int, frz_str, frz_scr, l_set0, l_setS, noOwn_nil, noOwn_cons, x_nil, x_pas, x_brk, x_cont, x_retN, x_ret, x_exp, x_set, x_unp, x_ite, x_app, x_apS, x_ext, nown_ok, seq_nx, seq_none, s_neg, s_len_lst, s_len_tup, s_len_scr, s_int_bl, s_int_int, s_add_int, s_sub_int, s_mul_l, s_mul_r, sm_48271, sm_10, sm_5, s_fdiv_int, s_mod_int, s_pow9, s_lt_int, s_le_int, s_gt_int, s_ge_int, s_eq_int, s_ne_int, s_find, s_index, s_in_str, s_nin_str, rcv_find, rcv_index, rcv_join, rcv_add, rcv_sub, rcv_mul, rcv_fdiv, rcv_mod, rcv_pow, rcv_eq, rcv_ne, rcv_lt, rcv_le, rcv_gt, rcv_ge, rcv_in, rcv_nin, t_bl, x_lst, x_tup, x_scr, i_str, i_lst, i_tup, ty_ii, ty_bi, ty_in, ty_ib, ty_bb, List.map_cons, List.map_nil, List.cons_append, List.nil_append, List.append_nil, List.replicate_succ, List.replicate_zero, List.length_cons, List.length_nil, List.all_cons, List.all_nil, List.contains_nil, List.isEmpty_nil, Bool.not_false, Bool.not_true, Bool.and_true, Bool.true_and, Bool.and_false, Bool.false_and, Bool.or_true, Bool.true_or, Bool.or_false, Bool.false_or, Bool.false_eq_true, Bool.and_self, Bool.or_self, Option.map_some, Option.map_none, and_self, and_true, true_and, era_nil, era_s, era_n, pur_nil, pur_s, pur_n, D.erase, eraseL, D.pure, pureL, D.closed, closedL, s_eq_str, s_ne_str, wq_one_one, wq_one_row, wq_one_or, wq_one_many, wq_one_maybe, wq_row_one, wq_row_row, wq_row_or, wq_row_many, wq_row_maybe, wq_or_one, wq_or_row, wq_or_or, wq_or_many, wq_or_maybe, wq_many_one, wq_many_row, wq_many_or, wq_many_many, wq_many_maybe, wq_maybe_one, wq_maybe_row, wq_maybe_or, wq_maybe_many, wq_maybe_maybe, s_in_ints, s_nin_ints, s_sorted_ints, s_eq_ints, s_min, s_eq_bl, s_ne_bl, intL_app, t_lst, s_in_two, em, frz_lst (encs_own _)]
              exact W_some ⟨_, rfl, _, p :: lp, rfl, gives_lst _ _, held_good hh (by omega) (by simp)⟩)
  exact ⟨d, ps, r1, r2, r3⟩
end Il.Q
set_option Elab.async false
set_option linter.all false
set_option maxRecDepth 100000
set_option maxHeartbeats 1000000
namespace Il.Q
open Il
/-- each sign once, as met -/
def addU (l : List Nat) (c : Nat) : List Nat := if c ∈ l then l else l ++ [c]
def uni (l s : List Nat) : List Nat := s.foldl addU l
theorem uni_app (l a b : List Nat) : uni l (a ++ b) = uni (uni l a) b := by unfold uni; rw [List.foldl_append]
theorem addU_len (l : List Nat) (c : Nat) : (addU l c).length ≤ l.length + 1 := by
  unfold addU
  split
  · omega
  · simp
theorem uni_len : ∀ (s l : List Nat), (uni l s).length ≤ l.length + s.length
  | [], l => by simp [uni]
  | c :: s, l => by
    have h1 := addU_len l c
    have h2 := uni_len s (addU l c)
    show (uni (addU l c) s).length ≤ _
    simp only [List.length_cons]
    omega
def onesL (l : List Nat) : List D := l.map fun c => .str [c]
theorem onesL_str (l : List Nat) : onesL l = strL (l.map fun c => [c]) := by
  unfold onesL strL
  rw [List.map_map]
  rfl
theorem nin_ones (o : Bool) (c : Nat) (l : List Nat) : sem2 .notIn (.str [c]) (.lst o (onesL l)) = some (.bl (!decide (c ∈ l))) := by
  show ((inL (.str [c]) (onesL l)).map fun r => D.bl (!r)) = _
  unfold inL
  have h1 : (onesL l).all scalar = true := by
    rw [List.all_eq_true]
    intro x hx
    obtain ⟨j, _, rfl⟩ := List.mem_map.mp hx
    rfl
  rw [h1]
  have h2 : ((onesL l).any fun x => eqb x (.str [c])) = decide (c ∈ l) := by
    rw [Bool.eq_iff_iff]
    simp only [List.any_eq_true, decide_eq_true_eq]
    constructor
    · rintro ⟨x, hx, e⟩
      obtain ⟨j, hj, rfl⟩ := List.mem_map.mp hx
      have : j = c := by simpa [eqb] using e
      rw [← this]
      exact hj
    · intro h
      exact ⟨_, List.mem_map.mpr ⟨c, h, rfl⟩, by simp [eqb]⟩
  simp only [scalar, Bool.true_and, if_true, h2, Option.map_some]
/-- what was seen, as a dict -/
def seenD (l : List Nat) : D := .dct .k true (l.map fun c => .a (.str [c])) (l.map fun _ => .bl true)
theorem put_seen (c : Nat) : ∀ l : List Nat, put (l.map fun c => Ky.a (.str [c])) (l.map fun _ => D.bl true) (.a (.str [c])) (.bl true) = ((addU l c).map fun c => Ky.a (.str [c]), (addU l c).map fun _ => D.bl true)
  | [] => rfl
  | x :: l => by
    have ih := put_seen c l
    simp only [List.map_cons, put]
    by_cases h : x = c
    · subst h
      simp [addU]
    · have h1 : ¬ (Ky.a (.str [x]) = Ky.a (.str [c])) := by simpa using h
      rw [if_neg h1, ih]
      have h2 : c ≠ x := fun e => h e.symm
      unfold addU
      by_cases h3 : c ∈ l
      · simp [h3]
      · simp [h3, h2]
theorem seen_own (l : List Nat) : noOwn (l.map fun _ => D.bl true) = true := noOwn_of fun x hx => by
  obtain ⟨_, _, rfl⟩ := List.mem_map.mp hx
  rfl
theorem sub_seen {l : List Nat} (c : Nat) (h : l.length < line) : fSub (.str [c]) (seenD l) (.bl true) = some (seenD (addU l c)) := by
  have h1 : decide ((l.map fun c => Ky.a (.str [c])).length < line) = true := decide_eq_true (by rw [List.length_map]; exact h)
  unfold fSub seenD
  simp only [own_bl, Bool.false_eq_true, if_false]
  show (if kyOk .k (.a (.str [c])) && noOwn (l.map fun _ => D.bl true) && decide ((l.map fun c => Ky.a (.str [c])).length < line) then some (D.dct .k true (put (l.map fun c => Ky.a (.str [c])) (l.map fun _ => D.bl true) (.a (.str [c])) (.bl true)).1 (put (l.map fun c => Ky.a (.str [c])) (l.map fun _ => D.bl true) (.a (.str [c])) (.bl true)).2) else none) = _
  rw [put_seen, seen_own, h1]
  rfl
theorem do_subD {G : Gam} {io : List Nat} {i : Nat} {k a : IE} {r : List IS} {e e1 e2 : Env} {d n x y : D} {q : Bool} (h1 : ev G a false e = some (.ok d q e1)) (ho : d.own = false) (h2 : (gets e1 i).isSome = true) (h3 : ev G k false e1 = some (.ok y true e2)) (hy : y.own = false) (h5 : gets e2 i = some x) (h4 : fSub y x d = some n) : exL G io (.sub (.var i) k a :: r) e = exL G io r (e2.set i (some n)) := by
  simp only [exL, exS, h1, bndS_ok, ho, place, h2, h3, hy, chgAt, h5, atP, h4, setP, Bool.false_eq_true, if_false, if_true]
theorem strs_of3 (l : List (List Nat)) : strsD (strL l) = some l := by
  induction l with
  | nil => rfl
  | cons s l ih =>
    show (strsD (strL l)).map _ = _
    rw [ih]
    rfl
theorem sorted_ones (o : Bool) (l : List Nat) : sem1 .sorted (.lst o (onesL l)) = some (.lst true (strL (sortS (l.map fun c => [c])))) := by
  rw [onesL_str]
  cases l with
  | nil => rfl
  | cons c l =>
    have h := strs_of3 ((c :: l).map fun c => [c])
    show (match strL ((c :: l).map fun c => [c]) with
      | .str _ :: _ => (strsD (strL ((c :: l).map fun c => [c]))).map fun ss => D.lst true ((sortS ss).map D.str)
      | _ => (intsD (strL ((c :: l).map fun c => [c]))).map fun is => D.lst true ((sortI is).map D.int)) = _
    rw [h]
    rfl
theorem sorted_seen (l : List Nat) : sem1 .sorted (seenD l) = some (.lst true (strL (sortS (l.map fun c => [c])))) := by
  have e : ((l.map fun c => Ky.a (.str [c])).map kyD) = strL (l.map fun c => [c]) := by
    unfold strL
    rw [List.map_map, List.map_map]
    rfl
  show (match strsD ((l.map fun c => Ky.a (.str [c])).map kyD) with
    | some ss => some (D.lst true ((sortS ss).map D.str))
    | none => none) = _
  rw [e, strs_of3]
  rfl
mutual
theorem leaves_ok : ∀ p : Pat, p.Ok → ∀ s ∈ p.leaves, s.length ≤ 100
  | .one s, h, x, hx => by
    simp only [Pat.leaves, List.mem_singleton] at hx
    subst hx
    simp only [Pat.Ok] at h
    exact h.2.2.1
  | .row ps, h, x, hx => by
    simp only [Pat.Ok] at h
    simp only [Pat.leaves] at hx
    exact leavesL_ok ps h x hx
  | .or ps, h, x, hx => by
    simp only [Pat.Ok] at h
    simp only [Pat.leaves] at hx
    exact leavesL_ok ps h.2 x hx
  | .many p, h, x, hx => by
    simp only [Pat.Ok] at h
    simp only [Pat.leaves] at hx
    exact leaves_ok p h x hx
  | .maybe p, h, x, hx => by
    simp only [Pat.Ok] at h
    simp only [Pat.leaves] at hx
    exact leaves_ok p h x hx
theorem leavesL_ok : ∀ ps : List Pat, OkL ps → ∀ s ∈ leavesL ps, s.length ≤ 100
  | [], _, x, hx => by simp [leavesL] at hx
  | p :: ps, h, x, hx => by
    simp only [OkL] at h
    simp only [leavesL] at hx
    rcases List.mem_append.mp hx with hx | hx
    · exact leaves_ok p h.1 x hx
    · exact leavesL_ok ps h.2 x hx
end
theorem flat_len : ∀ {l : List (List Nat)}, (∀ s ∈ l, s.length ≤ 100) → l.flatten.length ≤ 100 * l.length
  | [], _ => by simp
  | s :: l, h => by
    have h1 := h s (List.mem_cons_self ..)
    have h2 := flat_len fun x hx => h x (List.mem_cons_of_mem _ hx)
    simp only [List.flatten_cons, List.length_append, List.length_cons]
    omega
theorem split_at {α : Type} {l : List α} {i : Nat} {x : α} (h : l[i]? = some x) : l = l.take i ++ (x :: l.drop (i + 1)) := by
  obtain ⟨h1, h2⟩ := List.getElem?_eq_some_iff.mp h
  rw [← h2, ← List.drop_eq_getElem_cons h1, List.take_append_drop]
theorem s_add_strs {o o' : Bool} {a b : List (List Nat)} (h : a.length + b.length ≤ 1000000) : sem2 .add (.lst o (strL a)) (.lst o' (strL b)) = some (.lst true (strL (a ++ b))) := by
  have h1 : (strL a).length + (strL b).length ≤ line := by rw [strs_len, strs_len, lineEq]; omega
  show (if noOwn (strL a) && noOwn (strL b) && decide ((strL a).length + (strL b).length ≤ line) then some (D.lst true (strL a ++ strL b)) else none) = _
  rw [strs_own, strs_own, decide_eq_true h1, strL_app]
  rfl
end Il.Q
set_option Elab.async false
set_option linter.all false
set_option maxRecDepth 100000
set_option maxHeartbeats 1000000
namespace Il.Q
open Il
theorem ex_leaves : ∀ (n : Nat) (p : Pat), p.deep ≤ n → p.leaves.length ≤ 10000 → ∃ o, run TT (n + 1) i_leaves [p.enc] = some (.ret (.lst o (strL p.leaves)) []) := by
  intro n
  induction n with
  | zero =>
    intro p hd hl
    cases p with
    | one s =>
      refine ⟨true, run_We (fd := d_leaves) rfl rfl ?_⟩
      simp only [d_leaves, b_leaves]
      simp only [call1, ev.eq_1, ev.eq_2, ev.eq_3, ev.eq_4, ev.eq_5, ev.eq_6, ev.eq_7, ev.eq_8, ev.eq_9, ev.eq_10, ev.eq_11, ev.eq_12, ev.eq_13, ev.eq_14, ev.eq_15, ev.eq_16, ev.eq_17, ev.eq_18, ev.eq_19, ev.eq_20, ev.eq_21, ev.eq_22, ev.eq_23, ev.eq_24, ev.eq_25, ev.eq_28, ev.eq_29, ev.eq_30, ev.eq_31, ev.eq_32, ev.eq_33, ev.eq_34, ev.eq_35, evs, eva, evt, ended, outsOf, Il.start, okIO, called, backs, Il.fin, sets, optR, IE.isNop, chg, place, nodeOk, atP, setP, chgAt, ownLst, ownDct, unpD, LQ, reduceIte, reduceCtorEq, Nat.reduceSub, Nat.reduceAdd, Int.reduceLT, Int.reduceLE, Int.reduceNeg, decide_true, decide_false, ite_true, ite_false, if_true, if_false, bnd_ok, bnd_ex, bndS_ok, bndS_ex, gets_zero, gets_succ, own_non, own_bl, own_int, own_str, own_lst, own_tup, own_scr, frz_non, frz_bl, frz_int, frz_str, frz_scr, l_set0, l_setS, noOwn_nil, noOwn_cons, x_nil, x_pas, x_brk, x_cont, x_retN, x_ret, x_exp, x_set, x_unp, x_ite, x_app, x_apS, x_ext, nown_ok, seq_nx, seq_none, s_neg, s_len_lst, s_len_tup, s_len_scr, s_int_bl, s_int_int, s_add_int, s_sub_int, s_mul_l, s_mul_r, sm_48271, sm_10, sm_5, s_fdiv_int, s_mod_int, s_pow9, s_lt_int, s_le_int, s_gt_int, s_ge_int, s_eq_int, s_ne_int, s_find, s_index, s_in_str, s_nin_str, rcv_find, rcv_index, rcv_join, rcv_add, rcv_sub, rcv_mul, rcv_fdiv, rcv_mod, rcv_pow, rcv_eq, rcv_ne, rcv_lt, rcv_le, rcv_gt, rcv_ge, rcv_in, rcv_nin, t_bl, x_lst, x_tup, x_scr, i_str, i_lst, i_tup, ty_ii, ty_bi, ty_in, ty_ib, ty_bb, List.map_cons, List.map_nil, List.cons_append, List.nil_append, List.append_nil, List.replicate_succ, List.replicate_zero, List.length_cons, List.length_nil, List.all_cons, List.all_nil, List.contains_nil, List.isEmpty_nil, Bool.not_false, Bool.not_true, Bool.and_true, Bool.true_and, Bool.and_false, Bool.false_and, Bool.or_true, Bool.true_or, Bool.or_false, Bool.false_or, Bool.false_eq_true, Bool.and_self, Bool.or_self, Option.map_some, Option.map_none, and_self, and_true, true_and, era_nil, era_s, era_n, pur_nil, pur_s, pur_n, D.erase, eraseL, D.pure, pureL, D.closed, closedL, s_eq_str, s_ne_str, wq_one_one, wq_one_row, wq_one_or, wq_one_many, wq_one_maybe, wq_row_one, wq_row_row, wq_row_or, wq_row_many, wq_row_maybe, wq_or_one, wq_or_row, wq_or_or, wq_or_many, wq_or_maybe, wq_many_one, wq_many_row, wq_many_or, wq_many_many, wq_many_maybe, wq_maybe_one, wq_maybe_row, wq_maybe_or, wq_maybe_many, wq_maybe_maybe, s_in_ints, s_nin_ints, s_sorted_ints, s_eq_ints, s_min, s_eq_bl, s_ne_bl, intL_app, t_lst, s_in_two, Pat.enc, at0, at1]
      exact W_some rfl
    | _ => simp [Pat.deep] at hd
  | succ n ih =>
    intro p hd hl
    have frn : (D.lst true []).freeze = some (.lst false []) := rfl
    -- the loop over parts
    have tail : ∀ (o : Bool) (e : Env), (∀ s, p ≠ .one s) → (∀ q ∈ p.parts, q.deep ≤ n) → e = [some p.enc, some (.lst o (encs p.parts)), none, none] → W (exL (run TT (n + 1)) [] (b_leaves.drop 3) e) fun r => ended [] (some r) = some (.ret (.lst false (strL p.leaves)) []) := by
      rintro o e none1 hq rfl
      have own := encs_own p.parts
      simp only [b_leaves, List.drop_succ_cons, List.drop_zero]
      simp only [call1, ev.eq_1, ev.eq_2, ev.eq_3, ev.eq_4, ev.eq_5, ev.eq_6, ev.eq_7, ev.eq_8, ev.eq_9, ev.eq_10, ev.eq_11, ev.eq_12, ev.eq_13, ev.eq_14, ev.eq_15, ev.eq_16, ev.eq_17, ev.eq_18, ev.eq_19, ev.eq_20, ev.eq_21, ev.eq_22, ev.eq_23, ev.eq_24, ev.eq_25, ev.eq_28, ev.eq_29, ev.eq_30, ev.eq_31, ev.eq_32, ev.eq_33, ev.eq_34, ev.eq_35, evs, eva, evt, ended, outsOf, Il.start, okIO, called, backs, Il.fin, sets, optR, IE.isNop, chg, place, nodeOk, atP, setP, chgAt, ownLst, ownDct, unpD, LQ, reduceIte, reduceCtorEq, Nat.reduceSub, Nat.reduceAdd, Int.reduceLT, Int.reduceLE, Int.reduceNeg, decide_true, decide_false, ite_true, ite_false, if_true, if_false, bnd_ok, bnd_ex, bndS_ok, bndS_ex, gets_zero, gets_succ, own_non, own_bl, own_int, own_str, own_lst, own_tup, own_scr, frz_non, frz_bl, frz_int, frz_str, frz_scr, l_set0, l_setS, noOwn_nil, noOwn_cons, x_nil, x_pas, x_brk, x_cont, x_retN, x_ret, x_exp, x_set, x_unp, x_ite, x_app, x_apS, x_ext, nown_ok, seq_nx, seq_none, s_neg, s_len_lst, s_len_tup, s_len_scr, s_int_bl, s_int_int, s_add_int, s_sub_int, s_mul_l, s_mul_r, sm_48271, sm_10, sm_5, s_fdiv_int, s_mod_int, s_pow9, s_lt_int, s_le_int, s_gt_int, s_ge_int, s_eq_int, s_ne_int, s_find, s_index, s_in_str, s_nin_str, rcv_find, rcv_index, rcv_join, rcv_add, rcv_sub, rcv_mul, rcv_fdiv, rcv_mod, rcv_pow, rcv_eq, rcv_ne, rcv_lt, rcv_le, rcv_gt, rcv_ge, rcv_in, rcv_nin, t_bl, x_lst, x_tup, x_scr, i_str, i_lst, i_tup, ty_ii, ty_bi, ty_in, ty_ib, ty_bb, List.map_cons, List.map_nil, List.cons_append, List.nil_append, List.append_nil, List.replicate_succ, List.replicate_zero, List.length_cons, List.length_nil, List.all_cons, List.all_nil, List.contains_nil, List.isEmpty_nil, Bool.not_false, Bool.not_true, Bool.and_true, Bool.true_and, Bool.and_false, Bool.false_and, Bool.or_true, Bool.true_or, Bool.or_false, Bool.false_or, Bool.false_eq_true, Bool.and_self, Bool.or_self, Option.map_some, Option.map_none, and_self, and_true, true_and, era_nil, era_s, era_n, pur_nil, pur_s, pur_n, D.erase, eraseL, D.pure, pureL, D.closed, closedL, s_eq_str, s_ne_str, wq_one_one, wq_one_row, wq_one_or, wq_one_many, wq_one_maybe, wq_row_one, wq_row_row, wq_row_or, wq_row_many, wq_row_maybe, wq_or_one, wq_or_row, wq_or_or, wq_or_many, wq_or_maybe, wq_many_one, wq_many_row, wq_many_or, wq_many_many, wq_many_maybe, wq_maybe_one, wq_maybe_row, wq_maybe_or, wq_maybe_many, wq_maybe_maybe, s_in_ints, s_nin_ints, s_sorted_ints, s_eq_ints, s_min, s_eq_bl, s_ne_bl, intL_app, t_lst, s_in_two, frn]
      refine W_for1 (q := !o) (ds := [.lst false (encs p.parts)]) (e1 := [some p.enc, some (.lst false (encs p.parts)), some (.lst false []), none]) (by cases o <;> simp only [call1, ev.eq_1, ev.eq_2, ev.eq_3, ev.eq_4, ev.eq_5, ev.eq_6, ev.eq_7, ev.eq_8, ev.eq_9, ev.eq_10, ev.eq_11, ev.eq_12, ev.eq_13, ev.eq_14, ev.eq_15, ev.eq_16, ev.eq_17, ev.eq_18, ev.eq_19, ev.eq_20, ev.eq_21, ev.eq_22, ev.eq_23, ev.eq_24, ev.eq_25, ev.eq_28, ev.eq_29, ev.eq_30, ev.eq_31, ev.eq_32, ev.eq_33, ev.eq_34, ev.eq_35, evs, eva, evt, ended, outsOf, Il.start, okIO, called, backs, Il.fin, sets, optR, IE.isNop, chg, place, nodeOk, atP, setP, chgAt, ownLst, ownDct, unpD, LQ, reduceIte, reduceCtorEq, Nat.reduceSub, Nat.reduceAdd, Int.reduceLT, Int.reduceLE, Int.reduceNeg, decide_true, decide_false, ite_true, ite_false, if_true, if_false, bnd_ok, bnd_ex, bndS_ok, bndS_ex, gets_zero, gets_succ, own_non, own_bl, own_int, own_str, own_lst, own_tup, own_scr, frz_non, frz_bl, frz_int, frz_str, frz_scr, l_set0, l_setS, noOwn_nil, noOwn_cons, x_nil, x_pas, x_brk, x_cont, x_retN, x_ret, x_exp, x_set, x_unp, x_ite, x_app, x_apS, x_ext, nown_ok, seq_nx, seq_none, s_neg, s_len_lst, s_len_tup, s_len_scr, s_int_bl, s_int_int, s_add_int, s_sub_int, s_mul_l, s_mul_r, sm_48271, sm_10, sm_5, s_fdiv_int, s_mod_int, s_pow9, s_lt_int, s_le_int, s_gt_int, s_ge_int, s_eq_int, s_ne_int, s_find, s_index, s_in_str, s_nin_str, rcv_find, rcv_index, rcv_join, rcv_add, rcv_sub, rcv_mul, rcv_fdiv, rcv_mod, rcv_pow, rcv_eq, rcv_ne, rcv_lt, rcv_le, rcv_gt, rcv_ge, rcv_in, rcv_nin, t_bl, x_lst, x_tup, x_scr, i_str, i_lst, i_tup, ty_ii, ty_bi, ty_in, ty_ib, ty_bb, List.map_cons, List.map_nil, List.cons_append, List.nil_append, List.append_nil, List.replicate_succ, List.replicate_zero, List.length_cons, List.length_nil, List.all_cons, List.all_nil, List.contains_nil, List.isEmpty_nil, Bool.not_false, Bool.not_true, Bool.and_true, Bool.true_and, Bool.and_false, Bool.false_and, Bool.or_true, Bool.true_or, Bool.or_false, Bool.false_or, Bool.false_eq_true, Bool.and_self, Bool.or_self, Option.map_some, Option.map_none, and_self, and_true, true_and, era_nil, era_s, era_n, pur_nil, pur_s, pur_n, D.erase, eraseL, D.pure, pureL, D.closed, closedL, s_eq_str, s_ne_str, wq_one_one, wq_one_row, wq_one_or, wq_one_many, wq_one_maybe, wq_row_one, wq_row_row, wq_row_or, wq_row_many, wq_row_maybe, wq_or_one, wq_or_row, wq_or_or, wq_or_many, wq_or_maybe, wq_many_one, wq_many_row, wq_many_or, wq_many_many, wq_many_maybe, wq_maybe_one, wq_maybe_row, wq_maybe_or, wq_maybe_many, wq_maybe_maybe, s_in_ints, s_nin_ints, s_sorted_ints, s_eq_ints, s_min, s_eq_bl, s_ne_bl, intL_app, t_lst, s_in_two, frz_lst own]) (i_lst _) rfl (fun i e => ∃ v, e = [some p.enc, some (.lst false (encs p.parts)), some (.lst false (strL (leavesL (p.parts.take i)))), v]) ⟨_, rfl⟩ ?_ ?_
      · rintro i x e hx ⟨v, rfl⟩
        obtain ⟨q, hq', rfl, hm⟩ := encs_at hx
        have q3 := leaves_part none1 hm
        obtain ⟨o', hr⟩ := ih q (hq q hm) (by omega)
        have q4 := leaves_take (ps := p.parts) i
        rw [← leaves_parts p none1] at q4
        have ha := fun o' => s_add_strs (o := false) (o' := o') (a := leavesL (p.parts.take i)) (b := q.leaves) (by omega)
        simp only [call1, ev.eq_1, ev.eq_2, ev.eq_3, ev.eq_4, ev.eq_5, ev.eq_6, ev.eq_7, ev.eq_8, ev.eq_9, ev.eq_10, ev.eq_11, ev.eq_12, ev.eq_13, ev.eq_14, ev.eq_15, ev.eq_16, ev.eq_17, ev.eq_18, ev.eq_19, ev.eq_20, ev.eq_21, ev.eq_22, ev.eq_23, ev.eq_24, ev.eq_25, ev.eq_28, ev.eq_29, ev.eq_30, ev.eq_31, ev.eq_32, ev.eq_33, ev.eq_34, ev.eq_35, evs, eva, evt, ended, outsOf, Il.start, okIO, called, backs, Il.fin, sets, optR, IE.isNop, chg, place, nodeOk, atP, setP, chgAt, ownLst, ownDct, unpD, LQ, reduceIte, reduceCtorEq, Nat.reduceSub, Nat.reduceAdd, Int.reduceLT, Int.reduceLE, Int.reduceNeg, decide_true, decide_false, ite_true, ite_false, if_true, if_false, bnd_ok, bnd_ex, bndS_ok, bndS_ex, gets_zero, gets_succ, own_non, own_bl, own_int, own_str, own_lst, own_tup, own_scr, frz_non, frz_bl, frz_int, frz_str, frz_scr, l_set0, l_setS, noOwn_nil, noOwn_cons, x_nil, x_pas, x_brk, x_cont, x_retN, x_ret, x_exp, x_set, x_unp, x_ite, x_app, x_apS, x_ext, nown_ok, seq_nx, seq_none, s_neg, s_len_lst, s_len_tup, s_len_scr, s_int_bl, s_int_int, s_add_int, s_sub_int, s_mul_l, s_mul_r, sm_48271, sm_10, sm_5, s_fdiv_int, s_mod_int, s_pow9, s_lt_int, s_le_int, s_gt_int, s_ge_int, s_eq_int, s_ne_int, s_find, s_index, s_in_str, s_nin_str, rcv_find, rcv_index, rcv_join, rcv_add, rcv_sub, rcv_mul, rcv_fdiv, rcv_mod, rcv_pow, rcv_eq, rcv_ne, rcv_lt, rcv_le, rcv_gt, rcv_ge, rcv_in, rcv_nin, t_bl, x_lst, x_tup, x_scr, i_str, i_lst, i_tup, ty_ii, ty_bi, ty_in, ty_ib, ty_bb, List.map_cons, List.map_nil, List.cons_append, List.nil_append, List.append_nil, List.replicate_succ, List.replicate_zero, List.length_cons, List.length_nil, List.all_cons, List.all_nil, List.contains_nil, List.isEmpty_nil, Bool.not_false, Bool.not_true, Bool.and_true, Bool.true_and, Bool.and_false, Bool.false_and, Bool.or_true, Bool.true_or, Bool.or_false, Bool.false_or, Bool.false_eq_true, Bool.and_self, Bool.or_self, Option.map_some, Option.map_none, and_self, and_true, true_and, era_nil, era_s, era_n, pur_nil, pur_s, pur_n, D.erase, eraseL, D.pure, pureL, D.closed, closedL, s_eq_str, s_ne_str, wq_one_one, wq_one_row, wq_one_or, wq_one_many, wq_one_maybe, wq_row_one, wq_row_row, wq_row_or, wq_row_many, wq_row_maybe, wq_or_one, wq_or_row, wq_or_or, wq_or_many, wq_or_maybe, wq_many_one, wq_many_row, wq_many_or, wq_many_many, wq_many_maybe, wq_maybe_one, wq_maybe_row, wq_maybe_or, wq_maybe_many, wq_maybe_maybe, s_in_ints, s_nin_ints, s_sorted_ints, s_eq_ints, s_min, s_eq_bl, s_ne_bl, intL_app, t_lst, s_in_two, enc_own q, hr, frz_lst (strs_own _), ha]
        refine W_nx ⟨some q.enc, ?_⟩
        rw [take_succ_at hq', leavesL_app]
        simp only [leavesL, List.append_nil]
      · rintro e ⟨v, rfl⟩
        rw [encs_len, List.take_length, ← leaves_parts p none1]
        simp only [call1, ev.eq_1, ev.eq_2, ev.eq_3, ev.eq_4, ev.eq_5, ev.eq_6, ev.eq_7, ev.eq_8, ev.eq_9, ev.eq_10, ev.eq_11, ev.eq_12, ev.eq_13, ev.eq_14, ev.eq_15, ev.eq_16, ev.eq_17, ev.eq_18, ev.eq_19, ev.eq_20, ev.eq_21, ev.eq_22, ev.eq_23, ev.eq_24, ev.eq_25, ev.eq_28, ev.eq_29, ev.eq_30, ev.eq_31, ev.eq_32, ev.eq_33, ev.eq_34, ev.eq_35, evs, eva, evt, ended, outsOf, Il.start, okIO, called, backs, Il.fin, sets, optR, IE.isNop, chg, place, nodeOk, atP, setP, chgAt, ownLst, ownDct, unpD, LQ, reduceIte, reduceCtorEq, Nat.reduceSub, Nat.reduceAdd, Int.reduceLT, Int.reduceLE, Int.reduceNeg, decide_true, decide_false, ite_true, ite_false, if_true, if_false, bnd_ok, bnd_ex, bndS_ok, bndS_ex, gets_zero, gets_succ, own_non, own_bl, own_int, own_str, own_lst, own_tup, own_scr, frz_non, frz_bl, frz_int, frz_str, frz_scr, l_set0, l_setS, noOwn_nil, noOwn_cons, x_nil, x_pas, x_brk, x_cont, x_retN, x_ret, x_exp, x_set, x_unp, x_ite, x_app, x_apS, x_ext, nown_ok, seq_nx, seq_none, s_neg, s_len_lst, s_len_tup, s_len_scr, s_int_bl, s_int_int, s_add_int, s_sub_int, s_mul_l, s_mul_r, sm_48271, sm_10, sm_5, s_fdiv_int, s_mod_int, s_pow9, s_lt_int, s_le_int, s_gt_int, s_ge_int, s_eq_int, s_ne_int, s_find, s_index, s_in_str, s_nin_str, rcv_find, rcv_index, rcv_join, rcv_add, rcv_sub, rcv_mul, rcv_fdiv, rcv_mod, rcv_pow, rcv_eq, rcv_ne, rcv_lt, rcv_le, rcv_gt, rcv_ge, rcv_in, rcv_nin, t_bl, x_lst, x_tup, x_scr, i_str, i_lst, i_tup, ty_ii, ty_bi, ty_in, ty_ib, ty_bb, List.map_cons, List.map_nil, List.cons_append, List.nil_append, List.append_nil, List.replicate_succ, List.replicate_zero, List.length_cons, List.length_nil, List.all_cons, List.all_nil, List.contains_nil, List.isEmpty_nil, Bool.not_false, Bool.not_true, Bool.and_true, Bool.true_and, Bool.and_false, Bool.false_and, Bool.or_true, Bool.true_or, Bool.or_false, Bool.false_or, Bool.false_eq_true, Bool.and_self, Bool.or_self, Option.map_some, Option.map_none, and_self, and_true, true_and, era_nil, era_s, era_n, pur_nil, pur_s, pur_n, D.erase, eraseL, D.pure, pureL, D.closed, closedL, s_eq_str, s_ne_str, wq_one_one, wq_one_row, wq_one_or, wq_one_many, wq_one_maybe, wq_row_one, wq_row_row, wq_row_or, wq_row_many, wq_row_maybe, wq_or_one, wq_or_row, wq_or_or, wq_or_many, wq_or_maybe, wq_many_one, wq_many_row, wq_many_or, wq_many_many, wq_many_maybe, wq_maybe_one, wq_maybe_row, wq_maybe_or, wq_maybe_many, wq_maybe_maybe, s_in_ints, s_nin_ints, s_sorted_ints, s_eq_ints, s_min, s_eq_bl, s_ne_bl, intL_app, t_lst, s_in_two]
        exact W_some rfl
    simp only [b_leaves, List.drop_succ_cons, List.drop_zero] at tail
    cases p with
    | one s =>
      refine ⟨true, run_We (fd := d_leaves) rfl rfl ?_⟩
      simp only [d_leaves, b_leaves]
      simp only [call1, ev.eq_1, ev.eq_2, ev.eq_3, ev.eq_4, ev.eq_5, ev.eq_6, ev.eq_7, ev.eq_8, ev.eq_9, ev.eq_10, ev.eq_11, ev.eq_12, ev.eq_13, ev.eq_14, ev.eq_15, ev.eq_16, ev.eq_17, ev.eq_18, ev.eq_19, ev.eq_20, ev.eq_21, ev.eq_22, ev.eq_23, ev.eq_24, ev.eq_25, ev.eq_28, ev.eq_29, ev.eq_30, ev.eq_31, ev.eq_32, ev.eq_33, ev.eq_34, ev.eq_35, evs, eva, evt, ended, outsOf, Il.start, okIO, called, backs, Il.fin, sets, optR, IE.isNop, chg, place, nodeOk, atP, setP, chgAt, ownLst, ownDct, unpD, LQ, reduceIte, reduceCtorEq, Nat.reduceSub, Nat.reduceAdd, Int.reduceLT, Int.reduceLE, Int.reduceNeg, decide_true, decide_false, ite_true, ite_false, if_true, if_false, bnd_ok, bnd_ex, bndS_ok, bndS_ex, gets_zero, gets_succ, own_non, own_bl, own_int, own_str, own_lst, own_tup, own_scr, frz_non, frz_bl, frz_int, frz_str, frz_scr, l_set0, l_setS, noOwn_nil, noOwn_cons, x_nil, x_pas, x_brk, x_cont, x_retN, x_ret, x_exp, x_set, x_unp, x_ite, x_app, x_apS, x_ext, nown_ok, seq_nx, seq_none, s_neg, s_len_lst, s_len_tup, s_len_scr, s_int_bl, s_int_int, s_add_int, s_sub_int, s_mul_l, s_mul_r, sm_48271, sm_10, sm_5, s_fdiv_int, s_mod_int, s_pow9, s_lt_int, s_le_int, s_gt_int, s_ge_int, s_eq_int, s_ne_int, s_find, s_index, s_in_str, s_nin_str, rcv_find, rcv_index, rcv_join, rcv_add, rcv_sub, rcv_mul, rcv_fdiv, rcv_mod, rcv_pow, rcv_eq, rcv_ne, rcv_lt, rcv_le, rcv_gt, rcv_ge, rcv_in, rcv_nin, t_bl, x_lst, x_tup, x_scr, i_str, i_lst, i_tup, ty_ii, ty_bi, ty_in, ty_ib, ty_bb, List.map_cons, List.map_nil, List.cons_append, List.nil_append, List.append_nil, List.replicate_succ, List.replicate_zero, List.length_cons, List.length_nil, List.all_cons, List.all_nil, List.contains_nil, List.isEmpty_nil, Bool.not_false, Bool.not_true, Bool.and_true, Bool.true_and, Bool.and_false, Bool.false_and, Bool.or_true, Bool.true_or, Bool.or_false, Bool.false_or, Bool.false_eq_true, Bool.and_self, Bool.or_self, Option.map_some, Option.map_none, and_self, and_true, true_and, era_nil, era_s, era_n, pur_nil, pur_s, pur_n, D.erase, eraseL, D.pure, pureL, D.closed, closedL, s_eq_str, s_ne_str, wq_one_one, wq_one_row, wq_one_or, wq_one_many, wq_one_maybe, wq_row_one, wq_row_row, wq_row_or, wq_row_many, wq_row_maybe, wq_or_one, wq_or_row, wq_or_or, wq_or_many, wq_or_maybe, wq_many_one, wq_many_row, wq_many_or, wq_many_many, wq_many_maybe, wq_maybe_one, wq_maybe_row, wq_maybe_or, wq_maybe_many, wq_maybe_maybe, s_in_ints, s_nin_ints, s_sorted_ints, s_eq_ints, s_min, s_eq_bl, s_ne_bl, intL_app, t_lst, s_in_two, Pat.enc, at0, at1]
      exact W_some rfl
    | row ps =>
      refine ⟨false, run_We (fd := d_leaves) rfl rfl ?_⟩
      have t := tail false _ (by simp) ((deepL_mem (ps := ps)).mp (by simp only [Pat.deep] at hd; omega)) rfl
      simp only [d_leaves, b_leaves]
      simp only [Pat.enc, Pat.parts] at t ⊢
      simp only [call1, ev.eq_1, ev.eq_2, ev.eq_3, ev.eq_4, ev.eq_5, ev.eq_6, ev.eq_7, ev.eq_8, ev.eq_9, ev.eq_10, ev.eq_11, ev.eq_12, ev.eq_13, ev.eq_14, ev.eq_15, ev.eq_16, ev.eq_17, ev.eq_18, ev.eq_19, ev.eq_20, ev.eq_21, ev.eq_22, ev.eq_23, ev.eq_24, ev.eq_25, ev.eq_28, ev.eq_29, ev.eq_30, ev.eq_31, ev.eq_32, ev.eq_33, ev.eq_34, ev.eq_35, evs, eva, evt, ended, outsOf, Il.start, okIO, called, backs, Il.fin, sets, optR, IE.isNop, chg, place, nodeOk, atP, setP, chgAt, ownLst, ownDct, unpD, LQ, reduceIte, reduceCtorEq, Nat.reduceSub, Nat.reduceAdd, Int.reduceLT, Int.reduceLE, Int.reduceNeg, decide_true, decide_false, ite_true, ite_false, if_true, if_false, bnd_ok, bnd_ex, bndS_ok, bndS_ex, gets_zero, gets_succ, own_non, own_bl, own_int, own_str, own_lst, own_tup, own_scr, frz_non, frz_bl, frz_int, frz_str, frz_scr, l_set0, l_setS, noOwn_nil, noOwn_cons, x_nil, x_pas, x_brk, x_cont, x_retN, x_ret, x_exp, x_set, x_unp, x_ite, x_app, x_apS, x_ext, nown_ok, seq_nx, seq_none, s_neg, s_len_lst, s_len_tup, s_len_scr, s_int_bl, s_int_int, s_add_int, s_sub_int, s_mul_l, s_mul_r, sm_48271, sm_10, sm_5, s_fdiv_int, s_mod_int, s_pow9, s_lt_int, s_le_int, s_gt_int, s_ge_int, s_eq_int, s_ne_int, s_find, s_index, s_in_str, s_nin_str, rcv_find, rcv_index, rcv_join, rcv_add, rcv_sub, rcv_mul, rcv_fdiv, rcv_mod, rcv_pow, rcv_eq, rcv_ne, rcv_lt, rcv_le, rcv_gt, rcv_ge, rcv_in, rcv_nin, t_bl, x_lst, x_tup, x_scr, i_str, i_lst, i_tup, ty_ii, ty_bi, ty_in, ty_ib, ty_bb, List.map_cons, List.map_nil, List.cons_append, List.nil_append, List.append_nil, List.replicate_succ, List.replicate_zero, List.length_cons, List.length_nil, List.all_cons, List.all_nil, List.contains_nil, List.isEmpty_nil, Bool.not_false, Bool.not_true, Bool.and_true, Bool.true_and, Bool.and_false, Bool.false_and, Bool.or_true, Bool.true_or, Bool.or_false, Bool.false_or, Bool.false_eq_true, Bool.and_self, Bool.or_self, Option.map_some, Option.map_none, and_self, and_true, true_and, era_nil, era_s, era_n, pur_nil, pur_s, pur_n, D.erase, eraseL, D.pure, pureL, D.closed, closedL, s_eq_str, s_ne_str, wq_one_one, wq_one_row, wq_one_or, wq_one_many, wq_one_maybe, wq_row_one, wq_row_row, wq_row_or, wq_row_many, wq_row_maybe, wq_or_one, wq_or_row, wq_or_or, wq_or_many, wq_or_maybe, wq_many_one, wq_many_row, wq_many_or, wq_many_many, wq_many_maybe, wq_maybe_one, wq_maybe_row, wq_maybe_or, wq_maybe_many, wq_maybe_maybe, s_in_ints, s_nin_ints, s_sorted_ints, s_eq_ints, s_min, s_eq_bl, s_ne_bl, intL_app, t_lst, s_in_two, at0, at1] at t ⊢
      exact t
    | or ps =>
      refine ⟨false, run_We (fd := d_leaves) rfl rfl ?_⟩
      have t := tail false _ (by simp) ((deepL_mem (ps := ps)).mp (by simp only [Pat.deep] at hd; omega)) rfl
      simp only [d_leaves, b_leaves]
      simp only [Pat.enc, Pat.parts] at t ⊢
      simp only [call1, ev.eq_1, ev.eq_2, ev.eq_3, ev.eq_4, ev.eq_5, ev.eq_6, ev.eq_7, ev.eq_8, ev.eq_9, ev.eq_10, ev.eq_11, ev.eq_12, ev.eq_13, ev.eq_14, ev.eq_15, ev.eq_16, ev.eq_17, ev.eq_18, ev.eq_19, ev.eq_20, ev.eq_21, ev.eq_22, ev.eq_23, ev.eq_24, ev.eq_25, ev.eq_28, ev.eq_29, ev.eq_30, ev.eq_31, ev.eq_32, ev.eq_33, ev.eq_34, ev.eq_35, evs, eva, evt, ended, outsOf, Il.start, okIO, called, backs, Il.fin, sets, optR, IE.isNop, chg, place, nodeOk, atP, setP, chgAt, ownLst, ownDct, unpD, LQ, reduceIte, reduceCtorEq, Nat.reduceSub, Nat.reduceAdd, Int.reduceLT, Int.reduceLE, Int.reduceNeg, decide_true, decide_false, ite_true, ite_false, if_true, if_false, bnd_ok, bnd_ex, bndS_ok, bndS_ex, gets_zero, gets_succ, own_non, own_bl, own_int, own_str, own_lst, own_tup, own_scr, frz_non, frz_bl, frz_int, frz_str, frz_scr, l_set0, l_setS, noOwn_nil, noOwn_cons, x_nil, x_pas, x_brk, x_cont, x_retN, x_ret, x_exp, x_set, x_unp, x_ite, x_app, x_apS, x_ext, nown_ok, seq_nx, seq_none, s_neg, s_len_lst, s_len_tup, s_len_scr, s_int_bl, s_int_int, s_add_int, s_sub_int, s_mul_l, s_mul_r, sm_48271, sm_10, sm_5, s_fdiv_int, s_mod_int, s_pow9, s_lt_int, s_le_int, s_gt_int, s_ge_int, s_eq_int, s_ne_int, s_find, s_index, s_in_str, s_nin_str, rcv_find, rcv_index, rcv_join, rcv_add, rcv_sub, rcv_mul, rcv_fdiv, rcv_mod, rcv_pow, rcv_eq, rcv_ne, rcv_lt, rcv_le, rcv_gt, rcv_ge, rcv_in, rcv_nin, t_bl, x_lst, x_tup, x_scr, i_str, i_lst, i_tup, ty_ii, ty_bi, ty_in, ty_ib, ty_bb, List.map_cons, List.map_nil, List.cons_append, List.nil_append, List.append_nil, List.replicate_succ, List.replicate_zero, List.length_cons, List.length_nil, List.all_cons, List.all_nil, List.contains_nil, List.isEmpty_nil, Bool.not_false, Bool.not_true, Bool.and_true, Bool.true_and, Bool.and_false, Bool.false_and, Bool.or_true, Bool.true_or, Bool.or_false, Bool.false_or, Bool.false_eq_true, Bool.and_self, Bool.or_self, Option.map_some, Option.map_none, and_self, and_true, true_and, era_nil, era_s, era_n, pur_nil, pur_s, pur_n, D.erase, eraseL, D.pure, pureL, D.closed, closedL, s_eq_str, s_ne_str, wq_one_one, wq_one_row, wq_one_or, wq_one_many, wq_one_maybe, wq_row_one, wq_row_row, wq_row_or, wq_row_many, wq_row_maybe, wq_or_one, wq_or_row, wq_or_or, wq_or_many, wq_or_maybe, wq_many_one, wq_many_row, wq_many_or, wq_many_many, wq_many_maybe, wq_maybe_one, wq_maybe_row, wq_maybe_or, wq_maybe_many, wq_maybe_maybe, s_in_ints, s_nin_ints, s_sorted_ints, s_eq_ints, s_min, s_eq_bl, s_ne_bl, intL_app, t_lst, s_in_two, at0, at1] at t ⊢
      exact t
    | many q =>
      refine ⟨false, run_We (fd := d_leaves) rfl rfl ?_⟩
      have t := tail true _ (by simp) (fun q' h => by simp only [Pat.parts, List.mem_singleton] at h; subst h; simp only [Pat.deep] at hd; omega) rfl
      simp only [d_leaves, b_leaves]
      simp only [Pat.enc, Pat.parts, encs] at t ⊢
      simp only [call1, ev.eq_1, ev.eq_2, ev.eq_3, ev.eq_4, ev.eq_5, ev.eq_6, ev.eq_7, ev.eq_8, ev.eq_9, ev.eq_10, ev.eq_11, ev.eq_12, ev.eq_13, ev.eq_14, ev.eq_15, ev.eq_16, ev.eq_17, ev.eq_18, ev.eq_19, ev.eq_20, ev.eq_21, ev.eq_22, ev.eq_23, ev.eq_24, ev.eq_25, ev.eq_28, ev.eq_29, ev.eq_30, ev.eq_31, ev.eq_32, ev.eq_33, ev.eq_34, ev.eq_35, evs, eva, evt, ended, outsOf, Il.start, okIO, called, backs, Il.fin, sets, optR, IE.isNop, chg, place, nodeOk, atP, setP, chgAt, ownLst, ownDct, unpD, LQ, reduceIte, reduceCtorEq, Nat.reduceSub, Nat.reduceAdd, Int.reduceLT, Int.reduceLE, Int.reduceNeg, decide_true, decide_false, ite_true, ite_false, if_true, if_false, bnd_ok, bnd_ex, bndS_ok, bndS_ex, gets_zero, gets_succ, own_non, own_bl, own_int, own_str, own_lst, own_tup, own_scr, frz_non, frz_bl, frz_int, frz_str, frz_scr, l_set0, l_setS, noOwn_nil, noOwn_cons, x_nil, x_pas, x_brk, x_cont, x_retN, x_ret, x_exp, x_set, x_unp, x_ite, x_app, x_apS, x_ext, nown_ok, seq_nx, seq_none, s_neg, s_len_lst, s_len_tup, s_len_scr, s_int_bl, s_int_int, s_add_int, s_sub_int, s_mul_l, s_mul_r, sm_48271, sm_10, sm_5, s_fdiv_int, s_mod_int, s_pow9, s_lt_int, s_le_int, s_gt_int, s_ge_int, s_eq_int, s_ne_int, s_find, s_index, s_in_str, s_nin_str, rcv_find, rcv_index, rcv_join, rcv_add, rcv_sub, rcv_mul, rcv_fdiv, rcv_mod, rcv_pow, rcv_eq, rcv_ne, rcv_lt, rcv_le, rcv_gt, rcv_ge, rcv_in, rcv_nin, t_bl, x_lst, x_tup, x_scr, i_str, i_lst, i_tup, ty_ii, ty_bi, ty_in, ty_ib, ty_bb, List.map_cons, List.map_nil, List.cons_append, List.nil_append, List.append_nil, List.replicate_succ, List.replicate_zero, List.length_cons, List.length_nil, List.all_cons, List.all_nil, List.contains_nil, List.isEmpty_nil, Bool.not_false, Bool.not_true, Bool.and_true, Bool.true_and, Bool.and_false, Bool.false_and, Bool.or_true, Bool.true_or, Bool.or_false, Bool.false_or, Bool.false_eq_true, Bool.and_self, Bool.or_self, Option.map_some, Option.map_none, and_self, and_true, true_and, era_nil, era_s, era_n, pur_nil, pur_s, pur_n, D.erase, eraseL, D.pure, pureL, D.closed, closedL, s_eq_str, s_ne_str, wq_one_one, wq_one_row, wq_one_or, wq_one_many, wq_one_maybe, wq_row_one, wq_row_row, wq_row_or, wq_row_many, wq_row_maybe, wq_or_one, wq_or_row, wq_or_or, wq_or_many, wq_or_maybe, wq_many_one, wq_many_row, wq_many_or, wq_many_many, wq_many_maybe, wq_maybe_one, wq_maybe_row, wq_maybe_or, wq_maybe_many, wq_maybe_maybe, s_in_ints, s_nin_ints, s_sorted_ints, s_eq_ints, s_min, s_eq_bl, s_ne_bl, intL_app, t_lst, s_in_two, at0, at1, enc_own q] at t ⊢
      exact t
    | maybe q =>
      refine ⟨false, run_We (fd := d_leaves) rfl rfl ?_⟩
      have t := tail true _ (by simp) (fun q' h => by simp only [Pat.parts, List.mem_singleton] at h; subst h; simp only [Pat.deep] at hd; omega) rfl
      simp only [d_leaves, b_leaves]
      simp only [Pat.enc, Pat.parts, encs] at t ⊢
      simp only [call1, ev.eq_1, ev.eq_2, ev.eq_3, ev.eq_4, ev.eq_5, ev.eq_6, ev.eq_7, ev.eq_8, ev.eq_9, ev.eq_10, ev.eq_11, ev.eq_12, ev.eq_13, ev.eq_14, ev.eq_15, ev.eq_16, ev.eq_17, ev.eq_18, ev.eq_19, ev.eq_20, ev.eq_21, ev.eq_22, ev.eq_23, ev.eq_24, ev.eq_25, ev.eq_28, ev.eq_29, ev.eq_30, ev.eq_31, ev.eq_32, ev.eq_33, ev.eq_34, ev.eq_35, evs, eva, evt, ended, outsOf, Il.start, okIO, called, backs, Il.fin, sets, optR, IE.isNop, chg, place, nodeOk, atP, setP, chgAt, ownLst, ownDct, unpD, LQ, reduceIte, reduceCtorEq, Nat.reduceSub, Nat.reduceAdd, Int.reduceLT, Int.reduceLE, Int.reduceNeg, decide_true, decide_false, ite_true, ite_false, if_true, if_false, bnd_ok, bnd_ex, bndS_ok, bndS_ex, gets_zero, gets_succ, own_non, own_bl, own_int, own_str, own_lst, own_tup, own_scr, frz_non, frz_bl, frz_int, frz_str, frz_scr, l_set0, l_setS, noOwn_nil, noOwn_cons, x_nil, x_pas, x_brk, x_cont, x_retN, x_ret, x_exp, x_set, x_unp, x_ite, x_app, x_apS, x_ext, nown_ok, seq_nx, seq_none, s_neg, s_len_lst, s_len_tup, s_len_scr, s_int_bl, s_int_int, s_add_int, s_sub_int, s_mul_l, s_mul_r, sm_48271, sm_10, sm_5, s_fdiv_int, s_mod_int, s_pow9, s_lt_int, s_le_int, s_gt_int, s_ge_int, s_eq_int, s_ne_int, s_find, s_index, s_in_str, s_nin_str, rcv_find, rcv_index, rcv_join, rcv_add, rcv_sub, rcv_mul, rcv_fdiv, rcv_mod, rcv_pow, rcv_eq, rcv_ne, rcv_lt, rcv_le, rcv_gt, rcv_ge, rcv_in, rcv_nin, t_bl, x_lst, x_tup, x_scr, i_str, i_lst, i_tup, ty_ii, ty_bi, ty_in, ty_ib, ty_bb, List.map_cons, List.map_nil, List.cons_append, List.nil_append, List.append_nil, List.replicate_succ, List.replicate_zero, List.length_cons, List.length_nil, List.all_cons, List.all_nil, List.contains_nil, List.isEmpty_nil, Bool.not_false, Bool.not_true, Bool.and_true, Bool.true_and, Bool.and_false, Bool.false_and, Bool.or_true, Bool.true_or, Bool.or_false, Bool.false_or, Bool.false_eq_true, Bool.and_self, Bool.or_self, Option.map_some, Option.map_none, and_self, and_true, true_and, era_nil, era_s, era_n, pur_nil, pur_s, pur_n, D.erase, eraseL, D.pure, pureL, D.closed, closedL, s_eq_str, s_ne_str, wq_one_one, wq_one_row, wq_one_or, wq_one_many, wq_one_maybe, wq_row_one, wq_row_row, wq_row_or, wq_row_many, wq_row_maybe, wq_or_one, wq_or_row, wq_or_or, wq_or_many, wq_or_maybe, wq_many_one, wq_many_row, wq_many_or, wq_many_many, wq_many_maybe, wq_maybe_one, wq_maybe_row, wq_maybe_or, wq_maybe_many, wq_maybe_maybe, s_in_ints, s_nin_ints, s_sorted_ints, s_eq_ints, s_min, s_eq_bl, s_ne_bl, intL_app, t_lst, s_in_two, at0, at1, enc_own q] at t ⊢
      exact t
theorem strL_at {l : List (List Nat)} {i : Nat} {x : D} (h : (strL l)[i]? = some x) : ∃ s, l[i]? = some s ∧ x = .str s := by
  unfold strL at h
  rw [List.getElem?_map] at h
  cases z : l[i]? with
  | none =>
    rw [z] at h
    cases h
  | some s =>
    rw [z] at h
    cases h
    exact ⟨s, rfl, rfl⟩
theorem chars_at {s : List Nat} {i : Nat} {x : D} (h : (s.map fun c => D.str [c])[i]? = some x) : ∃ c, s[i]? = some c ∧ x = .str [c] ∧ s.take (i + 1) = s.take i ++ [c] := by
  rw [List.getElem?_map] at h
  cases z : s[i]? with
  | none =>
    rw [z] at h
    cases h
  | some c =>
    rw [z] at h
    cases h
    exact ⟨c, rfl, rfl, by rw [List.take_add_one, z]; rfl⟩
theorem uni_snoc (l s : List Nat) (c : Nat) : uni l (s ++ [c]) = addU (uni l s) c := by rw [uni_app]; rfl
theorem seen_e : D.dct .k true [] [] = seenD [] := rfl
theorem ex_signs_of (n : Nat) {ps : List Pat} (hd : deepL ps ≤ n) (hok : OkL ps) (hne : ps ≠ []) (h8 : ps.length ≤ 8) (h60 : (leavesL ps).length ≤ 60) : run TT (n + 4) i_signs_of [.lst false (encs ps)] = some (.ret (.str (sortS ((uni [] (leavesL ps).flatten).map fun c => [c])).flatten) []) := by
  have h5 := ex_looked_at n hd hok hne h8 h60
  have hlen := leavesL_ok ps hok
  have hfl := flat_len hlen
  refine run_We (fd := d_signs_of) rfl rfl ?_
  simp only [d_signs_of, b_signs_of]
  simp only [call1, ev.eq_1, ev.eq_2, ev.eq_3, ev.eq_4, ev.eq_5, ev.eq_6, ev.eq_7, ev.eq_8, ev.eq_9, ev.eq_10, ev.eq_11, ev.eq_12, ev.eq_13, ev.eq_14, ev.eq_15, ev.eq_16, ev.eq_17, ev.eq_18, ev.eq_19, ev.eq_20, ev.eq_21, ev.eq_22, ev.eq_23, ev.eq_24, ev.eq_25, ev.eq_28, ev.eq_29, ev.eq_30, ev.eq_31, ev.eq_32, ev.eq_33, ev.eq_34, ev.eq_35, evs, eva, evt, ended, outsOf, Il.start, okIO, called, backs, Il.fin, sets, optR, IE.isNop, chg, place, nodeOk, atP, setP, chgAt, ownLst, ownDct, unpD, LQ, reduceIte, reduceCtorEq, Nat.reduceSub, Nat.reduceAdd, Int.reduceLT, Int.reduceLE, Int.reduceNeg, decide_true, decide_false, ite_true, ite_false, if_true, if_false, bnd_ok, bnd_ex, bndS_ok, bndS_ex, gets_zero, gets_succ, own_non, own_bl, own_int, own_str, own_lst, own_tup, own_scr, frz_non, frz_bl, frz_int, frz_str, frz_scr, l_set0, l_setS, noOwn_nil, noOwn_cons, x_nil, x_pas, x_brk, x_cont, x_retN, x_ret, x_exp, x_set, x_unp, x_ite, x_app, x_apS, x_ext, nown_ok, seq_nx, seq_none, s_neg, s_len_lst, s_len_tup, s_len_scr, s_int_bl, s_int_int, s_add_int, s_sub_int, s_mul_l, s_mul_r, sm_48271, sm_10, sm_5, s_fdiv_int, s_mod_int, s_pow9, s_lt_int, s_le_int, s_gt_int, s_ge_int, s_eq_int, s_ne_int, s_find, s_index, s_in_str, s_nin_str, rcv_find, rcv_index, rcv_join, rcv_add, rcv_sub, rcv_mul, rcv_fdiv, rcv_mod, rcv_pow, rcv_eq, rcv_ne, rcv_lt, rcv_le, rcv_gt, rcv_ge, rcv_in, rcv_nin, t_bl, x_lst, x_tup, x_scr, i_str, i_lst, i_tup, ty_ii, ty_bi, ty_in, ty_ib, ty_bb, List.map_cons, List.map_nil, List.cons_append, List.nil_append, List.append_nil, List.replicate_succ, List.replicate_zero, List.length_cons, List.length_nil, List.all_cons, List.all_nil, List.contains_nil, List.isEmpty_nil, Bool.not_false, Bool.not_true, Bool.and_true, Bool.true_and, Bool.and_false, Bool.false_and, Bool.or_true, Bool.true_or, Bool.or_false, Bool.false_or, Bool.false_eq_true, Bool.and_self, Bool.or_self, Option.map_some, Option.map_none, and_self, and_true, true_and, era_nil, era_s, era_n, pur_nil, pur_s, pur_n, D.erase, eraseL, D.pure, pureL, D.closed, closedL, s_eq_str, s_ne_str, wq_one_one, wq_one_row, wq_one_or, wq_one_many, wq_one_maybe, wq_row_one, wq_row_row, wq_row_or, wq_row_many, wq_row_maybe, wq_or_one, wq_or_row, wq_or_or, wq_or_many, wq_or_maybe, wq_many_one, wq_many_row, wq_many_or, wq_many_many, wq_many_maybe, wq_maybe_one, wq_maybe_row, wq_maybe_or, wq_maybe_many, wq_maybe_maybe, s_in_ints, s_nin_ints, s_sorted_ints, s_eq_ints, s_min, s_eq_bl, s_ne_bl, intL_app, t_lst, s_in_two, seen_e]
  refine W_for1 (q := true) (ds := [.lst false (strL (leavesL ps))]) (e1 := [some (.lst false (encs ps)), some (seenD []), none, none]) (by simp only [call1, ev.eq_1, ev.eq_2, ev.eq_3, ev.eq_4, ev.eq_5, ev.eq_6, ev.eq_7, ev.eq_8, ev.eq_9, ev.eq_10, ev.eq_11, ev.eq_12, ev.eq_13, ev.eq_14, ev.eq_15, ev.eq_16, ev.eq_17, ev.eq_18, ev.eq_19, ev.eq_20, ev.eq_21, ev.eq_22, ev.eq_23, ev.eq_24, ev.eq_25, ev.eq_28, ev.eq_29, ev.eq_30, ev.eq_31, ev.eq_32, ev.eq_33, ev.eq_34, ev.eq_35, evs, eva, evt, ended, outsOf, Il.start, okIO, called, backs, Il.fin, sets, optR, IE.isNop, chg, place, nodeOk, atP, setP, chgAt, ownLst, ownDct, unpD, LQ, reduceIte, reduceCtorEq, Nat.reduceSub, Nat.reduceAdd, Int.reduceLT, Int.reduceLE, Int.reduceNeg, decide_true, decide_false, ite_true, ite_false, if_true, if_false, bnd_ok, bnd_ex, bndS_ok, bndS_ex, gets_zero, gets_succ, own_non, own_bl, own_int, own_str, own_lst, own_tup, own_scr, frz_non, frz_bl, frz_int, frz_str, frz_scr, l_set0, l_setS, noOwn_nil, noOwn_cons, x_nil, x_pas, x_brk, x_cont, x_retN, x_ret, x_exp, x_set, x_unp, x_ite, x_app, x_apS, x_ext, nown_ok, seq_nx, seq_none, s_neg, s_len_lst, s_len_tup, s_len_scr, s_int_bl, s_int_int, s_add_int, s_sub_int, s_mul_l, s_mul_r, sm_48271, sm_10, sm_5, s_fdiv_int, s_mod_int, s_pow9, s_lt_int, s_le_int, s_gt_int, s_ge_int, s_eq_int, s_ne_int, s_find, s_index, s_in_str, s_nin_str, rcv_find, rcv_index, rcv_join, rcv_add, rcv_sub, rcv_mul, rcv_fdiv, rcv_mod, rcv_pow, rcv_eq, rcv_ne, rcv_lt, rcv_le, rcv_gt, rcv_ge, rcv_in, rcv_nin, t_bl, x_lst, x_tup, x_scr, i_str, i_lst, i_tup, ty_ii, ty_bi, ty_in, ty_ib, ty_bb, List.map_cons, List.map_nil, List.cons_append, List.nil_append, List.append_nil, List.replicate_succ, List.replicate_zero, List.length_cons, List.length_nil, List.all_cons, List.all_nil, List.contains_nil, List.isEmpty_nil, Bool.not_false, Bool.not_true, Bool.and_true, Bool.true_and, Bool.and_false, Bool.false_and, Bool.or_true, Bool.true_or, Bool.or_false, Bool.false_or, Bool.false_eq_true, Bool.and_self, Bool.or_self, Option.map_some, Option.map_none, and_self, and_true, true_and, era_nil, era_s, era_n, pur_nil, pur_s, pur_n, D.erase, eraseL, D.pure, pureL, D.closed, closedL, s_eq_str, s_ne_str, wq_one_one, wq_one_row, wq_one_or, wq_one_many, wq_one_maybe, wq_row_one, wq_row_row, wq_row_or, wq_row_many, wq_row_maybe, wq_or_one, wq_or_row, wq_or_or, wq_or_many, wq_or_maybe, wq_many_one, wq_many_row, wq_many_or, wq_many_many, wq_many_maybe, wq_maybe_one, wq_maybe_row, wq_maybe_or, wq_maybe_many, wq_maybe_maybe, s_in_ints, s_nin_ints, s_sorted_ints, s_eq_ints, s_min, s_eq_bl, s_ne_bl, intL_app, t_lst, s_in_two, h5, frz_lst (strs_own _)]) (i_lst _) rfl (fun i e => ∃ v2 v3, e = [some (.lst false (encs ps)), some (seenD (uni [] ((leavesL ps).take i).flatten)), v2, v3]) ⟨_, _, rfl⟩ ?_ ?_
  · rintro i x e hx ⟨v2, v3, rfl⟩
    obtain ⟨s, hs, rfl⟩ := strL_at hx
    have sp := congrArg (fun l => l.flatten.length) (split_at hs)
    simp only [List.flatten_append, List.flatten_cons, List.length_append] at sp
    have sl := hlen s (List.mem_of_getElem? hs)
    have sll : s.length ≤ line := by rw [lineEq]; omega
    simp only [call1, ev.eq_1, ev.eq_2, ev.eq_3, ev.eq_4, ev.eq_5, ev.eq_6, ev.eq_7, ev.eq_8, ev.eq_9, ev.eq_10, ev.eq_11, ev.eq_12, ev.eq_13, ev.eq_14, ev.eq_15, ev.eq_16, ev.eq_17, ev.eq_18, ev.eq_19, ev.eq_20, ev.eq_21, ev.eq_22, ev.eq_23, ev.eq_24, ev.eq_25, ev.eq_28, ev.eq_29, ev.eq_30, ev.eq_31, ev.eq_32, ev.eq_33, ev.eq_34, ev.eq_35, evs, eva, evt, ended, outsOf, Il.start, okIO, called, backs, Il.fin, sets, optR, IE.isNop, chg, place, nodeOk, atP, setP, chgAt, ownLst, ownDct, unpD, LQ, reduceIte, reduceCtorEq, Nat.reduceSub, Nat.reduceAdd, Int.reduceLT, Int.reduceLE, Int.reduceNeg, decide_true, decide_false, ite_true, ite_false, if_true, if_false, bnd_ok, bnd_ex, bndS_ok, bndS_ex, gets_zero, gets_succ, own_non, own_bl, own_int, own_str, own_lst, own_tup, own_scr, frz_non, frz_bl, frz_int, frz_str, frz_scr, l_set0, l_setS, noOwn_nil, noOwn_cons, x_nil, x_pas, x_brk, x_cont, x_retN, x_ret, x_exp, x_set, x_unp, x_ite, x_app, x_apS, x_ext, nown_ok, seq_nx, seq_none, s_neg, s_len_lst, s_len_tup, s_len_scr, s_int_bl, s_int_int, s_add_int, s_sub_int, s_mul_l, s_mul_r, sm_48271, sm_10, sm_5, s_fdiv_int, s_mod_int, s_pow9, s_lt_int, s_le_int, s_gt_int, s_ge_int, s_eq_int, s_ne_int, s_find, s_index, s_in_str, s_nin_str, rcv_find, rcv_index, rcv_join, rcv_add, rcv_sub, rcv_mul, rcv_fdiv, rcv_mod, rcv_pow, rcv_eq, rcv_ne, rcv_lt, rcv_le, rcv_gt, rcv_ge, rcv_in, rcv_nin, t_bl, x_lst, x_tup, x_scr, i_str, i_lst, i_tup, ty_ii, ty_bi, ty_in, ty_ib, ty_bb, List.map_cons, List.map_nil, List.cons_append, List.nil_append, List.append_nil, List.replicate_succ, List.replicate_zero, List.length_cons, List.length_nil, List.all_cons, List.all_nil, List.contains_nil, List.isEmpty_nil, Bool.not_false, Bool.not_true, Bool.and_true, Bool.true_and, Bool.and_false, Bool.false_and, Bool.or_true, Bool.true_or, Bool.or_false, Bool.false_or, Bool.false_eq_true, Bool.and_self, Bool.or_self, Option.map_some, Option.map_none, and_self, and_true, true_and, era_nil, era_s, era_n, pur_nil, pur_s, pur_n, D.erase, eraseL, D.pure, pureL, D.closed, closedL, s_eq_str, s_ne_str, wq_one_one, wq_one_row, wq_one_or, wq_one_many, wq_one_maybe, wq_row_one, wq_row_row, wq_row_or, wq_row_many, wq_row_maybe, wq_or_one, wq_or_row, wq_or_or, wq_or_many, wq_or_maybe, wq_many_one, wq_many_row, wq_many_or, wq_many_many, wq_many_maybe, wq_maybe_one, wq_maybe_row, wq_maybe_or, wq_maybe_many, wq_maybe_maybe, s_in_ints, s_nin_ints, s_sorted_ints, s_eq_ints, s_min, s_eq_bl, s_ne_bl, intL_app, t_lst, s_in_two]
    refine W_for1 (q := true) (xs := s.map fun c => D.str [c]) (ds := [.str s]) (e1 := [some (.lst false (encs ps)), some (seenD (uni [] ((leavesL ps).take i).flatten)), some (.str s), v3]) (by simp only [call1, ev.eq_1, ev.eq_2, ev.eq_3, ev.eq_4, ev.eq_5, ev.eq_6, ev.eq_7, ev.eq_8, ev.eq_9, ev.eq_10, ev.eq_11, ev.eq_12, ev.eq_13, ev.eq_14, ev.eq_15, ev.eq_16, ev.eq_17, ev.eq_18, ev.eq_19, ev.eq_20, ev.eq_21, ev.eq_22, ev.eq_23, ev.eq_24, ev.eq_25, ev.eq_28, ev.eq_29, ev.eq_30, ev.eq_31, ev.eq_32, ev.eq_33, ev.eq_34, ev.eq_35, evs, eva, evt, ended, outsOf, Il.start, okIO, called, backs, Il.fin, sets, optR, IE.isNop, chg, place, nodeOk, atP, setP, chgAt, ownLst, ownDct, unpD, LQ, reduceIte, reduceCtorEq, Nat.reduceSub, Nat.reduceAdd, Int.reduceLT, Int.reduceLE, Int.reduceNeg, decide_true, decide_false, ite_true, ite_false, if_true, if_false, bnd_ok, bnd_ex, bndS_ok, bndS_ex, gets_zero, gets_succ, own_non, own_bl, own_int, own_str, own_lst, own_tup, own_scr, frz_non, frz_bl, frz_int, frz_str, frz_scr, l_set0, l_setS, noOwn_nil, noOwn_cons, x_nil, x_pas, x_brk, x_cont, x_retN, x_ret, x_exp, x_set, x_unp, x_ite, x_app, x_apS, x_ext, nown_ok, seq_nx, seq_none, s_neg, s_len_lst, s_len_tup, s_len_scr, s_int_bl, s_int_int, s_add_int, s_sub_int, s_mul_l, s_mul_r, sm_48271, sm_10, sm_5, s_fdiv_int, s_mod_int, s_pow9, s_lt_int, s_le_int, s_gt_int, s_ge_int, s_eq_int, s_ne_int, s_find, s_index, s_in_str, s_nin_str, rcv_find, rcv_index, rcv_join, rcv_add, rcv_sub, rcv_mul, rcv_fdiv, rcv_mod, rcv_pow, rcv_eq, rcv_ne, rcv_lt, rcv_le, rcv_gt, rcv_ge, rcv_in, rcv_nin, t_bl, x_lst, x_tup, x_scr, i_str, i_lst, i_tup, ty_ii, ty_bi, ty_in, ty_ib, ty_bb, List.map_cons, List.map_nil, List.cons_append, List.nil_append, List.append_nil, List.replicate_succ, List.replicate_zero, List.length_cons, List.length_nil, List.all_cons, List.all_nil, List.contains_nil, List.isEmpty_nil, Bool.not_false, Bool.not_true, Bool.and_true, Bool.true_and, Bool.and_false, Bool.false_and, Bool.or_true, Bool.true_or, Bool.or_false, Bool.false_or, Bool.false_eq_true, Bool.and_self, Bool.or_self, Option.map_some, Option.map_none, and_self, and_true, true_and, era_nil, era_s, era_n, pur_nil, pur_s, pur_n, D.erase, eraseL, D.pure, pureL, D.closed, closedL, s_eq_str, s_ne_str, wq_one_one, wq_one_row, wq_one_or, wq_one_many, wq_one_maybe, wq_row_one, wq_row_row, wq_row_or, wq_row_many, wq_row_maybe, wq_or_one, wq_or_row, wq_or_or, wq_or_many, wq_or_maybe, wq_many_one, wq_many_row, wq_many_or, wq_many_many, wq_many_maybe, wq_maybe_one, wq_maybe_row, wq_maybe_or, wq_maybe_many, wq_maybe_maybe, s_in_ints, s_nin_ints, s_sorted_ints, s_eq_ints, s_min, s_eq_bl, s_ne_bl, intL_app, t_lst, s_in_two]) (by first | exact i_str sll | simp only [call1, ev.eq_1, ev.eq_2, ev.eq_3, ev.eq_4, ev.eq_5, ev.eq_6, ev.eq_7, ev.eq_8, ev.eq_9, ev.eq_10, ev.eq_11, ev.eq_12, ev.eq_13, ev.eq_14, ev.eq_15, ev.eq_16, ev.eq_17, ev.eq_18, ev.eq_19, ev.eq_20, ev.eq_21, ev.eq_22, ev.eq_23, ev.eq_24, ev.eq_25, ev.eq_28, ev.eq_29, ev.eq_30, ev.eq_31, ev.eq_32, ev.eq_33, ev.eq_34, ev.eq_35, evs, eva, evt, ended, outsOf, Il.start, okIO, called, backs, Il.fin, sets, optR, IE.isNop, chg, place, nodeOk, atP, setP, chgAt, ownLst, ownDct, unpD, LQ, reduceIte, reduceCtorEq, Nat.reduceSub, Nat.reduceAdd, Int.reduceLT, Int.reduceLE, Int.reduceNeg, decide_true, decide_false, ite_true, ite_false, if_true, if_false, bnd_ok, bnd_ex, bndS_ok, bndS_ex, gets_zero, gets_succ, own_non, own_bl, own_int, own_str, own_lst, own_tup, own_scr, frz_non, frz_bl, frz_int, frz_str, frz_scr, l_set0, l_setS, noOwn_nil, noOwn_cons, x_nil, x_pas, x_brk, x_cont, x_retN, x_ret, x_exp, x_set, x_unp, x_ite, x_app, x_apS, x_ext, nown_ok, seq_nx, seq_none, s_neg, s_len_lst, s_len_tup, s_len_scr, s_int_bl, s_int_int, s_add_int, s_sub_int, s_mul_l, s_mul_r, sm_48271, sm_10, sm_5, s_fdiv_int, s_mod_int, s_pow9, s_lt_int, s_le_int, s_gt_int, s_ge_int, s_eq_int, s_ne_int, s_find, s_index, s_in_str, s_nin_str, rcv_find, rcv_index, rcv_join, rcv_add, rcv_sub, rcv_mul, rcv_fdiv, rcv_mod, rcv_pow, rcv_eq, rcv_ne, rcv_lt, rcv_le, rcv_gt, rcv_ge, rcv_in, rcv_nin, t_bl, x_lst, x_tup, x_scr, i_str, i_lst, i_tup, ty_ii, ty_bi, ty_in, ty_ib, ty_bb, List.map_cons, List.map_nil, List.cons_append, List.nil_append, List.append_nil, List.replicate_succ, List.replicate_zero, List.length_cons, List.length_nil, List.all_cons, List.all_nil, List.contains_nil, List.isEmpty_nil, Bool.not_false, Bool.not_true, Bool.and_true, Bool.true_and, Bool.and_false, Bool.false_and, Bool.or_true, Bool.true_or, Bool.or_false, Bool.false_or, Bool.false_eq_true, Bool.and_self, Bool.or_self, Option.map_some, Option.map_none, and_self, and_true, true_and, era_nil, era_s, era_n, pur_nil, pur_s, pur_n, D.erase, eraseL, D.pure, pureL, D.closed, closedL, s_eq_str, s_ne_str, wq_one_one, wq_one_row, wq_one_or, wq_one_many, wq_one_maybe, wq_row_one, wq_row_row, wq_row_or, wq_row_many, wq_row_maybe, wq_or_one, wq_or_row, wq_or_or, wq_or_many, wq_or_maybe, wq_many_one, wq_many_row, wq_many_or, wq_many_many, wq_many_maybe, wq_maybe_one, wq_maybe_row, wq_maybe_or, wq_maybe_many, wq_maybe_maybe, s_in_ints, s_nin_ints, s_sorted_ints, s_eq_ints, s_min, s_eq_bl, s_ne_bl, intL_app, t_lst, s_in_two, sll]) rfl (fun k e => ∃ v3, e = [some (.lst false (encs ps)), some (seenD (uni [] (((leavesL ps).take i).flatten ++ s.take k))), some (.str s), v3]) ⟨_, by rw [List.take_zero, List.append_nil]⟩ ?_ ?_
    · rintro k y e hy ⟨v3, rfl⟩
      obtain ⟨c, hc, rfl, tk⟩ := chars_at hy
      have ll : (uni [] (((leavesL ps).take i).flatten ++ s.take k)).length < line := by
        have h1 := uni_len (((leavesL ps).take i).flatten ++ s.take k) []
        rw [List.length_append, List.length_nil, List.length_take] at h1
        rw [lineEq]
        omega
      have hsub := sub_seen c ll
      rw [← uni_snoc, List.append_assoc, ← tk] at hsub
      simp only [l_set0, l_setS]
      rw [do_subD (q := true) (d := .bl true) (y := .str [c]) (e1 := [some (.lst false (encs ps)), some (seenD (uni [] (((leavesL ps).take i).flatten ++ s.take k))), some (.str s), some (.str [c])]) (e2 := [some (.lst false (encs ps)), some (seenD (uni [] (((leavesL ps).take i).flatten ++ s.take k))), some (.str s), some (.str [c])]) (by simp only [call1, ev.eq_1, ev.eq_2, ev.eq_3, ev.eq_4, ev.eq_5, ev.eq_6, ev.eq_7, ev.eq_8, ev.eq_9, ev.eq_10, ev.eq_11, ev.eq_12, ev.eq_13, ev.eq_14, ev.eq_15, ev.eq_16, ev.eq_17, ev.eq_18, ev.eq_19, ev.eq_20, ev.eq_21, ev.eq_22, ev.eq_23, ev.eq_24, ev.eq_25, ev.eq_28, ev.eq_29, ev.eq_30, ev.eq_31, ev.eq_32, ev.eq_33, ev.eq_34, ev.eq_35, evs, eva, evt, ended, outsOf, Il.start, okIO, called, backs, Il.fin, sets, optR, IE.isNop, chg, place, nodeOk, atP, setP, chgAt, ownLst, ownDct, unpD, LQ, reduceIte, reduceCtorEq, Nat.reduceSub, Nat.reduceAdd, Int.reduceLT, Int.reduceLE, Int.reduceNeg, decide_true, decide_false, ite_true, ite_false, if_true, if_false, bnd_ok, bnd_ex, bndS_ok, bndS_ex, gets_zero, gets_succ, own_non, own_bl, own_int, own_str, own_lst, own_tup, own_scr, frz_non, frz_bl, frz_int, frz_str, frz_scr, l_set0, l_setS, noOwn_nil, noOwn_cons, x_nil, x_pas, x_brk, x_cont, x_retN, x_ret, x_exp, x_set, x_unp, x_ite, x_app, x_apS, x_ext, nown_ok, seq_nx, seq_none, s_neg, s_len_lst, s_len_tup, s_len_scr, s_int_bl, s_int_int, s_add_int, s_sub_int, s_mul_l, s_mul_r, sm_48271, sm_10, sm_5, s_fdiv_int, s_mod_int, s_pow9, s_lt_int, s_le_int, s_gt_int, s_ge_int, s_eq_int, s_ne_int, s_find, s_index, s_in_str, s_nin_str, rcv_find, rcv_index, rcv_join, rcv_add, rcv_sub, rcv_mul, rcv_fdiv, rcv_mod, rcv_pow, rcv_eq, rcv_ne, rcv_lt, rcv_le, rcv_gt, rcv_ge, rcv_in, rcv_nin, t_bl, x_lst, x_tup, x_scr, i_str, i_lst, i_tup, ty_ii, ty_bi, ty_in, ty_ib, ty_bb, List.map_cons, List.map_nil, List.cons_append, List.nil_append, List.append_nil, List.replicate_succ, List.replicate_zero, List.length_cons, List.length_nil, List.all_cons, List.all_nil, List.contains_nil, List.isEmpty_nil, Bool.not_false, Bool.not_true, Bool.and_true, Bool.true_and, Bool.and_false, Bool.false_and, Bool.or_true, Bool.true_or, Bool.or_false, Bool.false_or, Bool.false_eq_true, Bool.and_self, Bool.or_self, Option.map_some, Option.map_none, and_self, and_true, true_and, era_nil, era_s, era_n, pur_nil, pur_s, pur_n, D.erase, eraseL, D.pure, pureL, D.closed, closedL, s_eq_str, s_ne_str, wq_one_one, wq_one_row, wq_one_or, wq_one_many, wq_one_maybe, wq_row_one, wq_row_row, wq_row_or, wq_row_many, wq_row_maybe, wq_or_one, wq_or_row, wq_or_or, wq_or_many, wq_or_maybe, wq_many_one, wq_many_row, wq_many_or, wq_many_many, wq_many_maybe, wq_maybe_one, wq_maybe_row, wq_maybe_or, wq_maybe_many, wq_maybe_maybe, s_in_ints, s_nin_ints, s_sorted_ints, s_eq_ints, s_min, s_eq_bl, s_ne_bl, intL_app, t_lst, s_in_two]) rfl rfl (by simp only [call1, ev.eq_1, ev.eq_2, ev.eq_3, ev.eq_4, ev.eq_5, ev.eq_6, ev.eq_7, ev.eq_8, ev.eq_9, ev.eq_10, ev.eq_11, ev.eq_12, ev.eq_13, ev.eq_14, ev.eq_15, ev.eq_16, ev.eq_17, ev.eq_18, ev.eq_19, ev.eq_20, ev.eq_21, ev.eq_22, ev.eq_23, ev.eq_24, ev.eq_25, ev.eq_28, ev.eq_29, ev.eq_30, ev.eq_31, ev.eq_32, ev.eq_33, ev.eq_34, ev.eq_35, evs, eva, evt, ended, outsOf, Il.start, okIO, called, backs, Il.fin, sets, optR, IE.isNop, chg, place, nodeOk, atP, setP, chgAt, ownLst, ownDct, unpD, LQ, reduceIte, reduceCtorEq, Nat.reduceSub, Nat.reduceAdd, Int.reduceLT, Int.reduceLE, Int.reduceNeg, decide_true, decide_false, ite_true, ite_false, if_true, if_false, bnd_ok, bnd_ex, bndS_ok, bndS_ex, gets_zero, gets_succ, own_non, own_bl, own_int, own_str, own_lst, own_tup, own_scr, frz_non, frz_bl, frz_int, frz_str, frz_scr, l_set0, l_setS, noOwn_nil, noOwn_cons, x_nil, x_pas, x_brk, x_cont, x_retN, x_ret, x_exp, x_set, x_unp, x_ite, x_app, x_apS, x_ext, nown_ok, seq_nx, seq_none, s_neg, s_len_lst, s_len_tup, s_len_scr, s_int_bl, s_int_int, s_add_int, s_sub_int, s_mul_l, s_mul_r, sm_48271, sm_10, sm_5, s_fdiv_int, s_mod_int, s_pow9, s_lt_int, s_le_int, s_gt_int, s_ge_int, s_eq_int, s_ne_int, s_find, s_index, s_in_str, s_nin_str, rcv_find, rcv_index, rcv_join, rcv_add, rcv_sub, rcv_mul, rcv_fdiv, rcv_mod, rcv_pow, rcv_eq, rcv_ne, rcv_lt, rcv_le, rcv_gt, rcv_ge, rcv_in, rcv_nin, t_bl, x_lst, x_tup, x_scr, i_str, i_lst, i_tup, ty_ii, ty_bi, ty_in, ty_ib, ty_bb, List.map_cons, List.map_nil, List.cons_append, List.nil_append, List.append_nil, List.replicate_succ, List.replicate_zero, List.length_cons, List.length_nil, List.all_cons, List.all_nil, List.contains_nil, List.isEmpty_nil, Bool.not_false, Bool.not_true, Bool.and_true, Bool.true_and, Bool.and_false, Bool.false_and, Bool.or_true, Bool.true_or, Bool.or_false, Bool.false_or, Bool.false_eq_true, Bool.and_self, Bool.or_self, Option.map_some, Option.map_none, and_self, and_true, true_and, era_nil, era_s, era_n, pur_nil, pur_s, pur_n, D.erase, eraseL, D.pure, pureL, D.closed, closedL, s_eq_str, s_ne_str, wq_one_one, wq_one_row, wq_one_or, wq_one_many, wq_one_maybe, wq_row_one, wq_row_row, wq_row_or, wq_row_many, wq_row_maybe, wq_or_one, wq_or_row, wq_or_or, wq_or_many, wq_or_maybe, wq_many_one, wq_many_row, wq_many_or, wq_many_many, wq_many_maybe, wq_maybe_one, wq_maybe_row, wq_maybe_or, wq_maybe_many, wq_maybe_maybe, s_in_ints, s_nin_ints, s_sorted_ints, s_eq_ints, s_min, s_eq_bl, s_ne_bl, intL_app, t_lst, s_in_two]) rfl rfl hsub]
      simp only [call1, ev.eq_1, ev.eq_2, ev.eq_3, ev.eq_4, ev.eq_5, ev.eq_6, ev.eq_7, ev.eq_8, ev.eq_9, ev.eq_10, ev.eq_11, ev.eq_12, ev.eq_13, ev.eq_14, ev.eq_15, ev.eq_16, ev.eq_17, ev.eq_18, ev.eq_19, ev.eq_20, ev.eq_21, ev.eq_22, ev.eq_23, ev.eq_24, ev.eq_25, ev.eq_28, ev.eq_29, ev.eq_30, ev.eq_31, ev.eq_32, ev.eq_33, ev.eq_34, ev.eq_35, evs, eva, evt, ended, outsOf, Il.start, okIO, called, backs, Il.fin, sets, optR, IE.isNop, chg, place, nodeOk, atP, setP, chgAt, ownLst, ownDct, unpD, LQ, reduceIte, reduceCtorEq, Nat.reduceSub, Nat.reduceAdd, Int.reduceLT, Int.reduceLE, Int.reduceNeg, decide_true, decide_false, ite_true, ite_false, if_true, if_false, bnd_ok, bnd_ex, bndS_ok, bndS_ex, gets_zero, gets_succ, own_non, own_bl, own_int, own_str, own_lst, own_tup, own_scr, frz_non, frz_bl, frz_int, frz_str, frz_scr, l_set0, l_setS, noOwn_nil, noOwn_cons, x_nil, x_pas, x_brk, x_cont, x_retN, x_ret, x_exp, x_set, x_unp, x_ite, x_app, x_apS, x_ext, nown_ok, seq_nx, seq_none, s_neg, s_len_lst, s_len_tup, s_len_scr, s_int_bl, s_int_int, s_add_int, s_sub_int, s_mul_l, s_mul_r, sm_48271, sm_10, sm_5, s_fdiv_int, s_mod_int, s_pow9, s_lt_int, s_le_int, s_gt_int, s_ge_int, s_eq_int, s_ne_int, s_find, s_index, s_in_str, s_nin_str, rcv_find, rcv_index, rcv_join, rcv_add, rcv_sub, rcv_mul, rcv_fdiv, rcv_mod, rcv_pow, rcv_eq, rcv_ne, rcv_lt, rcv_le, rcv_gt, rcv_ge, rcv_in, rcv_nin, t_bl, x_lst, x_tup, x_scr, i_str, i_lst, i_tup, ty_ii, ty_bi, ty_in, ty_ib, ty_bb, List.map_cons, List.map_nil, List.cons_append, List.nil_append, List.append_nil, List.replicate_succ, List.replicate_zero, List.length_cons, List.length_nil, List.all_cons, List.all_nil, List.contains_nil, List.isEmpty_nil, Bool.not_false, Bool.not_true, Bool.and_true, Bool.true_and, Bool.and_false, Bool.false_and, Bool.or_true, Bool.true_or, Bool.or_false, Bool.false_or, Bool.false_eq_true, Bool.and_self, Bool.or_self, Option.map_some, Option.map_none, and_self, and_true, true_and, era_nil, era_s, era_n, pur_nil, pur_s, pur_n, D.erase, eraseL, D.pure, pureL, D.closed, closedL, s_eq_str, s_ne_str, wq_one_one, wq_one_row, wq_one_or, wq_one_many, wq_one_maybe, wq_row_one, wq_row_row, wq_row_or, wq_row_many, wq_row_maybe, wq_or_one, wq_or_row, wq_or_or, wq_or_many, wq_or_maybe, wq_many_one, wq_many_row, wq_many_or, wq_many_many, wq_many_maybe, wq_maybe_one, wq_maybe_row, wq_maybe_or, wq_maybe_many, wq_maybe_maybe, s_in_ints, s_nin_ints, s_sorted_ints, s_eq_ints, s_min, s_eq_bl, s_ne_bl, intL_app, t_lst, s_in_two]
      exact W_nx ⟨_, rfl⟩
    · rintro e ⟨v3, rfl⟩
      rw [List.length_map, List.take_length]
      have e2 : ((leavesL ps).take (i + 1)).flatten = ((leavesL ps).take i).flatten ++ s := by
        rw [List.take_add_one, hs]
        simp
      simp only [call1, ev.eq_1, ev.eq_2, ev.eq_3, ev.eq_4, ev.eq_5, ev.eq_6, ev.eq_7, ev.eq_8, ev.eq_9, ev.eq_10, ev.eq_11, ev.eq_12, ev.eq_13, ev.eq_14, ev.eq_15, ev.eq_16, ev.eq_17, ev.eq_18, ev.eq_19, ev.eq_20, ev.eq_21, ev.eq_22, ev.eq_23, ev.eq_24, ev.eq_25, ev.eq_28, ev.eq_29, ev.eq_30, ev.eq_31, ev.eq_32, ev.eq_33, ev.eq_34, ev.eq_35, evs, eva, evt, ended, outsOf, Il.start, okIO, called, backs, Il.fin, sets, optR, IE.isNop, chg, place, nodeOk, atP, setP, chgAt, ownLst, ownDct, unpD, LQ, reduceIte, reduceCtorEq, Nat.reduceSub, Nat.reduceAdd, Int.reduceLT, Int.reduceLE, Int.reduceNeg, decide_true, decide_false, ite_true, ite_false, if_true, if_false, bnd_ok, bnd_ex, bndS_ok, bndS_ex, gets_zero, gets_succ, own_non, own_bl, own_int, own_str, own_lst, own_tup, own_scr, frz_non, frz_bl, frz_int, frz_str, frz_scr, l_set0, l_setS, noOwn_nil, noOwn_cons, x_nil, x_pas, x_brk, x_cont, x_retN, x_ret, x_exp, x_set, x_unp, x_ite, x_app, x_apS, x_ext, nown_ok, seq_nx, seq_none, s_neg, s_len_lst, s_len_tup, s_len_scr, s_int_bl, s_int_int, s_add_int, s_sub_int, s_mul_l, s_mul_r, sm_48271, sm_10, sm_5, s_fdiv_int, s_mod_int, s_pow9, s_lt_int, s_le_int, s_gt_int, s_ge_int, s_eq_int, s_ne_int, s_find, s_index, s_in_str, s_nin_str, rcv_find, rcv_index, rcv_join, rcv_add, rcv_sub, rcv_mul, rcv_fdiv, rcv_mod, rcv_pow, rcv_eq, rcv_ne, rcv_lt, rcv_le, rcv_gt, rcv_ge, rcv_in, rcv_nin, t_bl, x_lst, x_tup, x_scr, i_str, i_lst, i_tup, ty_ii, ty_bi, ty_in, ty_ib, ty_bb, List.map_cons, List.map_nil, List.cons_append, List.nil_append, List.append_nil, List.replicate_succ, List.replicate_zero, List.length_cons, List.length_nil, List.all_cons, List.all_nil, List.contains_nil, List.isEmpty_nil, Bool.not_false, Bool.not_true, Bool.and_true, Bool.true_and, Bool.and_false, Bool.false_and, Bool.or_true, Bool.true_or, Bool.or_false, Bool.false_or, Bool.false_eq_true, Bool.and_self, Bool.or_self, Option.map_some, Option.map_none, and_self, and_true, true_and, era_nil, era_s, era_n, pur_nil, pur_s, pur_n, D.erase, eraseL, D.pure, pureL, D.closed, closedL, s_eq_str, s_ne_str, wq_one_one, wq_one_row, wq_one_or, wq_one_many, wq_one_maybe, wq_row_one, wq_row_row, wq_row_or, wq_row_many, wq_row_maybe, wq_or_one, wq_or_row, wq_or_or, wq_or_many, wq_or_maybe, wq_many_one, wq_many_row, wq_many_or, wq_many_many, wq_many_maybe, wq_maybe_one, wq_maybe_row, wq_maybe_or, wq_maybe_many, wq_maybe_maybe, s_in_ints, s_nin_ints, s_sorted_ints, s_eq_ints, s_min, s_eq_bl, s_ne_bl, intL_app, t_lst, s_in_two]
      exact W_nx ⟨some (.str s), v3, by rw [e2]⟩
  · rintro e ⟨v2, v3, rfl⟩
    rw [strs_len, List.take_length]
    have hs := sorted_seen (uni [] (leavesL ps).flatten)
    have pl : ((sortS ((uni [] (leavesL ps).flatten).map fun c => [c])).map List.length).sum ≤ line := by
      have pm := (sortS_perm ((uni [] (leavesL ps).flatten).map fun c => [c])).map List.length
      rw [pm.sum_nat]
      have : ∀ l : List Nat, ((l.map fun c => [c]).map List.length).sum = l.length := fun l => by
        induction l with
        | nil => rfl
        | cons c l ih =>
          simp only [List.map_cons, List.sum_cons, ih, List.length_nil, List.length_cons]
          omega
      rw [this]
      have h1 := uni_len (leavesL ps).flatten []
      rw [List.length_nil] at h1
      rw [lineEq]
      omega
    have hj := s_join (o := false) (strs_of3 _) pl
    simp only [call1, ev.eq_1, ev.eq_2, ev.eq_3, ev.eq_4, ev.eq_5, ev.eq_6, ev.eq_7, ev.eq_8, ev.eq_9, ev.eq_10, ev.eq_11, ev.eq_12, ev.eq_13, ev.eq_14, ev.eq_15, ev.eq_16, ev.eq_17, ev.eq_18, ev.eq_19, ev.eq_20, ev.eq_21, ev.eq_22, ev.eq_23, ev.eq_24, ev.eq_25, ev.eq_28, ev.eq_29, ev.eq_30, ev.eq_31, ev.eq_32, ev.eq_33, ev.eq_34, ev.eq_35, evs, eva, evt, ended, outsOf, Il.start, okIO, called, backs, Il.fin, sets, optR, IE.isNop, chg, place, nodeOk, atP, setP, chgAt, ownLst, ownDct, unpD, LQ, reduceIte, reduceCtorEq, Nat.reduceSub, Nat.reduceAdd, Int.reduceLT, Int.reduceLE, Int.reduceNeg, decide_true, decide_false, ite_true, ite_false, if_true, if_false, bnd_ok, bnd_ex, bndS_ok, bndS_ex, gets_zero, gets_succ, own_non, own_bl, own_int, own_str, own_lst, own_tup, own_scr, frz_non, frz_bl, frz_int, frz_str, frz_scr, l_set0, l_setS, noOwn_nil, noOwn_cons, x_nil, x_pas, x_brk, x_cont, x_retN, x_ret, x_exp, x_set, x_unp, x_ite, x_app, x_apS, x_ext, nown_ok, seq_nx, seq_none, s_neg, s_len_lst, s_len_tup, s_len_scr, s_int_bl, s_int_int, s_add_int, s_sub_int, s_mul_l, s_mul_r, sm_48271, sm_10, sm_5, s_fdiv_int, s_mod_int, s_pow9, s_lt_int, s_le_int, s_gt_int, s_ge_int, s_eq_int, s_ne_int, s_find, s_index, s_in_str, s_nin_str, rcv_find, rcv_index, rcv_join, rcv_add, rcv_sub, rcv_mul, rcv_fdiv, rcv_mod, rcv_pow, rcv_eq, rcv_ne, rcv_lt, rcv_le, rcv_gt, rcv_ge, rcv_in, rcv_nin, t_bl, x_lst, x_tup, x_scr, i_str, i_lst, i_tup, ty_ii, ty_bi, ty_in, ty_ib, ty_bb, List.map_cons, List.map_nil, List.cons_append, List.nil_append, List.append_nil, List.replicate_succ, List.replicate_zero, List.length_cons, List.length_nil, List.all_cons, List.all_nil, List.contains_nil, List.isEmpty_nil, Bool.not_false, Bool.not_true, Bool.and_true, Bool.true_and, Bool.and_false, Bool.false_and, Bool.or_true, Bool.true_or, Bool.or_false, Bool.false_or, Bool.false_eq_true, Bool.and_self, Bool.or_self, Option.map_some, Option.map_none, and_self, and_true, true_and, era_nil, era_s, era_n, pur_nil, pur_s, pur_n, D.erase, eraseL, D.pure, pureL, D.closed, closedL, s_eq_str, s_ne_str, wq_one_one, wq_one_row, wq_one_or, wq_one_many, wq_one_maybe, wq_row_one, wq_row_row, wq_row_or, wq_row_many, wq_row_maybe, wq_or_one, wq_or_row, wq_or_or, wq_or_many, wq_or_maybe, wq_many_one, wq_many_row, wq_many_or, wq_many_many, wq_many_maybe, wq_maybe_one, wq_maybe_row, wq_maybe_or, wq_maybe_many, wq_maybe_maybe, s_in_ints, s_nin_ints, s_sorted_ints, s_eq_ints, s_min, s_eq_bl, s_ne_bl, intL_app, t_lst, s_in_two, hs, frz_lst (strs_own _), hj]
    exact W_some rfl
end Il.Q
set_option Elab.async false
set_option linter.all false
set_option maxRecDepth 100000
set_option maxHeartbeats 1000000
namespace Il.Q
open Il
theorem frz_onesL (l : List Nat) : (D.lst true (onesL l)).freeze = some (.lst false (onesL l)) := frz_lst (ones_own l)
theorem law_run : ∀ ns : List Int, ns.length ≤ 63 → run TT 40 i_law [.scr ns] = some (.ret (.bl true) []) := by
  intro ns _
  obtain ⟨c0, g0⟩ := ex_cell_at ns 0 (by omega)
  obtain ⟨S, hS, gS⟩ := ex_letters2 37 c0
  have oS := strs_own S
  obtain ⟨d, ps, hP, gv, good⟩ := ex_patterns 7 ns gS
  obtain ⟨p1, p2, p3, p4, p5, p6⟩ := good
  unfold Gives at gv
  have oP := encs_own ps
  have heq := eq_pats false false p1 (by omega)
  have hne : sem2 .ne (.lst false (encs ps)) (.lst false (encs ps)) = some (.bl false) := by
    have e : sem2 .ne (.lst false (encs ps)) (.lst false (encs ps)) = ((scalD (.lst false (encs ps)) (.lst false (encs ps))).map fun r => D.bl (!r)) := rfl
    have e' : sem2 .eq (.lst false (encs ps)) (.lst false (encs ps)) = ((scalD (.lst false (encs ps)) (.lst false (encs ps))).map D.bl) := rfl
    rw [e'] at heq
    rw [e]
    cases z : scalD (.lst false (encs ps)) (.lst false (encs ps)) with
    | none =>
      rw [z] at heq
      cases heq
    | some b =>
      rw [z] at heq
      cases heq
      rfl
  have hsg := ex_signs_of 35 (by omega) p1 p2 p3 p4
  have hlen := leavesL_ok ps p1
  have hfl := flat_len hlen
  refine run_We (fd := d_law) rfl rfl ?_
  simp only [d_law, b_law]
  have e0 : D.lst true [] = .lst true (onesL []) := rfl
  simp only [call1, ev.eq_1, ev.eq_2, ev.eq_3, ev.eq_4, ev.eq_5, ev.eq_6, ev.eq_7, ev.eq_8, ev.eq_9, ev.eq_10, ev.eq_11, ev.eq_12, ev.eq_13, ev.eq_14, ev.eq_15, ev.eq_16, ev.eq_17, ev.eq_18, ev.eq_19, ev.eq_20, ev.eq_21, ev.eq_22, ev.eq_23, ev.eq_24, ev.eq_25, ev.eq_28, ev.eq_29, ev.eq_30, ev.eq_31, ev.eq_32, ev.eq_33, ev.eq_34, ev.eq_35, evs, eva, evt, ended, outsOf, Il.start, okIO, called, backs, Il.fin, sets, optR, IE.isNop, chg, place, nodeOk, atP, setP, chgAt, ownLst, ownDct, unpD, LQ, reduceIte, reduceCtorEq, Nat.reduceSub, Nat.reduceAdd, Int.reduceLT, Int.reduceLE, Int.reduceNeg, decide_true, decide_false, ite_true, ite_false, if_true, if_false, bnd_ok, bnd_ex, bndS_ok, bndS_ex, gets_zero, gets_succ, own_non, own_bl, own_int, own_str, own_lst, own_tup, own_scr, frz_non, frz_bl, frz_int, frz_str, frz_scr, l_set0, l_setS, noOwn_nil, noOwn_cons, x_nil, x_pas, x_brk, x_cont, x_retN, x_ret, x_exp, x_set, x_unp, x_ite, x_app, x_apS, x_ext, nown_ok, seq_nx, seq_none, s_neg, s_len_lst, s_len_tup, s_len_scr, s_int_bl, s_int_int, s_add_int, s_sub_int, s_mul_l, s_mul_r, sm_48271, sm_10, sm_5, s_fdiv_int, s_mod_int, s_pow9, s_lt_int, s_le_int, s_gt_int, s_ge_int, s_eq_int, s_ne_int, s_find, s_index, s_in_str, s_nin_str, rcv_find, rcv_index, rcv_join, rcv_add, rcv_sub, rcv_mul, rcv_fdiv, rcv_mod, rcv_pow, rcv_eq, rcv_ne, rcv_lt, rcv_le, rcv_gt, rcv_ge, rcv_in, rcv_nin, t_bl, x_lst, x_tup, x_scr, i_str, i_lst, i_tup, ty_ii, ty_bi, ty_in, ty_ib, ty_bb, List.map_cons, List.map_nil, List.cons_append, List.nil_append, List.append_nil, List.replicate_succ, List.replicate_zero, List.length_cons, List.length_nil, List.all_cons, List.all_nil, List.contains_nil, List.isEmpty_nil, Bool.not_false, Bool.not_true, Bool.and_true, Bool.true_and, Bool.and_false, Bool.false_and, Bool.or_true, Bool.true_or, Bool.or_false, Bool.false_or, Bool.false_eq_true, Bool.and_self, Bool.or_self, Option.map_some, Option.map_none, and_self, and_true, true_and, era_nil, era_s, era_n, pur_nil, pur_s, pur_n, D.erase, eraseL, D.pure, pureL, D.closed, closedL, s_eq_str, s_ne_str, wq_one_one, wq_one_row, wq_one_or, wq_one_many, wq_one_maybe, wq_row_one, wq_row_row, wq_row_or, wq_row_many, wq_row_maybe, wq_or_one, wq_or_row, wq_or_or, wq_or_many, wq_or_maybe, wq_many_one, wq_many_row, wq_many_or, wq_many_many, wq_many_maybe, wq_maybe_one, wq_maybe_row, wq_maybe_or, wq_maybe_many, wq_maybe_maybe, s_in_ints, s_nin_ints, s_sorted_ints, s_eq_ints, s_min, s_eq_bl, s_ne_bl, intL_app, t_lst, s_in_two, g0, hS, frz_lst oS, hP, gv]
  refine W_for1 (q := true) (ds := [.lst false (encs ps)]) (e1 := [some (.scr ns), some (.lst false (strL S)), some (.lst false (encs ps)), some (.lst true (onesL [])), none, none, none, none]) (by simp only [call1, ev.eq_1, ev.eq_2, ev.eq_3, ev.eq_4, ev.eq_5, ev.eq_6, ev.eq_7, ev.eq_8, ev.eq_9, ev.eq_10, ev.eq_11, ev.eq_12, ev.eq_13, ev.eq_14, ev.eq_15, ev.eq_16, ev.eq_17, ev.eq_18, ev.eq_19, ev.eq_20, ev.eq_21, ev.eq_22, ev.eq_23, ev.eq_24, ev.eq_25, ev.eq_28, ev.eq_29, ev.eq_30, ev.eq_31, ev.eq_32, ev.eq_33, ev.eq_34, ev.eq_35, evs, eva, evt, ended, outsOf, Il.start, okIO, called, backs, Il.fin, sets, optR, IE.isNop, chg, place, nodeOk, atP, setP, chgAt, ownLst, ownDct, unpD, LQ, reduceIte, reduceCtorEq, Nat.reduceSub, Nat.reduceAdd, Int.reduceLT, Int.reduceLE, Int.reduceNeg, decide_true, decide_false, ite_true, ite_false, if_true, if_false, bnd_ok, bnd_ex, bndS_ok, bndS_ex, gets_zero, gets_succ, own_non, own_bl, own_int, own_str, own_lst, own_tup, own_scr, frz_non, frz_bl, frz_int, frz_str, frz_scr, l_set0, l_setS, noOwn_nil, noOwn_cons, x_nil, x_pas, x_brk, x_cont, x_retN, x_ret, x_exp, x_set, x_unp, x_ite, x_app, x_apS, x_ext, nown_ok, seq_nx, seq_none, s_neg, s_len_lst, s_len_tup, s_len_scr, s_int_bl, s_int_int, s_add_int, s_sub_int, s_mul_l, s_mul_r, sm_48271, sm_10, sm_5, s_fdiv_int, s_mod_int, s_pow9, s_lt_int, s_le_int, s_gt_int, s_ge_int, s_eq_int, s_ne_int, s_find, s_index, s_in_str, s_nin_str, rcv_find, rcv_index, rcv_join, rcv_add, rcv_sub, rcv_mul, rcv_fdiv, rcv_mod, rcv_pow, rcv_eq, rcv_ne, rcv_lt, rcv_le, rcv_gt, rcv_ge, rcv_in, rcv_nin, t_bl, x_lst, x_tup, x_scr, i_str, i_lst, i_tup, ty_ii, ty_bi, ty_in, ty_ib, ty_bb, List.map_cons, List.map_nil, List.cons_append, List.nil_append, List.append_nil, List.replicate_succ, List.replicate_zero, List.length_cons, List.length_nil, List.all_cons, List.all_nil, List.contains_nil, List.isEmpty_nil, Bool.not_false, Bool.not_true, Bool.and_true, Bool.true_and, Bool.and_false, Bool.false_and, Bool.or_true, Bool.true_or, Bool.or_false, Bool.false_or, Bool.false_eq_true, Bool.and_self, Bool.or_self, Option.map_some, Option.map_none, and_self, and_true, true_and, era_nil, era_s, era_n, pur_nil, pur_s, pur_n, D.erase, eraseL, D.pure, pureL, D.closed, closedL, s_eq_str, s_ne_str, wq_one_one, wq_one_row, wq_one_or, wq_one_many, wq_one_maybe, wq_row_one, wq_row_row, wq_row_or, wq_row_many, wq_row_maybe, wq_or_one, wq_or_row, wq_or_or, wq_or_many, wq_or_maybe, wq_many_one, wq_many_row, wq_many_or, wq_many_many, wq_many_maybe, wq_maybe_one, wq_maybe_row, wq_maybe_or, wq_maybe_many, wq_maybe_maybe, s_in_ints, s_nin_ints, s_sorted_ints, s_eq_ints, s_min, s_eq_bl, s_ne_bl, intL_app, t_lst, s_in_two]; rfl) (i_lst _) rfl (fun i e => ∃ v4 v5 v6, e = [some (.scr ns), some (.lst false (strL S)), some (.lst false (encs ps)), some (.lst true (onesL (uni [] (leavesL (ps.take i)).flatten))), v4, v5, v6, none]) ⟨_, _, _, rfl⟩ ?_ ?_
  · rintro i x e hx ⟨v4, v5, v6, rfl⟩
    obtain ⟨p, hp, rfl, hm⟩ := encs_at hx
    have spp : leavesL ps = leavesL (ps.take i) ++ (p.leaves ++ leavesL (ps.drop (i + 1))) := by
      have h := congrArg leavesL (split_at hp)
      rw [leavesL_app] at h
      simp only [leavesL] at h
      exact h
    have sp := congrArg (fun l => l.flatten.length) spp
    have spl := congrArg (fun l => l.length) spp
    simp only [List.flatten_append, List.length_append] at sp spl
    obtain ⟨o, hl⟩ := ex_leaves 38 p (by have := deepL_mem.mp p5 p hm; omega) (by omega)
    simp only [call1, ev.eq_1, ev.eq_2, ev.eq_3, ev.eq_4, ev.eq_5, ev.eq_6, ev.eq_7, ev.eq_8, ev.eq_9, ev.eq_10, ev.eq_11, ev.eq_12, ev.eq_13, ev.eq_14, ev.eq_15, ev.eq_16, ev.eq_17, ev.eq_18, ev.eq_19, ev.eq_20, ev.eq_21, ev.eq_22, ev.eq_23, ev.eq_24, ev.eq_25, ev.eq_28, ev.eq_29, ev.eq_30, ev.eq_31, ev.eq_32, ev.eq_33, ev.eq_34, ev.eq_35, evs, eva, evt, ended, outsOf, Il.start, okIO, called, backs, Il.fin, sets, optR, IE.isNop, chg, place, nodeOk, atP, setP, chgAt, ownLst, ownDct, unpD, LQ, reduceIte, reduceCtorEq, Nat.reduceSub, Nat.reduceAdd, Int.reduceLT, Int.reduceLE, Int.reduceNeg, decide_true, decide_false, ite_true, ite_false, if_true, if_false, bnd_ok, bnd_ex, bndS_ok, bndS_ex, gets_zero, gets_succ, own_non, own_bl, own_int, own_str, own_lst, own_tup, own_scr, frz_non, frz_bl, frz_int, frz_str, frz_scr, l_set0, l_setS, noOwn_nil, noOwn_cons, x_nil, x_pas, x_brk, x_cont, x_retN, x_ret, x_exp, x_set, x_unp, x_ite, x_app, x_apS, x_ext, nown_ok, seq_nx, seq_none, s_neg, s_len_lst, s_len_tup, s_len_scr, s_int_bl, s_int_int, s_add_int, s_sub_int, s_mul_l, s_mul_r, sm_48271, sm_10, sm_5, s_fdiv_int, s_mod_int, s_pow9, s_lt_int, s_le_int, s_gt_int, s_ge_int, s_eq_int, s_ne_int, s_find, s_index, s_in_str, s_nin_str, rcv_find, rcv_index, rcv_join, rcv_add, rcv_sub, rcv_mul, rcv_fdiv, rcv_mod, rcv_pow, rcv_eq, rcv_ne, rcv_lt, rcv_le, rcv_gt, rcv_ge, rcv_in, rcv_nin, t_bl, x_lst, x_tup, x_scr, i_str, i_lst, i_tup, ty_ii, ty_bi, ty_in, ty_ib, ty_bb, List.map_cons, List.map_nil, List.cons_append, List.nil_append, List.append_nil, List.replicate_succ, List.replicate_zero, List.length_cons, List.length_nil, List.all_cons, List.all_nil, List.contains_nil, List.isEmpty_nil, Bool.not_false, Bool.not_true, Bool.and_true, Bool.true_and, Bool.and_false, Bool.false_and, Bool.or_true, Bool.true_or, Bool.or_false, Bool.false_or, Bool.false_eq_true, Bool.and_self, Bool.or_self, Option.map_some, Option.map_none, and_self, and_true, true_and, era_nil, era_s, era_n, pur_nil, pur_s, pur_n, D.erase, eraseL, D.pure, pureL, D.closed, closedL, s_eq_str, s_ne_str, wq_one_one, wq_one_row, wq_one_or, wq_one_many, wq_one_maybe, wq_row_one, wq_row_row, wq_row_or, wq_row_many, wq_row_maybe, wq_or_one, wq_or_row, wq_or_or, wq_or_many, wq_or_maybe, wq_many_one, wq_many_row, wq_many_or, wq_many_many, wq_many_maybe, wq_maybe_one, wq_maybe_row, wq_maybe_or, wq_maybe_many, wq_maybe_maybe, s_in_ints, s_nin_ints, s_sorted_ints, s_eq_ints, s_min, s_eq_bl, s_ne_bl, intL_app, t_lst, s_in_two]
    refine W_for1 (q := true) (ds := [.lst false (strL p.leaves)]) (e1 := [some (.scr ns), some (.lst false (strL S)), some (.lst false (encs ps)), some (.lst true (onesL (uni [] (leavesL (ps.take i)).flatten))), some p.enc, v5, v6, none]) (by simp only [call1, ev.eq_1, ev.eq_2, ev.eq_3, ev.eq_4, ev.eq_5, ev.eq_6, ev.eq_7, ev.eq_8, ev.eq_9, ev.eq_10, ev.eq_11, ev.eq_12, ev.eq_13, ev.eq_14, ev.eq_15, ev.eq_16, ev.eq_17, ev.eq_18, ev.eq_19, ev.eq_20, ev.eq_21, ev.eq_22, ev.eq_23, ev.eq_24, ev.eq_25, ev.eq_28, ev.eq_29, ev.eq_30, ev.eq_31, ev.eq_32, ev.eq_33, ev.eq_34, ev.eq_35, evs, eva, evt, ended, outsOf, Il.start, okIO, called, backs, Il.fin, sets, optR, IE.isNop, chg, place, nodeOk, atP, setP, chgAt, ownLst, ownDct, unpD, LQ, reduceIte, reduceCtorEq, Nat.reduceSub, Nat.reduceAdd, Int.reduceLT, Int.reduceLE, Int.reduceNeg, decide_true, decide_false, ite_true, ite_false, if_true, if_false, bnd_ok, bnd_ex, bndS_ok, bndS_ex, gets_zero, gets_succ, own_non, own_bl, own_int, own_str, own_lst, own_tup, own_scr, frz_non, frz_bl, frz_int, frz_str, frz_scr, l_set0, l_setS, noOwn_nil, noOwn_cons, x_nil, x_pas, x_brk, x_cont, x_retN, x_ret, x_exp, x_set, x_unp, x_ite, x_app, x_apS, x_ext, nown_ok, seq_nx, seq_none, s_neg, s_len_lst, s_len_tup, s_len_scr, s_int_bl, s_int_int, s_add_int, s_sub_int, s_mul_l, s_mul_r, sm_48271, sm_10, sm_5, s_fdiv_int, s_mod_int, s_pow9, s_lt_int, s_le_int, s_gt_int, s_ge_int, s_eq_int, s_ne_int, s_find, s_index, s_in_str, s_nin_str, rcv_find, rcv_index, rcv_join, rcv_add, rcv_sub, rcv_mul, rcv_fdiv, rcv_mod, rcv_pow, rcv_eq, rcv_ne, rcv_lt, rcv_le, rcv_gt, rcv_ge, rcv_in, rcv_nin, t_bl, x_lst, x_tup, x_scr, i_str, i_lst, i_tup, ty_ii, ty_bi, ty_in, ty_ib, ty_bb, List.map_cons, List.map_nil, List.cons_append, List.nil_append, List.append_nil, List.replicate_succ, List.replicate_zero, List.length_cons, List.length_nil, List.all_cons, List.all_nil, List.contains_nil, List.isEmpty_nil, Bool.not_false, Bool.not_true, Bool.and_true, Bool.true_and, Bool.and_false, Bool.false_and, Bool.or_true, Bool.true_or, Bool.or_false, Bool.false_or, Bool.false_eq_true, Bool.and_self, Bool.or_self, Option.map_some, Option.map_none, and_self, and_true, true_and, era_nil, era_s, era_n, pur_nil, pur_s, pur_n, D.erase, eraseL, D.pure, pureL, D.closed, closedL, s_eq_str, s_ne_str, wq_one_one, wq_one_row, wq_one_or, wq_one_many, wq_one_maybe, wq_row_one, wq_row_row, wq_row_or, wq_row_many, wq_row_maybe, wq_or_one, wq_or_row, wq_or_or, wq_or_many, wq_or_maybe, wq_many_one, wq_many_row, wq_many_or, wq_many_many, wq_many_maybe, wq_maybe_one, wq_maybe_row, wq_maybe_or, wq_maybe_many, wq_maybe_maybe, s_in_ints, s_nin_ints, s_sorted_ints, s_eq_ints, s_min, s_eq_bl, s_ne_bl, intL_app, t_lst, s_in_two, enc_own p, hl, frz_lst (strs_own _)]) (i_lst _) rfl (fun j e => ∃ v5 v6, e = [some (.scr ns), some (.lst false (strL S)), some (.lst false (encs ps)), some (.lst true (onesL (uni [] ((leavesL (ps.take i)).flatten ++ (p.leaves.take j).flatten)))), some p.enc, v5, v6, none]) ⟨_, _, by rw [List.take_zero, List.flatten_nil, List.append_nil]⟩ ?_ ?_
    · rintro j y e hy ⟨v5, v6, rfl⟩
      obtain ⟨s, hs, rfl⟩ := strL_at hy
      have sq := congrArg (fun l => l.flatten.length) (split_at hs)
      simp only [List.flatten_append, List.flatten_cons, List.length_append] at sq
      have sll : s.length ≤ line := by rw [lineEq]; omega
      generalize hA : (leavesL (ps.take i)).flatten ++ (p.leaves.take j).flatten = A
      have lA : A.length + s.length ≤ 6000 := by
        rw [← hA, List.length_append]
        omega
      simp only [call1, ev.eq_1, ev.eq_2, ev.eq_3, ev.eq_4, ev.eq_5, ev.eq_6, ev.eq_7, ev.eq_8, ev.eq_9, ev.eq_10, ev.eq_11, ev.eq_12, ev.eq_13, ev.eq_14, ev.eq_15, ev.eq_16, ev.eq_17, ev.eq_18, ev.eq_19, ev.eq_20, ev.eq_21, ev.eq_22, ev.eq_23, ev.eq_24, ev.eq_25, ev.eq_28, ev.eq_29, ev.eq_30, ev.eq_31, ev.eq_32, ev.eq_33, ev.eq_34, ev.eq_35, evs, eva, evt, ended, outsOf, Il.start, okIO, called, backs, Il.fin, sets, optR, IE.isNop, chg, place, nodeOk, atP, setP, chgAt, ownLst, ownDct, unpD, LQ, reduceIte, reduceCtorEq, Nat.reduceSub, Nat.reduceAdd, Int.reduceLT, Int.reduceLE, Int.reduceNeg, decide_true, decide_false, ite_true, ite_false, if_true, if_false, bnd_ok, bnd_ex, bndS_ok, bndS_ex, gets_zero, gets_succ, own_non, own_bl, own_int, own_str, own_lst, own_tup, own_scr, frz_non, frz_bl, frz_int, frz_str, frz_scr, l_set0, l_setS, noOwn_nil, noOwn_cons, x_nil, x_pas, x_brk, x_cont, x_retN, x_ret, x_exp, x_set, x_unp, x_ite, x_app, x_apS, x_ext, nown_ok, seq_nx, seq_none, s_neg, s_len_lst, s_len_tup, s_len_scr, s_int_bl, s_int_int, s_add_int, s_sub_int, s_mul_l, s_mul_r, sm_48271, sm_10, sm_5, s_fdiv_int, s_mod_int, s_pow9, s_lt_int, s_le_int, s_gt_int, s_ge_int, s_eq_int, s_ne_int, s_find, s_index, s_in_str, s_nin_str, rcv_find, rcv_index, rcv_join, rcv_add, rcv_sub, rcv_mul, rcv_fdiv, rcv_mod, rcv_pow, rcv_eq, rcv_ne, rcv_lt, rcv_le, rcv_gt, rcv_ge, rcv_in, rcv_nin, t_bl, x_lst, x_tup, x_scr, i_str, i_lst, i_tup, ty_ii, ty_bi, ty_in, ty_ib, ty_bb, List.map_cons, List.map_nil, List.cons_append, List.nil_append, List.append_nil, List.replicate_succ, List.replicate_zero, List.length_cons, List.length_nil, List.all_cons, List.all_nil, List.contains_nil, List.isEmpty_nil, Bool.not_false, Bool.not_true, Bool.and_true, Bool.true_and, Bool.and_false, Bool.false_and, Bool.or_true, Bool.true_or, Bool.or_false, Bool.false_or, Bool.false_eq_true, Bool.and_self, Bool.or_self, Option.map_some, Option.map_none, and_self, and_true, true_and, era_nil, era_s, era_n, pur_nil, pur_s, pur_n, D.erase, eraseL, D.pure, pureL, D.closed, closedL, s_eq_str, s_ne_str, wq_one_one, wq_one_row, wq_one_or, wq_one_many, wq_one_maybe, wq_row_one, wq_row_row, wq_row_or, wq_row_many, wq_row_maybe, wq_or_one, wq_or_row, wq_or_or, wq_or_many, wq_or_maybe, wq_many_one, wq_many_row, wq_many_or, wq_many_many, wq_many_maybe, wq_maybe_one, wq_maybe_row, wq_maybe_or, wq_maybe_many, wq_maybe_maybe, s_in_ints, s_nin_ints, s_sorted_ints, s_eq_ints, s_min, s_eq_bl, s_ne_bl, intL_app, t_lst, s_in_two]
      refine W_for1 (q := true) (xs := s.map fun c => D.str [c]) (ds := [.str s]) (e1 := [some (.scr ns), some (.lst false (strL S)), some (.lst false (encs ps)), some (.lst true (onesL (uni [] A))), some p.enc, some (.str s), v6, none]) (by simp only [call1, ev.eq_1, ev.eq_2, ev.eq_3, ev.eq_4, ev.eq_5, ev.eq_6, ev.eq_7, ev.eq_8, ev.eq_9, ev.eq_10, ev.eq_11, ev.eq_12, ev.eq_13, ev.eq_14, ev.eq_15, ev.eq_16, ev.eq_17, ev.eq_18, ev.eq_19, ev.eq_20, ev.eq_21, ev.eq_22, ev.eq_23, ev.eq_24, ev.eq_25, ev.eq_28, ev.eq_29, ev.eq_30, ev.eq_31, ev.eq_32, ev.eq_33, ev.eq_34, ev.eq_35, evs, eva, evt, ended, outsOf, Il.start, okIO, called, backs, Il.fin, sets, optR, IE.isNop, chg, place, nodeOk, atP, setP, chgAt, ownLst, ownDct, unpD, LQ, reduceIte, reduceCtorEq, Nat.reduceSub, Nat.reduceAdd, Int.reduceLT, Int.reduceLE, Int.reduceNeg, decide_true, decide_false, ite_true, ite_false, if_true, if_false, bnd_ok, bnd_ex, bndS_ok, bndS_ex, gets_zero, gets_succ, own_non, own_bl, own_int, own_str, own_lst, own_tup, own_scr, frz_non, frz_bl, frz_int, frz_str, frz_scr, l_set0, l_setS, noOwn_nil, noOwn_cons, x_nil, x_pas, x_brk, x_cont, x_retN, x_ret, x_exp, x_set, x_unp, x_ite, x_app, x_apS, x_ext, nown_ok, seq_nx, seq_none, s_neg, s_len_lst, s_len_tup, s_len_scr, s_int_bl, s_int_int, s_add_int, s_sub_int, s_mul_l, s_mul_r, sm_48271, sm_10, sm_5, s_fdiv_int, s_mod_int, s_pow9, s_lt_int, s_le_int, s_gt_int, s_ge_int, s_eq_int, s_ne_int, s_find, s_index, s_in_str, s_nin_str, rcv_find, rcv_index, rcv_join, rcv_add, rcv_sub, rcv_mul, rcv_fdiv, rcv_mod, rcv_pow, rcv_eq, rcv_ne, rcv_lt, rcv_le, rcv_gt, rcv_ge, rcv_in, rcv_nin, t_bl, x_lst, x_tup, x_scr, i_str, i_lst, i_tup, ty_ii, ty_bi, ty_in, ty_ib, ty_bb, List.map_cons, List.map_nil, List.cons_append, List.nil_append, List.append_nil, List.replicate_succ, List.replicate_zero, List.length_cons, List.length_nil, List.all_cons, List.all_nil, List.contains_nil, List.isEmpty_nil, Bool.not_false, Bool.not_true, Bool.and_true, Bool.true_and, Bool.and_false, Bool.false_and, Bool.or_true, Bool.true_or, Bool.or_false, Bool.false_or, Bool.false_eq_true, Bool.and_self, Bool.or_self, Option.map_some, Option.map_none, and_self, and_true, true_and, era_nil, era_s, era_n, pur_nil, pur_s, pur_n, D.erase, eraseL, D.pure, pureL, D.closed, closedL, s_eq_str, s_ne_str, wq_one_one, wq_one_row, wq_one_or, wq_one_many, wq_one_maybe, wq_row_one, wq_row_row, wq_row_or, wq_row_many, wq_row_maybe, wq_or_one, wq_or_row, wq_or_or, wq_or_many, wq_or_maybe, wq_many_one, wq_many_row, wq_many_or, wq_many_many, wq_many_maybe, wq_maybe_one, wq_maybe_row, wq_maybe_or, wq_maybe_many, wq_maybe_maybe, s_in_ints, s_nin_ints, s_sorted_ints, s_eq_ints, s_min, s_eq_bl, s_ne_bl, intL_app, t_lst, s_in_two]) (by first | exact i_str sll | simp only [call1, ev.eq_1, ev.eq_2, ev.eq_3, ev.eq_4, ev.eq_5, ev.eq_6, ev.eq_7, ev.eq_8, ev.eq_9, ev.eq_10, ev.eq_11, ev.eq_12, ev.eq_13, ev.eq_14, ev.eq_15, ev.eq_16, ev.eq_17, ev.eq_18, ev.eq_19, ev.eq_20, ev.eq_21, ev.eq_22, ev.eq_23, ev.eq_24, ev.eq_25, ev.eq_28, ev.eq_29, ev.eq_30, ev.eq_31, ev.eq_32, ev.eq_33, ev.eq_34, ev.eq_35, evs, eva, evt, ended, outsOf, Il.start, okIO, called, backs, Il.fin, sets, optR, IE.isNop, chg, place, nodeOk, atP, setP, chgAt, ownLst, ownDct, unpD, LQ, reduceIte, reduceCtorEq, Nat.reduceSub, Nat.reduceAdd, Int.reduceLT, Int.reduceLE, Int.reduceNeg, decide_true, decide_false, ite_true, ite_false, if_true, if_false, bnd_ok, bnd_ex, bndS_ok, bndS_ex, gets_zero, gets_succ, own_non, own_bl, own_int, own_str, own_lst, own_tup, own_scr, frz_non, frz_bl, frz_int, frz_str, frz_scr, l_set0, l_setS, noOwn_nil, noOwn_cons, x_nil, x_pas, x_brk, x_cont, x_retN, x_ret, x_exp, x_set, x_unp, x_ite, x_app, x_apS, x_ext, nown_ok, seq_nx, seq_none, s_neg, s_len_lst, s_len_tup, s_len_scr, s_int_bl, s_int_int, s_add_int, s_sub_int, s_mul_l, s_mul_r, sm_48271, sm_10, sm_5, s_fdiv_int, s_mod_int, s_pow9, s_lt_int, s_le_int, s_gt_int, s_ge_int, s_eq_int, s_ne_int, s_find, s_index, s_in_str, s_nin_str, rcv_find, rcv_index, rcv_join, rcv_add, rcv_sub, rcv_mul, rcv_fdiv, rcv_mod, rcv_pow, rcv_eq, rcv_ne, rcv_lt, rcv_le, rcv_gt, rcv_ge, rcv_in, rcv_nin, t_bl, x_lst, x_tup, x_scr, i_str, i_lst, i_tup, ty_ii, ty_bi, ty_in, ty_ib, ty_bb, List.map_cons, List.map_nil, List.cons_append, List.nil_append, List.append_nil, List.replicate_succ, List.replicate_zero, List.length_cons, List.length_nil, List.all_cons, List.all_nil, List.contains_nil, List.isEmpty_nil, Bool.not_false, Bool.not_true, Bool.and_true, Bool.true_and, Bool.and_false, Bool.false_and, Bool.or_true, Bool.true_or, Bool.or_false, Bool.false_or, Bool.false_eq_true, Bool.and_self, Bool.or_self, Option.map_some, Option.map_none, and_self, and_true, true_and, era_nil, era_s, era_n, pur_nil, pur_s, pur_n, D.erase, eraseL, D.pure, pureL, D.closed, closedL, s_eq_str, s_ne_str, wq_one_one, wq_one_row, wq_one_or, wq_one_many, wq_one_maybe, wq_row_one, wq_row_row, wq_row_or, wq_row_many, wq_row_maybe, wq_or_one, wq_or_row, wq_or_or, wq_or_many, wq_or_maybe, wq_many_one, wq_many_row, wq_many_or, wq_many_many, wq_many_maybe, wq_maybe_one, wq_maybe_row, wq_maybe_or, wq_maybe_many, wq_maybe_maybe, s_in_ints, s_nin_ints, s_sorted_ints, s_eq_ints, s_min, s_eq_bl, s_ne_bl, intL_app, t_lst, s_in_two, sll]) rfl (fun k e => ∃ v6, e = [some (.scr ns), some (.lst false (strL S)), some (.lst false (encs ps)), some (.lst true (onesL (uni [] (A ++ s.take k)))), some p.enc, some (.str s), v6, none]) ⟨_, by rw [List.take_zero, List.append_nil]⟩ ?_ ?_
      · rintro k z e hz ⟨v6, rfl⟩
        obtain ⟨c, hc, rfl, tk⟩ := chars_at hz
        have ll : (onesL (uni [] (A ++ s.take k))).length < line := by
          have h1 := uni_len (A ++ s.take k) []
          rw [List.length_append, List.length_nil, List.length_take] at h1
          unfold onesL
          rw [List.length_map, lineEq]
          omega
        have nin := nin_ones true c (uni [] (A ++ s.take k))
        have stp : uni [] (A ++ s.take (k + 1)) = addU (uni [] (A ++ s.take k)) c := by rw [tk, ← List.append_assoc, uni_snoc]
        generalize uni [] (A ++ s.take k) = U at ll nin stp
        by_cases hin : c ∈ U
        · have hd : decide (c ∈ U) = true := decide_eq_true hin
          have : addU U c = U := by unfold addU; rw [if_pos hin]
          rw [this] at stp
          simp only [call1, ev.eq_1, ev.eq_2, ev.eq_3, ev.eq_4, ev.eq_5, ev.eq_6, ev.eq_7, ev.eq_8, ev.eq_9, ev.eq_10, ev.eq_11, ev.eq_12, ev.eq_13, ev.eq_14, ev.eq_15, ev.eq_16, ev.eq_17, ev.eq_18, ev.eq_19, ev.eq_20, ev.eq_21, ev.eq_22, ev.eq_23, ev.eq_24, ev.eq_25, ev.eq_28, ev.eq_29, ev.eq_30, ev.eq_31, ev.eq_32, ev.eq_33, ev.eq_34, ev.eq_35, evs, eva, evt, ended, outsOf, Il.start, okIO, called, backs, Il.fin, sets, optR, IE.isNop, chg, place, nodeOk, atP, setP, chgAt, ownLst, ownDct, unpD, LQ, reduceIte, reduceCtorEq, Nat.reduceSub, Nat.reduceAdd, Int.reduceLT, Int.reduceLE, Int.reduceNeg, decide_true, decide_false, ite_true, ite_false, if_true, if_false, bnd_ok, bnd_ex, bndS_ok, bndS_ex, gets_zero, gets_succ, own_non, own_bl, own_int, own_str, own_lst, own_tup, own_scr, frz_non, frz_bl, frz_int, frz_str, frz_scr, l_set0, l_setS, noOwn_nil, noOwn_cons, x_nil, x_pas, x_brk, x_cont, x_retN, x_ret, x_exp, x_set, x_unp, x_ite, x_app, x_apS, x_ext, nown_ok, seq_nx, seq_none, s_neg, s_len_lst, s_len_tup, s_len_scr, s_int_bl, s_int_int, s_add_int, s_sub_int, s_mul_l, s_mul_r, sm_48271, sm_10, sm_5, s_fdiv_int, s_mod_int, s_pow9, s_lt_int, s_le_int, s_gt_int, s_ge_int, s_eq_int, s_ne_int, s_find, s_index, s_in_str, s_nin_str, rcv_find, rcv_index, rcv_join, rcv_add, rcv_sub, rcv_mul, rcv_fdiv, rcv_mod, rcv_pow, rcv_eq, rcv_ne, rcv_lt, rcv_le, rcv_gt, rcv_ge, rcv_in, rcv_nin, t_bl, x_lst, x_tup, x_scr, i_str, i_lst, i_tup, ty_ii, ty_bi, ty_in, ty_ib, ty_bb, List.map_cons, List.map_nil, List.cons_append, List.nil_append, List.append_nil, List.replicate_succ, List.replicate_zero, List.length_cons, List.length_nil, List.all_cons, List.all_nil, List.contains_nil, List.isEmpty_nil, Bool.not_false, Bool.not_true, Bool.and_true, Bool.true_and, Bool.and_false, Bool.false_and, Bool.or_true, Bool.true_or, Bool.or_false, Bool.false_or, Bool.false_eq_true, Bool.and_self, Bool.or_self, Option.map_some, Option.map_none, and_self, and_true, true_and, era_nil, era_s, era_n, pur_nil, pur_s, pur_n, D.erase, eraseL, D.pure, pureL, D.closed, closedL, s_eq_str, s_ne_str, wq_one_one, wq_one_row, wq_one_or, wq_one_many, wq_one_maybe, wq_row_one, wq_row_row, wq_row_or, wq_row_many, wq_row_maybe, wq_or_one, wq_or_row, wq_or_or, wq_or_many, wq_or_maybe, wq_many_one, wq_many_row, wq_many_or, wq_many_many, wq_many_maybe, wq_maybe_one, wq_maybe_row, wq_maybe_or, wq_maybe_many, wq_maybe_maybe, s_in_ints, s_nin_ints, s_sorted_ints, s_eq_ints, s_min, s_eq_bl, s_ne_bl, intL_app, t_lst, s_in_two, nin, hd]
          exact W_nx ⟨some (.str [c]), by rw [stp]⟩
        · have hd : decide (c ∈ U) = false := decide_eq_false hin
          have : addU U c = U ++ [c] := by unfold addU; rw [if_neg hin]
          rw [this] at stp
          have ap := a_lst (d := .str [c]) ll
          have oe : onesL U ++ [.str [c]] = onesL (U ++ [c]) := by unfold onesL; rw [List.map_append]; rfl
          rw [oe] at ap
          simp only [call1, ev.eq_1, ev.eq_2, ev.eq_3, ev.eq_4, ev.eq_5, ev.eq_6, ev.eq_7, ev.eq_8, ev.eq_9, ev.eq_10, ev.eq_11, ev.eq_12, ev.eq_13, ev.eq_14, ev.eq_15, ev.eq_16, ev.eq_17, ev.eq_18, ev.eq_19, ev.eq_20, ev.eq_21, ev.eq_22, ev.eq_23, ev.eq_24, ev.eq_25, ev.eq_28, ev.eq_29, ev.eq_30, ev.eq_31, ev.eq_32, ev.eq_33, ev.eq_34, ev.eq_35, evs, eva, evt, ended, outsOf, Il.start, okIO, called, backs, Il.fin, sets, optR, IE.isNop, chg, place, nodeOk, atP, setP, chgAt, ownLst, ownDct, unpD, LQ, reduceIte, reduceCtorEq, Nat.reduceSub, Nat.reduceAdd, Int.reduceLT, Int.reduceLE, Int.reduceNeg, decide_true, decide_false, ite_true, ite_false, if_true, if_false, bnd_ok, bnd_ex, bndS_ok, bndS_ex, gets_zero, gets_succ, own_non, own_bl, own_int, own_str, own_lst, own_tup, own_scr, frz_non, frz_bl, frz_int, frz_str, frz_scr, l_set0, l_setS, noOwn_nil, noOwn_cons, x_nil, x_pas, x_brk, x_cont, x_retN, x_ret, x_exp, x_set, x_unp, x_ite, x_app, x_apS, x_ext, nown_ok, seq_nx, seq_none, s_neg, s_len_lst, s_len_tup, s_len_scr, s_int_bl, s_int_int, s_add_int, s_sub_int, s_mul_l, s_mul_r, sm_48271, sm_10, sm_5, s_fdiv_int, s_mod_int, s_pow9, s_lt_int, s_le_int, s_gt_int, s_ge_int, s_eq_int, s_ne_int, s_find, s_index, s_in_str, s_nin_str, rcv_find, rcv_index, rcv_join, rcv_add, rcv_sub, rcv_mul, rcv_fdiv, rcv_mod, rcv_pow, rcv_eq, rcv_ne, rcv_lt, rcv_le, rcv_gt, rcv_ge, rcv_in, rcv_nin, t_bl, x_lst, x_tup, x_scr, i_str, i_lst, i_tup, ty_ii, ty_bi, ty_in, ty_ib, ty_bb, List.map_cons, List.map_nil, List.cons_append, List.nil_append, List.append_nil, List.replicate_succ, List.replicate_zero, List.length_cons, List.length_nil, List.all_cons, List.all_nil, List.contains_nil, List.isEmpty_nil, Bool.not_false, Bool.not_true, Bool.and_true, Bool.true_and, Bool.and_false, Bool.false_and, Bool.or_true, Bool.true_or, Bool.or_false, Bool.false_or, Bool.false_eq_true, Bool.and_self, Bool.or_self, Option.map_some, Option.map_none, and_self, and_true, true_and, era_nil, era_s, era_n, pur_nil, pur_s, pur_n, D.erase, eraseL, D.pure, pureL, D.closed, closedL, s_eq_str, s_ne_str, wq_one_one, wq_one_row, wq_one_or, wq_one_many, wq_one_maybe, wq_row_one, wq_row_row, wq_row_or, wq_row_many, wq_row_maybe, wq_or_one, wq_or_row, wq_or_or, wq_or_many, wq_or_maybe, wq_many_one, wq_many_row, wq_many_or, wq_many_many, wq_many_maybe, wq_maybe_one, wq_maybe_row, wq_maybe_or, wq_maybe_many, wq_maybe_maybe, s_in_ints, s_nin_ints, s_sorted_ints, s_eq_ints, s_min, s_eq_bl, s_ne_bl, intL_app, t_lst, s_in_two, nin, hd, ap]
          exact W_nx ⟨some (.str [c]), by rw [stp]⟩
      · rintro e ⟨v6, rfl⟩
        rw [List.length_map, List.take_length]
        have e2 : (leavesL (ps.take i)).flatten ++ (p.leaves.take (j + 1)).flatten = A ++ s := by
          rw [← hA, List.take_add_one, hs]
          simp
        simp only [call1, ev.eq_1, ev.eq_2, ev.eq_3, ev.eq_4, ev.eq_5, ev.eq_6, ev.eq_7, ev.eq_8, ev.eq_9, ev.eq_10, ev.eq_11, ev.eq_12, ev.eq_13, ev.eq_14, ev.eq_15, ev.eq_16, ev.eq_17, ev.eq_18, ev.eq_19, ev.eq_20, ev.eq_21, ev.eq_22, ev.eq_23, ev.eq_24, ev.eq_25, ev.eq_28, ev.eq_29, ev.eq_30, ev.eq_31, ev.eq_32, ev.eq_33, ev.eq_34, ev.eq_35, evs, eva, evt, ended, outsOf, Il.start, okIO, called, backs, Il.fin, sets, optR, IE.isNop, chg, place, nodeOk, atP, setP, chgAt, ownLst, ownDct, unpD, LQ, reduceIte, reduceCtorEq, Nat.reduceSub, Nat.reduceAdd, Int.reduceLT, Int.reduceLE, Int.reduceNeg, decide_true, decide_false, ite_true, ite_false, if_true, if_false, bnd_ok, bnd_ex, bndS_ok, bndS_ex, gets_zero, gets_succ, own_non, own_bl, own_int, own_str, own_lst, own_tup, own_scr, frz_non, frz_bl, frz_int, frz_str, frz_scr, l_set0, l_setS, noOwn_nil, noOwn_cons, x_nil, x_pas, x_brk, x_cont, x_retN, x_ret, x_exp, x_set, x_unp, x_ite, x_app, x_apS, x_ext, nown_ok, seq_nx, seq_none, s_neg, s_len_lst, s_len_tup, s_len_scr, s_int_bl, s_int_int, s_add_int, s_sub_int, s_mul_l, s_mul_r, sm_48271, sm_10, sm_5, s_fdiv_int, s_mod_int, s_pow9, s_lt_int, s_le_int, s_gt_int, s_ge_int, s_eq_int, s_ne_int, s_find, s_index, s_in_str, s_nin_str, rcv_find, rcv_index, rcv_join, rcv_add, rcv_sub, rcv_mul, rcv_fdiv, rcv_mod, rcv_pow, rcv_eq, rcv_ne, rcv_lt, rcv_le, rcv_gt, rcv_ge, rcv_in, rcv_nin, t_bl, x_lst, x_tup, x_scr, i_str, i_lst, i_tup, ty_ii, ty_bi, ty_in, ty_ib, ty_bb, List.map_cons, List.map_nil, List.cons_append, List.nil_append, List.append_nil, List.replicate_succ, List.replicate_zero, List.length_cons, List.length_nil, List.all_cons, List.all_nil, List.contains_nil, List.isEmpty_nil, Bool.not_false, Bool.not_true, Bool.and_true, Bool.true_and, Bool.and_false, Bool.false_and, Bool.or_true, Bool.true_or, Bool.or_false, Bool.false_or, Bool.false_eq_true, Bool.and_self, Bool.or_self, Option.map_some, Option.map_none, and_self, and_true, true_and, era_nil, era_s, era_n, pur_nil, pur_s, pur_n, D.erase, eraseL, D.pure, pureL, D.closed, closedL, s_eq_str, s_ne_str, wq_one_one, wq_one_row, wq_one_or, wq_one_many, wq_one_maybe, wq_row_one, wq_row_row, wq_row_or, wq_row_many, wq_row_maybe, wq_or_one, wq_or_row, wq_or_or, wq_or_many, wq_or_maybe, wq_many_one, wq_many_row, wq_many_or, wq_many_many, wq_many_maybe, wq_maybe_one, wq_maybe_row, wq_maybe_or, wq_maybe_many, wq_maybe_maybe, s_in_ints, s_nin_ints, s_sorted_ints, s_eq_ints, s_min, s_eq_bl, s_ne_bl, intL_app, t_lst, s_in_two]
        exact W_nx ⟨some (.str s), v6, by rw [e2]⟩
    · rintro e ⟨v5, v6, rfl⟩
      rw [strs_len, List.take_length]
      have e2 : (leavesL (ps.take (i + 1))).flatten = (leavesL (ps.take i)).flatten ++ p.leaves.flatten := by
        rw [take_succ_at hp, leavesL_app]
        simp [leavesL]
      simp only [call1, ev.eq_1, ev.eq_2, ev.eq_3, ev.eq_4, ev.eq_5, ev.eq_6, ev.eq_7, ev.eq_8, ev.eq_9, ev.eq_10, ev.eq_11, ev.eq_12, ev.eq_13, ev.eq_14, ev.eq_15, ev.eq_16, ev.eq_17, ev.eq_18, ev.eq_19, ev.eq_20, ev.eq_21, ev.eq_22, ev.eq_23, ev.eq_24, ev.eq_25, ev.eq_28, ev.eq_29, ev.eq_30, ev.eq_31, ev.eq_32, ev.eq_33, ev.eq_34, ev.eq_35, evs, eva, evt, ended, outsOf, Il.start, okIO, called, backs, Il.fin, sets, optR, IE.isNop, chg, place, nodeOk, atP, setP, chgAt, ownLst, ownDct, unpD, LQ, reduceIte, reduceCtorEq, Nat.reduceSub, Nat.reduceAdd, Int.reduceLT, Int.reduceLE, Int.reduceNeg, decide_true, decide_false, ite_true, ite_false, if_true, if_false, bnd_ok, bnd_ex, bndS_ok, bndS_ex, gets_zero, gets_succ, own_non, own_bl, own_int, own_str, own_lst, own_tup, own_scr, frz_non, frz_bl, frz_int, frz_str, frz_scr, l_set0, l_setS, noOwn_nil, noOwn_cons, x_nil, x_pas, x_brk, x_cont, x_retN, x_ret, x_exp, x_set, x_unp, x_ite, x_app, x_apS, x_ext, nown_ok, seq_nx, seq_none, s_neg, s_len_lst, s_len_tup, s_len_scr, s_int_bl, s_int_int, s_add_int, s_sub_int, s_mul_l, s_mul_r, sm_48271, sm_10, sm_5, s_fdiv_int, s_mod_int, s_pow9, s_lt_int, s_le_int, s_gt_int, s_ge_int, s_eq_int, s_ne_int, s_find, s_index, s_in_str, s_nin_str, rcv_find, rcv_index, rcv_join, rcv_add, rcv_sub, rcv_mul, rcv_fdiv, rcv_mod, rcv_pow, rcv_eq, rcv_ne, rcv_lt, rcv_le, rcv_gt, rcv_ge, rcv_in, rcv_nin, t_bl, x_lst, x_tup, x_scr, i_str, i_lst, i_tup, ty_ii, ty_bi, ty_in, ty_ib, ty_bb, List.map_cons, List.map_nil, List.cons_append, List.nil_append, List.append_nil, List.replicate_succ, List.replicate_zero, List.length_cons, List.length_nil, List.all_cons, List.all_nil, List.contains_nil, List.isEmpty_nil, Bool.not_false, Bool.not_true, Bool.and_true, Bool.true_and, Bool.and_false, Bool.false_and, Bool.or_true, Bool.true_or, Bool.or_false, Bool.false_or, Bool.false_eq_true, Bool.and_self, Bool.or_self, Option.map_some, Option.map_none, and_self, and_true, true_and, era_nil, era_s, era_n, pur_nil, pur_s, pur_n, D.erase, eraseL, D.pure, pureL, D.closed, closedL, s_eq_str, s_ne_str, wq_one_one, wq_one_row, wq_one_or, wq_one_many, wq_one_maybe, wq_row_one, wq_row_row, wq_row_or, wq_row_many, wq_row_maybe, wq_or_one, wq_or_row, wq_or_or, wq_or_many, wq_or_maybe, wq_many_one, wq_many_row, wq_many_or, wq_many_many, wq_many_maybe, wq_maybe_one, wq_maybe_row, wq_maybe_or, wq_maybe_many, wq_maybe_maybe, s_in_ints, s_nin_ints, s_sorted_ints, s_eq_ints, s_min, s_eq_bl, s_ne_bl, intL_app, t_lst, s_in_two]
      exact W_nx ⟨some p.enc, v5, v6, by rw [e2]⟩
  · rintro e ⟨v4, v5, v6, rfl⟩
    rw [encs_len, List.take_length]
    have hs := sorted_ones true (uni [] (leavesL ps).flatten)
    have pl : ((sortS ((uni [] (leavesL ps).flatten).map fun c => [c])).map List.length).sum ≤ line := by
      have pm := (sortS_perm ((uni [] (leavesL ps).flatten).map fun c => [c])).map List.length
      rw [pm.sum_nat]
      have : ∀ l : List Nat, ((l.map fun c => [c]).map List.length).sum = l.length := fun l => by
        induction l with
        | nil => rfl
        | cons c l ih =>
          simp only [List.map_cons, List.sum_cons, ih, List.length_nil, List.length_cons]
          omega
      rw [this]
      have h1 := uni_len (leavesL ps).flatten []
      rw [List.length_nil] at h1
      rw [lineEq]
      omega
    have hj := s_join (o := false) (strs_of3 _) pl
    generalize (sortS ((uni [] (leavesL ps).flatten).map fun c => [c])) = X at hsg hs hj
    have ty : ∀ s : List Nat, isTy .str (.str s) = some true := fun s => rfl
    have ee : (X.flatten == X.flatten) = true := by simp
    simp only [call1, ev.eq_1, ev.eq_2, ev.eq_3, ev.eq_4, ev.eq_5, ev.eq_6, ev.eq_7, ev.eq_8, ev.eq_9, ev.eq_10, ev.eq_11, ev.eq_12, ev.eq_13, ev.eq_14, ev.eq_15, ev.eq_16, ev.eq_17, ev.eq_18, ev.eq_19, ev.eq_20, ev.eq_21, ev.eq_22, ev.eq_23, ev.eq_24, ev.eq_25, ev.eq_28, ev.eq_29, ev.eq_30, ev.eq_31, ev.eq_32, ev.eq_33, ev.eq_34, ev.eq_35, evs, eva, evt, ended, outsOf, Il.start, okIO, called, backs, Il.fin, sets, optR, IE.isNop, chg, place, nodeOk, atP, setP, chgAt, ownLst, ownDct, unpD, LQ, reduceIte, reduceCtorEq, Nat.reduceSub, Nat.reduceAdd, Int.reduceLT, Int.reduceLE, Int.reduceNeg, decide_true, decide_false, ite_true, ite_false, if_true, if_false, bnd_ok, bnd_ex, bndS_ok, bndS_ex, gets_zero, gets_succ, own_non, own_bl, own_int, own_str, own_lst, own_tup, own_scr, frz_non, frz_bl, frz_int, frz_str, frz_scr, l_set0, l_setS, noOwn_nil, noOwn_cons, x_nil, x_pas, x_brk, x_cont, x_retN, x_ret, x_exp, x_set, x_unp, x_ite, x_app, x_apS, x_ext, nown_ok, seq_nx, seq_none, s_neg, s_len_lst, s_len_tup, s_len_scr, s_int_bl, s_int_int, s_add_int, s_sub_int, s_mul_l, s_mul_r, sm_48271, sm_10, sm_5, s_fdiv_int, s_mod_int, s_pow9, s_lt_int, s_le_int, s_gt_int, s_ge_int, s_eq_int, s_ne_int, s_find, s_index, s_in_str, s_nin_str, rcv_find, rcv_index, rcv_join, rcv_add, rcv_sub, rcv_mul, rcv_fdiv, rcv_mod, rcv_pow, rcv_eq, rcv_ne, rcv_lt, rcv_le, rcv_gt, rcv_ge, rcv_in, rcv_nin, t_bl, x_lst, x_tup, x_scr, i_str, i_lst, i_tup, ty_ii, ty_bi, ty_in, ty_ib, ty_bb, List.map_cons, List.map_nil, List.cons_append, List.nil_append, List.append_nil, List.replicate_succ, List.replicate_zero, List.length_cons, List.length_nil, List.all_cons, List.all_nil, List.contains_nil, List.isEmpty_nil, Bool.not_false, Bool.not_true, Bool.and_true, Bool.true_and, Bool.and_false, Bool.false_and, Bool.or_true, Bool.true_or, Bool.or_false, Bool.false_or, Bool.false_eq_true, Bool.and_self, Bool.or_self, Option.map_some, Option.map_none, and_self, and_true, true_and, era_nil, era_s, era_n, pur_nil, pur_s, pur_n, D.erase, eraseL, D.pure, pureL, D.closed, closedL, s_eq_str, s_ne_str, wq_one_one, wq_one_row, wq_one_or, wq_one_many, wq_one_maybe, wq_row_one, wq_row_row, wq_row_or, wq_row_many, wq_row_maybe, wq_or_one, wq_or_row, wq_or_or, wq_or_many, wq_or_maybe, wq_many_one, wq_many_row, wq_many_or, wq_many_many, wq_many_maybe, wq_maybe_one, wq_maybe_row, wq_maybe_or, wq_maybe_many, wq_maybe_maybe, s_in_ints, s_nin_ints, s_sorted_ints, s_eq_ints, s_min, s_eq_bl, s_ne_bl, intL_app, t_lst, s_in_two, hsg, hP, gv, hne, ty, hs, frz_lst (strs_own _), hj, ee]
    exact W_some rfl
end Il.Q
set_option Elab.async false
set_option linter.all false
set_option maxRecDepth 100000
set_option maxHeartbeats 0
/-! head of rulescan_k01_signs (printed by gen.py) -/
namespace Il.Q
open PySem L2 PySem.Spec PyProof.Rows Il
def top (i : Nat) : Stmt := PySem.Challenge.pw_rulescan_k01_signs.main.body.getD i (.Pass ⟨0, 0, 0, 0⟩)
def n_parts_of : List Str := ["pattern"]
def n_leaves_of : List Str := ["pattern", "found", "part"]
def n_looked_at : List Str := ["patterns", "found", "pattern"]
def n_signs_of : List Str := ["patterns", "seen", "signs", "sign"]
def n_cell_at : List Str := ["_law_script", "_law_k"]
def n_sign_by : List Str := ["_law_cell", "_law_some"]
def n_letters : List Str := ["_law_cell", "_law_gap", "_law_size", "_law_signs", "_law_k"]
def n_some_of : List Str := ["_law_letters_here", "_law_mask", "_law_signs", "_law_k"]
def n_text_by : List Str := ["_law_cell", "_law_size", "_law_letters_here", "_law_made", "_law_number", "_law_k", "_law_group"]
def n_grown : List Str := ["_law_held", "_law_cell", "_law_letters_here", "_law_room", "_law_way", "_law_more", "_law_last", "_law_parts"]
def n_wide : List Str := ["_law_cell", "_law_gap", "_law_k"]
def n_words : List Str := ["_law_script", "_law_letters_here", "_law_shape", "_law_count", "_law_most", "_law_number", "_law_held", "_law_k", "_law_size", "_law_signs", "_law_sign"]
def n_loops : List Str := ["_law_script", "_law_letters_here", "_law_pool", "_law_number", "_law_held", "_law_k", "_law_signs", "_law_sign", "_law_loops_here", "_law_loop", "_law_room"]
def n_long : List Str := ["_law_script", "_law_letters_here", "_law_cell", "_law_room", "_law_parts", "_law_k", "_law_drawn", "_law_leaf", "_law_other", "_law_both", "_law_some", "_law_size", "_law_whole", "_law_short"]
def n_patterns : List Str := ["_law_script", "_law_letters_here", "_law_held", "_law_room", "_law_k"]
def n_leaves : List Str := ["_law_pattern", "_law_parts", "_law_found", "_law_part"]
def n_law : List Str := ["_law_script", "_law_letters_here", "_law_patterns_here", "_law_due", "_law_pattern", "_law_signs", "_law_sign", "_law_found"]
def fnN : List Str := ["parts_of", "leaves_of", "looked_at", "signs_of", "_law_cell_at", "_law_sign_by", "_law_letters", "_law_some_of", "_law_text_by", "_law_grown", "_law_wide", "_law_words", "_law_loops", "_law_long", "_law_patterns", "_law_leaves", "law"]
def giN : List (Str × Int) := [("MOST_PATTERNS", 8), ("MOST_LEAVES", 60)]
def ioN : List (List Nat) := [[], [], [], [], [], [], [], [], [], [0], [], [], [], [], [], [], []]
theorem sc_parts_of : FnScope n_parts_of ["pattern"] (defScope (top 7)) := ⟨rfl, rfl, rfl, by decide +kernel, rfl, by decide +kernel, by decide +kernel⟩
theorem m_parts_of : mL b_parts_of ⟨n_parts_of, defScope (top 7), fnN, giN, ioN⟩ (defBody (top 7)) = true := by decide +kernel
def he_parts_of : He.DefD := ⟨("parts_of", none), "parts_of", "parts_of", defArgs (top 7), defBody (top 7), defScope (top 7), [], []⟩
theorem sc_leaves_of : FnScope n_leaves_of ["pattern"] (defScope (top 8)) := ⟨rfl, rfl, rfl, by decide +kernel, rfl, by decide +kernel, by decide +kernel⟩
theorem m_leaves_of : mL b_leaves_of ⟨n_leaves_of, defScope (top 8), fnN, giN, ioN⟩ (defBody (top 8)) = true := by decide +kernel
def he_leaves_of : He.DefD := ⟨("leaves_of", none), "leaves_of", "leaves_of", defArgs (top 8), defBody (top 8), defScope (top 8), [], []⟩
theorem sc_looked_at : FnScope n_looked_at ["patterns"] (defScope (top 9)) := ⟨rfl, rfl, rfl, by decide +kernel, rfl, by decide +kernel, by decide +kernel⟩
theorem m_looked_at : mL b_looked_at ⟨n_looked_at, defScope (top 9), fnN, giN, ioN⟩ (defBody (top 9)) = true := by decide +kernel
def he_looked_at : He.DefD := ⟨("looked_at", none), "looked_at", "looked_at", defArgs (top 9), defBody (top 9), defScope (top 9), [], []⟩
theorem sc_signs_of : FnScope n_signs_of ["patterns"] (defScope (top 10)) := ⟨rfl, rfl, rfl, by decide +kernel, rfl, by decide +kernel, by decide +kernel⟩
theorem m_signs_of : mL b_signs_of ⟨n_signs_of, defScope (top 10), fnN, giN, ioN⟩ (defBody (top 10)) = true := by decide +kernel
def he_signs_of : He.DefD := ⟨("signs_of", none), "signs_of", "signs_of", defArgs (top 10), defBody (top 10), defScope (top 10), [], []⟩
theorem sc_cell_at : FnScope n_cell_at ["_law_script", "_law_k"] (defScope (top 12)) := ⟨rfl, rfl, rfl, by decide +kernel, rfl, by decide +kernel, by decide +kernel⟩
theorem m_cell_at : mL b_cell_at ⟨n_cell_at, defScope (top 12), fnN, giN, ioN⟩ (defBody (top 12)) = true := by decide +kernel
def he_cell_at : He.DefD := ⟨("_law_cell_at", none), "_law_cell_at", "_law_cell_at", defArgs (top 12), defBody (top 12), defScope (top 12), [], []⟩
theorem sc_sign_by : FnScope n_sign_by ["_law_cell"] (defScope (top 13)) := ⟨rfl, rfl, rfl, by decide +kernel, rfl, by decide +kernel, by decide +kernel⟩
theorem m_sign_by : mL b_sign_by ⟨n_sign_by, defScope (top 13), fnN, giN, ioN⟩ (defBody (top 13)) = true := by decide +kernel
def he_sign_by : He.DefD := ⟨("_law_sign_by", none), "_law_sign_by", "_law_sign_by", defArgs (top 13), defBody (top 13), defScope (top 13), [], []⟩
theorem sc_letters : FnScope n_letters ["_law_cell"] (defScope (top 14)) := ⟨rfl, rfl, rfl, by decide +kernel, rfl, by decide +kernel, by decide +kernel⟩
theorem m_letters : mL b_letters ⟨n_letters, defScope (top 14), fnN, giN, ioN⟩ (defBody (top 14)) = true := by decide +kernel
def he_letters : He.DefD := ⟨("_law_letters", none), "_law_letters", "_law_letters", defArgs (top 14), defBody (top 14), defScope (top 14), [], []⟩
theorem sc_some_of : FnScope n_some_of ["_law_letters_here", "_law_mask"] (defScope (top 15)) := ⟨rfl, rfl, rfl, by decide +kernel, rfl, by decide +kernel, by decide +kernel⟩
theorem m_some_of : mL b_some_of ⟨n_some_of, defScope (top 15), fnN, giN, ioN⟩ (defBody (top 15)) = true := by decide +kernel
def he_some_of : He.DefD := ⟨("_law_some_of", none), "_law_some_of", "_law_some_of", defArgs (top 15), defBody (top 15), defScope (top 15), [], []⟩
theorem sc_text_by : FnScope n_text_by ["_law_cell", "_law_size", "_law_letters_here"] (defScope (top 16)) := ⟨rfl, rfl, rfl, by decide +kernel, rfl, by decide +kernel, by decide +kernel⟩
theorem m_text_by : mL b_text_by ⟨n_text_by, defScope (top 16), fnN, giN, ioN⟩ (defBody (top 16)) = true := by decide +kernel
def he_text_by : He.DefD := ⟨("_law_text_by", none), "_law_text_by", "_law_text_by", defArgs (top 16), defBody (top 16), defScope (top 16), [], []⟩
theorem sc_grown : FnScope n_grown ["_law_held", "_law_cell", "_law_letters_here", "_law_room"] (defScope (top 17)) := ⟨rfl, rfl, rfl, by decide +kernel, rfl, by decide +kernel, by decide +kernel⟩
theorem m_grown : mL b_grown ⟨n_grown, defScope (top 17), fnN, giN, ioN⟩ (defBody (top 17)) = true := by decide +kernel
def he_grown : He.DefD := ⟨("_law_grown", none), "_law_grown", "_law_grown", defArgs (top 17), defBody (top 17), defScope (top 17), [], []⟩
theorem sc_wide : FnScope n_wide ["_law_cell"] (defScope (top 18)) := ⟨rfl, rfl, rfl, by decide +kernel, rfl, by decide +kernel, by decide +kernel⟩
theorem m_wide : mL b_wide ⟨n_wide, defScope (top 18), fnN, giN, ioN⟩ (defBody (top 18)) = true := by decide +kernel
def he_wide : He.DefD := ⟨("_law_wide", none), "_law_wide", "_law_wide", defArgs (top 18), defBody (top 18), defScope (top 18), [], []⟩
theorem sc_words : FnScope n_words ["_law_script"] (defScope (top 19)) := ⟨rfl, rfl, rfl, by decide +kernel, rfl, by decide +kernel, by decide +kernel⟩
theorem m_words : mL b_words ⟨n_words, defScope (top 19), fnN, giN, ioN⟩ (defBody (top 19)) = true := by decide +kernel
def he_words : He.DefD := ⟨("_law_words", none), "_law_words", "_law_words", defArgs (top 19), defBody (top 19), defScope (top 19), [], []⟩
theorem sc_loops : FnScope n_loops ["_law_script", "_law_letters_here"] (defScope (top 20)) := ⟨rfl, rfl, rfl, by decide +kernel, rfl, by decide +kernel, by decide +kernel⟩
theorem m_loops : mL b_loops ⟨n_loops, defScope (top 20), fnN, giN, ioN⟩ (defBody (top 20)) = true := by decide +kernel
def he_loops : He.DefD := ⟨("_law_loops", none), "_law_loops", "_law_loops", defArgs (top 20), defBody (top 20), defScope (top 20), [], []⟩
theorem sc_long : FnScope n_long ["_law_script", "_law_letters_here"] (defScope (top 21)) := ⟨rfl, rfl, rfl, by decide +kernel, rfl, by decide +kernel, by decide +kernel⟩
theorem m_long : mL b_long ⟨n_long, defScope (top 21), fnN, giN, ioN⟩ (defBody (top 21)) = true := by decide +kernel
def he_long : He.DefD := ⟨("_law_long", none), "_law_long", "_law_long", defArgs (top 21), defBody (top 21), defScope (top 21), [], []⟩
theorem sc_patterns : FnScope n_patterns ["_law_script", "_law_letters_here"] (defScope (top 22)) := ⟨rfl, rfl, rfl, by decide +kernel, rfl, by decide +kernel, by decide +kernel⟩
theorem m_patterns : mL b_patterns ⟨n_patterns, defScope (top 22), fnN, giN, ioN⟩ (defBody (top 22)) = true := by decide +kernel
def he_patterns : He.DefD := ⟨("_law_patterns", none), "_law_patterns", "_law_patterns", defArgs (top 22), defBody (top 22), defScope (top 22), [], []⟩
theorem sc_leaves : FnScope n_leaves ["_law_pattern"] (defScope (top 23)) := ⟨rfl, rfl, rfl, by decide +kernel, rfl, by decide +kernel, by decide +kernel⟩
theorem m_leaves : mL b_leaves ⟨n_leaves, defScope (top 23), fnN, giN, ioN⟩ (defBody (top 23)) = true := by decide +kernel
def he_leaves : He.DefD := ⟨("_law_leaves", none), "_law_leaves", "_law_leaves", defArgs (top 23), defBody (top 23), defScope (top 23), [], []⟩
theorem sc_law : FnScope n_law ["_law_script"] (defScope (top 24)) := ⟨rfl, rfl, rfl, by decide +kernel, rfl, by decide +kernel, by decide +kernel⟩
theorem m_law : mL b_law ⟨n_law, defScope (top 24), fnN, giN, ioN⟩ (defBody (top 24)) = true := by decide +kernel
def he_law : He.DefD := ⟨("law", none), "law", "law", defArgs (top 24), defBody (top 24), defScope (top 24), [], []⟩
def hfn : List He.DefD := [he_parts_of, he_leaves_of, he_looked_at, he_signs_of, he_cell_at, he_sign_by, he_letters, he_some_of, he_text_by, he_grown, he_wide, he_words, he_loops, he_long, he_patterns, he_leaves, he_law]
def hfa : List He.Fa := [.glo "parts_of", .glo "leaves_of", .glo "looked_at", .glo "signs_of", .glo "_law_cell_at", .glo "_law_sign_by", .glo "_law_letters", .glo "_law_some_of", .glo "_law_text_by", .glo "_law_grown", .glo "_law_wide", .glo "_law_words", .glo "_law_loops", .glo "_law_long", .glo "_law_patterns", .glo "_law_leaves", .glo "law", .free "len", .free "int", .free "isinstance", .free "bool", .free "str", .free "tuple", .free "list", .free "range", .free "sorted", .free "any", .free "min", .free "max", .free "set", .free "enumerate", .free "zip", .int "MOST_PATTERNS" 8, .int "MOST_LEAVES" 60]
abbrev R : PySem.W.OpenRow := PySem.W.OpenLaw.row PySem.Challenge.rw_rulescan_k01_signs
abbrev hk : PySem.W.Hook := He.hookD 4 hfa hfn
def ob (s : PySem.W.SharedT) : He.AlD := He.obsDG 4 hfa hfn (HandSHeadRun.getT s)
theorem ob_eq (s : PySem.W.SharedT) : ob s = hk.obs s.abs := He.obsDG_eq (HandSHeadRun.getT_eq s)
def loose : List Str := (["RuleError", "NoPattern", "TooMany", "MOST_PATTERNS", "MOST_LEAVES", "parts_of", "leaves_of", "looked_at", "signs_of", "_law_cell_at", "_law_sign_by", "_law_letters", "_law_some_of", "_law_text_by", "_law_grown", "_law_wide", "_law_words", "_law_loops", "_law_long", "_law_patterns", "_law_leaves"] : List Str)
theorem runTop (w : World) : HandSHeadRun.RunEq R (PySem.W.view R.prog [24]) hk ob 3000 loose w := by
  intro os
  kernel_rfl
theorem tab {K : PySem.W.Frag} {h : Heap} {mg : Str → Option Value} (X : K.In h) (G : h.Ns mainGlobals mg) (c : He.SaysD hfa hfn K) : TabOk K mg TT fnN giN ioN where
  defs := fun f x hx => by
    match f, hx with
    | 0, hx =>
      cases hx
      obtain ⟨fd, F⟩ := c.def_ 0 (d := he_parts_of) rfl
      exact ⟨_, _, fd, ["pattern"], n_parts_of, _, _, _, _, rfl, F, He.glo_ok X G (c.fact 0 (f := .glo "parts_of") rfl), sc_parts_of, F.bindsN (fun _ _ _ _ _ _ us hl => match us, hl with | [_], _ => rfl), rfl, rfl, rfl, by decide, m_parts_of⟩
    | 1, hx =>
      cases hx
      obtain ⟨fd, F⟩ := c.def_ 1 (d := he_leaves_of) rfl
      exact ⟨_, _, fd, ["pattern"], n_leaves_of, _, _, _, _, rfl, F, He.glo_ok X G (c.fact 1 (f := .glo "leaves_of") rfl), sc_leaves_of, F.bindsN (fun _ _ _ _ _ _ us hl => match us, hl with | [_], _ => rfl), rfl, rfl, rfl, by decide, m_leaves_of⟩
    | 2, hx =>
      cases hx
      obtain ⟨fd, F⟩ := c.def_ 2 (d := he_looked_at) rfl
      exact ⟨_, _, fd, ["patterns"], n_looked_at, _, _, _, _, rfl, F, He.glo_ok X G (c.fact 2 (f := .glo "looked_at") rfl), sc_looked_at, F.bindsN (fun _ _ _ _ _ _ us hl => match us, hl with | [_], _ => rfl), rfl, rfl, rfl, by decide, m_looked_at⟩
    | 3, hx =>
      cases hx
      obtain ⟨fd, F⟩ := c.def_ 3 (d := he_signs_of) rfl
      exact ⟨_, _, fd, ["patterns"], n_signs_of, _, _, _, _, rfl, F, He.glo_ok X G (c.fact 3 (f := .glo "signs_of") rfl), sc_signs_of, F.bindsN (fun _ _ _ _ _ _ us hl => match us, hl with | [_], _ => rfl), rfl, rfl, rfl, by decide, m_signs_of⟩
    | 4, hx =>
      cases hx
      obtain ⟨fd, F⟩ := c.def_ 4 (d := he_cell_at) rfl
      exact ⟨_, _, fd, ["_law_script", "_law_k"], n_cell_at, _, _, _, _, rfl, F, He.glo_ok X G (c.fact 4 (f := .glo "_law_cell_at") rfl), sc_cell_at, F.bindsN (fun _ _ _ _ _ _ us hl => match us, hl with | [_, _], _ => rfl), rfl, rfl, rfl, by decide, m_cell_at⟩
    | 5, hx =>
      cases hx
      obtain ⟨fd, F⟩ := c.def_ 5 (d := he_sign_by) rfl
      exact ⟨_, _, fd, ["_law_cell"], n_sign_by, _, _, _, _, rfl, F, He.glo_ok X G (c.fact 5 (f := .glo "_law_sign_by") rfl), sc_sign_by, F.bindsN (fun _ _ _ _ _ _ us hl => match us, hl with | [_], _ => rfl), rfl, rfl, rfl, by decide, m_sign_by⟩
    | 6, hx =>
      cases hx
      obtain ⟨fd, F⟩ := c.def_ 6 (d := he_letters) rfl
      exact ⟨_, _, fd, ["_law_cell"], n_letters, _, _, _, _, rfl, F, He.glo_ok X G (c.fact 6 (f := .glo "_law_letters") rfl), sc_letters, F.bindsN (fun _ _ _ _ _ _ us hl => match us, hl with | [_], _ => rfl), rfl, rfl, rfl, by decide, m_letters⟩
    | 7, hx =>
      cases hx
      obtain ⟨fd, F⟩ := c.def_ 7 (d := he_some_of) rfl
      exact ⟨_, _, fd, ["_law_letters_here", "_law_mask"], n_some_of, _, _, _, _, rfl, F, He.glo_ok X G (c.fact 7 (f := .glo "_law_some_of") rfl), sc_some_of, F.bindsN (fun _ _ _ _ _ _ us hl => match us, hl with | [_, _], _ => rfl), rfl, rfl, rfl, by decide, m_some_of⟩
    | 8, hx =>
      cases hx
      obtain ⟨fd, F⟩ := c.def_ 8 (d := he_text_by) rfl
      exact ⟨_, _, fd, ["_law_cell", "_law_size", "_law_letters_here"], n_text_by, _, _, _, _, rfl, F, He.glo_ok X G (c.fact 8 (f := .glo "_law_text_by") rfl), sc_text_by, F.bindsN (fun _ _ _ _ _ _ us hl => match us, hl with | [_, _, _], _ => rfl), rfl, rfl, rfl, by decide, m_text_by⟩
    | 9, hx =>
      cases hx
      obtain ⟨fd, F⟩ := c.def_ 9 (d := he_grown) rfl
      exact ⟨_, _, fd, ["_law_held", "_law_cell", "_law_letters_here", "_law_room"], n_grown, _, _, _, _, rfl, F, He.glo_ok X G (c.fact 9 (f := .glo "_law_grown") rfl), sc_grown, F.bindsN (fun _ _ _ _ _ _ us hl => match us, hl with | [_, _, _, _], _ => rfl), rfl, rfl, rfl, by decide, m_grown⟩
    | 10, hx =>
      cases hx
      obtain ⟨fd, F⟩ := c.def_ 10 (d := he_wide) rfl
      exact ⟨_, _, fd, ["_law_cell"], n_wide, _, _, _, _, rfl, F, He.glo_ok X G (c.fact 10 (f := .glo "_law_wide") rfl), sc_wide, F.bindsN (fun _ _ _ _ _ _ us hl => match us, hl with | [_], _ => rfl), rfl, rfl, rfl, by decide, m_wide⟩
    | 11, hx =>
      cases hx
      obtain ⟨fd, F⟩ := c.def_ 11 (d := he_words) rfl
      exact ⟨_, _, fd, ["_law_script"], n_words, _, _, _, _, rfl, F, He.glo_ok X G (c.fact 11 (f := .glo "_law_words") rfl), sc_words, F.bindsN (fun _ _ _ _ _ _ us hl => match us, hl with | [_], _ => rfl), rfl, rfl, rfl, by decide, m_words⟩
    | 12, hx =>
      cases hx
      obtain ⟨fd, F⟩ := c.def_ 12 (d := he_loops) rfl
      exact ⟨_, _, fd, ["_law_script", "_law_letters_here"], n_loops, _, _, _, _, rfl, F, He.glo_ok X G (c.fact 12 (f := .glo "_law_loops") rfl), sc_loops, F.bindsN (fun _ _ _ _ _ _ us hl => match us, hl with | [_, _], _ => rfl), rfl, rfl, rfl, by decide, m_loops⟩
    | 13, hx =>
      cases hx
      obtain ⟨fd, F⟩ := c.def_ 13 (d := he_long) rfl
      exact ⟨_, _, fd, ["_law_script", "_law_letters_here"], n_long, _, _, _, _, rfl, F, He.glo_ok X G (c.fact 13 (f := .glo "_law_long") rfl), sc_long, F.bindsN (fun _ _ _ _ _ _ us hl => match us, hl with | [_, _], _ => rfl), rfl, rfl, rfl, by decide, m_long⟩
    | 14, hx =>
      cases hx
      obtain ⟨fd, F⟩ := c.def_ 14 (d := he_patterns) rfl
      exact ⟨_, _, fd, ["_law_script", "_law_letters_here"], n_patterns, _, _, _, _, rfl, F, He.glo_ok X G (c.fact 14 (f := .glo "_law_patterns") rfl), sc_patterns, F.bindsN (fun _ _ _ _ _ _ us hl => match us, hl with | [_, _], _ => rfl), rfl, rfl, rfl, by decide, m_patterns⟩
    | 15, hx =>
      cases hx
      obtain ⟨fd, F⟩ := c.def_ 15 (d := he_leaves) rfl
      exact ⟨_, _, fd, ["_law_pattern"], n_leaves, _, _, _, _, rfl, F, He.glo_ok X G (c.fact 15 (f := .glo "_law_leaves") rfl), sc_leaves, F.bindsN (fun _ _ _ _ _ _ us hl => match us, hl with | [_], _ => rfl), rfl, rfl, rfl, by decide, m_leaves⟩
    | 16, hx =>
      cases hx
      obtain ⟨fd, F⟩ := c.def_ 16 (d := he_law) rfl
      exact ⟨_, _, fd, ["_law_script"], n_law, _, _, _, _, rfl, F, He.glo_ok X G (c.fact 16 (f := .glo "law") rfl), sc_law, F.bindsN (fun _ _ _ _ _ _ us hl => match us, hl with | [_], _ => rfl), rfl, rfl, rfl, by decide, m_law⟩
    | n + 17, hx => exact absurd hx (by simp [fnN])
  free := fun x hx => by
    simp only [List.mem_cons, List.not_mem_nil, or_false] at hx
    rcases hx with rfl | rfl | rfl | rfl | rfl | rfl | rfl | rfl | rfl | rfl | rfl | rfl | rfl | rfl | rfl
    · exact He.free_ok X G (c.fact 17 (f := .free "len") rfl)
    · exact He.free_ok X G (c.fact 18 (f := .free "int") rfl)
    · exact He.free_ok X G (c.fact 19 (f := .free "isinstance") rfl)
    · exact He.free_ok X G (c.fact 20 (f := .free "bool") rfl)
    · exact He.free_ok X G (c.fact 21 (f := .free "str") rfl)
    · exact He.free_ok X G (c.fact 22 (f := .free "tuple") rfl)
    · exact He.free_ok X G (c.fact 23 (f := .free "list") rfl)
    · exact He.free_ok X G (c.fact 24 (f := .free "range") rfl)
    · exact He.free_ok X G (c.fact 25 (f := .free "sorted") rfl)
    · exact He.free_ok X G (c.fact 26 (f := .free "any") rfl)
    · exact He.free_ok X G (c.fact 27 (f := .free "min") rfl)
    · exact He.free_ok X G (c.fact 28 (f := .free "max") rfl)
    · exact He.free_ok X G (c.fact 29 (f := .free "set") rfl)
    · exact He.free_ok X G (c.fact 30 (f := .free "enumerate") rfl)
    · exact He.free_ok X G (c.fact 31 (f := .free "zip") rfl)
  gi := fun x i hx => by
    simp only [giN, List.mem_cons, List.not_mem_nil, or_false, Prod.mk.injEq] at hx
    rcases hx with ⟨rfl, rfl⟩ | ⟨rfl, rfl⟩
    · exact He.int_ok X G (c.fact 32 (f := .int "MOST_PATTERNS" 8) rfl)
    · exact He.int_ok X G (c.fact 33 (f := .int "MOST_LEAVES" 60) rfl)
theorem law_prom {cl : Nat → Addr} {xc : Nat → Value} (hrun : ∀ ns : List Int, ns.length ≤ 63 → run TT 40 16 [.scr ns] = some (.ret (.bl true) [])) {K : PySem.W.Frag} (H : Hp) (a : Addr) (ns : List Int) (hl : ns.length ≤ 63) (hS : SqL K H a (ns.map V.int)) : spIl K cl xc (run TT 40) 16 [] [.ref a] H (fun v _ => v = .bl true) fun _ _ _ => False := by
  refine ⟨H, [.scr ns], addF zf zf, zf, _, ?_, ⟨fun _ _ h => h, fun b => by simp [addF, zf], fun b hb => by simp [addF, zf] at hb⟩, hrun ns hl, ?_⟩
  · simp only [OwL, Ow, Sh]
    exact ⟨_, _, zf, zf, rfl, ⟨⟨a, rfl, hS⟩, rfl⟩, ⟨rfl, rfl⟩, rfl⟩
  · intro v Hs' H' fv fo us _ hv _ _ _ _
    simp only [Ow, Sh] at hv
    exact hv.1
theorem facts {P : Program} {w : World} {K : PySem.W.Frag} {h : Heap} {mg : Str → Option Value} {f : Addr} (X : K.In h) (G : h.Ns mainGlobals mg) (hfa' : mg ("law" : Str) = some (.ref f)) (c : He.SaysD hfa hfn K) :
    ∃ fd : FuncData, (∀ (s : Shared) (v : Value), BindsTo s fd ⟨[v], []⟩ [("_law_script", v)]) ∧ ∀ base : Heap, K.In base → base.Ns mainGlobals mg → FnOk P w K mg base (L2.CX P w) 40 f fd ["_law_script"] (spIl K (fun _ => 0) (fun _ => .none) (run TT 40) 16 []) := by
  have T := tab X G c
  obtain ⟨fd, F⟩ := c.def_ 16 (d := he_law) rfl
  have e := hfa'.symm.trans (He.glo_ok X G (c.fact 16 (f := .glo "law") rfl))
  cases e
  have b := FunD.bindsA (ps := ["_law_script"]) F fun _ _ _ _ _ _ us hl => match us, hl with | [_], _ => rfl
  refine ⟨fd, fun s v => b s [v] rfl, fun base _ _ => ?_⟩
  exact fn_step (n := 39) T (fun g y a2 hg h2 => all_ok T 39 g y a2 hg h2) (fd := d_law) rfl F sc_law rfl rfl rfl (by decide) m_law
end Il.Q
set_option Elab.async false
set_option linter.all false
set_option maxRecDepth 100000
set_option maxHeartbeats 0
open PySem PySem.W PySem.Calls PyProof.Rows
theorem PySem.Challenge.cw_rulescan_k01_signs_holds : PySem.Challenge.rw_rulescan_k01_signs.Holds := by
  w_on; o_law
  refine HandSHeadRun.head_any (r := OpenLaw.row PySem.Challenge.rw_rulescan_k01_signs) (q := view (OpenLaw.row PySem.Challenge.rw_rulescan_k01_signs).prog [24]) (H := Il.Q.hk) (ob := Il.Q.ob) (M := 3000) (loose := Il.Q.loose) (d := HandSHeadRun.topDef (OpenLaw.row PySem.Challenge.rw_rulescan_k01_signs).prog 24) (kwd := []) Il.Q.ob_eq
    (by kernel_rfl) (fun s => by kernel_rfl) Il.Q.runTop (by kernel_rfl) (by kernel_rfl) (by kernel_rfl) (by rfl) (by first | assumption | decide +kernel) (by decide +kernel) ⟨rfl, rfl, rfl, rfl, rfl, by decide +kernel⟩ ?hw ?hc
  case hw => w_witness2
  case hc =>
    refine Il.walk_il (l := PySem.Challenge.rw_rulescan_k01_signs) (n := 63) (k := 40) (x := "_law_script") rfl (by decide) (by kernel_rfl) ⟨by decide, by decide, by decide⟩ ?F
    intro w mg fa h Y G hmg0
    obtain ⟨K, KX, c⟩ := Y
    have hmg : mg ("law" : PySem.Str) = some (.ref fa) := by
      have e : (HandSHeadRun.topDef (OpenLaw.row PySem.Challenge.rw_rulescan_k01_signs).prog 24).name = ("law" : PySem.Str) := by kernel_rfl
      rw [← e]
      exact hmg0
    obtain ⟨fd, hb, hF⟩ := Il.Q.facts (P := PySem.Challenge.rw_rulescan_k01_signs.prog) (w := w) KX G hmg c
    exact ⟨K, fd, _, KX, hb, fun H a ns hl hS => Il.Q.law_prom Il.Q.law_run H a ns hl hS, hF⟩
