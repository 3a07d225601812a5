import PyProof.Rows.All
import Wide.All
import OpenK.AllK
import Wide.FinOn
import HandS.ForExc
import HandS.Wide
import HandS.Comp
import HandS.Dict
import KE.KDictKeyed
import HandS.TupAny
import HandS.TupMul
import HandS.Flow
import HandS.Style
import HandS.Text
import HandS.Iter
import HandS.Flt
import HandS.Lambda
import PyProof.Rows.IntBool
import HandS.IsInst
import HandS.HotCalls
import HandS.SuiteRaise
import PyProof.ZipIter
import HandS.ExcIs
import KE.KExcIs
import HandS.List
import HandS.HeadHook1
import HandS.ExcField
import HandS.ExcInit
import HandS.ExcCtx
import HandS.Defaults
import HandS.HeadWalk
import HandS.Deep
import HandS.Codes
import HandS.RaiseMore
import KE.KDictCopyH
import HandS.SetFor
import HandS.Strs
import HandS.ExcOwn
import KE.KDictWalk
import HandS.HeadHook4
import HandS.HeadEnd
import PyProof.Rows.StrCase
import PyProof.Ascii
import PyProof.FitsInt
import HandS.Head0
import HandS.Head1
import HandS.Head2
import HandS.HeadHook2
import HandS.HeadHook3
import PySem.Challenge.RW_lockbooks_k12_strings_that_are_no_books
set_option Elab.async false
set_option linter.all false
set_option maxRecDepth 100000
set_option maxHeartbeats 0
/-! A small language of plain values, its meaning as a total function; what a def of the program computes is read off it. -/
namespace Ev
open PySem

/-- values: tuples and lists by what they hold -/
inductive D where
  | non | bl (b : Bool) | int (i : Int) | str (cs : List Nat)
  | tup (xs : List D) | lst (xs : List D) | rol (xs : List D)
  | loc (n : Nat) | fn (f : Nat)
  | dic (ks vs : List D)
/-- what a slot holds: a value; a list that the frame alone holds -/
inductive SV where
  | val (d : D) | own (xs : List D) | dic (kvs : List (D × D))
def SV.isOwn : SV → Bool
  | .val _ => false
  | _ => true
abbrev Env := List (Option SV)
/-- an object that is written: a list -/
inductive Ob where
  | cell (xs : List D)
abbrev Sto := List Ob
inductive Res (α : Type) where
  | stk | ok (a : α) (S : Sto)
abbrev M (α : Type) := Sto → Res α
def M.pure {α : Type} (a : α) : M α := fun S => .ok a S
def M.bind {α β : Type} (m : M α) (f : α → M β) : M β := fun S => match m S with
  | .stk => .stk
  | .ok a S' => f a S'
def M.stk {α : Type} : M α := fun _ => .stk
def M.opt {α : Type} (o : Option α) : M α := fun S => match o with
  | none => .stk
  | some a => .ok a S
def M.guard {α : Type} (b : Bool) (m : M α) : M α := fun S => match b with
  | true => m S
  | false => .stk

inductive BOp where
  | add | sub | mul | mod | fdiv | pow
inductive Mt where
  | split | join | index
inductive COp where
  | eq | ne | lt | le | gt | ge | isin | notin
inductive Ty where
  | int | bool | str | tup | lst
inductive Bl where
  | len | abs | int | min2 | max2 | tuple | list | str | all | min3 | sum | maxL | minL

mutual
inductive Tg where
  | nm (i : Nat) | tp (ts : Tgs)
inductive Tgs where
  | nil | cons (t : Tg) (ts : Tgs)
end

mutual
inductive E where
  | non | bl (b : Bool) | int (i : Int) | str (cs : List Nat)
  | var (i : Nat) | glo (k : Nat) | fnv (f : Nat)
  | bin (op : BOp) (a b : E) | neg (a : E)
  | cmp (op : COp) (a b : E) | chn (o1 o2 : COp) (a b c : E) | isN (a : E) | ntN (a : E)
  | and (a b : E) | or (a b : E) | not (a : E) | ife (c : B) (a b : E)
  | tup (es : Es) | lst (es : Es) | cell (es : Es)
  | call (f : Nat) (es : Es) | blt (f : Bl) (es : Es) | isi (a : E) (ts : List Ty)
  | idx (a i : E) | slN (a : E) | slL (a lo : E) | slU (a hi : E) | slB (a lo hi : E) | rev (a : E) | sst (a : E)
  | upper (a : E) | meth (m : Mt) (i : Nat) (b : E) | join (cs : List Nat) (b : E)
  | told (f : Nat) (es : Es) | toldV (i : Nat) (es : Es)
  | lc (t : Tg) (s : I) (e : E) (vs : List Nat) | lcf (t : Tg) (s : I) (c : B) (e : E) (vs : List Nat)
inductive Es where
  | nil | cons (e : E) (es : Es)
inductive I where
  | seq (e : E) | rng (e : E) | rng2 (lo hi : E)
/-- tests -/
inductive B where
  | and (a b : B) | or (a b : B) | not (a : B) | e (e : E)
  | cmp (op : COp) (a b : E) | chn (o1 o2 : COp) (a b c : E) | isN (a : E) | ntN (a : E)
end

mutual
inductive T where
  | asg (i : Nat) (e : E) | asgO (i : Nat) (e : E)
  | par2 (i j : Nat) (a b : E) | par3 (i j k : Nat) (oi : Bool) (a b c : E)
  | unp (t : Tg) (e : E)
  | setI (i : Nat) (k v : E) | app (i : Nat) (e : E)
  | ret (e : E) | reto (i : Nat) | ifs (c : B) (a b : Ts) | fors (t : Tg) (s : I) (b : Ts) | whl (c : B) (b : Ts) | exp (e : E) | dead
  | asgD (i : Nat) | asgC (i : Nat) (f : Nat) (es : Es)
  | exX (f : Nat) (es : Es) | retX (f : Nat) (es : Es) | unpX (t : Tg) (f : Nat) (es : Es) | rse (c : Nat) | rsv (c : Nat) (e : E)
inductive Ts where
  | nil | cons (t : T) (ts : Ts) | frz (i : Nat) (ts : Ts)
end

/-! ### operations on values -/
def LIM : Nat := 16777216
/-- the truth of a value -/
def D.tru : D → Option Bool
  | .non => some false
  | .bl b => some b
  | .int i => some (i != 0)
  | .str cs => some (!cs.isEmpty)
  | .tup xs => some (!xs.isEmpty)
  | .lst xs => some (!xs.isEmpty)
  | _ => none
def D.isNon : D → Bool
  | .non => true
  | _ => false
mutual
def D.eqv : D → D → Bool
  | .non, .non => true
  | .bl a, .bl b => a == b
  | .bl a, .int j => (if a then 1 else 0) == j
  | .int i, .bl b => i == (if b then 1 else 0)
  | .int i, .int j => i == j
  | .str x, .str y => x == y
  | .tup xs, .tup ys => D.eqvs xs ys
  | .lst xs, .lst ys => D.eqvs xs ys
  | _, _ => false
def D.eqvs : List D → List D → Bool
  | [], [] => true
  | x :: xs, y :: ys => D.eqv x y && D.eqvs xs ys
  | _, _ => false
end
mutual
/-- it may be compared by == : no script, no place, no def within -/
def D.cmpb : D → Bool
  | .tup xs => D.cmpbs xs
  | .lst xs => D.cmpbs xs
  | .rol _ => false
  | .loc _ => false
  | .fn _ => false
  | .dic _ _ => false
  | _ => true
def D.cmpbs : List D → Bool
  | [] => true
  | x :: xs => D.cmpb x && D.cmpbs xs
end
mutual
def D.dep : D → Nat
  | .tup xs => D.deps xs + 1
  | .lst xs => D.deps xs + 1
  | _ => 0
def D.deps : List D → Nat
  | [] => 0
  | x :: xs => max (D.dep x) (D.deps xs)
end
def D.flat : D → Bool
  | .non => true
  | .bl _ => true
  | .int _ => true
  | .str _ => true
  | _ => false
def b2i (b : Bool) : Int := if b then 1 else 0
def asI : D → Option Int
  | .int i => some i
  | .bl b => some (b2i b)
  | _ => none
/-- the left, or the right, factor below 2 ^ 64; or both of some size -/
def sm64 (i : Int) : Bool := decide (i.natAbs < 18446744073709551616)
def mulOk (i j : Int) : Bool := sm64 j || (sm64 i || (decide (i.natAbs < 2 ^ 4000) && decide (j.natAbs < 2 ^ 4000)))
def divOk (j : Int) : Bool := decide (0 < j) && decide (j.natAbs < 2 ^ 4000)
def rep (k : Nat) (xs : List D) : List D := (List.replicate k xs).flatten
def bop (op : BOp) (x y : D) : Option D := match op with
  | .add => (match x, y with
    | .int i, .int j => some (.int (i + j))
    | .bl b, .int j => some (.int (b2i b + j))
    | .str a, .str b => if a.length + b.length ≤ LIM then some (.str (a ++ b)) else none
    | .tup a, .tup b => if a.length + b.length ≤ LIM then some (.tup (a ++ b)) else none
    | .lst a, .lst b => if a.length + b.length ≤ LIM then some (.lst (a ++ b)) else none
    | _, _ => none)
  | .sub => (match x, y with
    | .int i, .int j => some (.int (i - j))
    | .bl b, .int j => some (.int (b2i b - j))
    | _, _ => none)
  | .mul => (match x, y with
    | .int i, .int j => if mulOk i j then some (.int (i * j)) else none
    | .tup a, .int j => if decide (2 ≤ j) && decide (j ≤ 1000) && !a.isEmpty && decide (a.length ≤ 1000) then some (.tup (rep j.toNat a)) else none
    | .lst a, .int j => if decide (0 ≤ j) && decide (j ≤ 1000) && decide (a.length ≤ 1000) then some (.lst (rep j.toNat a)) else none
    | .str a, .int j => if decide (2 ≤ j) && decide (j ≤ 1000) && !a.isEmpty && decide (a.length ≤ 1000) then some (.str (List.replicate j.toNat a).flatten) else none
    | _, _ => none)
  | .mod => (match x, y with
    | .int i, .int j => if 0 < j then some (.int (i % j)) else none
    | _, _ => none)
  | .fdiv => (match x, y with
    | .int i, .int j => if divOk j then some (.int (i / j)) else none
    | _, _ => none)
  | .pow => (match x, y with
    | .int i, .int j => if decide (0 ≤ j) && decide (j ≤ 1000) && sm64 i then some (.int (i ^ j.toNat)) else none
    | _, _ => none)
/-! ### dicts -/
mutual
/-- it may be a key, or stand in one: nested tuples of numbers, bools, None -/
def D.kyb : D → Bool
  | .non => true
  | .bl _ => true
  | .int _ => true
  | .tup xs => D.kybs xs
  | _ => false
def D.kybs : List D → Bool
  | [] => true
  | x :: xs => D.kyb x && D.kybs xs
end
def D.key : D → Bool
  | .tup xs => D.kybs xs && decide (D.deps xs ≤ 7)
  | _ => false
def dAt : List (D × D) → D → Option D
  | [], _ => none
  | p :: r, k => if D.eqv p.1 k then some p.2 else dAt r k
def dPut (k v : D) : List (D × D) → List (D × D)
  | [] => [(k, v)]
  | p :: r => if D.eqv p.1 k then (p.1, v) :: r else p :: dPut k v r
/-- what stands at a key of a dict that stands for ever -/
def dAt2 : List D → List D → D → Option D
  | k :: ks, v :: vs, x => if D.eqv k x then some v else dAt2 ks vs x
  | _, _, _ => none
def inD (x : D) (ys : List D) : Bool := ys.any fun y => D.eqv y x
def depOk (x y : D) : Bool := decide (D.dep y ≤ 60) || decide (D.dep x ≤ 60)
/-- x is looked for in a list of whatever it is -/
def deepOk (x : D) (ys : List D) : Bool := D.cmpb x && (D.cmpbs ys && (decide (D.dep x ≤ 50) && decide (D.deps ys ≤ 50)))
def cop (op : COp) (x y : D) : Option Bool := match op with
  | .eq => if D.cmpb x && D.cmpb y && depOk x y then some (D.eqv x y) else none
  | .ne => if D.cmpb x && D.cmpb y && depOk x y then some (!D.eqv x y) else none
  | .lt => (match x, y with
    | .int i, .int j => some (decide (i < j))
    | _, _ => none)
  | .le => (match x, y with
    | .int i, .int j => some (decide (i ≤ j))
    | _, _ => none)
  | .gt => (match x, y with
    | .int i, .int j => some (decide (j < i))
    | _, _ => none)
  | .ge => (match x, y with
    | .int i, .int j => some (decide (j ≤ i))
    | _, _ => none)
  | .isin => (match y with
    | .tup ys => if D.flat x && ys.all D.flat then some (inD x ys) else none
    | .lst ys => if D.flat x && ys.all D.flat then some (inD x ys) else if deepOk x ys then some (inD x ys) else none
    | .str cs => (match x with
      | .str [c] => some (cs.contains c)
      | _ => none)
    | .dic ks vs => if x.key then some (dAt2 ks vs x).isSome else none
    | _ => none)
  | .notin => (match y with
    | .tup ys => if D.flat x && ys.all D.flat then some (!inD x ys) else none
    | .lst ys => if D.flat x && ys.all D.flat then some (!inD x ys) else none
    | .dic ks vs => if x.key then some (!(dAt2 ks vs x).isSome) else none
    | _ => none)
def Ty.has (t : Ty) (x : D) : Bool := match t, x with
  | .int, .int _ => true
  | .int, .bl _ => true
  | .bool, .bl _ => true
  | .str, .str _ => true
  | .tup, .tup _ => true
  | .lst, .lst _ => true
  | _, _ => false
/-- isinstance is asked of plain values alone -/
def D.isiOk : D → Bool
  | .rol _ => false
  | .loc _ => false
  | .fn _ => false
  | .dic _ _ => false
  | _ => true
def codesOf (x : Str) : List Nat := x.cps.toList
def boolsOf : List D → Option (List Bool)
  | [] => some []
  | .bl b :: xs => (match boolsOf xs with
    | some bs => some (b :: bs)
    | none => none)
  | _ :: _ => none
def intsOf : List D → Option (List Int)
  | [] => some []
  | .int i :: xs => (match intsOf xs with
    | some ns => some (i :: ns)
    | none => none)
  | _ :: _ => none
def maxI (n : Int) (ns : List Int) : Int := ns.foldl (fun a b => if b > a then b else a) n
def minI (n : Int) (ns : List Int) : Int := ns.foldl (fun a b => if b < a then b else a) n
/-- a text at its signs c -/
def splt (c : Nat) : List Nat → List (List Nat)
  | [] => [[]]
  | x :: xs => if x == c then [] :: splt c xs else (match splt c xs with
    | h :: t => (x :: h) :: t
    | [] => [[x]])
def joinS (s : List Nat) : List (List Nat) → List Nat
  | [] => []
  | [x] => x
  | x :: y :: r => x ++ s ++ joinS s (y :: r)
def strsOf : List D → Option (List (List Nat))
  | [] => some []
  | .str x :: xs => (match strsOf xs with
    | some l => some (x :: l)
    | none => none)
  | _ :: _ => none
def sumLen (l : List (List Nat)) : Nat := (l.map (·.length)).sum
def isDig (c : Nat) : Bool := decide (48 ≤ c) && decide (c ≤ 57)
def dval (cs : List Nat) : Nat := cs.foldl (fun acc c => acc * 10 + (c - 48)) 0
def methD : Mt → D → D → Option D
  | .split, .str a, .str [c] => if decide (c < 256) && decide (a.length + 2 ≤ LIM) then some (.lst ((splt c a).map .str)) else none
  | .join, .str s, .lst ys => (match strsOf ys with
    | some l => if decide (sumLen l + l.length * s.length ≤ LIM) then some (.str (joinS s l)) else none
    | none => none)
  | .index, .lst ys, x => if deepOk x ys then (ys.findIdx? fun y => D.eqv y x).map fun (j : Nat) => .int (j : Int) else none
  | _, _, _ => none
def sBool (b : Bool) : List Nat := if b then [84, 114, 117, 101] else [70, 97, 108, 115, 101]
def blt (f : Bl) (xs : List D) : Option D := match f, xs with
  | .len, [.str cs] => some (.int cs.length)
  | .len, [.tup ys] => some (.int ys.length)
  | .len, [.lst ys] => some (.int ys.length)
  | .len, [.rol ys] => some (.int ys.length)
  | .abs, [.int i] => some (.int (if i < 0 then -i else i))
  | .int, [.int i] => some (.int i)
  | .int, [.bl b] => some (.int (b2i b))
  | .int, [.str cs] => if decide (cs.length ≤ 600) && (!cs.isEmpty && cs.all isDig) then some (.int (dval cs : Nat)) else none
  | .min2, [.int i, .int j] => some (.int (if j < i then j else i))
  | .max2, [.int i, .int j] => some (.int (if j > i then j else i))
  | .tuple, [.tup ys] => some (.tup ys)
  | .tuple, [.lst ys] => some (.tup ys)
  | .list, [.tup ys] => some (.lst ys)
  | .list, [.lst ys] => some (.lst ys)
  | .list, [.dic ks _] => some (.lst ks)
  | .str, [.int i] => if i.natAbs < 2 ^ 1000 then some (.str (codesOf (toString i : String))) else none
  | .str, [.bl b] => some (.str (sBool b))
  | .str, [.str cs] => some (.str cs)
  | .all, [.lst ys] => (boolsOf ys).map fun bs => .bl (bs.all id)
  | .min3, [.int i, .int j, .int k] => some (.int (if k < (if j < i then j else i) then k else (if j < i then j else i)))
  | .sum, [.lst ys] => (intsOf ys).map fun ns => .int ns.sum
  | .maxL, [.lst ys] => (match intsOf ys with
    | some (n :: ns) => some (.int (maxI n ns))
    | _ => none)
  | .minL, [.lst ys] => (match intsOf ys with
    | some (n :: ns) => some (.int (minI n ns))
    | _ => none)
  | .minL, [.tup ys] => (match intsOf ys with
    | some (n :: ns) => some (.int (minI n ns))
    | _ => none)
  | _, _ => none
def upper (cs : List Nat) : List Nat := codesOf (Txt.upper ⟨cs.toArray⟩)
def cut {α : Type} (xs : List α) (lo hi : Option Int) : List α := (xs.drop (HT.sIx xs.length 0 lo)).take (HT.sIx xs.length xs.length hi - HT.sIx xs.length 0 lo)
def slD (x : D) (lo hi : Option Int) : Option D := match x with
  | .tup xs => some (.tup (cut xs lo hi))
  | .lst xs => some (.lst (cut xs lo hi))
  | .str cs => some (.str (cut cs lo hi))
  | _ => none
def toI : D → Option Int
  | .int i => some i
  | _ => none
def idxM (x i : D) : M D := fun S => match x, i with
  | .tup xs, .int j => M.opt (L2.atI xs j) S
  | .lst xs, .int j => M.opt (L2.atI xs j) S
  | .rol xs, .int j => M.opt (L2.atI xs j) S
  | .loc n, .int j => (match S[n]? with
    | some (.cell xs) => M.opt (L2.atI xs j) S
    | _ => .stk)
  | .dic ks vs, k => if k.key then M.opt (dAt2 ks vs k) S else .stk
  | _, _ => .stk
/-- what a walk over a value yields -/
def itemsD : D → Option (List D)
  | .tup xs => some xs
  | .lst xs => some xs
  | .dic ks _ => some ks
  | .str cs => some (cs.map fun c => .str [c])
  | _ => none
def rngD (j : Int) : List D := (List.range j.toNat).map fun (k : Nat) => D.int (k : Int)

def negD : D → Option D
  | .int i => some (.int (-i))
  | _ => none
def revD : D → Option D
  | .lst xs => some (.lst xs.reverse)
  | .tup xs => if decide (2 ≤ xs.length) then some (.tup xs.reverse) else none
  | _ => none
/-- a number put into a rising list, once -/
def insU (x : Int) : List Int → List Int
  | [] => [x]
  | y :: l => if x < y then x :: y :: l else if y < x then y :: insU x l else y :: l
def sortU (l : List Int) : List Int := l.foldr insU []
/-- sorted(set(xs)), xs a list of fewer than 64 ints -/
def sstD : List D → Option D
  | [.lst ys] => (match intsOf ys with
    | some ns => if decide (ns.length < 64) then some (.lst ((sortU ns).map .int)) else none
    | none => none)
  | _ => none
def upD : D → Option D
  | .str cs => if decide (cs.length ≤ 1000) && (upper cs).all (fun c => decide (c < 1114112)) && decide ((upper cs).length ≤ 4000) then some (.str (upper cs)) else none
  | _ => none
def rngO : D → Option (List D)
  | .int j => if decide (-1000000 ≤ j) && decide (j ≤ 1000000) then some (rngD j) else none
  | _ => none
def rngD2 (i j : Int) : List D := (List.range (j - i).toNat).map fun (k : Nat) => D.int (i + (k : Int))
def rngO2 : D → D → Option (List D)
  | .int i, .int j => if decide (-1000000 ≤ i) && decide (i ≤ 1000000) && decide (-1000000 ≤ j) && decide (j ≤ 1000000) then some (rngD2 i j) else none
  | _, _ => none
/-! ### slots -/
def wipe (ρ : Env) : List Nat → Env
  | [] => ρ
  | v :: vs => (wipe ρ vs).set v none
def getV (ρ : Env) (i : Nat) : Option D := match ρ[i]? with
  | some (some (.val d)) => some d
  | _ => none
/-- a slot that is looked at: also a list, a dict of the frame's own -/
def peekV (ρ : Env) (i : Nat) : Option D := match ρ[i]? with
  | some (some (.val d)) => some d
  | some (some (.own xs)) => some (.lst xs)
  | some (some (.dic kvs)) => some (.dic (kvs.map (·.1)) (kvs.map (·.2)))
  | _ => none
/-- a slot that is walked -/
def peekL (ρ : Env) (i : Nat) : Option D := match ρ[i]? with
  | some (some (.val d)) => some d
  | some (some (.own xs)) => some (.lst xs)
  | _ => none
def SV.fix : SV → SV
  | .val d => .val d
  | .own xs => .val (.lst xs)
  | .dic kvs => .dic kvs
def fixAll (ρ : Env) : Env := ρ.map fun o => o.map SV.fix
def fixAt (ρ : Env) (i : Nat) : Env := match ρ[i]? with
  | some (some (.own xs)) => ρ.set i (some (.val (.lst xs)))
  | _ => ρ
mutual
def bindT : Tg → D → Env → Option Env
  | .nm i, d, ρ => some (ρ.set i (some (.val d)))
  | .tp ts, d, ρ => (match d with
    | .tup xs => bindTs ts xs ρ
    | _ => none)
def bindTs : Tgs → List D → Env → Option Env
  | .nil, [], ρ => some ρ
  | .cons t ts, x :: xs, ρ => (match bindT t x ρ with
    | some ρ' => bindTs ts xs ρ'
    | none => none)
  | _, _, _ => none
end

/-- what a call hands back: a value; a list, a dict that nobody else holds; an error -/
inductive RV where
  | val (d : D) | own (xs : List D) | dic (kvs : List (D × D)) | exc (c : Nat) (d : D)
def RV.d : RV → Option D
  | .val d => some d
  | .own xs => some (.lst xs)
  | .dic kvs => some (.dic (kvs.map (·.1)) (kvs.map (·.2)))
  | .exc _ _ => none
/-- what a slot holds then -/
def RV.sv : RV → Option SV
  | .val d => some (.val d)
  | .own xs => some (.own xs)
  | .dic kvs => some (.dic kvs)
  | .exc _ _ => none
/-! ### errors -/
def xname : Nat → Str
  | 0 => "Ended" | 1 => "InvalidBook" | 2 => "InvalidClaim" | 3 => "InvalidHeard" | 4 => "InvalidNumber" | 5 => "InvalidText" | 6 => "InvalidWord" | 7 => "NothingToUndo" | 8 => "TooMany" | _ => "Unlike"
/-- the law's word for an error -/
def kTx : Nat → List Nat
  | 0 => [69, 110, 100, 101, 100, 32, 43] | 1 => [73, 110, 118, 97, 108, 105, 100, 66, 111, 111, 107, 32, 43] | 2 => [73, 110, 118, 97, 108, 105, 100, 67, 108, 97, 105, 109, 32, 43] | 3 => [73, 110, 118, 97, 108, 105, 100, 72, 101, 97, 114, 100, 32, 43]
  | 4 => [73, 110, 118, 97, 108, 105, 100, 78, 117, 109, 98, 101, 114, 32, 43] | 5 => [73, 110, 118, 97, 108, 105, 100, 84, 101, 120, 116, 32, 43] | 6 => [73, 110, 118, 97, 108, 105, 100, 87, 111, 114, 100, 32, 43]
  | 7 => [78, 111, 116, 104, 105, 110, 103, 84, 111, 85, 110, 100, 111, 32, 43] | 8 => [84, 111, 111, 77, 97, 110, 121, 32, 43] | _ => [85, 110, 108, 105, 107, 101, 32, 43]
/-- what the law is told of a call -/
def toldD : RV → Option D
  | .val d => some (.tup [.str [116, 111, 108, 100], d])
  | .own xs => some (.tup [.str [116, 111, 108, 100], .lst xs])
  | .dic _ => none
  | .exc c .non => if decide (c < 10) && (!(c == 5) && !(c == 8)) then some (.tup [.str (kTx c)]) else none
  | .exc c (.int i) => if c == 5 || c == 8 then some (.tup [.str (kTx c), .int i]) else none
  | .exc _ _ => none
def fnD : D → Option Nat
  | .fn f => some f
  | _ => none
abbrev Calls := Nat → List D → M RV
/-- what stands around: the module's constants, the defs -/
structure Cfg where
  G : List D
  C : Calls
  W : Nat

/-! ### expressions -/
def mapF' (c : D → M Bool) (f : D → M D) : List D → M (List D)
  | [] => fun S => .ok [] S
  | x :: xs => fun S => match c x S with
    | .stk => .stk
    | .ok false S1 => mapF' c f xs S1
    | .ok true S1 => (match f x S1 with
      | .stk => .stk
      | .ok y S2 => (match mapF' c f xs S2 with
        | .stk => .stk
        | .ok ys S3 => .ok (y :: ys) S3))
/-- what is walked -/
def pkL (v : M D) (e : E) (ρ : Env) : M D := match e with
  | .var i => M.opt (peekL ρ i)
  | _ => v
/-- an operand that is looked at alone -/
def pkOf (v : M D) (e : E) (ρ : Env) : M D := match e with
  | .var i => M.opt (peekV ρ i)
  | _ => v
variable (X : Cfg)
mutual
def ev : E → Env → M D
  | .non, _ => M.pure .non
  | .bl b, _ => M.pure (.bl b)
  | .int i, _ => M.pure (.int i)
  | .str cs, _ => M.pure (.str cs)
  | .var i, ρ => M.opt (getV ρ i)
  | .glo k, _ => M.opt (X.G[k]?)
  | .fnv f, _ => M.pure (.fn f)
  | .bin op a b, ρ => M.bind (pkOf (ev a ρ) a ρ) fun x => M.bind (pkOf (ev b ρ) b ρ) fun y => M.opt (bop op x y)
  | .neg a, ρ => M.bind (ev a ρ) fun x => M.opt (negD x)
  | .cmp op a b, ρ => M.bind (pkOf (ev a ρ) a ρ) fun x => M.bind (pkOf (ev b ρ) b ρ) fun y => M.opt ((cop op x y).map .bl)
  | .chn o1 o2 a b c, ρ => M.bind (ev a ρ) fun x => M.bind (ev b ρ) fun y => M.bind (M.opt (cop o1 x y)) fun k => match k with
    | true => M.bind (ev c ρ) fun z => M.opt ((cop o2 y z).map .bl)
    | false => M.pure (.bl false)
  | .isN a, ρ => M.bind (ev a ρ) fun x => M.pure (.bl x.isNon)
  | .ntN a, ρ => M.bind (ev a ρ) fun x => M.pure (.bl (!x.isNon))
  | .and a b, ρ => M.bind (ev a ρ) fun x => M.bind (M.opt x.tru) fun k => match k with
    | true => ev b ρ
    | false => M.pure x
  | .or a b, ρ => M.bind (ev a ρ) fun x => M.bind (M.opt x.tru) fun k => match k with
    | true => M.pure x
    | false => ev b ρ
  | .not a, ρ => M.bind (ev a ρ) fun x => M.bind (M.opt x.tru) fun k => M.pure (.bl (!k))
  | .ife c a b, ρ => M.bind (tst c ρ) fun k => match k with
    | true => ev a ρ
    | false => ev b ρ
  | .tup es, ρ => M.bind (evs es ρ) fun xs => M.guard (decide (xs.length ≤ 100)) (M.pure (.tup xs))
  | .lst es, ρ => M.bind (evs es ρ) fun xs => M.guard (decide (xs.length ≤ 100)) (M.pure (.lst xs))
  | .cell es, ρ => M.bind (evs es ρ) fun xs => M.guard (decide (xs.length ≤ 100)) fun S => .ok (.loc S.length) (S ++ [.cell xs])
  | .call f es, ρ => M.bind (evs es ρ) fun xs => M.bind (X.C f xs) fun r => M.opt r.d
  | .blt f es, ρ => M.bind (pks es ρ) fun xs => M.opt (blt f xs)
  | .isi a ts, ρ => M.bind (ev a ρ) fun x => M.guard x.isiOk (M.pure (.bl (ts.any fun t => t.has x)))
  | .idx a i, ρ => M.bind (pkOf (ev a ρ) a ρ) fun x => M.bind (ev i ρ) fun j => idxM x j
  | .slN a, ρ => M.bind (pkOf (ev a ρ) a ρ) fun x => M.opt (slD x none none)
  | .slL a lo, ρ => M.bind (pkOf (ev a ρ) a ρ) fun x => M.bind (ev lo ρ) fun l => M.bind (M.opt (toI l)) fun l => M.opt (slD x (some l) none)
  | .slU a hi, ρ => M.bind (pkOf (ev a ρ) a ρ) fun x => M.bind (ev hi ρ) fun u => M.bind (M.opt (toI u)) fun u => M.opt (slD x none (some u))
  | .slB a lo hi, ρ => M.bind (pkOf (ev a ρ) a ρ) fun x => M.bind (ev lo ρ) fun l => M.bind (M.opt (toI l)) fun l => M.bind (ev hi ρ) fun u => M.bind (M.opt (toI u)) fun u => M.opt (slD x (some l) (some u))
  | .rev a, ρ => M.bind (pkOf (ev a ρ) a ρ) fun x => M.opt (revD x)
  | .sst a, ρ => M.bind (M.bind (pkOf (ev a ρ) a ρ) fun x => M.pure [x]) fun xs => M.opt (sstD xs)
  | .upper a, ρ => M.bind (ev a ρ) fun x => M.opt (upD x)
  | .join cs b, ρ => M.bind (pkOf (ev b ρ) b ρ) fun y => M.opt (methD .join (.str cs) y)
  | .meth m i b, ρ => M.bind (M.opt (peekV ρ i)) fun x => M.bind (pkOf (ev b ρ) b ρ) fun y => M.opt (methD m x y)
  | .told f es, ρ => M.bind (evs es ρ) fun xs => M.bind (X.C f xs) fun r => M.opt (toldD r)
  | .toldV i es, ρ => M.bind (M.opt ((getV ρ i).bind fnD)) fun f => M.bind (evs es ρ) fun xs => M.bind (X.C f xs) fun r => M.opt (toldD r)
  | .lc t s e vs, ρ => M.bind (its s ρ) fun xs => M.guard (decide (xs.length ≤ LIM)) (M.bind (mapF' (fun _ => M.pure true) (fun d => M.bind (M.opt (bindT t d (wipe ρ vs))) fun ρ' => ev e ρ') xs) fun ys => M.pure (.lst ys))
  | .lcf t s c e vs, ρ => M.bind (its s ρ) fun xs => M.guard (decide (xs.length ≤ LIM)) (M.bind (mapF' (fun d => M.bind (M.opt (bindT t d (wipe ρ vs))) fun ρ' => tst c ρ') (fun d => M.bind (M.opt (bindT t d (wipe ρ vs))) fun ρ' => ev e ρ') xs) fun ys => M.pure (.lst ys))
def evs : Es → Env → M (List D)
  | .nil, _ => M.pure []
  | .cons e es, ρ => M.bind (ev e ρ) fun x => M.bind (evs es ρ) fun xs => M.pure (x :: xs)
def pks : Es → Env → M (List D)
  | .nil, _ => M.pure []
  | .cons e es, ρ => M.bind (pkOf (ev e ρ) e ρ) fun x => M.bind (pks es ρ) fun xs => M.pure (x :: xs)
/-- a test -/
def tst : B → Env → M Bool
  | .and a b, ρ => M.bind (tst a ρ) fun k => match k with
    | true => tst b ρ
    | false => M.pure false
  | .or a b, ρ => M.bind (tst a ρ) fun k => match k with
    | true => M.pure true
    | false => tst b ρ
  | .not a, ρ => M.bind (tst a ρ) fun k => M.pure (!k)
  | .e e, ρ => M.bind (pkOf (ev e ρ) e ρ) fun x => M.opt x.tru
  | .cmp op a b, ρ => M.bind (pkOf (ev a ρ) a ρ) fun x => M.bind (pkOf (ev b ρ) b ρ) fun y => M.opt (cop op x y)
  | .chn o1 o2 a b c, ρ => M.bind (ev a ρ) fun x => M.bind (ev b ρ) fun y => M.bind (M.opt (cop o1 x y)) fun k => match k with
    | true => M.bind (ev c ρ) fun z => M.opt (cop o2 y z)
    | false => M.pure false
  | .isN a, ρ => M.bind (ev a ρ) fun x => M.pure x.isNon
  | .ntN a, ρ => M.bind (ev a ρ) fun x => M.pure (!x.isNon)
def its : I → Env → M (List D)
  | .seq e, ρ => M.bind (pkL (ev e ρ) e ρ) fun x => M.opt (itemsD x)
  | .rng e, ρ => M.bind (ev e ρ) fun x => M.opt (rngO x)
  | .rng2 a b, ρ => M.bind (ev a ρ) fun x => M.bind (ev b ρ) fun y => M.opt (rngO2 x y)
end
/-! ### statements -/
/-- an expression whose list is a new one -/
def evF (e : E) (ρ : Env) : M (List D) := match e with
  | .call f es => M.bind (evs X es ρ) fun xs => M.bind (X.C f xs) fun r => M.opt (match r with
    | .own ys => some ys
    | _ => none)
  | e => M.bind (ev X e ρ) fun x => M.opt (match x with
    | .lst xs => some xs
    | _ => none)
inductive Fl where
  | nx (ρ : Env) | rt (r : RV) | ex (c : Nat) (d : D)
def forL (b : D → Env → M Fl) : List D → Env → M Fl
  | [], ρ => M.pure (.nx ρ)
  | x :: xs, ρ => M.bind (b x ρ) fun f => match f with
    | .nx ρ' => forL b xs ρ'
    | .rt r => M.pure (.rt r)
    | .ex c d => M.pure (.ex c d)
def whlL (c : Env → M Bool) (b : Env → M Fl) : Nat → Env → M Fl
  | 0, _ => M.stk
  | n + 1, ρ => M.bind (c ρ) fun k => match k with
    | false => M.pure (.nx ρ)
    | true => M.bind (b ρ) fun f => match f with
      | .nx ρ' => whlL c b n ρ'
      | .rt r => M.pure (.rt r)
      | .ex c d => M.pure (.ex c d)
def setM (ρ : Env) (i : Nat) (j x : D) : M Fl := fun S => match ρ[i]?, j with
  | some (some (.dic kvs)), k => if k.key && decide (kvs.length < LIM) then .ok (.nx (ρ.set i (some (.dic (dPut k x kvs))))) S else .stk
  | some (some (.own xs)), .int k => (match L2.ixN xs.length k with
    | some p => .ok (.nx (ρ.set i (some (.own (xs.set p x))))) S
    | none => .stk)
  | some (some (.val (.loc n))), .int k => (match S[n]? with
    | some (.cell xs) => (match L2.ixN xs.length k with
      | some p => .ok (.nx ρ) (S.set n (.cell (xs.set p x)))
      | none => .stk)
    | none => .stk)
  | _, _ => .stk
def appM (ρ : Env) (i : Nat) (x : D) : M Fl := fun S => match ρ[i]? with
  | some (some (.own xs)) => if xs.length < LIM then .ok (.nx (ρ.set i (some (.own (xs ++ [x]))))) S else .stk
  | _ => .stk
def fixI (s : I) (ρ : Env) : Env := match s with
  | .seq (.var i) => fixAt ρ i
  | _ => ρ
mutual
def ex : T → Env → M Fl
  | .asg i e, ρ => M.bind (ev X e ρ) fun x => M.pure (.nx (ρ.set i (some (.val x))))
  | .asgO i e, ρ => M.bind (evF X e ρ) fun xs => M.pure (.nx (ρ.set i (some (.own xs))))
  | .par2 i j a b, ρ => M.bind (ev X a ρ) fun x => M.bind (ev X b ρ) fun y => M.pure (.nx ((ρ.set i (some (.val x))).set j (some (.val y))))
  | .par3 i j k oi a b c, ρ => (match oi with
    | false => M.bind (ev X a ρ) fun x => M.bind (ev X b ρ) fun y => M.bind (ev X c ρ) fun z => M.pure (.nx (((ρ.set i (some (.val x))).set j (some (.val y))).set k (some (.val z))))
    | true => M.bind (evF X a ρ) fun xs => M.bind (ev X b ρ) fun y => M.bind (ev X c ρ) fun z => M.pure (.nx (((ρ.set i (some (.own xs))).set j (some (.val y))).set k (some (.val z)))))
  | .unp t e, ρ => M.bind (ev X e ρ) fun x => M.bind (M.opt (bindT t x ρ)) fun ρ' => M.pure (.nx ρ')
  | .setI i k v, ρ => M.bind (ev X v ρ) fun x => M.bind (ev X k ρ) fun j => setM ρ i j x
  | .app i e, ρ => M.bind (ev X e ρ) fun x => appM ρ i x
  | .ret e, ρ => M.bind (ev X e (fixAll ρ)) fun x => M.pure (.rt (.val x))
  | .reto i, ρ => M.opt (match ρ[i]? with
    | some (some (.own xs)) => some (.rt (.own xs))
    | some (some (.dic kvs)) => some (.rt (.dic kvs))
    | _ => none)
  | .ifs c a b, ρ => M.bind (tst X c ρ) fun k => match k with
    | true => exs a ρ
    | false => exs b ρ
  | .fors t s b, ρ => M.bind (its X s ρ) fun xs => forL (fun d ρ' => M.bind (M.opt (bindT t d ρ')) fun ρ'' => exs b ρ'') xs (fixI s ρ)
  | .whl c b, ρ => whlL (fun ρ' => tst X c ρ') (fun ρ' => exs b ρ') X.W ρ
  | .exp e, ρ => M.bind (ev X e ρ) fun _ => M.pure (.nx ρ)
  | .dead, _ => M.stk
  | .asgD i, ρ => M.pure (.nx (ρ.set i (some (.dic []))))
  | .asgC i f es, ρ => M.bind (evs X es ρ) fun xs => M.bind (X.C f xs) fun r => M.pure (match r with
    | .exc c d => .ex c d
    | .val d => .nx (ρ.set i (some (.val d)))
    | .own xs => .nx (ρ.set i (some (.own xs)))
    | .dic kvs => .nx (ρ.set i (some (.dic kvs))))
  | .exX f es, ρ => M.bind (evs X es ρ) fun xs => M.bind (X.C f xs) fun r => M.pure (match r with
    | .exc c d => .ex c d
    | _ => .nx ρ)
  | .retX f es, ρ => M.bind (evs X es (fixAll ρ)) fun xs => M.bind (X.C f xs) fun r => M.pure (match r with
    | .exc c d => .ex c d
    | r => .rt r)
  | .unpX t f es, ρ => M.bind (evs X es ρ) fun xs => M.bind (X.C f xs) fun r => (match r with
    | .exc c d => M.pure (.ex c d)
    | .val d => M.bind (M.opt (bindT t d ρ)) fun ρ' => M.pure (.nx ρ')
    | _ => M.stk)
  | .rse c, _ => M.pure (.ex c .non)
  | .rsv c e, ρ => M.bind (ev X e ρ) fun x => M.bind (M.opt (toI x)) fun i => M.pure (.ex c (.int i))
def exs : Ts → Env → M Fl
  | .nil, ρ => M.pure (.nx ρ)
  | .cons t ts, ρ => M.bind (ex t ρ) fun f => match f with
    | .nx ρ' => exs ts ρ'
    | .rt r => M.pure (.rt r)
    | .ex c d => M.pure (.ex c d)
  | .frz i ts, ρ => (match ρ[i]? with
    | some (some (.dic kvs)) => exs ts (ρ.set i (some (.val (.dic (kvs.map (·.1)) (kvs.map (·.2))))))
    | _ => M.stk)
end
/-- a def: how many parameters, how many slots, its body -/
structure FD where
  ps : Nat
  n : Nat
  body : Ts
def start (n : Nat) (ds : List D) : Env := ds.map (fun d => some (SV.val d)) ++ List.replicate (n - ds.length) none
def fin : Fl → RV
  | .rt r => r
  | .ex c d => .exc c d
  | .nx _ => .val .non
def callN (tab : List FD) (G : List D) (W : Nat) : Nat → Calls
  | 0 => fun _ _ => M.stk
  | n + 1 => fun f ds => match tab[f]? with
    | none => M.stk
    | some fd => M.guard (ds.length == fd.ps) (M.bind (exs ⟨G, callN tab G W n, W⟩ fd.body (start fd.n ds)) fun fl => M.pure (fin fl))
example : ev ⟨[], fun _ _ => M.stk, 5⟩ (.bin .add (.int 1) (.int 2)) [] [] = .ok (.int 3) [] := rfl
example (C : Cfg) (a b : D) : ex C (.ifs (.e (.cmp .lt (.int 1) (.int 2))) (.cons (.ret (.tup (.cons (.var 0) (.cons (.var 1) .nil)))) .nil) .nil) [some (.val a), some (.own [b])] [] = .ok (.rt (.val (.tup [a, .lst [b]]))) [] := rfl
end Ev

/-! Keys of a dict: nested tuples of numbers. -/
namespace Ev
open PySem PySem.Spec PyProof.Rows L2
mutual
/-- the key that a value is; no texts -/
def nk : D → Option NestedKey
  | .non => some .none
  | .bl b => some (.num (b2i b))
  | .int i => some (.num i)
  | .tup xs => (match nks xs with
    | some ks => some (.tup ks)
    | none => none)
  | _ => none
def nks : List D → Option (List NestedKey)
  | [] => some []
  | x :: xs => (match nk x, nks xs with
    | some k, some ks => some (k :: ks)
    | _, _ => none)
end
theorem nks_cons {x : D} {xs : List D} {ks : List NestedKey} (h : nks (x :: xs) = some ks) : ∃ k r, ks = k :: r ∧ nk x = some k ∧ nks xs = some r := by
  unfold nks at h
  split at h
  · rename_i k r h1 h2
    exact ⟨k, r, (Option.some.inj h).symm, h1, h2⟩
  · cases h
theorem nk_tup {xs : List D} {k : NestedKey} (h : nk (.tup xs) = some k) : ∃ ks, k = .tup ks ∧ nks xs = some ks := by
  have h : (match nks xs with | some ks => some (NestedKey.tup ks) | none => none) = some k := h
  cases q : nks xs with
  | none =>
    rw [q] at h
    cases h
  | some ks =>
    rw [q] at h
    exact ⟨ks, (Option.some.inj h).symm, rfl⟩
mutual
/-- its hash leans on no world -/
theorem nk_hash (w w' : World) : ∀ {d : D} {k : NestedKey}, nk d = some k → NestedKey.hash w k = NestedKey.hash w' k
  | .non, k, h => by cases h; rfl
  | .bl b, k, h => by cases h; rfl
  | .int i, k, h => by cases h; rfl
  | .tup xs, k, h => by
    obtain ⟨ks, rfl, h2⟩ := nk_tup h
    unfold NestedKey.hash
    rw [nks_hash w w' h2]
  | .str _, k, h => by cases h
  | .lst _, k, h => by cases h
  | .rol _, k, h => by cases h
  | .loc _, k, h => by cases h
  | .fn _, k, h => by cases h
  | .dic _ _, k, h => by cases h
theorem nks_hash (w w' : World) : ∀ {xs : List D} {ks : List NestedKey}, nks xs = some ks → NestedKey.hashes w ks = NestedKey.hashes w' ks
  | [], ks, h => by cases h; rfl
  | x :: xs, ks, h => by
    obtain ⟨k, r, rfl, h1, h2⟩ := nks_cons h
    unfold NestedKey.hashes
    rw [nk_hash w w' h1, nks_hash w w' h2]
end
mutual
/-- two values are equal as their keys are -/
theorem nk_eqv : ∀ {x y : D} {a b : NestedKey}, nk x = some a → nk y = some b → D.eqv x y = NestedKey.beq a b
  | .non, y, a, b, h, g => by cases h; cases y <;> first | (cases g; done) | (cases g; rfl) | (obtain ⟨ks, rfl, _⟩ := nk_tup g; rfl)
  | .bl p, y, a, b, h, g => by
    cases h
    cases y <;> first | (cases g; done) | skip
    case non => cases g; rfl
    case bl q => cases g; cases p <;> cases q <;> rfl
    case int j => cases g; cases p <;> rfl
    case tup xs => obtain ⟨ks, rfl, _⟩ := nk_tup g; rfl
  | .int i, y, a, b, h, g => by
    cases h
    cases y <;> first | (cases g; done) | skip
    case non => cases g; rfl
    case bl q => cases g; cases q <;> rfl
    case int j => cases g; rfl
    case tup xs => obtain ⟨ks, rfl, _⟩ := nk_tup g; rfl
  | .tup xs, y, a, b, h, g => by
    obtain ⟨ks, rfl, h2⟩ := nk_tup h
    cases y <;> first | (cases g; done) | skip
    case non => cases g; rfl
    case bl q => cases g; rfl
    case int j => cases g; rfl
    case tup ys =>
      obtain ⟨ls, rfl, g2⟩ := nk_tup g
      show D.eqvs xs ys = NestedKey.beqAll ks ls
      exact nks_eqv h2 g2
  | .str _, _, _, _, h, _ => by cases h
  | .lst _, _, _, _, h, _ => by cases h
  | .rol _, _, _, _, h, _ => by cases h
  | .loc _, _, _, _, h, _ => by cases h
  | .fn _, _, _, _, h, _ => by cases h
  | .dic _ _, _, _, _, h, _ => by cases h
theorem nks_eqv : ∀ {xs ys : List D} {as bs : List NestedKey}, nks xs = some as → nks ys = some bs → D.eqvs xs ys = NestedKey.beqAll as bs
  | [], [], _, _, h, g => by cases h; cases g; rfl
  | [], y :: ys, _, _, h, g => by
    cases h
    obtain ⟨k, r, rfl, _, _⟩ := nks_cons g
    rfl
  | x :: xs, [], _, _, h, g => by
    cases g
    obtain ⟨k, r, rfl, _, _⟩ := nks_cons h
    rfl
  | x :: xs, y :: ys, _, _, h, g => by
    obtain ⟨k, r, rfl, h1, h2⟩ := nks_cons h
    obtain ⟨k', r', rfl, g1, g2⟩ := nks_cons g
    show (D.eqv x y && D.eqvs xs ys) = (NestedKey.beq k k' && NestedKey.beqAll r r')
    rw [nk_eqv h1 g1, nks_eqv h2 g2]
end
/-! ### the dict's object -/
def z3 (xs : List (NestedKey × Addr)) (us : List Value) : List (NestedKey × Addr × Value) := List.zipWith (fun x u => (x.1, x.2, u)) xs us
def Dn (a : Addr) (xs : List (NestedKey × Addr)) (vs : List V) : Heap → Prop := fun h => (a == sysModules) = false ∧ ∃ us : List Value, Vals vs us ∧ xs.length = us.length ∧ (xs.map (·.1)).Nodup ∧
  ∃ o es ep, h.get? a = some o ∧ o.ExactDict ∧ o.data = .dict es ep ∧ ∀ (P : Program) (W : World), es.toList = (z3 xs us).map (entryOfKey (nestedKind P W))
theorem Dn.ok {P : Program} {W : World} {H : Hp} {h : Heap} {a : Addr} {xs : List (NestedKey × Addr)} {vs : List V} (d : Dn a xs vs h) : ObjOk P W H h a (.ext (Dn a xs vs)) := by
  refine ⟨d, ?_, fun h1 h2 q k => ?_⟩
  · obtain ⟨_, us, _, _, _, o, es, ep, e, _⟩ := d
    exact ⟨o, e⟩
  · obtain ⟨g0, us, g1, g2, g3, o, es, ep, e, g4⟩ := q
    exact ⟨g0, us, g1, g2, g3, o, es, ep, k _ e, g4⟩
theorem z3_keys {xs : List (NestedKey × Addr)} {us : List Value} (h : xs.length = us.length) : (z3 xs us).map (·.1) = xs.map (·.1) := by
  unfold z3
  induction xs generalizing us with
  | nil => rfl
  | cons x xs ih =>
    cases us with
    | nil => cases h
    | cons u us =>
      rw [List.zipWith_cons_cons, List.map_cons, List.map_cons, ih (by simpa using h)]
theorem z3_mem {xs : List (NestedKey × Addr)} {us : List Value} {p : NestedKey × Addr × Value} (h : p ∈ z3 xs us) : (p.1, p.2.1) ∈ xs := by
  unfold z3 at h
  induction xs generalizing us with
  | nil => simp at h
  | cons x xs ih =>
    cases us with
    | nil => simp at h
    | cons u us =>
      rw [List.zipWith_cons_cons] at h
      rcases List.mem_cons.mp h with e | h
      · rw [e]
        exact List.mem_cons_self
      · exact List.mem_cons_of_mem _ (ih h)
theorem z3_get {xs : List (NestedKey × Addr)} {us : List Value} {i : Nat} {p : NestedKey × Addr × Value} (h : (z3 xs us)[i]? = some p) : xs[i]? = some (p.1, p.2.1) := by
  unfold z3 at h
  induction xs generalizing us i with
  | nil => simp at h
  | cons x xs ih =>
    cases us with
    | nil => simp at h
    | cons u us =>
      rw [List.zipWith_cons_cons] at h
      cases i with
      | zero =>
        have h := Option.some.inj h
        rw [← h]
        rfl
      | succ i =>
        have h : (List.zipWith (fun x u => (x.1, x.2, u)) xs us)[i]? = some p := by simpa using h
        have := ih h
        simpa using this
/-- the dict as the rules want it -/
theorem Dn.keyed {P : Program} {W : World} {h : Heap} {a : Addr} {xs : List (NestedKey × Addr)} {vs : List V} (d : Dn a xs vs h) (hk : ∀ p ∈ xs, (nestedKind P W).is h p.1 p.2) :
    ∃ us, Vals vs us ∧ xs.length = us.length ∧ h.DictKeyed (nestedKind P W) a (pairsH (z3 xs us)) := by
  obtain ⟨g0, us, g1, g2, g3, o, es, ep, e, g4, g5, g6⟩ := d
  exact ⟨us, g1, g2, z3 xs us, ⟨o, es, ep, e, g4, g5, g6 P W, fun x hx => hk _ (z3_mem hx), by rw [z3_keys g2]; exact g3⟩, rfl⟩
/-! ### what stands at a key; a store -/
def vAt : List (NestedKey × Addr) → List V → NestedKey → Option V
  | x :: xs, v :: vs, k => if x.1 = k then some v else vAt xs vs k
  | _, _, _ => none
def vPut {α : Type} (k : NestedKey) (v : α) : List (NestedKey × Addr) → List α → List α
  | x :: xs, u :: us => if x.1 = k then v :: us else u :: vPut k v xs us
  | _, us => us
theorem vAt_none {k : NestedKey} : ∀ {xs : List (NestedKey × Addr)} {vs : List V} {us : List Value}, xs.length = us.length → Vals vs us → vAt xs vs k = none → atKey (z3 xs us) k = none
  | [], _, _, _, _, _ => rfl
  | x :: xs, [], us, hl, r, _ => by
    cases r
    cases hl
  | x :: xs, v :: vs, us, hl, r, h => by
    cases r with
    | cons a b =>
      have h : (if x.1 = k then some v else vAt xs vs k) = none := h
      by_cases e : x.1 = k
      · rw [if_pos e] at h
        cases h
      · rw [if_neg e] at h
        have ih := vAt_none (by simpa using hl) b h
        unfold z3 at ih ⊢
        unfold atKey at ih ⊢
        rw [List.zipWith_cons_cons, List.find?_cons, decide_eq_false e]
        exact ih
theorem vAt_some {k : NestedKey} {v : V} : ∀ {xs : List (NestedKey × Addr)} {vs : List V} {us : List Value}, xs.length = us.length → Vals vs us → vAt xs vs k = some v → ∃ p, atKey (z3 xs us) k = some p ∧ RelV v p.2
  | [], vs, _, _, _, h => by cases vs <;> cases h
  | x :: xs, [], us, hl, r, _ => by
    cases r
    cases hl
  | x :: xs, u :: vs, us, hl, r, h => by
    cases r with
    | cons a b =>
      have h : (if x.1 = k then some u else vAt xs vs k) = some v := h
      by_cases e : x.1 = k
      · rw [if_pos e] at h
        cases h
        refine ⟨(x.2, _), ?_, a⟩
        unfold z3 atKey
        rw [List.zipWith_cons_cons, List.find?_cons, decide_eq_true e]
        rfl
      · rw [if_neg e] at h
        obtain ⟨p, h1, h2⟩ := vAt_some (by simpa using hl) b h
        refine ⟨p, ?_, h2⟩
        unfold z3 at h1 ⊢
        unfold atKey at h1 ⊢
        rw [List.zipWith_cons_cons, List.find?_cons, decide_eq_false e]
        exact h1
theorem vPut_vals {k : NestedKey} {v : V} {u : Value} (h : RelV v u) : ∀ {xs : List (NestedKey × Addr)} {vs : List V} {us : List Value}, xs.length = us.length → Vals vs us → Vals (vPut k v xs vs) (vPut k u xs us)
  | [], _, _, _, r => by
    cases r with
    | nil => exact .nil
    | cons a b => exact .cons a b
  | x :: xs, [], _, hl, r => by
    cases r
    cases hl
  | x :: xs, w :: vs, us, hl, r => by
    cases r with
    | cons a b =>
      rename_i z us
      show Vals (if x.1 = k then v :: vs else w :: vPut k v xs vs) (if x.1 = k then u :: us else z :: vPut k u xs us)
      by_cases e : x.1 = k
      · rw [if_pos e, if_pos e]
        exact .cons h b
      · rw [if_neg e, if_neg e]
        exact .cons a (vPut_vals h (by simpa using hl) b)
theorem vPut_len {α : Type} {k : NestedKey} {v : α} : ∀ {xs : List (NestedKey × Addr)} {vs : List α}, (vPut k v xs vs).length = vs.length
  | [], vs => by cases vs <;> rfl
  | x :: xs, [] => rfl
  | x :: xs, w :: vs => by
    show (if x.1 = k then v :: vs else w :: vPut k v xs vs).length = _
    by_cases e : x.1 = k
    · rw [if_pos e] <;> rfl
    · rw [if_neg e, List.length_cons, List.length_cons, vPut_len]
theorem z3_put {k : NestedKey} {u : Value} : ∀ {xs : List (NestedKey × Addr)} {us : List Value}, xs.length = us.length → (xs.map (·.1)).Nodup → (z3 xs us).map (putAt k u) = z3 xs (vPut k u xs us)
  | [], us, _, _ => by
    unfold z3
    cases us <;> rfl
  | x :: xs, [], hl, _ => by cases hl
  | x :: xs, w :: us, hl, nd => by
    rw [List.map_cons, List.nodup_cons] at nd
    have hl' : xs.length = us.length := by simpa using hl
    show putAt k u (x.1, x.2, w) :: (z3 xs us).map (putAt k u) = z3 (x :: xs) (if x.1 = k then u :: us else w :: vPut k u xs us)
    by_cases e : x.1 = k
    · rw [if_pos e, map_putAt_of_not_mem _ k u (by rw [z3_keys hl', ← e]; exact nd.1)]
      show putAt k u (x.1, x.2, w) :: z3 xs us = (x.1, x.2, u) :: z3 xs us
      unfold putAt
      rw [if_pos e]
    · rw [if_neg e, z3_put hl' nd.2]
      show putAt k u (x.1, x.2, w) :: z3 xs (vPut k u xs us) = (x.1, x.2, w) :: z3 xs (vPut k u xs us)
      unfold putAt
      rw [if_neg e]
theorem z3_app {k : NestedKey} {b : Addr} {u : Value} : ∀ {xs : List (NestedKey × Addr)} {us : List Value}, xs.length = us.length → z3 xs us ++ [(k, b, u)] = z3 (xs ++ [(k, b)]) (us ++ [u])
  | [], [], _ => rfl
  | [], _ :: _, h => by cases h
  | _ :: _, [], h => by cases h
  | x :: xs, w :: us, h => by
    show (x.1, x.2, w) :: (z3 xs us ++ [(k, b, u)]) = (x.1, x.2, w) :: z3 (xs ++ [(k, b)]) (us ++ [u])
    rw [z3_app (by simpa using h)]
/-- a key without texts -/
def Tf (k : NestedKey) : Prop := ∀ w w' : World, NestedKey.hash w k = NestedKey.hash w' k
theorem nk_tf {d : D} {k : NestedKey} (h : nk d = some k) : Tf k := fun w w' => nk_hash w w' h
def kSt (xs : List (NestedKey × Addr)) (vs : List V) (k : NestedKey) (b : Addr) : List (NestedKey × Addr) := match vAt xs vs k with
  | some _ => xs
  | none => xs ++ [(k, b)]
def vSt (xs : List (NestedKey × Addr)) (vs : List V) (k : NestedKey) (v : V) : List V := match vAt xs vs k with
  | some _ => vPut k v xs vs
  | none => vs ++ [v]
theorem entries_any {P P' : Program} {W W' : World} {zs : List (NestedKey × Addr × Value)} (h : ∀ z ∈ zs, Tf z.1) : zs.map (entryOfKey (nestedKind P W)) = zs.map (entryOfKey (nestedKind P' W')) := by
  refine List.map_congr_left fun z hz => ?_
  show DictEntry.mk (NestedKey.hash W z.1) (.ref z.2.1) z.2.2 = DictEntry.mk (NestedKey.hash W' z.1) (.ref z.2.1) z.2.2
  rw [h z hz W W']
theorem Dn.store {P : Program} {W : World} {h' : Heap} {a b : Addr} {xs : List (NestedKey × Addr)} {vs : List V} {us : List Value} {k : NestedKey} {v : V} {u : Value} (g0 : (a == sysModules) = false) (rv : Vals vs us) (hl : xs.length = us.length) (nd : (xs.map (·.1)).Nodup) (ru : RelV v u)
    (tx : ∀ p ∈ xs, Tf p.1) (tk : Tf k) (hm : h'.DictOfH (nestedKind P W) a (storedH (z3 xs us) k b u)) : Dn a (kSt xs vs k b) (vSt xs vs k v) h' := by
  obtain ⟨o, es, ep, e1, e2, e3, e4, _, e6⟩ := hm
  cases q : vAt xs vs k with
  | some y =>
    obtain ⟨p, h1, _⟩ := vAt_some hl rv q
    have hs : storedH (z3 xs us) k b u = z3 xs (vPut k u xs us) := by rw [storedH_old h1, z3_put hl nd]
    rw [hs] at e4 e6
    have hl2 : xs.length = (vPut k u xs us).length := by rw [vPut_len]; exact hl
    unfold kSt vSt
    rw [q]
    refine ⟨g0, vPut k u xs us, vPut_vals ru hl rv, hl2, nd, o, es, ep, e1, e2, e3, fun P' W' => ?_⟩
    rw [e4]
    exact entries_any fun z hz => tx _ (z3_mem hz)
  | none =>
    have h1 := vAt_none hl rv q
    have hs : storedH (z3 xs us) k b u = z3 (xs ++ [(k, b)]) (us ++ [u]) := by rw [storedH_new h1, z3_app hl]
    rw [hs] at e4 e6
    have hl2 : (xs ++ [(k, b)]).length = (us ++ [u]).length := by rw [List.length_append, List.length_append, hl]; rfl
    unfold kSt vSt
    rw [q]
    refine ⟨g0, us ++ [u], rv.append (.cons ru .nil), hl2, by rw [z3_keys hl2] at e6; exact e6, o, es, ep, e1, e2, e3, fun P' W' => ?_⟩
    rw [e4]
    refine entries_any fun z hz => ?_
    rcases List.mem_append.mp (z3_mem hz) with q2 | q2
    · exact tx _ q2
    · have e := List.mem_singleton.mp q2
      have : z.1 = k := congrArg Prod.fst e
      rw [this]
      exact tk
end Ev

/-! Worlds: which addresses hold lists that never change, which hold cells; how a value lies in an abstract heap. -/
namespace Ev
open PySem PySem.Spec PyProof.Rows L2

/-- where the defs stand, and the tables of code objects -/
structure Fx where
  at_ : Nat → Addr
  T : List (Addr × Str)
instance : CoeFun Fx (fun _ => Nat → Addr) := ⟨Fx.at_⟩
theorem lim_eq : LIM = sizeLine := by rw [sizeLine_eq]; rfl

structure Wd where
  F : Addr → Prop
  A : List Addr
  H : Hp
structure Wd.Ok (w : Wd) : Prop where
  fz : ∀ a, w.F a → ∃ vs, w.H a = some (.lst vs)
  ce : ∀ a ∈ w.A, ∃ vs, w.H a = some (.lst vs)
  cf : ∀ a ∈ w.A, ¬ w.F a
  nd : w.A.Nodup
structure Wd.Le (w w' : Wd) : Prop where
  f : ∀ a, w.F a → w'.F a
  fn : ∀ a, w'.F a → w.F a ∨ w.H a = none
  a : ∃ t, w'.A = w.A ++ t ∧ ∀ a ∈ t, w.H a = none
  h : ∀ b o, w.H b = some o → b ∉ w.A → (nt : ∀ ps, o ≠ HO.tbl ps := by intro ps z; cases z) → w'.H b = some o
  tb : ∀ b ps, w.H b = some (.tbl ps) → ∃ ps', w'.H b = some (.tbl ps')
theorem Wd.Le.refl (w : Wd) : w.Le w := ⟨fun _ h => h, fun _ h => .inl h, ⟨[], by simp, fun _ h => nomatch h⟩, fun _ _ h _ _ => h, fun _ ps e => ⟨ps, e⟩⟩
theorem Wd.Le.free {w w' : Wd} (l : w.Le w') (k : w.Ok) (k' : w'.Ok) {a : Addr} (h : w'.H a = none) : w.H a = none := by
  obtain ⟨t, e, ht⟩ := l.a
  cases q : w.H a with
  | none => rfl
  | some o =>
    by_cases ha : a ∈ w.A
    · obtain ⟨vs, e2⟩ := k'.ce a (by rw [e]; exact List.mem_append_left _ ha)
      rw [h] at e2
      cases e2
    · by_cases hp : ∃ ps, o = .tbl ps
      · obtain ⟨ps, rfl⟩ := hp
        obtain ⟨ps', e'⟩ := l.tb a ps q
        rw [e'] at h
        cases h
      · rw [l.h a o q ha fun ps z => hp ⟨ps, z⟩] at h
        cases h
theorem Wd.Le.trans {w w1 w2 : Wd} (a : w.Le w1) (b : w1.Le w2) (k : w.Ok) (k1 : w1.Ok) : w.Le w2 := by
  obtain ⟨t, e, ht⟩ := a.a
  obtain ⟨t2, e2, ht2⟩ := b.a
  refine ⟨fun x h => b.f x (a.f x h), fun x h => ?_, ⟨t ++ t2, by rw [e2, e, List.append_assoc], fun x hx => ?_⟩, fun x o h hn nt => ?_, fun x ps e => ?_⟩
  · rcases b.fn x h with q | q
    · exact a.fn x q
    · exact .inr (a.free k k1 q)
  · rcases List.mem_append.mp hx with q | q
    · exact ht x q
    · exact a.free k k1 (ht2 x q)
  · refine b.h x o (a.h x o h hn nt) (fun q => ?_) nt
    rw [e] at q
    rcases List.mem_append.mp q with q | q
    · exact hn q
    · rw [ht x q] at h
      cases h
  · obtain ⟨p1, e1⟩ := a.tb x ps e
    exact b.tb x p1 e1

/-- a text as the model has it -/
def tx (cs : List Nat) : Str := ⟨cs.toArray⟩
theorem tx_inj {a b : List Nat} (h : tx a = tx b) : a = b := by
  have e : a.toArray = b.toArray := congrArg Str.cps h
  simpa using e
theorem tx_len (cs : List Nat) : (tx cs).length = cs.length := by simp [tx, Str.length]
theorem tx_app (a b : List Nat) : tx a ++ tx b = tx (a ++ b) := by
  show Str.append _ _ = _
  simp [Str.append, tx]
theorem tx_codes (x : Str) : tx (codesOf x) = x := by
  obtain ⟨c⟩ := x
  simp [tx, codesOf]
theorem codes_tx (cs : List Nat) : codesOf (tx cs) = cs := by simp [tx, codesOf]
structure TxOk (cs : List Nat) : Prop where
  len : cs.length ≤ sizeLine
  ok : ∀ c ∈ cs, c < 0x110000

/-- a list that is read, never written -/
def RoL (K : PySem.W.Frag) (w : Wd) (a : Addr) (vs : List V) : Prop := ((∃ o, w.H a = some (.frz o (.lst vs))) ∨ (w.F a ∧ w.H a = some (.lst vs))) ∨
    ∃ (o : Obj) (its : Array Value) (n : Nat), K.lookup a = some o ∧ o.cls = .type "list" ∧ o.dict = none ∧ o.data = .seq its n ∧ its.size ≤ sizeLine ∧ Vals vs its.toList
theorem RoL.sq {K : PySem.W.Frag} {w : Wd} {a : Addr} {vs : List V} (h : RoL K w a vs) : SqL K w.H a vs := by
  rcases h with (h | h) | h
  · exact .inl (.inr h)
  · exact .inl (.inl h.2)
  · exact .inr h

mutual
inductive Rp (K : PySem.W.Frag) (fa : Fx) (w : Wd) : V → D → Prop
  | non : Rp K fa w .non .non
  | bl (b : Bool) : Rp K fa w (.bl b) (.bl b)
  | int (i : Int) : Rp K fa w (.int i) (.int i)
  | str {cs : List Nat} : TxOk cs → Rp K fa w (.str (tx cs)) (.str cs)
  | tup {a : Addr} {vs : List V} {ds : List D} : SqT K w.H a vs → vs.length ≤ sizeLine → Rps K fa w vs ds → Rp K fa w (.ref a) (.tup ds)
  | lst {a : Addr} {vs : List V} {ds : List D} : w.H a = some (.lst vs) → w.F a → vs.length ≤ sizeLine → Rps K fa w vs ds → Rp K fa w (.ref a) (.lst ds)
  | rol {a : Addr} {vs : List V} {ds : List D} : RoL K w a vs → vs.length ≤ sizeLine → Rps K fa w vs ds → Rp K fa w (.ref a) (.rol ds)
  | loc {a : Addr} {n : Nat} : w.A[n]? = some a → Rp K fa w (.ref a) (.loc n)
  | fn (f : Nat) : Rp K fa w (.ref (fa f)) (.fn f)
  | dic {a : Addr} {o : Obj} {xs : List (NestedKey × Addr)} {vs : List V} {ks ds : List D} : w.H a = some (.frz o (.ext (Dn a xs vs))) → xs.length ≤ sizeLine → Ks K fa w xs ks → Rps K fa w vs ds → Rp K fa w (.ref a) (.dic ks ds)
inductive Rps (K : PySem.W.Frag) (fa : Fx) (w : Wd) : List V → List D → Prop
  | nil : Rps K fa w [] []
  | cons {v : V} {vs : List V} {d : D} {ds : List D} : Rp K fa w v d → Rps K fa w vs ds → Rps K fa w (v :: vs) (d :: ds)
/-- the keys of a dict: what they are, their tuples -/
inductive Ks (K : PySem.W.Frag) (fa : Fx) (w : Wd) : List (NestedKey × Addr) → List D → Prop
  | nil : Ks K fa w [] []
  | cons {p : NestedKey × Addr} {ps : List (NestedKey × Addr)} {d : D} {ds : List D} : d.key = true → nk d = some p.1 → Rp K fa w (.ref p.2) d → Ks K fa w ps ds → Ks K fa w (p :: ps) (d :: ds)
end
section
variable {K : PySem.W.Frag} {fa : Fx} {w w' : Wd}
theorem Rps.len : ∀ {vs : List V} {ds : List D}, Rps K fa w vs ds → vs.length = ds.length
  | [], _, h => by cases h; rfl
  | v :: vs, _, h => by
    cases h with
    | cons a b => rw [List.length_cons, List.length_cons, Rps.len b]
theorem Rps.app : ∀ {vs us : List V} {ds es : List D}, Rps K fa w vs ds → Rps K fa w us es → Rps K fa w (vs ++ us) (ds ++ es)
  | [], _, _, _, h, g => by cases h; exact g
  | v :: vs, _, _, _, h, g => by
    cases h with
    | cons a b => exact .cons a (Rps.app b g)
theorem Rps.one {v : V} {d : D} (h : Rp K fa w v d) : Rps K fa w [v] [d] := .cons h .nil
theorem Rps.get : ∀ {vs : List V} {ds : List D} {i : Nat} {d : D}, Rps K fa w vs ds → ds[i]? = some d → ∃ v, vs[i]? = some v ∧ Rp K fa w v d
  | [], _, i, _, h, e => by cases h; simp at e
  | v :: vs, _, i, _, h, e => by
    cases h with
    | cons a b =>
      cases i with
      | zero =>
        have e2 := Option.some.inj e
        subst e2
        exact ⟨v, rfl, a⟩
      | succ i =>
        obtain ⟨u, h1, h2⟩ := Rps.get (i := i) b (by simpa using e)
        exact ⟨u, by simpa using h1, h2⟩
theorem Rps.getV : ∀ {vs : List V} {ds : List D} {i : Nat} {v : V}, Rps K fa w vs ds → vs[i]? = some v → ∃ d, ds[i]? = some d ∧ Rp K fa w v d
  | [], _, i, _, h, e => by cases h; simp at e
  | v :: vs, _, i, _, h, e => by
    cases h with
    | cons a b =>
      cases i with
      | zero =>
        have e2 := Option.some.inj e
        subst e2
        exact ⟨_, rfl, a⟩
      | succ i =>
        obtain ⟨u, h1, h2⟩ := Rps.getV (i := i) b (by simpa using e)
        exact ⟨u, by simpa using h1, h2⟩
theorem Rps.take : ∀ {vs : List V} {ds : List D} (n : Nat), Rps K fa w vs ds → Rps K fa w (vs.take n) (ds.take n)
  | [], _, n, h => by cases h; simp; exact .nil
  | v :: vs, _, 0, h => by simp; exact .nil
  | v :: vs, _, n + 1, h => by
    cases h with
    | cons a b => exact .cons a (Rps.take n b)
theorem Rps.drop : ∀ {vs : List V} {ds : List D} (n : Nat), Rps K fa w vs ds → Rps K fa w (vs.drop n) (ds.drop n)
  | [], _, n, h => by cases h; simp; exact .nil
  | v :: vs, _, 0, h => h
  | v :: vs, _, n + 1, h => by
    cases h with
    | cons a b => exact Rps.drop n b
theorem Rps.set {x : V} {d : D} (r : Rp K fa w x d) : ∀ {vs : List V} {ds : List D} (i : Nat), Rps K fa w vs ds → Rps K fa w (vs.set i x) (ds.set i d)
  | [], _, n, h => by cases h; exact .nil
  | v :: vs, _, 0, h => by
    cases h with
    | cons a b => exact .cons r b
  | v :: vs, _, n + 1, h => by
    cases h with
    | cons a b => exact .cons a (Rps.set r n b)
theorem Rps.rev : ∀ {vs : List V} {ds : List D}, Rps K fa w vs ds → Rps K fa w vs.reverse ds.reverse
  | [], _, h => by cases h; exact .nil
  | v :: vs, _, h => by
    cases h with
    | cons a b =>
      rw [List.reverse_cons, List.reverse_cons]
      exact Rps.app (Rps.rev b) (Rps.one a)
theorem Rps.flat {vs : List V} {ds : List D} (h : Rps K fa w vs ds) : ∀ n : Nat, Rps K fa w (List.replicate n vs).flatten (List.replicate n ds).flatten
  | 0 => .nil
  | n + 1 => by
    rw [List.replicate_succ, List.replicate_succ, List.flatten_cons, List.flatten_cons]
    exact Rps.app h (Rps.flat h n)
theorem Rps.nil_iff {vs : List V} {ds : List D} (h : Rps K fa w vs ds) : vs = [] ↔ ds = [] := by
  cases h <;> simp
theorem Rps.empty {vs : List V} {ds : List D} (h : Rps K fa w vs ds) : vs.isEmpty = ds.isEmpty := by
  cases h <;> rfl
theorem Rps.snoc {vs : List V} {ds : List D} {v : V} {d : D} (h : Rps K fa w vs ds) (r : Rp K fa w v d) : Rps K fa w (vs ++ [v]) (ds ++ [d]) := Rps.app h (Rps.one r)

/-- what a change must keep -/
structure Kp (w w' : Wd) : Prop where
  tup : ∀ b xs, w.H b = some (.tup xs) → w'.H b = some (.tup xs)
  frz : ∀ b o u, w.H b = some (.frz o u) → w'.H b = some (.frz o u)
  lst : ∀ b xs, w.F b → w.H b = some (.lst xs) → w'.F b ∧ w'.H b = some (.lst xs)
  loc : ∀ (n : Nat) a, w.A[n]? = some a → w'.A[n]? = some a
theorem Kp.sqt (k : Kp w w') {a : Addr} {vs : List V} (h : SqT K w.H a vs) : SqT K w'.H a vs := by
  rcases h with (h | ⟨o, h⟩) | h
  · exact .inl (.inl (k.tup _ _ h))
  · exact .inl (.inr ⟨o, k.frz _ _ _ h⟩)
  · exact .inr h
theorem Kp.rol (k : Kp w w') {a : Addr} {vs : List V} (h : RoL K w a vs) : RoL K w' a vs := by
  rcases h with (⟨o, h⟩ | ⟨f, h⟩) | h
  · exact .inl (.inl ⟨o, k.frz _ _ _ h⟩)
  · exact .inl (.inr (k.lst _ _ f h))
  · exact .inr h
mutual
theorem Rp.keep (k : Kp w w') : ∀ {d : D} {v : V}, Rp K fa w v d → Rp K fa w' v d
  | .non, _, h => by cases h; exact .non
  | .bl b, _, h => by cases h; exact .bl b
  | .int i, _, h => by cases h; exact .int i
  | .str cs, _, h => by
    cases h with
    | str t => exact .str t
  | .tup ds, _, h => by
    cases h with
    | tup a b c => exact .tup (k.sqt a) b (Rps.keep k c)
  | .lst ds, _, h => by
    cases h with
    | lst a b c e =>
      obtain ⟨x, y⟩ := k.lst _ _ b a
      exact .lst y x c (Rps.keep k e)
  | .rol ds, _, h => by
    cases h with
    | rol a b c => exact .rol (k.rol a) b (Rps.keep k c)
  | .loc n, _, h => by
    cases h with
    | loc a => exact .loc (k.loc _ _ a)
  | .fn f, _, h => by cases h; exact .fn f
  | .dic ks ds, _, h => by
    cases h with
    | dic a b c e => exact .dic (k.frz _ _ _ a) b (Ks.keep k c) (Rps.keep k e)
theorem Rps.keep (k : Kp w w') : ∀ {ds : List D} {vs : List V}, Rps K fa w vs ds → Rps K fa w' vs ds
  | [], _, h => by cases h; exact .nil
  | d :: ds, _, h => by
    cases h with
    | cons a b => exact .cons (Rp.keep k a) (Rps.keep k b)
theorem Ks.keep (k : Kp w w') : ∀ {ds : List D} {ps : List (NestedKey × Addr)}, Ks K fa w ps ds → Ks K fa w' ps ds
  | [], _, h => by cases h; exact .nil
  | d :: ds, _, h => by
    cases h with
    | cons a b c e => exact .cons a b (Rp.keep k c) (Ks.keep k e)
end
theorem Wd.Le.kp (l : w.Le w') (k : w.Ok) : Kp w w' := by
  have nt : ∀ b o, w.H b = some o → (∀ xs, o ≠ .lst xs) → (∀ ps, o ≠ .tbl ps) → w'.H b = some o := fun b o e n n2 => l.h b o e (fun hb => by
    obtain ⟨vs, e2⟩ := k.ce b hb
    rw [e] at e2
    exact n vs (Option.some.inj e2)) n2
  refine ⟨fun b xs e => nt b _ e (fun _ z => by cases z) (fun _ z => by cases z), fun b o u e => nt b _ e (fun _ z => by cases z) (fun _ z => by cases z), fun b xs f e => ⟨l.f b f, l.h b _ e fun hb => k.cf b hb f⟩, fun n a e => ?_⟩
  obtain ⟨t, q, _⟩ := l.a
  rw [q, List.getElem?_append_left (List.getElem?_eq_some_iff.mp e).1]
  exact e

/-! ### small steps of a world -/
/-- a new object -/
def Wd.new (w : Wd) (p : Addr) (o : HO) : Wd := { w with H := upd w.H p o }
/-- a list is let stand for ever -/
def Wd.fix (w : Wd) (p : Addr) : Wd := { w with F := fun a => w.F a ∨ a = p }
/-- a list is written -/
def Wd.put (w : Wd) (p : Addr) (vs : List V) : Wd := { w with H := upd w.H p (.lst vs) }
/-- a new cell -/
def Wd.cel (w : Wd) (p : Addr) : Wd := { w with A := w.A ++ [p] }
theorem Wd.new_le {p : Addr} {o : HO} (h : w.H p = none) : w.Le (w.new p o) :=
  ⟨fun _ h => h, fun _ h => .inl h, ⟨[], by simp [Wd.new], fun _ h => nomatch h⟩, fun b o' e _ _ => by
    show upd w.H p o b = _
    rw [upd_ne (ne_of_none e h)]
    exact e, fun b ps e => ⟨ps, by
    show upd w.H p o b = _
    rw [upd_ne (ne_of_none e h)]
    exact e⟩⟩
theorem Wd.new_ok {p : Addr} {o : HO} (k : w.Ok) (h : w.H p = none) : (w.new p o).Ok := by
  have st : ∀ a vs, w.H a = some (.lst vs) → (w.new p o).H a = some (.lst vs) := fun a vs e => by
    show upd w.H p o a = _
    rw [upd_ne (ne_of_none e h)]
    exact e
  refine ⟨fun a f => ?_, fun a m => ?_, k.cf, k.nd⟩
  · obtain ⟨vs, e⟩ := k.fz a f
    exact ⟨vs, st a vs e⟩
  · obtain ⟨vs, e⟩ := k.ce a m
    exact ⟨vs, st a vs e⟩
/-- a new list that stands for ever -/
theorem Wd.newF_le {p : Addr} {vs : List V} (h : w.H p = none) : w.Le ((w.new p (.lst vs)).fix p) := by
  have l := Wd.new_le (w := w) (p := p) (o := .lst vs) h
  refine ⟨fun a f => .inl f, fun a f => ?_, l.a, fun b o e n nt => l.h b o e n nt, l.tb⟩
  rcases f with f | f
  · exact .inl f
  · subst f
    exact .inr h
theorem Wd.newF_ok {p : Addr} {vs : List V} (k : w.Ok) (h : w.H p = none) : ((w.new p (.lst vs)).fix p).Ok := by
  have k2 := Wd.new_ok (o := .lst vs) k h
  refine ⟨fun a f => ?_, k2.ce, fun a m f => ?_, k.nd⟩
  · rcases f with f | f
    · exact k2.fz a f
    · subst f
      exact ⟨vs, upd_same⟩
  · rcases f with f | f
    · exact k.cf a m f
    · subst f
      obtain ⟨us, e⟩ := k.ce _ m
      rw [h] at e
      cases e
end
/-! ### tables of code objects -/
/-- a code object is no dict -/
theorem code_ne {c : Addr} {q : Str} {xs : List (NestedKey × Addr)} {vs : List V} : LamX.CodeO c q ≠ .ext (Dn c xs vs) := by
  intro e
  unfold LamX.CodeO at e
  have e := HO.ext.inj e
  obtain ⟨h0, o, us, hg, hd, hu⟩ : ∃ (h0 : Heap) (o : Obj) (us : Array Value), h0.get? c = some o ∧ o.data = .fields us ∧ us[1]? = some (.str q 0) := by
    refine ⟨⟨(Array.replicate c { cls := .none, data := .fields #[] }).push { cls := .none, data := .fields #[.none, .str q 0] }, {}⟩, { cls := .none, data := .fields #[.none, .str q 0] }, #[.none, .str q 0], ?_, rfl, rfl⟩
    have := Heap.get?_push_size (⟨Array.replicate c { cls := .none, data := .fields #[] }, {}⟩ : Heap) (o := { cls := .none, data := .fields #[.none, .str q 0] }) rfl
    have hs : (⟨Array.replicate c { cls := .none, data := .fields #[] }, {}⟩ : Heap).objs.size = c := by simp
    rw [hs] at this
    exact this
  have h1 : Dn c xs vs h0 := by
    rw [← e]
    exact ⟨o, us, 0, hg, hd, hu⟩
  obtain ⟨_, _, _, _, _, o', es, ep, g, _, d, _⟩ := h1
  rw [hg] at g
  cases g
  rw [hd] at d
  cases d
/-- tables stand where lists and dicts alone are written -/
theorem tabs_keep {T : List (Addr × Str)} {H H' : Hp} (t : LamX.Tabs T H) (k : ∀ b o, H b = some o → (∀ xs, o ≠ .lst xs) → (∀ xs vs, o ≠ .ext (Dn b xs vs)) → H' b = some o) : LamX.Tabs T H' := fun p hp => by
  obtain ⟨ps, h1, h2, h3⟩ := t p hp
  refine ⟨ps, k _ _ h1 (fun _ z => by cases z) (fun _ _ z => by cases z), h2, fun pos cv hc => ?_⟩
  obtain ⟨c, e1, e2⟩ := h3 pos cv hc
  exact ⟨c, e1, k _ _ e2 (fun xs z => by unfold LamX.CodeO at z; cases z) fun xs vs => code_ne⟩
theorem upd_tbl {H : Hp} {p b : Addr} {o : HO} {ps : Array Value} (ho : ∀ ps, o ≠ .tbl ps) (h : upd H p o b = some (.tbl ps)) : H b = some (.tbl ps) := by
  by_cases e : b = p
  · subst e
    rw [upd_same] at h
    exact absurd (Option.some.inj h) (ho ps)
  · rw [upd_ne e] at h
    exact h
/-! ### cells -/
def CelOk (K : PySem.W.Frag) (fa : Fx) (w : Wd) (a : Addr) : Ob → Prop
  | .cell ds => ∃ vs, w.H a = some (.lst vs) ∧ vs.length ≤ sizeLine ∧ Rps K fa w vs ds
structure SR (K : PySem.W.Frag) (fa : Fx) (w : Wd) (S : Sto) : Prop where
  len : w.A.length = S.length
  at_ : ∀ (n : Nat) a o, w.A[n]? = some a → S[n]? = some o → CelOk K fa w a o
  tb : LamX.Tabs fa.T w.H
section
variable {K : PySem.W.Frag} {fa : Fx} {w w' : Wd} {S : Sto}
theorem SR.keep (r : SR K fa w S) (k : Kp w w') (hA : w'.A = w.A) (hH : ∀ a ∈ w.A, w'.H a = w.H a) (hT : ∀ b o, w.H b = some o → (∀ xs, o ≠ .lst xs) → (∀ xs vs, o ≠ .ext (Dn b xs vs)) → w'.H b = some o) (_ : ∀ b ps, w'.H b = some (.tbl ps) → w.H b = some (.tbl ps)) : SR K fa w' S := by
  refine ⟨by rw [hA]; exact r.len, fun n a o e1 e2 => ?_, tabs_keep r.tb hT⟩
  rw [hA] at e1
  have q := r.at_ n a o e1 e2
  cases o with
  | cell ds =>
    obtain ⟨vs, h1, h2, h3⟩ := q
    exact ⟨vs, by rw [hH a (List.mem_of_getElem? e1)]; exact h1, h2, h3.keep k⟩
theorem SR.new {p : Addr} {o : HO} (r : SR K fa w S) (k : w.Ok) (h : w.H p = none) (ho : ∀ ps, o ≠ .tbl ps := by intro ps z; cases z) : SR K fa (w.new p o) S :=
  r.keep ((Wd.new_le h).kp k) rfl (fun a m => by
    obtain ⟨vs, e⟩ := k.ce a m
    show upd w.H p o a = _
    rw [upd_ne (ne_of_none e h)]) (fun b o' e _ _ => by
    show upd w.H p o b = _
    rw [upd_ne (ne_of_none e h)]
    exact e) fun b ps e => upd_tbl ho e
theorem SR.newF {p : Addr} {vs : List V} (r : SR K fa w S) (k : w.Ok) (h : w.H p = none) : SR K fa ((w.new p (.lst vs)).fix p) S :=
  r.keep ((Wd.newF_le h).kp k) rfl (fun a m => by
    obtain ⟨us, e⟩ := k.ce a m
    show upd w.H p _ a = _
    rw [upd_ne (ne_of_none e h)]) (fun b o' e _ _ => by
    show upd w.H p _ b = _
    rw [upd_ne (ne_of_none e h)]
    exact e) fun b ps e => upd_tbl (fun ps z => by cases z) e
end

/-! ### the frame's slots -/
/-- what stands at a place that the frame alone holds -/
def SVOk (K : PySem.W.Frag) (fa : Fx) (w : Wd) (a : Addr) : SV → Prop
  | .val _ => False
  | .own ds => ∃ vs, w.H a = some (.lst vs) ∧ ¬ w.F a ∧ a ∉ w.A ∧ vs.length ≤ sizeLine ∧ Rps K fa w vs ds
  | .dic kvs => ∃ xs vs, w.H a = some (.ext (Dn a xs vs)) ∧ xs.length ≤ sizeLine ∧ Ks K fa w xs (kvs.map (·.1)) ∧ Rps K fa w vs (kvs.map (·.2))
structure FR (K : PySem.W.Frag) (fa : Fx) (w : Wd) (σ : L2.St) (ρ : Env) : Prop where
  len : σ.length = ρ.length
  val : ∀ (i : Nat) d, ρ[i]? = some (some (.val d)) → ∃ v, σ[i]? = some (some v) ∧ Rp K fa w v d
  own : ∀ (i : Nat) sv, ρ[i]? = some (some sv) → sv.isOwn = true → ∃ a, σ[i]? = some (some (.ref a)) ∧ SVOk K fa w a sv
  dis : ∀ (i j : Nat) s1 s2 a, ρ[i]? = some (some s1) → s1.isOwn = true → ρ[j]? = some (some s2) → s2.isOwn = true → σ[i]? = some (some (.ref a)) → σ[j]? = some (some (.ref a)) → i = j
theorem FR.ownL {K : PySem.W.Frag} {fa : Fx} {w : Wd} {σ : L2.St} {ρ : Env} (f : FR K fa w σ ρ) (i : Nat) (ds : List D) (h : ρ[i]? = some (some (.own ds))) :
    ∃ a vs, σ[i]? = some (some (.ref a)) ∧ w.H a = some (.lst vs) ∧ ¬ w.F a ∧ a ∉ w.A ∧ vs.length ≤ sizeLine ∧ Rps K fa w vs ds := by
  obtain ⟨a, h1, vs, h2⟩ := f.own i _ h rfl
  exact ⟨a, vs, h1, h2⟩
theorem FR.dicL {K : PySem.W.Frag} {fa : Fx} {w : Wd} {σ : L2.St} {ρ : Env} (f : FR K fa w σ ρ) (i : Nat) (kvs : List (D × D)) (h : ρ[i]? = some (some (.dic kvs))) :
    ∃ a xs vs, σ[i]? = some (some (.ref a)) ∧ w.H a = some (.ext (Dn a xs vs)) ∧ xs.length ≤ sizeLine ∧ Ks K fa w xs (kvs.map (·.1)) ∧ Rps K fa w vs (kvs.map (·.2)) := by
  obtain ⟨a, h1, xs, vs, h2⟩ := f.own i _ h rfl
  exact ⟨a, xs, vs, h1, h2⟩
/-- the frame's own lists and dicts are younger than the entry -/
def Yg (H0 : Hp) (σ : L2.St) (ρ : Env) : Prop := ∀ (i : Nat) sv a, ρ[i]? = some (some sv) → sv.isOwn = true → σ[i]? = some (some (.ref a)) → H0 a = none
section
variable {K : PySem.W.Frag} {fa : Fx} {w w' : Wd} {σ : L2.St} {ρ : Env}
theorem Wd.Le.nA (l : w.Le w') {a : Addr} {o : HO} (h : w.H a = some o) (n : a ∉ w.A) : a ∉ w'.A := fun m => by
  obtain ⟨t, e, ht⟩ := l.a
  rw [e] at m
  rcases List.mem_append.mp m with q | q
  · exact n q
  · rw [ht a q] at h
    cases h
theorem Wd.Le.nF (l : w.Le w') {a : Addr} {o : HO} (h : w.H a = some o) (n : ¬ w.F a) : ¬ w'.F a := fun m => by
  rcases l.fn a m with q | q
  · exact n q
  · rw [q] at h
    cases h
theorem Wd.Ok.nAx (k : w.Ok) {a : Addr} {φ : Heap → Prop} (h : w.H a = some (.ext φ)) : a ∉ w.A := fun m => by
  obtain ⟨vs, e⟩ := k.ce a m
  rw [h] at e
  cases e
theorem SVOk.move {a : Addr} {sv : SV} (h : SVOk K fa w a sv) (kp : Kp w w') (hH : ∀ o, w.H a = some o → a ∉ w.A → (nt : ∀ ps, o ≠ HO.tbl ps := by intro ps z; cases z) → w'.H a = some o) (hF : ∀ o, w.H a = some o → ¬ w.F a → ¬ w'.F a) (hA : ∀ o, w.H a = some o → a ∉ w.A → a ∉ w'.A) (k : w.Ok) : SVOk K fa w' a sv := by
  cases sv with
  | val d => exact h
  | own ds =>
    obtain ⟨vs, h1, h2, h3, h4, h5⟩ := h
    exact ⟨vs, hH _ h1 h3, hF _ h1 h2, hA _ h1 h3, h4, h5.keep kp⟩
  | dic kvs =>
    obtain ⟨xs, vs, h1, h2, h3, h4⟩ := h
    exact ⟨xs, vs, hH _ h1 (k.nAx h1), h2, h3.keep kp, h4.keep kp⟩
theorem FR.mono (r : FR K fa w σ ρ) (l : w.Le w') (k : w.Ok) : FR K fa w' σ ρ := by
  have kp := l.kp k
  refine ⟨r.len, fun i d e => ?_, fun i sv e hs => ?_, r.dis⟩
  · obtain ⟨v, h1, h2⟩ := r.val i d e
    exact ⟨v, h1, h2.keep kp⟩
  · obtain ⟨a, h1, h2⟩ := r.own i sv e hs
    exact ⟨a, h1, h2.move kp (fun o e n nt => l.h a o e n nt) (fun o e n => l.nF e n) (fun o e n => l.nA e n) k⟩
/-- what is looked at: a value, or a list of the frame's own -/
def RpP (K : PySem.W.Frag) (fa : Fx) (w : Wd) (v : V) (d : D) : Prop :=
  Rp K fa w v d ∨ (∃ a vs ds, v = .ref a ∧ d = .lst ds ∧ w.H a = some (.lst vs) ∧ a ∉ w.A ∧ vs.length ≤ sizeLine ∧ Rps K fa w vs ds) ∨
    ∃ a xs vs ks ds, v = .ref a ∧ d = .dic ks ds ∧ w.H a = some (.ext (Dn a xs vs)) ∧ xs.length ≤ sizeLine ∧ Ks K fa w xs ks ∧ Rps K fa w vs ds
theorem RpP.mono {v : V} {d : D} (r : RpP K fa w v d) (l : w.Le w') (k : w.Ok) : RpP K fa w' v d := by
  rcases r with r | ⟨a, vs, ds, e1, e2, h1, h2, h3, h4⟩ | ⟨a, xs, vs, ks, ds, e1, e2, h1, h2, h3, h4⟩
  · exact .inl (r.keep (l.kp k))
  · exact .inr (.inl ⟨a, vs, ds, e1, e2, l.h a _ h1 h2, l.nA h1 h2, h3, h4.keep (l.kp k)⟩)
  · exact .inr (.inr ⟨a, xs, vs, ks, ds, e1, e2, l.h a _ h1 (k.nAx h1), h2, h3.keep (l.kp k), h4.keep (l.kp k)⟩)
theorem RpP.lst {v : V} {ds : List D} (r : RpP K fa w v (.lst ds)) : ∃ a vs, v = .ref a ∧ w.H a = some (.lst vs) ∧ vs.length ≤ sizeLine ∧ Rps K fa w vs ds := by
  rcases r with r | ⟨a, vs, es, e1, e2, h1, h2, h3, h4⟩ | ⟨a, xs, vs, ks, es, e1, e2, _⟩
  · cases r with
    | lst a b c e => exact ⟨_, _, rfl, a, c, e⟩
  · cases e2
    exact ⟨a, vs, e1, h1, h3, h4⟩
  · cases e2
/-- a dict, for ever or of one's own -/
def DcAt (w : Wd) (a : Addr) (xs : List (NestedKey × Addr)) (vs : List V) : Prop := w.H a = some (.ext (Dn a xs vs)) ∨ ∃ o, w.H a = some (.frz o (.ext (Dn a xs vs)))
theorem RpP.dic {v : V} {ks ds : List D} (r : RpP K fa w v (.dic ks ds)) : ∃ a xs vs, v = .ref a ∧ DcAt w a xs vs ∧ xs.length ≤ sizeLine ∧ Ks K fa w xs ks ∧ Rps K fa w vs ds := by
  rcases r with r | ⟨a, vs, es, e1, e2, h1, h2, h3, h4⟩ | ⟨a, xs, vs, ks', es, e1, e2, h1, h2, h3, h4⟩
  · cases r with
    | dic a b c e => exact ⟨_, _, _, rfl, .inr ⟨_, a⟩, b, c, e⟩
  · cases e2
  · cases e2
    exact ⟨a, xs, vs, e1, .inl h1, h2, h3, h4⟩
theorem RpP.val {v : V} {d : D} (r : RpP K fa w v d) (h : ∀ ds, d ≠ .lst ds) (h2 : ∀ ks ds, d ≠ .dic ks ds) : Rp K fa w v d := by
  rcases r with r | ⟨a, vs, es, e1, e2, _⟩ | ⟨a, xs, vs, ks, es, e1, e2, _⟩
  · exact r
  · exact absurd e2 (h es)
  · exact absurd e2 (h2 ks es)
end
end Ev

/-! The operations on values keep what the model does. -/
namespace Ev
open PySem PySem.Spec PyProof.Rows L2

/-- a new list that nobody else holds -/
def Fresh (K : PySem.W.Frag) (fa : Fx) (w w' : Wd) (v : V) (ds : List D) : Prop :=
  ∃ a vs, v = .ref a ∧ w.H a = none ∧ w'.H a = some (.lst vs) ∧ ¬ w'.F a ∧ a ∉ w'.A ∧ vs.length ≤ sizeLine ∧ Rps K fa w' vs ds
/-- a value; a list is a new one -/
def RN (K : PySem.W.Frag) (fa : Fx) (w w' : Wd) (v : V) (d : D) : Prop := match d with
  | .lst ds => Fresh K fa w w' v ds
  | d => Rp K fa w' v d
def OpL (K : PySem.W.Frag) (fa : Fx) (r : R2) (g : D → D → Option D) : Prop :=
  ∀ (w : Wd) (S : Sto) (x y d : D) (v u : V) (Q : VK), w.Ok → SR K fa w S → RpP K fa w v x → RpP K fa w u y → g x y = some d → (∀ w' z, w.Le w' → w'.Ok → SR K fa w' S → RN K fa w w' z d → Q z w'.H) → r v u w.H Q
def CallL (K : PySem.W.Frag) (fa : Fx) (r : List V → Hp → VK → Prop) (g : List D → Option D) : Prop :=
  ∀ (w : Wd) (S : Sto) (xs : List D) (d : D) (vs : List V) (Q : VK), w.Ok → SR K fa w S → Paired (RpP K fa w) vs xs → g xs = some d → (∀ w' z, w.Le w' → w'.Ok → SR K fa w' S → RN K fa w w' z d → Q z w'.H) → r vs w.H Q
section
variable {K : PySem.W.Frag} {fa : Fx} {w : Wd} {S : Sto} {Q : VK}
theorem newT {p : Addr} {vs : List V} {ds : List D} (k : w.Ok) (r : SR K fa w S) (h : w.H p = none) (hl : vs.length ≤ sizeLine) (hr : Rps K fa w vs ds) (q : ∀ w' z, w.Le w' → w'.Ok → SR K fa w' S → RN K fa w w' z (.tup ds) → Q z w'.H) : Q (.ref p) (upd w.H p (.tup vs)) :=
  q (w.new p (.tup vs)) (.ref p) (Wd.new_le h) (Wd.new_ok k h) (r.new k h) (.tup (.of upd_same) hl (hr.keep ((Wd.new_le h).kp k)))
theorem newL {p : Addr} {vs : List V} {ds : List D} (k : w.Ok) (r : SR K fa w S) (h : w.H p = none) (hl : vs.length ≤ sizeLine) (hr : Rps K fa w vs ds) (q : ∀ w' z, w.Le w' → w'.Ok → SR K fa w' S → RN K fa w w' z (.lst ds) → Q z w'.H) : Q (.ref p) (upd w.H p (.lst vs)) := by
  refine q (w.new p (.lst vs)) (.ref p) (Wd.new_le h) (Wd.new_ok k h) (r.new k h) ⟨p, vs, rfl, h, upd_same, fun f => ?_, fun m => ?_, hl, hr.keep ((Wd.new_le h).kp k)⟩
  · obtain ⟨us, e⟩ := k.fz p f
    rw [h] at e
    cases e
  · obtain ⟨us, e⟩ := k.ce p m
    rw [h] at e
    cases e
theorem here {z : V} {d : D} (k : w.Ok) (r : SR K fa w S) (q : ∀ w' z, w.Le w' → w'.Ok → SR K fa w' S → RN K fa w w' z d → Q z w'.H) (h : RN K fa w w z d) : Q z w.H := q w z (.refl w) k r h
theorem RpP.int {v : V} {i : Int} (h : RpP K fa w v (.int i)) : v = .int i := by
  have h := h.val (fun _ z => nomatch z) (fun _ _ z => nomatch z)
  cases h
  rfl
theorem RpP.bl {v : V} {i : Bool} (h : RpP K fa w v (.bl i)) : v = .bl i := by
  have h := h.val (fun _ z => nomatch z) (fun _ _ z => nomatch z)
  cases h
  rfl
theorem RpP.str {v : V} {cs : List Nat} (h : RpP K fa w v (.str cs)) : v = .str (tx cs) ∧ TxOk cs := by
  have h := h.val (fun _ z => nomatch z) (fun _ _ z => nomatch z)
  cases h with
  | str t => exact ⟨rfl, t⟩
theorem RpP.tup {v : V} {ds : List D} (h : RpP K fa w v (.tup ds)) : ∃ a vs, v = .ref a ∧ SqT K w.H a vs ∧ vs.length ≤ sizeLine ∧ Rps K fa w vs ds := by
  have h := h.val (fun _ z => nomatch z) (fun _ _ z => nomatch z)
  cases h with
  | tup a b c => exact ⟨_, _, rfl, a, b, c⟩
theorem RpP.rol {v : V} {ds : List D} (h : RpP K fa w v (.rol ds)) : ∃ a vs, v = .ref a ∧ RoL K w a vs ∧ vs.length ≤ sizeLine ∧ Rps K fa w vs ds := by
  have h := h.val (fun _ z => nomatch z) (fun _ _ z => nomatch z)
  cases h with
  | rol a b c => exact ⟨_, _, rfl, a, b, c⟩
theorem sm64_ok {i : Int} (h : sm64 i = true) : -(2 ^ 64) < i ∧ i < 2 ^ 64 := by
  have h1 : i.natAbs < 18446744073709551616 := of_decide_eq_true h
  have e : (2 : Int) ^ 64 = 18446744073709551616 := by decide +kernel
  rw [e]
  omega
theorem lim_le {n : Nat} (h : n ≤ LIM) : n ≤ sizeLine := by rw [← lim_eq]; exact h
theorem ite_some {α : Type} {c : Prop} [Decidable c] {a b : α} (h : (if c then some a else none) = some b) : c ∧ a = b := by
  split at h
  · exact ⟨by assumption, Option.some.inj h⟩
  · cases h
theorem ite_someB {α : Type} {c : Bool} {a b : α} (h : (if c = true then some a else none) = some b) : c = true ∧ a = b := ite_some h
theorem TxOk.app {a b : List Nat} (x : TxOk a) (y : TxOk b) (h : a.length + b.length ≤ sizeLine) : TxOk (a ++ b) :=
  ⟨by rw [List.length_append]; exact h, fun c hc => (List.mem_append.mp hc).elim (x.ok c) (y.ok c)⟩
end

/-! ### + -/
def rBI (g : Int → Int → Int) : R2 := fun x y H Q => ∃ b j, x = .bl b ∧ y = .int j ∧ Q (.int (g (b2i b) j)) H
section
variable {X : Cx}
theorem op_add_bi : OpR X (binaryOp .Add) (rBI fun i j => i + j) := by
  intro pins s σ H x y v u Q I rx ry h
  obtain ⟨b, j, rfl, rfl, q⟩ := h
  cases rx
  obtain ⟨t, rfl⟩ := ry
  exact PySem.IntBool.add_bool_int ⟨.int _, H, I.tok _, ⟨_, rfl⟩, q⟩
theorem op_sub_bi : OpR X (binaryOp .Sub) (rBI fun i j => i - j) := by
  intro pins s σ H x y v u Q I rx ry h
  obtain ⟨b, j, rfl, rfl, q⟩ := h
  cases rx
  obtain ⟨t, rfl⟩ := ry
  exact PySem.IntBool.sub_bool_int ⟨.int _, H, I.tok _, ⟨_, rfl⟩, q⟩
end
def rCatS : R2 := fun x y H Q => ∃ i j, x = .str i ∧ y = .str j ∧ i.length + j.length ≤ sizeLine ∧ Q (.str (i ++ j)) H
abbrev rAddE (K : PySem.W.Frag) : R2 := fun x y H Q => rI0 (fun i j => .int (i + j)) x y H Q ∨ (rBI (fun i j => i + j) x y H Q ∨ (rCatS x y H Q ∨ (rCatA K x y H Q ∨ rCat x y H Q)))
theorem op_addE {X : Cx} : OpR X (binaryOp .Add) (rAddE X.K) := op_add.or (op_add_bi.or ((show OpR X (binaryOp .Add) rCatS from op_add_str).or (op_catA.or op_cat)))
abbrev rSubE : R2 := fun x y H Q => rI0 (fun i j => .int (i - j)) x y H Q ∨ rBI (fun i j => i - j) x y H Q
theorem op_subE {X : Cx} : OpR X (binaryOp .Sub) rSubE := op_sub.or op_sub_bi
section
variable {K : PySem.W.Frag} {fa : Fx}
theorem opl_add : OpL K fa (rAddE K) (bop .add) := by
  intro w S x y d v u Q k r hx hy h q
  cases x <;> cases y <;> first | (cases h; done) | skip
  case bl.int b j =>
    cases (Option.some.inj h)
    exact .inr (.inl ⟨b, j, hx.bl, hy.int, here k r q (Rp.int _)⟩)
  case int.int i j =>
    cases (Option.some.inj h)
    exact .inl ⟨i, j, hx.int, hy.int, here k r q (Rp.int _)⟩
  case str.str a b =>
    obtain ⟨c, e⟩ := ite_some h
    subst e
    obtain ⟨e1, t1⟩ := hx.str
    obtain ⟨e2, t2⟩ := hy.str
    refine .inr (.inr (.inl ⟨tx a, tx b, e1, e2, by rw [tx_len, tx_len]; exact lim_le c, ?_⟩))
    rw [tx_app]
    exact here k r q (Rp.str (t1.app t2 (lim_le c)))
  case tup.tup a b =>
    obtain ⟨c, e⟩ := ite_some h
    subst e
    obtain ⟨p, vs, e1, s1, l1, r1⟩ := hx.tup
    obtain ⟨p2, us, e2, s2, l2, r2⟩ := hy.tup
    have hl : vs.length + us.length ≤ sizeLine := by rw [r1.len, r2.len]; exact lim_le c
    refine .inr (.inr (.inr (.inl ⟨p, p2, vs, us, e1, e2, s1, s2, hl, fun z => ?_, fun _ z => ?_, fun _ _ p hp => ?_⟩)))
    · have za := r1.nil_iff.mp z
      subst za
      rw [← e2]
      refine here k r q ?_
      rw [e2]
      exact Rp.tup s2 l2 r2
    · have zb := r2.nil_iff.mp z
      subst zb
      rw [← e1]
      refine here k r q ?_
      rw [e1, List.append_nil]
      exact Rp.tup s1 l1 r1
    · exact newT k r hp (by rw [List.length_append]; exact hl) (r1.app r2) q
  case lst.lst a b =>
    obtain ⟨c, e⟩ := ite_some h
    subst e
    obtain ⟨p, vs, e1, s1, l1, r1⟩ := hx.lst
    obtain ⟨p2, us, e2, s2, l2, r2⟩ := hy.lst
    have hl : vs.length + us.length ≤ sizeLine := by rw [r1.len, r2.len]; exact lim_le c
    exact .inr (.inr (.inr (.inr ⟨p, p2, vs, us, e1, e2, s1, s2, hl, fun p hp => newL k r hp (by rw [List.length_append]; exact hl) (r1.app r2) q⟩)))
theorem opl_sub : OpL K fa rSubE (bop .sub) := by
  intro w S x y d v u Q k r hx hy h q
  cases x <;> cases y <;> first | (cases h; done) | skip
  case bl.int b j =>
    cases (Option.some.inj h)
    exact .inr ⟨b, j, hx.bl, hy.int, here k r q (Rp.int _)⟩
  case int.int i j =>
    cases (Option.some.inj h)
    exact .inl ⟨i, j, hx.int, hy.int, here k r q (Rp.int _)⟩
end

/-! ### * -/
def CMulE (i j : Int) : Prop := mulOk i j = true
theorem mulOk_ok {i j : Int} (h : CMulE i j) : IntMulOk i j := by
  have h2 : mulOk i j = true := h
  unfold mulOk at h2
  rw [Bool.or_eq_true, Bool.or_eq_true, Bool.and_eq_true] at h2
  rcases h2 with h2 | h2 | ⟨h2, h3⟩
  · have := sm64_ok h2
    exact CMul.ok (.inr this)
  · have := sm64_ok h2
    exact CMul.ok (.inl this)
  · exact CMulW.ok (wide_mul (a := 4000) (b := 4000) (of_decide_eq_true h2) (of_decide_eq_true h3) (by omega) (by omega) (by omega))
theorem op_mulE {X : Cx} : OpR X (binaryOp .Mult) (rI CMulE fun i j => .int (i * j)) := opI fun _ _ _ _ _ _ _ hc q => mul_int q (mulOk_ok hc)
/-- a text some times over -/
def rRepS : R2 := fun x y H Q => ∃ (a : List Nat) (j : Int), x = .str (tx a) ∧ y = .int j ∧ 2 ≤ j ∧ j ≤ 1000 ∧ a.isEmpty = false ∧ a.length ≤ 1000 ∧ Q (.str (tx (List.replicate j.toNat a).flatten)) H
theorem fold_nat (a : List Nat) : ∀ (m : Nat) (b : List Nat), (List.replicate m a.toArray).foldl (· ++ ·) b.toArray = (b ++ (List.replicate m a).flatten).toArray
  | 0, b => by simp
  | m + 1, b => by
    have e : b.toArray ++ a.toArray = (b ++ a).toArray := by simp
    rw [List.replicate_succ, List.foldl_cons, e, fold_nat a m (b ++ a), List.replicate_succ, List.flatten_cons, List.append_assoc]
theorem flat_len (a : List Nat) : ∀ m : Nat, (List.replicate m a).flatten.length = m * a.length
  | 0 => by simp
  | m + 1 => by
    rw [List.replicate_succ, List.flatten_cons, List.length_append, flat_len a m, Nat.succ_mul]
    omega
theorem op_repS {X : Cx} : OpR X (binaryOp .Mult) rRepS := by
  intro pins s σ H x y v u Q I rx ry h
  obtain ⟨a, j, rfl, rfl, h1, h2, h3, h4, q⟩ := h
  obtain ⟨t, rfl⟩ := rx
  obtain ⟨t2, rfl⟩ := ry
  have hl : (tx a).length = a.length := tx_len a
  have n1 : ¬ j < 1 := by omega
  have hj : (j == 1) = false := by rw [beq_eq_false_iff_ne]; omega
  have ha : (a.length == 0) = false := by
    cases a with
    | nil => cases h3
    | cons _ _ => rfl
  have n2 : (j == 1 || (tx a).length == 0) = false := by rw [hl, hj, ha] <;> rfl
  have sz : a.length * j.toNat ≤ 1000 * 1000 := Nat.mul_le_mul h4 (by omega)
  refine PySem.P.mul_str (by rw [decide_eq_false (by omega), decide_eq_false (by omega)] <;> rfl) (fun _ _ => ?_) (fun _ _ => ?_) ?_
  · rw [hl]
    have e : (1000 : Int) ≤ (2 ^ 63 - 1) / j := by
      rw [Int.le_ediv_iff_mul_le (by omega)]
      have e2 : (2 : Int) ^ 63 - 1 = 9223372036854775807 := by decide +kernel
      rw [e2]
      omega
    omega
  · rw [hl]
    have e : sizeLine = 16777216 := sizeLine_eq
    unfold Builtin.Str.tooLong
    exact decide_eq_false (by omega)
  · rw [if_neg n1, n2, if_neg Bool.false_ne_true]
    have e : (⟨(List.replicate j.toNat (tx a).cps).foldl (· ++ ·) #[]⟩ : Str) = tx (List.replicate j.toNat a).flatten := by
      have := fold_nat a j.toNat []
      rw [List.nil_append] at this
      show (⟨(List.replicate j.toNat a.toArray).foldl (· ++ ·) #[]⟩ : Str) = _
      rw [show (#[] : Array Nat) = ([] : List Nat).toArray from rfl, this]
      rfl
    rw [e]
    have fl := flat_len a j.toNat
    have e3 : sizeLine = 16777216 := sizeLine_eq
    refine ⟨?_, .str (tx (List.replicate j.toNat a).flatten), _, I.tok _, ⟨_, rfl⟩, q⟩
    rw [tx_len, fl, e3, Nat.mul_comm]
    omega
abbrev rMulE (K : PySem.W.Frag) : R2 := fun x y H Q => rI CMulE (fun i j => .int (i * j)) x y H Q ∨ ((rRepT K x y H Q ∨ rRep x y H Q) ∨ rRepS x y H Q)
theorem op_mulEE {X : Cx} : OpR X (binaryOp .Mult) (rMulE X.K) := op_mulE.or ((op_repT.or op_rep).or op_repS)
section
variable {K : PySem.W.Frag} {fa : Fx}
theorem rep_len {α : Type} (xs : List α) : ∀ n : Nat, (List.replicate n xs).flatten.length = n * xs.length
  | 0 => by simp
  | n + 1 => by rw [List.replicate_succ, List.flatten_cons, List.length_append, rep_len xs n, Nat.succ_mul, Nat.add_comm]
theorem opl_mul : OpL K fa (rMulE K) (bop .mul) := by
  intro w S x y d v u Q k r hx hy h q
  have hs : sizeLine = 16777216 := sizeLine_eq
  cases x <;> cases y <;> first | (cases h; done) | skip
  case int.int i j =>
    obtain ⟨c, e⟩ := ite_someB h
    subst e
    exact .inl ⟨i, j, hx.int, hy.int, c, here k r q (Rp.int _)⟩
  case tup.int a j =>
    obtain ⟨c, e⟩ := ite_someB h
    subst e
    simp only [Bool.and_eq_true, decide_eq_true_eq, Bool.not_eq_true'] at c
    obtain ⟨⟨⟨c1, c2⟩, c3⟩, c4⟩ := c
    obtain ⟨p, vs, e1, s1, l1, r1⟩ := hx.tup
    have hl := r1.len
    refine .inr (.inl (.inl ⟨p, j, vs, e1, hy.int, s1, fun z => ?_, c1, c2, by omega, fun p hp => newT k r hp ?_ (r1.flat _) q⟩))
    · rw [r1.nil_iff.mp z] at c3
      cases c3
    · rw [rep_len, hl]
      have : j.toNat * a.length ≤ 1000 * 1000 := Nat.mul_le_mul (by omega) c4
      omega
  case lst.int a j =>
    obtain ⟨c, e⟩ := ite_someB h
    subst e
    simp only [Bool.and_eq_true, decide_eq_true_eq] at c
    obtain ⟨⟨c1, c2⟩, c3⟩ := c
    obtain ⟨p, vs, e1, s1, l1, r1⟩ := hx.lst
    have hl := r1.len
    have hm : vs.length * j.toNat ≤ 1000 * 1000 := Nat.mul_le_mul (by omega) (by omega)
    refine .inr (.inl (.inr ⟨p, j, vs, e1, hy.int, s1, by omega, by omega, by omega, fun p hp => newL k r hp ?_ (r1.flat _) q⟩))
    rw [rep_len, Nat.mul_comm]
    omega
  case str.int a j =>
    obtain ⟨c, e⟩ := ite_someB h
    subst e
    simp only [Bool.and_eq_true, decide_eq_true_eq, Bool.not_eq_true'] at c
    obtain ⟨⟨⟨c1, c2⟩, c3⟩, c4⟩ := c
    obtain ⟨e1, t1⟩ := hx.str
    have hm : j.toNat * a.length ≤ 1000 * 1000 := Nat.mul_le_mul (by omega) c4
    refine .inr (.inr ⟨a, j, e1, hy.int, c1, c2, c3, c4, here k r q (Rp.str ⟨?_, fun c hc => ?_⟩)⟩)
    · rw [flat_len]
      omega
    · obtain ⟨l, hl, hc2⟩ := List.mem_flatten.mp hc
      rw [List.eq_of_mem_replicate hl] at hc2
      exact t1.ok c hc2
end

/-! ### %, //, ** -/
def CDivE (_ j : Int) : Prop := divOk j = true
theorem op_fdivE {X : Cx} : OpR X (binaryOp .FloorDiv) (rI CDivE fun i j => .int (i / j)) := opI fun i j _ _ _ _ _ hc q => by
  have h : divOk j = true := hc
  unfold divOk at h
  rw [Bool.and_eq_true, decide_eq_true_eq, decide_eq_true_eq] at h
  have hw : CDivW i j := wide_div (b := 4000) h.1 (by first | exact h.2 | (have h2 := h.2; have h1 := h.1; omega)) (by omega) (by omega)
  have h1 : (0 : Int) < j := hw.1
  exact floordiv_int (by omega) (by rw [Int.fdiv_eq_ediv_of_nonneg i (by omega)]; exact q) (.inl (PyProof.noPylong_of_log2 hw.2))
def CPowE (i j : Int) : Prop := (decide (0 ≤ j) && decide (j ≤ 1000) && sm64 i) = true
theorem op_powE {X : Cx} : OpR X (binaryOp .Pow) (rI CPowE fun i j => .int (i ^ j.toNat)) := opI fun i j _ _ _ _ _ hc q => by
  have h : (decide (0 ≤ j) && decide (j ≤ 1000) && sm64 i) = true := hc
  rw [Bool.and_eq_true, Bool.and_eq_true, decide_eq_true_eq, decide_eq_true_eq] at h
  obtain ⟨⟨h1, h2⟩, h3⟩ := h
  have h4 := sm64_ok h3
  exact pow_int_small h1 (by omega) (by omega) q
section
variable {K : PySem.W.Frag} {fa : Fx}
theorem opl_mod : OpL K fa (rI (fun _ j => 0 < j) fun i j => .int (i % j)) (bop .mod) := by
  intro w S x y d v u Q k r hx hy h q
  cases x <;> cases y <;> first | (cases h; done) | skip
  case int.int i j =>
    obtain ⟨c, e⟩ := ite_some h
    subst e
    exact ⟨i, j, hx.int, hy.int, c, here k r q (Rp.int _)⟩
theorem opl_fdiv : OpL K fa (rI CDivE fun i j => .int (i / j)) (bop .fdiv) := by
  intro w S x y d v u Q k r hx hy h q
  cases x <;> cases y <;> first | (cases h; done) | skip
  case int.int i j =>
    obtain ⟨c, e⟩ := ite_someB h
    subst e
    exact ⟨i, j, hx.int, hy.int, c, here k r q (Rp.int _)⟩
theorem opl_pow : OpL K fa (rI CPowE fun i j => .int (i ^ j.toNat)) (bop .pow) := by
  intro w S x y d v u Q k r hx hy h q
  cases x <;> cases y <;> first | (cases h; done) | skip
  case int.int i j =>
    obtain ⟨c, e⟩ := ite_someB h
    subst e
    exact ⟨i, j, hx.int, hy.int, c, here k r q (Rp.int _)⟩
end
theorem _root_.L2.PE.conv {X : Cx} {e : Expr} {t t' : TE} (h : PE X e t) (c : ∀ σ H Q, t' σ H Q → t σ H Q) : PE X e t' := ⟨fun pins s σ H Q I q => h.run pins s σ H Q I (c σ H Q q)⟩
theorem _root_.L2.PT.conv {X : Cx} {e : Expr} {t t' : TT} (h : PT X e t) (c : ∀ σ H Q, t' σ H Q → t σ H Q) : PT X e t' := ⟨fun pins s σ H Q I q => h.run pins s σ H Q I (c σ H Q q)⟩
theorem _root_.L2.PA.conv {X : Cx} {e : List Expr} {t t' : TA} (h : PA X e t) (c : ∀ σ H Q, t' σ H Q → t σ H Q) : PA X e t' := ⟨fun pos pins s σ H Q I q => h.run pos pins s σ H Q I (c σ H Q q)⟩
end Ev

/-! Walks that end, tuples taken apart, comprehensions: all while an exception is handled. -/
namespace Hx
open PySem PySem.Spec PyProof.Rows L2 HotX L2H

section
variable {prog : Program} {w : World} {A : Around} {E : Value → Shared → Prop} {s : Shared}
/-- a StopIteration is made -/
theorem stop_made {Q : Value → Shared → Prop} (q : ∀ hh (e : Addr) (oe : Obj) (us : Array Value), (∀ b o, s.heap.get? b = some o → hh.get? b = some o) → s.heap.get? e = none → hh.get? e = some oe → oe.cls = .type "StopIteration" → oe.data = .fields us → 2 < us.size → Q (.ref e) { s with heap := hh }) :
    wpAny (model prog w) A (newExc (.type "StopIteration") []) Q E s := by
  simp only [newExc, newTuple]
  refine wpAny_bind (wpAny_newObj_type ?_ (by size_fits))
  refine wpAny_bind (m := firstArgMember _ _) (wpAny_of_eq (a := Value.none) (by first | (simp only [firstArgMember]; rfl) | rfl) ?_)
  refine wpAny_newObj_type (q _ _ _ _ (fun b o eo => Heap.get?_push_of_some _ (Heap.get?_push_of_some _ eo)) ?_ (Heap.get?_push_size _ rfl) rfl rfl (by first | (simp; done) | (simp; omega) | (simp only [Array.size_append]; simp; omega))) (by size_fits)
  exact Heap.get?_none_of_le (by rw [Heap.size_push]; exact Nat.le_succ _)
/-- .. and raised while x1's exception is handled -/
theorem stop_raised {α : Type} {Q : α → Shared → Prop} {x1 : Addr} (hot : HotAt A x1 s.heap)
    (q : ∀ hh e, (∀ b o, s.heap.get? b = some o → hh.get? b = some o) → (∃ o, hh.get? e = some o ∧ o.cls = .type "StopIteration") → E (.ref e) { s with heap := hh }) :
    wpAny (model prog w) A (newExc (.type "StopIteration") [] >>= fun e => (raiseNew e : Sem α)) Q E s := by
  obtain ⟨hh, o1, vs1, h1, d1, c1⟩ := hot
  refine wpAny_bind (stop_made fun g e oe us k n he hc hd hz => ?_)
  have ne : x1 ≠ e := fun z => by
    rw [z, n] at h1
    cases h1
  refine raiseNew_hot (s := { s with heap := g }) ⟨hh, o1, vs1, k _ _ h1, d1, c1⟩ ne he hd hz (q _ e (fun b o eo => ?_) ⟨_, Heap.get?_update_self _ he (Obj.isFreed_of_fields (Obj.data_mapFields hd _)), (Obj.cls_mapFields ..).trans hc⟩)
  have nb : e ≠ b := fun z => by
    rw [← z, n] at eo
    cases eo
  show (g.update e _).get? b = some o
  rw [Heap.get?_update_other _ _ nb]
  exact k b o eo
theorem hot_in1 {x1 : Addr} {h : Heap} (hot : HotAt A x1 h) : HotAt A.in1 x1 h := hot
theorem hot_at {x1 c : Addr} {h h' : Heap} (hot : HotAt A x1 h) (hc : x1 ≠ c) (k : ∀ b o, b ≠ c → h.get? b = some o → h'.get? b = some o) : HotAt A x1 h' := by
  obtain ⟨hh, o1, vs1, h1, d1, c1⟩ := hot
  exact ⟨hh, o1, vs1, k _ _ hc h1, d1, c1⟩
/-- a list's iterator at its end, asked by a builtin -/
theorem nextOf_list_hot {it l x1 : Addr} {i : Nat} {items : Array Value} {Q : Value → Shared → Prop} (hot : HotAt A x1 s.heap) (hne : x1 ≠ it) (hit : s.heap.IsListIter it l i) (hl : s.heap.IsList l items) (hx : items[i]? = none)
    (q : ∀ hh e, Heap.ExtBut it s.heap hh → (∃ o, hh.get? e = some o ∧ o.cls = .type "StopIteration") → E (.ref e) { s with heap := hh }) :
    wpAny (model prog w) A (Builtin.SmallTypes.nextOf (.ref it)) Q E s := by
  obtain ⟨oi, hoi, hci, hdi⟩ := id hit
  obtain ⟨ol, hol, _, nl, hdl⟩ := hl
  unfold Builtin.SmallTypes.nextOf
  refine wpAny_bind (wpAny_callSpecial?_slot (name := Str.ofString "__next__") hit.typeIs slot_listiter_next (wpAny_call_entry slot_listiter_next hit.typeIs entry_listiter_next ?_ (args_listiter_next _)))
  show wpAny _ _ (do let z ← field (.ref it) 0; _) _ _ s
  refine wpAny_bind (wpAny_field hoi hdi (x := .ref l) rfl ?_)
  show wpAny _ _ (if (Value.ref l == Value.none) = true then _ else _) _ _ s
  rw [if_neg (fun z : (Value.ref l == Value.none) = true => Bool.false_ne_true z)]
  show wpAny _ _ (do let z ← field (.ref it) 1; _) _ _ s
  refine wpAny_bind (wpAny_field hoi hdi (x := .int i 0) rfl ?_)
  show wpAny _ _ (do let z ← seqItems? (.ref l); _) _ _ s
  refine wpAny_bind (wpAny_seqItems hol hdl ?_)
  simp only [Int.toNat_natCast, hx]
  refine wpAny_bind (wpAny_rule (wpAny_bind (wpAny_setField hoi hdi (by simp) ?_)))
  have keep : ∀ b o, b ≠ it → s.heap.get? b = some o → (s.heap.update it (Obj.mapFields (·.setIfInBounds 0 Value.none))).get? b = some o := fun b o nb eo => by
    rw [Heap.get?_update_other _ _ (Ne.symm nb)]
    exact eo
  refine stop_raised (hot_in1 (hot_at hot hne keep)) fun hh e k he => q hh e (fun b o nb eo => k b o (keep b o nb eo)) he
/-- a tuple's iterator at its end -/
theorem next_tup_hot {it t x1 : Addr} {i : Nat} {items : Array Value} {Q : Option Value → Shared → Prop} (hot : HotAt A x1 s.heap) (hne : x1 ≠ it) (hit : IsTupIter s.heap it t i) (ht : IsTup s.heap t items) (hx : items[i]? = none)
    (q : ∀ hh, Heap.ExtBut it s.heap hh → Q none { s with heap := hh }) : wpAny (model prog w) A (pyNext (.ref it)) Q E s := by
  obtain ⟨oi, hoi, hci, hdi⟩ := id hit
  obtain ⟨ol, hol, _, nl, hdl⟩ := ht
  unfold pyNext
  refine wpAny_bind (wpAny_attempt (wpAny_callSpecial?_slot (name := Str.ofString "__next__") hit.typeIs slot_tupleiter_next (wpAny_call_entry slot_tupleiter_next hit.typeIs entry_tupleiter_next ?_ (args_tupleiter_next _))))
  show wpAny _ _ (do let z ← field (.ref it) 0; _) _ _ s
  refine wpAny_bind (wpAny_field hoi hdi (x := .ref t) rfl ?_)
  show wpAny _ _ (if (Value.ref t == Value.none) = true then _ else _) _ _ s
  rw [if_neg (fun z : (Value.ref t == Value.none) = true => Bool.false_ne_true z)]
  show wpAny _ _ (do let z ← field (.ref it) 1; _) _ _ s
  refine wpAny_bind (wpAny_field hoi hdi (x := .int i 0) rfl ?_)
  show wpAny _ _ (do let z ← seqItems? (.ref t); _) _ _ s
  refine wpAny_bind (wpAny_seqItems hol hdl ?_)
  simp only [Int.toNat_natCast, hx]
  refine wpAny_bind (wpAny_rule (wpAny_bind (wpAny_setField hoi hdi (by simp) ?_)))
  have keep : ∀ b o, b ≠ it → s.heap.get? b = some o → (s.heap.update it (Obj.mapFields (·.setIfInBounds 0 Value.none))).get? b = some o := fun b o nb eo => by
    rw [Heap.get?_update_other _ _ (Ne.symm nb)]
    exact eo
  refine stop_raised (hot_in1 (hot_at hot hne keep)) fun hh e k ⟨oe, he, hc⟩ => ?_
  refine wpAny_bind (wpAny_isInstance (T := "StopIteration") (b := true) ⟨oe, he, hc⟩ isSubtype_stop ?_)
  exact wpAny_pure (q hh fun b o nb eo => k b o (keep b o nb eo))
end
end Hx

namespace Hx
open PySem PySem.Spec PyProof.Rows L2 HotX L2H

section
variable {prog : Program} {w : World} {A : Around} {E : Value → Shared → Prop} {s : Shared}
/-- zip's end -/
theorem zip_end_hot {z TI TO i1 i2 l1 l2 x1 : Addr} {k1 k2 : Nat} {xs ys : Array Value} {a b : Value} {Q : Option Value → Shared → Prop} (hot : HotAt A x1 s.heap) (nz : x1 ≠ z) (nT : x1 ≠ TO) (n1 : x1 ≠ i1) (n2 : x1 ≠ i2) (D : ZipApart z TI TO i1 i2 l1 l2)
    (hz : IsZip s.heap z TI TO .none) (hTI : IsPair s.heap TI (.ref i1) (.ref i2)) (hTO : IsPair s.heap TO a b)
    (h1 : s.heap.IsListIter i1 l1 k1) (h2 : s.heap.IsListIter i2 l2 k2) (hl1 : s.heap.IsList l1 xs) (hl2 : s.heap.IsList l2 ys) (hend : xs[k1]? = none)
    (q : ∀ hh, (∀ c o, c ≠ z → c ≠ TO → c ≠ i1 → c ≠ i2 → s.heap.get? c = some o → hh.get? c = some o) → Q none { s with heap := hh }) : wpAny (model prog w) A (pyNext (.ref z)) Q E s := by
  have hT : s.TypeIs (.ref z) "zip" := ⟨_, hz, rfl⟩
  unfold pyNext
  refine wpAny_bind (wpAny_attempt (wpAny_callSpecial?_slot (name := Str.ofString "__next__") hT F.slot_zip_next (wpAny_call_entry F.slot_zip_next hT F.entry_zip_next ?_ (F.args_zip_next_1 _))))
  show wpAny _ _ (do let u ← field (.ref z) 2; _) _ _ _
  refine wpAny_bind (wpAny_field hz rfl (x := .bool false) rfl ?_)
  show wpAny _ _ (do let u ← field (.ref z) 3; _) _ _ _
  refine wpAny_bind (wpAny_field hz rfl (x := .ref TI) rfl ?_)
  refine wpAny_bind (wpAny_seqItems hTI rfl ?_)
  show wpAny _ _ (do let u ← Builtin.SmallTypes.ownedTupleIsFree (.ref z); _) _ _ _
  refine wpAny_bind ?_
  unfold Builtin.SmallTypes.ownedTupleIsFree
  refine wpAny_bind (wpAny_field hz rfl (x := .none) rfl (wpAny_pure ?_))
  simp only [if_true]
  refine wpAny_bind (wpAny_rule ?_)
  refine wpAny_bind (wpAny_field hz rfl (x := .ref TO) rfl ?_)
  refine wpAny_bind (wpAny_setField_rec hz (by simp) fun g1 hz1 sb1 => ?_)
  replace hz1 : IsZip g1 z TI TO .ellipsis := hz1
  refine wpAny_bind ?_
  simp only [List.zipIdx_cons, List.zipIdx_nil, List.forIn_cons, List.forIn_nil]
  refine wpAny_bind (wpAny_bind (wpAny_onRaise ?_))
  show wpAny _ _ (do let u ← Builtin.SmallTypes.nextOf (.ref i1); _) _ _ _
  refine wpAny_bind (nextOf_list_hot (hot_at (A := A.in1) hot nz sb1.extBut) n1 (h1.extBut sb1.extBut D.i1z) (hl1.extBut sb1.extBut D.l1z) hend fun g2 e eb he => ?_)
  obtain ⟨oe, hoe, hce⟩ := he
  have hz2 : IsZip g2 z TI TO .ellipsis := eb _ _ D.i1z.symm hz1
  have nez : e ≠ z := fun u => by
    rw [u, hz2] at hoe
    cases hoe
    simp at hce
  refine wpAny_setField_rec hz2 (by simp) fun g3 _ sb3 => ?_
  refine wpAny_bind (wpAny_isInstance (T := "StopIteration") (b := true) ⟨oe, sb3.extBut _ _ nez hoe, hce⟩ isSubtype_stop ?_)
  exact wpAny_pure (q g3 fun c o c1 _ c3 _ u => sb3.extBut _ _ c1 (eb _ _ c3 (sb1.extBut _ _ c1 u)))
/-- a tuple is taken apart -/
theorem unpack_hot {env : Env} {elts : List Expr} {k : Nat} {pos : Pos} {t x1 : Addr} {items : Array Value} {Q : Unit → Shared → Prop} (hot : HotAt A x1 s.heap) (ht : IsTup s.heap t items)
    (hn : (assignEach elts env).length = items.size) (hstar : (assignEach elts env).findIdx? (·.1) = none)
    (q : ∀ hh, Heap.ExtBut s.heap.objs.size s.heap hh → wpAny (model prog w) A (assignInOrder ((assignEach elts env).map (·.2)) items.toList) Q E { s with heap := hh }) :
    wpAny (model prog w) A (assign (.Tuple elts k pos) env (.ref t)) Q E s := by
  rw [assign_Tuple]
  refine wpAny_bind (wpAny_standAt ?_)
  have hlt : t ≠ s.heap.objs.size := by
    obtain ⟨o, ho, _⟩ := ht
    exact Nat.ne_of_lt (Heap.lt_size ho)
  have hx : x1 ≠ s.heap.objs.size := by
    obtain ⟨_, o, _, ho, _⟩ := hot
    exact Nat.ne_of_lt (Heap.lt_size ho)
  unfold unpack
  rw [hn, hstar]
  refine wpAny_bind (wpAny_holding ?_)
  unfold unpackItems
  refine wpAny_bind ?_
  unfold notIterableAtAll
  refine wpAny_bind (wpAny_specialOf ht.typeIs slot_tuple_iter.lookup ?_)
  refine wpAny_pure ?_
  simp only [Bool.false_eq_true, if_false]
  refine wpAny_bind (wpAny_holding (iter_tuple ht ?_))
  refine wpAny_bind (wpAny_holding (draw_tuple hlt items.size 0 _ _ ⟨_, Heap.get?_push_size _ rfl, rfl, rfl⟩ (ht.push _) (by omega) fun g1 hit sb => ?_))
  have all : List.take items.size (List.drop 0 items.toList) = items.toList := by
    rw [List.drop_zero]
    exact List.take_of_length_le (by simp)
  rw [all, if_neg (by simp)]
  have ht1 : IsTup g1 t items := (ht.push _).extBut sb.extBut hlt
  have kp : ∀ b o, b ≠ s.heap.objs.size → s.heap.get? b = some o → g1.get? b = some o := fun b o nb eo => sb.extBut b o nb (Heap.get?_push_of_some _ eo)
  refine wpAny_bind (wpAny_holding (next_tup_hot (hot_at hot hx kp) hx hit ht1 (by simp) fun g2 eb => ?_))
  simp only [Option.isSome_none, Bool.false_eq_true, if_false]
  exact wpAny_pure (q g2 fun b o nb eo => eb b o nb (kp b o nb eo))
end
section
variable {X : Cx}
theorem HotC.pin {pins : List (Addr × Obj)} {σ : L2.St} {H : Hp} {s : Shared} (c : HotC X) (I : Inv X pins σ H s) : ∃ p : Addr × Obj, HotAt X.A p.1 s.heap ∧ p ∈ X.pn := by
  obtain ⟨p, ⟨hh, vs, e, c1⟩, hp⟩ := c
  exact ⟨p, ⟨hh, p.2, vs, (I.pin p (List.mem_append_left _ hp)).1, e, c1⟩, hp⟩
theorem pg_tupH {es : List Expr} {k : Nat} {t : TGs} {n : Nat} {pos : Pos} (hc : HotC X) (h : PGs X es t) (hn : (assignEach es X.env).length = n := by rfl) (hst : (assignEach es X.env).findIdx? (·.1) = none := by rfl) : PG X (.Tuple es k pos) (gTup X.K n t) := by
  refine ⟨fun pins s σ H v u Q I r hw => ?_⟩
  obtain ⟨a, xs, e1, hq, hl, hw⟩ := hw
  subst e1
  cases r
  obtain ⟨its, rv, ht, hz⟩ := I.tuple hq
  obtain ⟨p, hot, _⟩ := HotC.pin hc I
  refine unpack_hot hot ht (by simp [hn, ← hl, rv.length]) hst fun hh kx => ?_
  exact h.run pins _ σ H xs _ Q (I.kept (t' := s.toks) fun b o eo => kx b o (Nat.ne_of_lt (Heap.lt_size eo)) eo) (by simpa using rv) hw
theorem turn_zipH {P : Program} {w : World} {K : PySem.W.Frag} {elts : List Expr} {kk : Nat} {tpos : Pos} {a b z TI TO i1 i2 : Addr} (D : ZipApart z TI TO i1 i2 a b) (J0 : It) (hJg : ∀ i H, J0.go i H → (Itz K a b).go i H) (hJy : ∀ i H x H', (Itz K a b).yld i H x H' → J0.yld i H x H')
    (hJs : ∀ i H, J0.stop i H → ∃ xs ys : List V, SqL K H a xs ∧ SqL K H b ys ∧ xs.length ≤ i) :
    TurnH P w K (.Tuple elts kk tpos) J0 [z, TI, TO, i1, i2] z (fun i h => IsZip h z TI TO .none ∧ IsPair h TI (.ref i1) (.ref i2) ∧ (∃ x y, IsPair h TO x y) ∧ h.IsListIter i1 a i ∧ h.IsListIter i2 b i) := by
  have T := turn_zip (P := P) (w := w) (K := K) (elts := elts) (kk := kk) (tpos := tpos) D
  refine ⟨T.mem, T.obj, T.keep, ?_, ?_, T.self⟩
  · intro X hP hw hK hc i pins s σ H E I hf st hg
    subst hP hw hK
    obtain ⟨hz, hTI, ⟨x0, y0, hTO⟩, h1, h2⟩ := st
    obtain ⟨xs, ys, x, y, hqx, hqy, hx, hy⟩ := hJg _ _ hg
    obtain ⟨its, rv, pl, _⟩ := I.list hqx
    obtain ⟨its2, rv2, pl2, _⟩ := I.list hqy
    obtain ⟨u, hu, ru⟩ := rv.get hx
    obtain ⟨u2, hu2, ru2⟩ := rv2.get hy
    have zlt := Heap.lt_size hz
    refine wpAny_pyNext_zip_item D hz hTI hTO h1 h2 pl.isList pl2.isList (x := u) (y := u2) (by simpa using hu) (by simpa using hu2) fun g1 z1 TO1 it1 it2 hT hsz hk => ?_
    refine ⟨_, rfl, wpAny_letOwnedTupleGo_zip (s := { s with heap := g1 }) z1 fun g2 z2 sb => ?_⟩
    have hT2 : g2.get? s.heap.objs.size = some { cls := .type "tuple", data := .seq #[u, u2] } := (sb.2 _ (Nat.ne_of_gt zlt)).trans hT
    have fresh : ObjOk X.prog X.w (upd H s.heap.objs.size (.tup [x, y])) g2 s.heap.objs.size (.tup [x, y]) := ⟨by show 2 ≤ sizeLine; decide, [u, u2], .cons ru (.cons ru2 .nil), ⟨_, hT2, rfl, _, rfl⟩⟩
    have out : ∀ c o, c ∉ [z, TI, TO, i1, i2] → s.heap.get? c = some o → g2.get? c = some o := fun c o nc eo => by
      have nn : c ≠ z ∧ c ≠ TI ∧ c ≠ TO ∧ c ≠ i1 ∧ c ≠ i2 := by simpa using nc
      exact (sb.2 c nn.1).trans (hk c o nn.1 nn.2.2.1 nn.2.2.2.1 nn.2.2.2.2 eo)
    have I1 : Inv X pins σ (upd H s.heap.objs.size (.tup [x, y])) { s with heap := g2 } := I.turnedNew (t' := s.toks) (ch := [z, TI, TO, i1, i2]) out hf (Nat.le_refl _) fresh
    refine ⟨.ref s.heap.objs.size, _, I1, rfl, hJy _ _ _ _ ⟨_, x, y, rfl, I.hok.fresh (Nat.le_refl _), rfl, fun l hl => by rw [I.list_inj hl hqx]; exact hx, fun l hl => by rw [I.list_inj hl hqy]; exact hy⟩, ⟨z2, (sb.2 _ D.TIz).trans (hk _ _ D.TIz D.TITO D.TIi1 D.TIi2 hTI), ⟨u, u2, (sb.2 _ D.TOz).trans TO1⟩, it1.at fun o eo => (sb.2 _ D.i1z).trans eo, it2.at fun o eo => (sb.2 _ D.i2z).trans eo⟩, fun c hc2 => ?_⟩
    obtain ⟨oc, eoc, _⟩ := T.obj i s.heap ⟨hz, hTI, ⟨x0, y0, hTO⟩, h1, h2⟩ c hc2
    rw [upd_ne (Nat.ne_of_lt (Heap.lt_size eoc))]
    exact (hf c hc2).1
  · intro X hP hw hK hc i pins s σ H E I hf st hg
    subst hP hw hK
    obtain ⟨hz, hTI, ⟨x0, y0, hTO⟩, h1, h2⟩ := st
    obtain ⟨xs, ys, hqx, hqy, hend⟩ := hJs _ _ hg
    obtain ⟨its, rv, pl, _⟩ := I.list hqx
    obtain ⟨its2, rv2, pl2, _⟩ := I.list hqy
    have len1 := rv.length
    obtain ⟨p, hot, hp⟩ := HotC.pin hc I
    have np : ∀ c ∈ [z, TI, TO, i1, i2], p.1 ≠ c := fun c hc2 => (hf c hc2).2.2.2.2.2 p (List.mem_append_left _ hp)
    refine zip_end_hot hot (np z (by simp)) (np TO (by simp)) (np i1 (by simp)) (np i2 (by simp)) D hz hTI hTO h1 h2 pl.isList pl2.isList (by simp; omega) fun hh hk => ⟨rfl, I.turnedL (t' := s.toks) (ch := [z, TI, TO, i1, i2]) (fun c o nc eo => ?_) hf⟩
    have nn : c ≠ z ∧ c ≠ TI ∧ c ≠ TO ∧ c ≠ i1 ∧ c ≠ i2 := by simpa using nc
    exact hk c o nn.1 nn.2.2.1 nn.2.2.2.1 nn.2.2.2.2 eo
/-- two lists of one length, side by side -/
def Ity (K : PySem.W.Frag) (a b : Addr) : It := { Itz K a b with stop := fun i H => ∃ xs ys : List V, SqL K H a xs ∧ SqL K H b ys ∧ xs.length ≤ i }
def iZipH (K : PySem.W.Frag) (ta : TA) : TI := fun σ H R => ta σ H fun vs H1 => ∃ a b xs ys, vs = [.ref a, .ref b] ∧ SqL K H1 a xs ∧ SqL K H1 b ys ∧ R (Ity K a b) H1
theorem pi_zipH {e e2 : Expr} {ta : TA} {p pos tpos : Pos} {elts : List Expr} {kk : Nat} (hg : Gl X "zip") (hm : X.mg "zip" = none) (ha : PA X [e, e2] ta)
    (hs : starEach [e, e2] X.env = (false, eval e X.env) :: starEach [e2] X.env := by rfl) (hpl : (backTo pos (starEach [e2] X.env)).any (·.1) = false := by rfl) :
    PIH X (.Tuple elts kk tpos) (.Call (.Name "zip" p) [e, e2] [] pos) (iZipH X.K ta) := by
  refine ⟨fun pins s σ H R I h => ?_⟩
  refine Call_ (ld_blt I hg hm PyProof.Rows.boot_zip (PyProof.Rows.callWith_type1 (thn (ha.run pos pins s σ H _ I h) fun us s1 ⟨vs, H1, I1, r1, q1⟩ => ?_) hs hpl))
  obtain ⟨a, b, xs, ys, ex, hqx, hqy, q⟩ := q1
  subst ex
  have eu : us = [.ref a, .ref b] := by
    cases r1 with
    | cons r rr =>
      cases rr with
      | cons r' rr =>
        cases rr
        cases r
        cases r'
        rfl
  subst eu
  obtain ⟨its, rv, p1, _⟩ := I1.list hqx
  obtain ⟨its2, rv2, p2, _⟩ := I1.list hqy
  refine call_zip_2 p1.isList p2.isList fun hh hz hTI hTO it1 it2 hsz hk => wpAny_pyIter_zip hz ?_
  refine ⟨s1.heap.objs.size + 4, [s1.heap.objs.size + 4, s1.heap.objs.size + 2, s1.heap.objs.size + 3, s1.heap.objs.size, s1.heap.objs.size + 1], _, _, H1, rfl, I1.kept (t' := s1.toks) hk,
    turn_zipH (PySem.W.ktu_apart s1.heap.objs.size a b p1.lt p2.lt) (Ity X.K a b) (fun _ _ g => g) (fun _ _ _ _ y => y) (fun _ _ z => z), ⟨hz, hTI, ⟨_, _, hTO⟩, it1, it2⟩, fun c hcm => ?_, q⟩
  have hle : s1.heap.objs.size ≤ c := by
    simp only [List.mem_cons, List.not_mem_nil, or_false] at hcm
    rcases hcm with rfl | rfl | rfl | rfl | rfl
    · exact Nat.le_add_right _ _
    · exact Nat.le_add_right _ _
    · exact Nat.le_add_right _ _
    · exact Nat.le_refl _
    · exact Nat.le_add_right _ _
  exact I1.fpOk hle (I1.hok.fresh hle)
end
end Hx

namespace Hx
open PySem PySem.Spec PyProof.Rows L2 HotX L2H
/-- a comprehension's block, the handled exception's object p pinned -/
abbrev blkH (X : Cx) (s : Shared) (H : Hp) (scope : Scope) (cenv : Env) (fp : List Addr) (p : Addr × Obj) : Cx := { X.blk s H scope cenv fp with pn := [p] }
section
variable {X : Cx}
theorem blkH_inv {pins : List (Addr × Obj)} {σ τ : L2.St} {H H' : Hp} {s s' s0 : Shared} {scope : Scope} {cenv : Env} {fp : List Addr} {p : Addr × Obj} (I : Inv (X.blk s0 H scope cenv fp) [] τ H' s') (I0 : Inv X pins σ H s) (hp : p ∈ X.pn)
    (hg : s'.heap.get? p.1 = some p.2) (hn : H' p.1 = none) (hl : p.1 ≠ cenv.locals) : Inv (blkH X s0 H scope cenv fp p) [] τ H' s' := by
  have P0 := I0.pin p (List.mem_append_left _ hp)
  refine ⟨⟨I.ok.mod, I.ok.kind, I.ok.glob, I.ok.blt, I.ok.above, I.ok.inj, I.ok.has, I.ok.cab, I.ok.hd, I.ok.frames, I.ok.stk, I.ok.exf, I.ok.bs, I.ok.bsz, I.ok.noex, I.ok.exfs, I.ok.funs, I.ok.frf⟩,
    I.os, I.bare, I.base, I.loc, I.cell, I.free, I.freeC, fun q hq => ?_, I.hok, I.len⟩
  have eq : q = p := by simpa using (show q ∈ [p] ++ ([] : List (Addr × Obj)) from hq)
  subst eq
  exact ⟨hg, hn, hl, fun z => (List.mem_cons.mp (I0.stkSub q.1 z)).elim P0.2.2.1 P0.2.2.2.1, P0.2.2.2.2⟩
/-- [elt for target in iter if ..] where an exception is handled -/
theorem pe_lcH {elt tg iter : Expr} {ifs : List Expr} {scope : Scope} {own : List (Str × Nat)} {pos : Pos} {wi : TI} {g : TG} {tt : TT} {te : TE} (hc : HotC X) (hN : X.N.Nodup) (hi : PIH X tg iter wi) (ok : BlkOk X.N X.env.scope scope own)
    (hg : ∀ (s : Shared) (H : Hp) (C : Addr) (cl : List (Str × Addr)) (fp : List Addr) (p : Addr × Obj), Hot1 X.A p → PG (blkH X s H scope (compEnvC scope cl C X.env) fp p) tg g)
    (ht : ∀ (s : Shared) (H : Hp) (C : Addr) (cl : List (Str × Addr)) (fp : List Addr) (p : Addr × Obj), PTs (blkH X s H scope (compEnvC scope cl C X.env) fp p) ifs tt)
    (he : ∀ (s : Shared) (H : Hp) (C : Addr) (cl : List (Str × Addr)) (fp : List Addr) (p : Addr × Obj), PE (blkH X s H scope (compEnvC scope cl C X.env) fp p) elt te) (hs : ∀ x, foldedSetIterable iter X.env x = pure x := by intro _; rfl) :
    PE X (.ListComp elt [⟨tg, iter, ifs, 0⟩] scope pos) (tLc wi g tt te (own.map (·.2))) := by
  refine ⟨fun pins s σ H Q I h => ?_⟩
  rw [eval_ListComp]
  obtain ⟨p, hot1, hp⟩ := id hc
  have free : ∀ y ∈ scope.names, y.2 = .free → ∃ c, X.env.cells.lookup y.1 = some c := fun y hy e => I.ok.has _ (by
    rcases ok.free y hy e with k | k
    · exact .inl k
    · exact .inr k)
  refine wpAny_comprehension_free (use := none) rfl hs (closure_ok free) ok.kind (fun y hy e => by rw [ok.uniq y hy, e]) (thn (hi.run pins s σ H _ I h) fun xv s1 hx => thn hx fun itv s2 h2 => ?_)
  obtain ⟨it, fp, tn, J, H2, eit, I2, T, st2, f2, q⟩ := h2
  subst eit
  refine wpAny_newObj_type (newEnv_comp ?_) (by show 0 ≤ sizeLine; decide)
  generalize eD : s2.heap.objs.size = D
  obtain ⟨W, ⟨m0, w0⟩, turn⟩ := q D (I2.hok.fresh (Nat.le_of_eq eD))
  -- the list that is made
  generalize es3 : ({ s2 with heap := s2.heap.push { cls := .type "list", data := .seq ([] : List Value).toArray } } : Shared) = s3
  have hp3 : s3.heap = s2.heap.push { cls := .type "list", data := .seq ([] : List Value).toArray } := by rw [← es3]
  have I3 : Inv X pins σ (upd H2 D (.lst [])) s3 := by
    rw [← es3]
    refine I2.laid (t' := s2.toks) (fun b o eo => Heap.get?_push_of_some _ eo) (Nat.le_of_eq eD) ⟨Nat.zero_le _, [], 0, .nil, ?_⟩
    rw [← eD]
    exact Heap.get?_push_size _ rfl
  have f3 : ∀ b ∈ fp, FpOk X pins (upd H2 D (.lst [])) b ∧ b < s3.heap.objs.size := fun b hb => by
    obtain ⟨o, eo, _⟩ := T.obj _ _ st2 b hb
    have lt := Heap.lt_size eo
    refine ⟨⟨?_, (f2 b hb).2⟩, by rw [hp3, Heap.size_push]; exact Nat.lt_succ_of_lt lt⟩
    rw [upd_ne (by rw [← eD]; exact Nat.ne_of_lt lt)]
    exact (f2 b hb).1
  have st3 : tn 0 s3.heap := T.keep _ _ _ st2 fun b _ o eo => by rw [hp3]; exact Heap.get?_push_of_some _ eo
  have P3 := I3.pin p (List.mem_append_left _ hp)
  have B := block_start I3 ok hN f3
  have PG' := hg s3 (upd H2 D (.lst [])) s3.heap.objs.size (cellsFrom (s3.heap.objs.size + 1) scope.names (cloFrom X.env.cells scope.names [])) fp p hot1
  have PT' := ht s3 (upd H2 D (.lst [])) s3.heap.objs.size (cellsFrom (s3.heap.objs.size + 1) scope.names (cloFrom X.env.cells scope.names [])) fp p
  have PE' := he s3 (upd H2 D (.lst [])) s3.heap.objs.size (cellsFrom (s3.heap.objs.size + 1) scope.names (cloFrom X.env.cells scope.names [])) fp p
  show codeAny _ _ (.compStart (.ListComp elt [⟨tg, iter, ifs, 0⟩] scope pos) 0 (.ref it) (.ref D) (compEnvC scope (cellsFrom (s3.heap.objs.size + 1) scope.names (cloFrom X.env.cells scope.names [])) s3.heap.objs.size X.env)) (compPost (model X.prog X.w) X.A X.xe none _ (.ref D) s3.heap.objs.size) { s3 with heap := pushCells (s3.heap.push { cls := .type "dict", data := .dict #[] }) scope.names }
  have nfp : ∀ b ∈ fp, (upd H2 D (.lst [])) b = none := fun b hb => (f3 b hb).1.1
  generalize ece : compEnvC scope (cellsFrom (s3.heap.objs.size + 1) scope.names (cloFrom X.env.cells scope.names [])) s3.heap.objs.size X.env = ce at B PG' PT' PE' ⊢
  have cL : ce.locals = s3.heap.objs.size := by subst ece; rfl
  generalize eH3 : upd H2 D (.lst []) = H3 at I3 B PG' PT' PE' w0 nfp f3 P3
  have keep4 : ∀ b o, s3.heap.get? b = some o → (pushCells (s3.heap.push { cls := .type "dict", data := .dict #[] }) scope.names).get? b = some o := fun b o eo => pushCells_keeps _ _ _ _ (Heap.get?_push_of_some _ eo)
  have B4 : Inv (blkH X s3 H3 scope ce fp p) [] (wipe σ (own.map (·.2))) H3 { s3 with heap := pushCells (s3.heap.push { cls := .type "dict", data := .dict #[] }) scope.names } := blkH_inv B I3 hp (keep4 _ _ P3.1) P3.2.1 (by rw [cL]; exact Nat.ne_of_lt (Heap.lt_size P3.1))
  generalize es4 : ({ s3 with heap := pushCells (s3.heap.push { cls := .type "dict", data := .dict #[] }) scope.names } : Shared) = s4 at B4 ⊢
  have st4 : tn 0 s4.heap := T.keep _ _ _ st3 fun b _ o eo => by rw [← es4]; exact keep4 b o eo
  have hotB : HotC (blkH X s3 H3 scope ce fp p) := ⟨p, hot1, List.mem_singleton.mpr rfl⟩
  have stat : ∀ {τ : L2.St} {H' : Hp} {s' : Shared}, Inv (blkH X s3 H3 scope ce fp p) [] τ H' s' → (∀ b ∈ fp, H' b = none) → ∀ b ∈ fp, FpOk (blkH X s3 H3 scope ce fp p) [] H' b := fun {τ H' s'} I' hn b hb =>
    ⟨hn b hb, (I'.ok.exf b hb).1, I'.ok.exfs b hb, .inl hb, fun x c eo => (I'.ok.exf b hb).2 x c eo, fun y hy => by
      have ey : y = p := by simpa using (show y ∈ [p] ++ ([] : List (Addr × Obj)) from hy)
      rw [ey]
      exact (f3 b hb).1.2.2.2.2.2 p (List.mem_append_left _ hp)⟩
  have loop : codeAny (model X.prog X.w) X.A (.compLoop (.ListComp elt [⟨tg, iter, ifs, 0⟩] scope pos) 0 (.ref it) (.ref D) ce) (compPost (model X.prog X.w) X.A X.xe none (EP X pins σ Q) (.ref D) s3.heap.objs.size) s4 := by
    refine compLoop_any (fun n s' => ∃ i H', Inv (blkH X s3 H3 scope ce fp p) [] (wipe σ (own.map (·.2))) H' s' ∧ tn i s'.heap ∧ (∀ b ∈ fp, H' b = none) ∧ W i n H') ?_ m0 ⟨0, H3, B4, st4, nfp, w0⟩
    rintro n s5 ⟨i, H5, I5, st5, n5, w5⟩
    rcases turn i n H5 w5 with ⟨stop, qq⟩ | ⟨go, Nx, hNx, step⟩
    · refine thnF (T.done (blkH X s3 H3 scope ce fp p) rfl rfl rfl hotB i [] s5 _ H5 (fun _ _ => False) I5 (stat I5 n5) st5 stop) fun r s6 ⟨hr, I6⟩ => ?_
      subst hr
      have I7 : Inv X pins σ H5 s6 := I3.call' (ch := fp) I6.os I6.base I6.hok I6.bare fun b hb => ⟨(f3 b hb).1.2.2.2.1, (f3 b hb).1.2.1, (f3 b hb).1.2.2.2.2.1, (f3 b hb).1.2.2.2.2.2⟩
      have nC : H5 s3.heap.objs.size = none := by
        have z : H5 ce.locals = none := I6.free
        rwa [cL] at z
      obtain ⟨m, hn, _⟩ := I6.loc
      have hn : s6.heap.Ns ce.locals m := hn
      rw [cL] at hn
      obtain ⟨g0, g1, g2, g3, g4, g5⟩ := I3.fpOk (H' := H5) (Nat.le_refl s3.heap.objs.size) nC
      exact ⟨m, hn, fun h'' sb => ⟨.ref D, H5, I7.turned (t' := s6.toks) (fun b o hb eo => (sb.2 b hb).trans eo) g0 g1 g3 g4 g5, rfl, qq⟩⟩
    · refine thnF (T.item (blkH X s3 H3 scope ce fp p) rfl rfl rfl hotB i [] s5 _ H5 (fun _ _ => False) I5 (stat I5 n5) st5 go) fun r s6 ⟨u, hr, h6⟩ => ?_
      subst hr
      refine thnF h6 fun _ s7 ⟨x, H7, I7, r7, y7, st7, n7⟩ => ?_
      have I7' := I7.pinned (stat I7 n7) (T.obj _ _ st7)
      refine thnF (PG'.run _ s7 _ H7 x u _ I7' r7 (step x H7 y7)) fun _ s8 ⟨σ8, H8, I8, hw8, q8⟩ => ?_
      refine thnF (PT'.run _ s8 σ8 H8 _ I8 q8) fun b s9 ⟨H9, I9, q9⟩ => ?_
      have again : ∀ {s' : Shared} {H' : Hp}, Inv (blkH X s3 H3 scope ce fp p) ([] ++ pinsAt fp s7.heap) σ8 H' s' → Nx H' → ∃ m, m < n ∧ ∃ i H', Inv (blkH X s3 H3 scope ce fp p) [] (wipe σ (own.map (·.2))) H' s' ∧ tn i s'.heap ∧ (∀ b ∈ fp, H' b = none) ∧ W i m H' := fun {s' H'} I' nx => by
        obtain ⟨m', hm, w'⟩ := hNx H' nx
        have pinned : ∀ b ∈ fp, ∀ o, s7.heap.get? b = some o → s'.heap.get? b = some o ∧ H' b = none := fun b hb o eo => by
          have z := I'.pin (b, o) (List.mem_append_right _ (List.mem_append_right _ (mem_pinsAt hb eo)))
          exact ⟨z.1, z.2.1⟩
        refine ⟨m', hm, i + 1, H', (I'.unpinned (pins := [])).weak (by rw [← hw8, wipe_length]) (fun j v eo => ?_), T.keep _ _ _ st7 fun b hb o eo => (pinned b hb o eo).1, fun b hb => ?_, w'⟩
        · rw [← hw8] at eo
          exact (wipe_some eo).1
        · obtain ⟨o, eo, _⟩ := T.obj _ _ st7 b hb
          exact (pinned b hb o eo).2
      cases b with
      | false =>
        simp only [Bool.false_eq_true, if_false] at q9 ⊢
        exact again I9 q9
      | true =>
        simp only [if_true] at q9 ⊢
        refine thnF (PE'.run _ s9 σ8 H9 _ I9 q9) fun z s10 ⟨yv, H10, I10, r10, acc, hD10, hz10, nx⟩ => ?_
        exact app_ok (X := blkH X s3 H3 scope ce fp p) I10 hD10 hz10 r10 fun s11 I11 => again I11 nx
  exact codeAny_compStart_list loop (T.self X.A 0 _ _ _ st4 loop)
end
end Hx

/-! The def that names an error's classes, called while the error is handled. -/
namespace Hx
open PySem PySem.Spec PyProof.Rows L2 HotX L2H Ev
/-- the exception's own dict, if it has one, stands -/
def DctOk (H : Hp) (o : Obj) : Prop := ∀ dd, o.dict = some dd → ∃ fs, H dd = some (.xd fs)
theorem DctOk.ext {H H' : Hp} {o : Obj} (h : DctOk H o) (k : ∀ b u, H b = some u → H' b = some u) : DctOk H' o := fun dd e => by
  obtain ⟨fs, q⟩ := h dd e
  exact ⟨fs, k _ _ q⟩
theorem DctOk.none {H : Hp} {o : Obj} (h : o.dict = .none) : DctOk H o := fun dd e => by
  rw [h] at e
  cases e
/-- isinstance(e, c), e the exception that is handled -/
def rIsP (K : PySem.W.Frag) (D : Addr) (p : Addr × Obj) : List V → Hp → VK → Prop := fun xs H Q => DctOk H p.2 ∧ rIsE K D p.1 xs H Q
theorem cls_some {K : PySem.W.Frag} {D : Addr} (h : PySem.W.hasDictIn K D = true) : (PySem.W.clsIn K D).isSome = true := by
  unfold PySem.W.hasDictIn at h
  cases q : PySem.W.clsIn K D with
  | none =>
    rw [q] at h
    cases h
  | some cd => rfl
theorem call_isP {Y : Cx} {D : Addr} {p : Addr × Obj} (C : ExcC Y.K D) (hp : p ∈ Y.pn) (hz : p.2.cls = .ref D) (hf : ∃ vs, p.2.data = .fields vs) : CallR Y (.builtin "isinstance") (rIsP Y.K D p) := by
  intro pins s σ H xs us Q I r h
  obtain ⟨hdk, c, cv, b, rfl, hcv, e, q⟩ := h
  cases r with
  | cons rx rr =>
    cases rr with
    | cons rt rr =>
      cases rr
      cases rx
      cases (hcv _ rt)
      have hget := (I.pin p (List.mem_append_left _ hp)).1
      obtain ⟨a, oe⟩ := p
      obtain ⟨vs, hv⟩ := hf
      have J : ∃ od, PySem.W.InstAt s.heap a oe D od := by
        obtain ⟨oc, od, oda, osl⟩ := oe
        dsimp only at hz hv
        subst hz hv
        cases od with
        | none => exact ⟨none, hget, rfl, rfl, trivial⟩
        | some dd =>
          obtain ⟨fs, hx⟩ := hdk dd rfl
          have hx2 : ObjOk Y.prog Y.w H s.heap dd (.xd fs) := I.hok dd _ hx
          obtain ⟨mA, ⟨ob, es, ep, e1, e2, e3⟩, hr⟩ := hx2
          exact ⟨some ob, hget, rfl, rfl, e1⟩
      obtain ⟨od, J⟩ := J
      exact PySem.W.kia_one (PySem.W.kitx_exc (cls_some C.hd) C.hg C.hk C.hs C.ha C.hn C.ht C.hm) I.kIn J e (fun z => nomatch z) fun tk => ⟨.bl b, H, I.kept (t' := tk) fun _ _ z => z, rfl, q⟩
/-- the words whose signs are set -/
def sel : List Str → List Bool → List Str
  | w :: ws, true :: gs => w :: sel ws gs
  | _ :: ws, false :: gs => sel ws gs
  | _, _ => []
theorem sel_snoc : ∀ (ws : List Str) (gs : List Bool) (w : Str) (g : Bool), ws.length = gs.length → sel (ws ++ [w]) (gs ++ [g]) = sel ws gs ++ (if g then [w] else [])
  | [], [], w, g, _ => by cases g <;> rfl
  | [], _ :: _, _, _, h => by cases h
  | _ :: _, [], _, _, h => by cases h
  | x :: ws, b :: gs, w, g, h => by
    have ih := sel_snoc ws gs w g (by simpa using h)
    cases b
    · exact ih
    · show x :: sel (ws ++ [w]) (gs ++ [g]) = x :: sel ws gs ++ _
      rw [ih]
      rfl
theorem sel_len : ∀ (ws : List Str) (gs : List Bool), (sel ws gs).length ≤ ws.length
  | [], gs => by cases gs <;> exact Nat.le_refl _
  | _ :: ws, [] => Nat.zero_le _
  | _ :: ws, true :: gs => Nat.succ_le_succ (sel_len ws gs)
  | _ :: ws, false :: gs => Nat.le_succ_of_le (sel_len ws gs)
theorem SqL.ext {K : PySem.W.Frag} {H H' : Hp} {a : Addr} {xs : List V} (h : SqL K H a xs) (k : ∀ b o, H b = some o → H' b = some o) : SqL K H' a xs := by
  rcases h with (h | ⟨o, h⟩) | h
  · exact .inl (.inl (k _ _ h))
  · exact .inl (.inr ⟨o, k _ _ h⟩)
  · exact .inr h
theorem SqL.inj {K : PySem.W.Frag} {H : Hp} {a : Addr} {xs : List V} (e : H a = some (.lst xs)) : SqL K H a xs := .inl (.inl e)
theorem iteT' {c : Bool} {a b : Prop} (h : c = true) (x : a) : if c = true then a else b := by rw [if_pos h]; exact x
theorem iteF' {c : Bool} {a b : Prop} (h : ¬ c = true) (x : b) : if c = true then a else b := by rw [if_neg h]; exact x
def tTrue (i : Nat) : TT := fun σ H Q => ∃ b, σ[i]? = some (some (.bl b)) ∧ Q b H
/-- the comprehension over both lists -/
theorem lc_sel {K : PySem.W.Frag} {σ : L2.St} {H : Hp} {Q : VK} {a b : Addr} {ws : List Str} {gs : List Bool} {i j : Nat} {ta : TA} (hij : i ≠ j) (hi : i < σ.length) (hj : j < σ.length) (hl : ws.length = gs.length) (hz : ws.length < sizeLine)
    (ht : ∀ R : List V → Hp → Prop, R [.ref a, .ref b] H → ta σ H R) (ha : H a = some (.lst (ws.map V.str))) (hb : H b = some (.lst (gs.map V.bl)))
    (q : ∀ D H', (∀ c o, H c = some o → H' c = some o) → H' D = some (.lst ((sel ws gs).map V.str)) → Q (.ref D) H') :
    tLc (iZipH K ta) (gTup K 2 (gCons (gName i) (gCons (gName j) gNil))) (tTrue j) (tVar i) [i, j] σ H Q := by
  refine ht _ ⟨a, b, _, _, rfl, SqL.inj ha, SqL.inj hb, fun D hD => ?_⟩
  refine ⟨fun k m H' => m = ws.length - k ∧ k ≤ ws.length ∧ (∀ c o, H c = some o → H' c = some o) ∧ H' D = some (.lst ((sel (ws.take k) (gs.take k)).map V.str)), ⟨_, rfl, Nat.zero_le _, fun c o eo => by rw [upd_ne (ne_of_none eo hD)]; exact eo, upd_same⟩, ?_⟩
  rintro k m H' ⟨rfl, hk, ext, hDk⟩
  have ha' := SqL.inj (K := K) (ext _ _ ha)
  have hb' := SqL.inj (K := K) (ext _ _ hb)
  by_cases hlt : k < ws.length
  · right
    have hwk : ws[k]? = some ws[k] := List.getElem?_eq_getElem hlt
    have hgk : gs[k]? = some (gs[k]'(by omega)) := List.getElem?_eq_getElem (by omega)
    refine ⟨⟨_, _, V.str ws[k], V.bl (gs[k]'(by omega)), ha', hb', by rw [List.getElem?_map, hwk]; rfl, by rw [List.getElem?_map, hgk]; rfl⟩,
      fun H2 => (∀ c o, H c = some o → H2 c = some o) ∧ H2 D = some (.lst ((sel (ws.take (k + 1)) (gs.take (k + 1))).map V.str)), fun H2 ⟨e1, e2⟩ => ⟨ws.length - (k + 1), by omega, rfl, hlt, e1, e2⟩, ?_⟩
    rintro v H2 ⟨T, x, y, rfl, hT, rfl, hx, hy⟩
    have hx := hx _ ha'
    have hy := hy _ hb'
    rw [List.getElem?_map, hwk] at hx
    rw [List.getElem?_map, hgk] at hy
    cases hx
    cases hy
    have ext2 : ∀ c o, H c = some o → upd H' T (.tup [V.str ws[k], V.bl (gs[k]'(by omega))]) c = some o := fun c o eo => by
      rw [upd_ne (ne_of_none (ext _ _ eo) hT)]
      exact ext _ _ eo
    have hD2 : upd H' T (.tup [V.str ws[k], V.bl (gs[k]'(by omega))]) D = some (.lst ((sel (ws.take k) (gs.take k)).map V.str)) := by
      rw [upd_ne (ne_of_none hDk hT)]
      exact hDk
    refine ⟨T, _, rfl, .inl (.inl upd_same), rfl, _, _, rfl, _, _, rfl, rfl, ?_⟩
    have wl : ∀ n, n < σ.length → n < (wipe σ [i, j]).length := fun n hn => by rw [wipe_length]; exact hn
    have g1 : (((wipe σ [i, j]).set i (some (V.str ws[k]))).set j (some (V.bl (gs[k]'(by omega)))))[i]? = some (some (V.str ws[k])) := by
      rw [List.getElem?_set, if_neg (Ne.symm hij), List.getElem?_set, if_pos rfl, if_pos (wl i hi)]
    have g2 : (((wipe σ [i, j]).set i (some (V.str ws[k]))).set j (some (V.bl (gs[k]'(by omega)))))[j]? = some (some (V.bl (gs[k]'(by omega)))) := by
      rw [List.getElem?_set, if_pos rfl, if_pos (by rw [List.length_set]; exact wl j hj)]
    have tk : sel (ws.take (k + 1)) (gs.take (k + 1)) = sel (ws.take k) (gs.take k) ++ (if gs[k]'(by omega) then [ws[k]] else []) := by
      have e1 : ws.take (k + 1) = ws.take k ++ [ws[k]] := by rw [List.take_add_one, hwk]; rfl
      have e2 : gs.take (k + 1) = gs.take k ++ [gs[k]'(by omega)] := by rw [List.take_add_one, hgk]; rfl
      rw [e1, e2, sel_snoc _ _ _ _ (by rw [List.length_take, List.length_take, hl])]
    refine ⟨?_, _, g2, ?_⟩
    · simp only [L2.wipe]
      apply List.ext_getElem?
      intro n
      simp only [List.getElem?_set, List.length_set]
      by_cases h1 : i = n
      · subst h1
        simp [hij, Ne.symm hij]
      · by_cases h2 : j = n
        · subst h2
          simp [h1]
        · simp [h1, h2]
    · by_cases hg : gs[k]'(by omega) = true
      · refine iteT' hg ?_
        refine ⟨_, g1, _, hD2, ?_, ?_, ?_⟩
        · have := sel_len (ws.take k) (gs.take k)
          rw [List.length_take] at this
          rw [List.length_map]
          omega
        · intro c o eo
          rw [upd_ne (ne_of_none eo hD)]
          exact ext2 c o eo
        · rw [upd_same, tk, if_pos hg, List.map_append]
          rfl
      · refine iteF' hg ?_
        refine ⟨ext2, ?_⟩
        rw [hD2, tk, if_neg hg, List.append_nil]
  · left
    have hk2 : k = ws.length := by omega
    subst hk2
    refine ⟨⟨_, _, ha', hb', by rw [List.length_map]; exact Nat.le_refl _⟩, q D H' ext ?_⟩
    rw [hDk, List.take_of_length_le (Nat.le_refl _), List.take_of_length_le (by omega)]
end Hx

namespace Hx
open PySem PySem.Spec PyProof.Rows L2 HotX L2H Ev
/-! ### a def called while p's exception is handled, its promise told of p -/
structure FnP (P : Program) (w : World) (K : PySem.W.Frag) (mg : Str → Option Value) (base : Heap) (CX : CXT) (k : Nat) (f : Addr) (fd : FuncData) (ps : List Str) (sp : Addr × Obj → Sp) : Prop where
  len : ∀ p vs H Q E, sp p vs H Q E → vs.length = ps.length
  run : ∀ (A : Around) (outer : List PySem.Env) (s : Shared) (H : Hp) (args : Args) (us : List Value) (vs : List V) (Q : VK) (E : XK) (p : Addr × Obj), RoomH k A → Hot1 A p → PinOk outer H s p → Env0 P w K mg base A outer s H → BindsTo s fd args (ps.zip us) → Vals vs us → sp p vs H Q E →
    codeAny (model P w) A (.call (.ref f) args) (CR CX outer P w H s Q E) s
theorem fnP_of {CX : CXT} {P : Program} {w : World} {K : PySem.W.Frag} {mg : Str → Option Value} {base : Heap} {k : Nat} {f : Addr} {name qual : Str} {params : Arguments} {body : List Stmt} {scope : Scope} {dV kV doc pm cdv ct oc : Value} {an od : Option Addr}
    {osl : Array (Option Value)} {N ps : List Str} {sp : Addr × Obj → Sp} (lk : K.lookup f = some ⟨oc, od, .func (PySem.W.fnOf name qual params body scope dV kV doc pm an cdv ct), osl⟩) (hcd : PySem.W.codeIn K cdv qual = true) (S : FnScope N ps scope)
    (len : ∀ p vs H Q E, sp p vs H Q E → vs.length = ps.length)
    (hb : ∀ (A : Around) (outer : List PySem.Env) (s : Shared) (H : Hp) (vs : List V) (Q : VK) (E : XK) (p : Addr × Obj), Hot1 A p → RoomH k (A.deeper (envOfC qual scope s.heap.objs.size f cdv)) → sp p vs H Q E →
      ∃ t, PSs (cxH CX P w K mg base N qual scope f cdv A outer s H E p) body t ∧ t { nx := fun _ H' => Q .non H', rt := Q } (L2.start N vs) H) :
    FnP P w K mg base CX (k + 1) f (PySem.W.fnOf name qual params body scope dV kV doc pm an cdv ct) ps sp := by
  refine ⟨len, fun A outer s H args us vs Q E p hr hot hpin e0 hbind r hsp => ?_⟩
  have KX : K.In s.heap := e0.mod.kin.keeps fun b o e => (e0.bs b o e).1
  have lim : s.heap.NoLimit := e0.mod.nolimit.keeps fun b o e => (e0.bs b o e).1
  refine codeAny_call_function hr.depth (KX _ _ lk) rfl S.co S.gen rfl (PySem.W.codeRec_of KX hcd) (hbind _ _ _ _ ?_)
  refine wpAny_newFunctionEnv_cells S.kind (fun ⟨n, u⟩ hy => ?_) fun env he s1 x => ?_
  · rcases S.par n (List.of_mem_zip hy).1 with q | q
    · exact .inl q
    · exact .inr ⟨q, PySem.W.cellsFrom_some _ _ _ (.inl q)⟩
  subst he
  refine ⟨lim.keeps x.toInCall.keep, codeAny_func ?_⟩
  obtain ⟨t, ht, hq⟩ := hb A outer s H vs Q E p hot (hr.deeper _) hsp
  refine wpAny_mono (ht.run [] s1 (L2.start N vs) H _ (inv_startH S hpin e0 (len _ _ _ _ _ hsp) r x) hq) (fun fl s' hs => ?_) fun e s' hs => hs
  cases fl with
  | ret u =>
    obtain ⟨v, σ', H', J, rv, q⟩ := hs
    exact ⟨v, H', J.os, J.bare, J.base, J.hok, rv, q⟩
  | next =>
    obtain ⟨σ', H', J, q⟩ := hs
    exact ⟨V.non, H', J.os, J.bare, J.base, J.hok, rfl, q⟩
  | brk =>
    obtain ⟨_, _, _, q⟩ := hs
    exact q.elim
  | cont =>
    obtain ⟨_, _, _, q⟩ := hs
    exact q.elim
theorem pe_callP {X : Cx} {CX : CXT} {k : Nat} {f : Addr} {fd : FuncData} {ps : List Str} {sp : Addr × Obj → Sp} {E : L2.St → XK} {x : Str} {q pos : Pos} {e : Expr} {es : List Expr} {t : TA} {p : Addr × Obj} (F : FnP X.prog X.w X.K X.mg X.base CX k f fd ps sp) (hr : RoomH k X.A) (hot : Hot1 X.A p) (hp : p ∈ X.pn) (hg : Gl X x) (hm : X.mg x = some (.ref f)) (hk : PySem.W.keepIn X.K (.ref f) = true) (hb : Binds X.K fd ps []) (hx : ∀ σ, PassesAt CX X σ (E σ))
    (ha : PA X (e :: es) t) (hdb : (x == ("__debug__" : Str)) = false := by decide) (he : starEach (e :: es) X.env = (false, eval e X.env) :: starEach es X.env := by rfl) (hpl : (backTo pos (starEach es X.env)).any (·.1) = false := by rfl) :
    PE X (.Call (.Name x q) (e :: es) [] pos) (tCallS (sp p) E t) := by
  refine ⟨fun pins s σ H Q I h => ?_⟩
  refine wpAny_Call_Name_kw (ld_glob I hg hm ?_ hdb)
  refine PySem.W.callWith_K (h₀ := X.base) I.ok.mod.kin hk (thn (ha.run pos pins s σ H _ I h) fun us s1 ⟨vs, H1, I1, r, q1⟩ => ⟨I1.kIn, ?_⟩) he hpl
  have hl : us.length = ps.length := by rw [← r.length]; exact F.len _ _ _ _ _ q1
  have b := hb s1 us I1.kIn (by rw [List.append_nil]; exact hl)
  rw [List.append_nil] at b
  have P1 := I1.pin p (List.mem_append_left _ hp)
  have hpin : PinOk X.stack H1 s1 p := ⟨P1.1, P1.2.1, fun z => (List.mem_cons.mp (I1.stkSub p.1 z)).elim P1.2.2.1 P1.2.2.2.1, P1.2.2.2.2⟩
  refine wpAny_call (codeAny_mono (F.run X.A X.stack s1 H1 ⟨us, []⟩ us vs Q (E σ) p hr hot hpin I1.env0 b r q1) fun r s' hq => ?_)
  cases r with
  | error e => exact hx σ pins H1 s1 e s' I1 hq
  | ok fl =>
    cases fl with
    | ret u => exact I1.after hq
    | next => exact False.elim hq
    | brk => exact False.elim hq
    | cont => exact False.elim hq

/-! ### the def -/
/-- an error's classes, told by the top -/
structure ErrK (K : PySem.W.Frag) (c : Nat) : Prop where
  ec : ExcC K (He.ga K (xname c))
  is : ∀ j, j < 10 → PySem.W.kitOne K (.ref (He.ga K (xname c))) (.ref (He.ga K (xname j))) = some (decide (c = j))
  ve : PySem.W.kitOne K (.ref (He.ga K (xname c))) (.type "ValueError") = some true
def kNames : List Str := ["_law_e", "_law_some", "_law_words", "_law_word", "_law_good"]
def kGl : List Str := ["isinstance", "zip", "ValueError", "Ended", "InvalidBook", "InvalidClaim", "InvalidHeard", "InvalidNumber", "InvalidText", "InvalidWord", "NothingToUndo", "TooMany", "Unlike"]
structure KSc (sc csc : Scope) : Prop where
  gl : ∀ x ∈ kGl, sc.names.lookup x = some .globalImplicit
  lo : ∀ x ∈ (["_law_e", "_law_some", "_law_words"] : List Str), sc.names.lookup x = some .local
  blk : BlkOk kNames sc csc [(("_law_word" : Str), 3), (("_law_good" : Str), 4)]
  b3 : (relS csc sc).names.lookup ("_law_word" : Str) = some .local
  b4 : (relS csc sc).names.lookup ("_law_good" : Str) = some .local
structure KMg (K : PySem.W.Frag) (mg : Str → Option Value) : Prop where
  no : ∀ x ∈ (["isinstance", "zip", "ValueError"] : List Str), mg x = none
  at_ : ∀ j, j < 10 → mg (xname j) = some (.ref (He.ga K (xname j)))
def kWords : List Str := ["Ended", "InvalidBook", "InvalidClaim", "InvalidHeard", "InvalidNumber", "InvalidText", "InvalidWord", "NothingToUndo", "TooMany", "Unlike", "+"]
def kFlags (c : Nat) : List Bool := [decide (c = 0), decide (c = 1), decide (c = 2), decide (c = 3), decide (c = 4), decide (c = 5), decide (c = 6), decide (c = 7), decide (c = 8), decide (c = 9), true]
def kText (c : Nat) : Str := Txt.join " " (sel kWords (kFlags c))
section
variable {Y : Cx} {c : Nat} {a : Addr}
def tE (p : Addr × Obj) (b : Bool) : TE := fun σ H Q => σ[0]? = some (some (.ref p.1)) ∧ DctOk H p.2 ∧ Q (.bl b) H
theorem pe_isj {p : Addr × Obj} {q1 q2 q3 q4 : Pos} (hN : Y.N = kNames) (C : ErrK Y.K c) (M : KMg Y.K Y.mg) (S : ∀ x ∈ kGl, Y.env.scope.names.lookup x = some .globalImplicit) (L : Y.env.scope.names.lookup ("_law_e" : Str) = some .local) (hp : p ∈ Y.pn) (hz : p.2.cls = .ref (He.ga Y.K (xname c))) (hf : ∃ vs, p.2.data = .fields vs)
    {x : Str} {b : Bool} {cv : Value} {v : V} (hx : PE Y (.Name x q3) (tC v)) (hv : ∀ u, RelV v u → u = cv) (hk : PySem.W.kitOne Y.K (.ref (He.ga Y.K (xname c))) cv = some b) :
    PE Y (.Call (.Name "isinstance" q1) [.Name "_law_e" q2, .Name x q3] [] q4) (tE p b) := by
  refine (pe_callB (call_isP C.ec hp hz hf) (show Gl Y "isinstance" from S _ (by decide)) (M.no _ (by decide)) PyProof.Rows.boot_isinstance (pa_cons (pe_var (i := 0) (by rw [hN]; rfl) (.inl L)) (pa_cons hx pa_nil))).conv fun σ H Q h => ?_
  obtain ⟨h1, hd, h2⟩ := h
  exact ⟨_, h1, hd, v, cv, b, rfl, hv, hk, h2⟩
theorem pe_isx {p : Addr × Obj} {q1 q2 q3 q4 : Pos} (hN : Y.N = kNames) (C : ErrK Y.K c) (M : KMg Y.K Y.mg) (S : ∀ x ∈ kGl, Y.env.scope.names.lookup x = some .globalImplicit) (L : Y.env.scope.names.lookup ("_law_e" : Str) = some .local) (hp : p ∈ Y.pn) (hz : p.2.cls = .ref (He.ga Y.K (xname c))) (hf : ∃ vs, p.2.data = .fields vs)
    (j : Nat) (hj : j < 10) (hm : xname j ∈ kGl) : PE Y (.Call (.Name "isinstance" q1) [.Name "_law_e" q2, .Name (xname j) q3] [] q4) (tE p (decide (c = j))) :=
  pe_isj hN C M S L hp hz hf (pe_glob (v := .ref (He.ga Y.K (xname j))) (show Gl Y (xname j) from S _ hm) (M.at_ j hj) rfl (by
    match j, hj with
    | 0, _ => decide
    | 1, _ => decide
    | 2, _ => decide
    | 3, _ => decide
    | 4, _ => decide
    | 5, _ => decide
    | 6, _ => decide
    | 7, _ => decide
    | 8, _ => decide
    | 9, _ => decide)) (fun u r => r) (C.is j hj)
end
end Hx

namespace Hx
open PySem PySem.Spec PyProof.Rows L2 HotX L2H Ev
theorem kNd : kNames.Nodup := by decide +kernel
theorem pt_true {Y : Cx} {i : Nat} {x : Str} {pos : Pos} (hN : Y.N[i]? = some x) (hv : Vis Y.env.scope x) (hd : (x == ("__debug__" : Str)) = false := by decide) (hcd : (x == ("__classdict__" : Str)) = false := by decide) : PT Y (.Name x pos) (tTrue i) :=
  ⟨fun pins s σ H Q I h => (pt_val (pe_var (pos := pos) hN hv hd hcd)).run pins s σ H Q I (by
    obtain ⟨b, h1, h2⟩ := h
    exact ⟨_, h1, b, rfl, h2⟩)⟩
/-- what the def's body does -/
def kBody (csc : Scope) (q1 q2 q3 q4 q5 q6 q7 q8 q9 q10 q11 q12 q13 q14 q15 q16 q17 q18 q19 q20 q21 q22 q23 q24 q25 q26 q27 q28 q29 q30 q31 q32 q33 q34 q35 q36 q37 q38 q39 q40 q41 q42 q43 q44 q45 q46 q47 q48 q49 q50 q51 q52 q53 q54 q55 q56 q57 q58 q59 q60 q61 q62 q63 q64 q65 q66 q67 q68 q69 q70 q71 q72 q73 q74 q75 q76 q77 q78 q79 q80 q81 q82 q83 q84 q85 q86 q87 q88 q89 q90 q91 q92 q93 q94 q95 : Pos) (n1 n2 n3 n4 n5 n6 n7 n8 n9 n10 n11 n12 n13 : Nat) : List Stmt := [.Assign [(.Name "_law_some" q18)] (.List [(.Call (.Name "isinstance" q1) [(.Name "_law_e" q2), (.Name "Ended" q3)] [] q4), (.Call (.Name "isinstance" q5) [(.Name "_law_e" q6), (.Name "InvalidBook" q7)] [] q8), (.Call (.Name "isinstance" q9) [(.Name "_law_e" q10), (.Name "InvalidClaim" q11)] [] q12), (.Call (.Name "isinstance" q13) [(.Name "_law_e" q14), (.Name "InvalidHeard" q15)] [] q16)] q17) q19,
    .Assign [(.Name "_law_some" q35)] (.BinOp (.Name "_law_some" q33) .Add (.List [(.Call (.Name "isinstance" q20) [(.Name "_law_e" q21), (.Name "InvalidNumber" q22)] [] q23), (.Call (.Name "isinstance" q24) [(.Name "_law_e" q25), (.Name "InvalidText" q26)] [] q27), (.Call (.Name "isinstance" q28) [(.Name "_law_e" q29), (.Name "InvalidWord" q30)] [] q31)] q32) q34) q36,
    .Assign [(.Name "_law_some" q52)] (.BinOp (.Name "_law_some" q50) .Add (.List [(.Call (.Name "isinstance" q37) [(.Name "_law_e" q38), (.Name "NothingToUndo" q39)] [] q40), (.Call (.Name "isinstance" q41) [(.Name "_law_e" q42), (.Name "TooMany" q43)] [] q44), (.Call (.Name "isinstance" q45) [(.Name "_law_e" q46), (.Name "Unlike" q47)] [] q48)] q49) q51) q53,
    .Assign [(.Name "_law_some" q61)] (.BinOp (.Name "_law_some" q59) .Add (.List [(.Call (.Name "isinstance" q54) [(.Name "_law_e" q55), (.Name "ValueError" q56)] [] q57)] q58) q60) q62,
    .Assign [(.Name "_law_words" q71)] (.List [(.Constant (.str "Ended") n1 q63), (.Constant (.str "InvalidBook") n2 q64), (.Constant (.str "InvalidClaim") n3 q65), (.Constant (.str "InvalidHeard") n4 q66), (.Constant (.str "InvalidNumber") n5 q67), (.Constant (.str "InvalidText") n6 q68), (.Constant (.str "InvalidWord") n7 q69)] q70) q72,
    .Assign [(.Name "_law_words" q80)] (.BinOp (.Name "_law_words" q78) .Add (.List [(.Constant (.str "NothingToUndo") n8 q73), (.Constant (.str "TooMany") n9 q74), (.Constant (.str "Unlike") n10 q75), (.Constant (.str "+") n11 q76)] q77) q79) q81,
    .Return (some (.Call (.Attribute (.Constant (.str " ") n12 q82) "join" q83) [(.ListComp (.Name "_law_word" q85) [⟨(.Tuple [(.Name "_law_word" q86), (.Name "_law_good" q87)] n13 q88), (.Call (.Name "zip" q89) [(.Name "_law_words" q90), (.Name "_law_some" q91)] [] q92), [(.Name "_law_good" q93)], 0⟩] csc q94)] [] q84)) q95]
theorem kFlags_ge {c : Nat} (h : ¬ c < 10) : kFlags c = kFlags 10 := by
  unfold kFlags
  have e : ∀ j, j < 10 → decide (c = j) = false := fun j hj => decide_eq_false (by omega)
  rw [e 0 (by omega), e 1 (by omega), e 2 (by omega), e 3 (by omega), e 4 (by omega), e 5 (by omega), e 6 (by omega), e 7 (by omega), e 8 (by omega), e 9 (by omega)]
  rfl
theorem sel_size (c : Nat) : ((sel kWords (kFlags c)).map (·.length)).sum + (sel kWords (kFlags c)).length * (" " : Str).length ≤ 16777216 := by
  by_cases h : c < 10
  · have key : ∀ n, n < 10 → ((sel kWords (kFlags n)).map (·.length)).sum + (sel kWords (kFlags n)).length * (" " : Str).length ≤ 16777216 := by decide +kernel
    exact key c h
  · rw [kFlags_ge h]
    decide +kernel
theorem kinds_run {Y : Cx} {c : Nat} {p : Addr × Obj} {csc : Scope} {H : Hp} {Q : VK} {D : Ends} (hN : Y.N = kNames) (C : ErrK Y.K c) (M : KMg Y.K Y.mg) (S : KSc Y.env.scope csc) (hfn : ∀ x, Y.fn x = true) (hot : Hot1 Y.A p) (hp : p ∈ Y.pn) (hz : p.2.cls = .ref (He.ga Y.K (xname c))) (hd : DctOk H p.2) (hf : ∃ vs, p.2.data = .fields vs)
    (q1 q2 q3 q4 q5 q6 q7 q8 q9 q10 q11 q12 q13 q14 q15 q16 q17 q18 q19 q20 q21 q22 q23 q24 q25 q26 q27 q28 q29 q30 q31 q32 q33 q34 q35 q36 q37 q38 q39 q40 q41 q42 q43 q44 q45 q46 q47 q48 q49 q50 q51 q52 q53 q54 q55 q56 q57 q58 q59 q60 q61 q62 q63 q64 q65 q66 q67 q68 q69 q70 q71 q72 q73 q74 q75 q76 q77 q78 q79 q80 q81 q82 q83 q84 q85 q86 q87 q88 q89 q90 q91 q92 q93 q94 q95 : Pos) (n1 n2 n3 n4 n5 n6 n7 n8 n9 n10 n11 n12 n13 : Nat) (hl : (q83.endLine == q84.line) = true) (q : ∀ H', (∀ b o, H b = some o → H' b = some o) → D.rt (.str (kText c)) H') :
    ∃ t, PSs Y (kBody csc q1 q2 q3 q4 q5 q6 q7 q8 q9 q10 q11 q12 q13 q14 q15 q16 q17 q18 q19 q20 q21 q22 q23 q24 q25 q26 q27 q28 q29 q30 q31 q32 q33 q34 q35 q36 q37 q38 q39 q40 q41 q42 q43 q44 q45 q46 q47 q48 q49 q50 q51 q52 q53 q54 q55 q56 q57 q58 q59 q60 q61 q62 q63 q64 q65 q66 q67 q68 q69 q70 q71 q72 q73 q74 q75 q76 q77 q78 q79 q80 q81 q82 q83 q84 q85 q86 q87 q88 q89 q90 q91 q92 q93 q94 q95 n1 n2 n3 n4 n5 n6 n7 n8 n9 n10 n11 n12 n13) t ∧ t D (L2.start kNames [.ref p.1]) H := by
  have lo : ∀ x ∈ (["_law_e", "_law_some", "_law_words"] : List Str), Y.env.scope.names.lookup x = some .local := S.lo
  have nd : Y.N.Nodup := by rw [hN]; exact kNd
  have isx := fun (j : Nat) (hj : j < 10) (hm : xname j ∈ kGl) (q1 q2 q3 q4 : Pos) => pe_isx (q1 := q1) (q2 := q2) (q3 := q3) (q4 := q4) hN C M S.gl (lo _ (by decide)) hp hz hf j hj hm
  have isV := fun (q1 q2 q3 q4 : Pos) => pe_isj (q1 := q1) (q2 := q2) (q3 := q3) (q4 := q4) (x := "ValueError") (b := true) (cv := .type "ValueError") (v := .ty "ValueError") hN C M S.gl (lo _ (by decide)) hp hz hf (pe_bltn (show Gl Y "ValueError" from S.gl _ (by decide)) (M.no _ (by decide)) (by decide +kernel) rfl) (fun u r => r) C.ve
  have hotC : HotC Y := ⟨p, hot, hp⟩
  have hlc := fun (e1 e2 e3 e4 e5 e6 e7 e8 e9 e10 : Pos) (k : Nat) => pe_lcH (X := Y) (elt := .Name "_law_word" e1) (tg := .Tuple [.Name "_law_word" e2, .Name "_law_good" e3] k e4) (iter := .Call (.Name "zip" e5) [.Name "_law_words" e6, .Name "_law_some" e7] [] e8) (ifs := [.Name "_law_good" e9]) (scope := csc) (own := [(("_law_word" : Str), 3), (("_law_good" : Str), 4)]) (pos := e10) (g := gTup Y.K 2 (gCons (gName 3) (gCons (gName 4) gNil))) (tt := tTrue 4) (te := tVar 3) hotC nd
    (pi_zipH (show Gl Y "zip" from S.gl _ (by decide)) (M.no _ (by decide)) (pa_cons (pe_var (i := 2) (by rw [hN]; rfl) (.inl (lo _ (by decide)))) (pa_cons (pe_var (i := 1) (by rw [hN]; rfl) (.inl (lo _ (by decide)))) pa_nil))) (by rw [hN]; exact S.blk)
    (fun s H C cl fp p h1 => pg_tupH (X := blkH Y s H csc (compEnvC csc cl C Y.env) fp p) ⟨p, h1, List.mem_singleton.mpr rfl⟩ (pgs_cons (pg_name (i := 3) nd (by show Y.N[3]? = _; rw [hN]; rfl) (.inl S.b3) (.inr S.b3)) (pgs_cons (pg_name (i := 4) nd (by show Y.N[4]? = _; rw [hN]; rfl) (.inl S.b4) (.inr S.b4)) pgs_nil)))
    (fun s H C cl fp p => pts_one (pt_true (i := 4) (by show Y.N[4]? = _; rw [hN]; rfl) (.inl S.b4)))
    (fun s H C cl fp p => pe_var (i := 3) (by show Y.N[3]? = _; rw [hN]; rfl) (.inl S.b3))
  refine ⟨_, (pss_cons (ps_set (i := 1) nd (by rw [hN]; rfl) (.inl (lo _ (by decide))) (pe_lst (pa_cons (isx 0 (by decide) (by decide) _ _ _ _) (pa_cons (isx 1 (by decide) (by decide) _ _ _ _) (pa_cons (isx 2 (by decide) (by decide) _ _ _ _) (pa_cons (isx 3 (by decide) (by decide) _ _ _ _) pa_nil))))) (by rfl) (.inl (hfn _)))
    (pss_cons (ps_set (i := 1) nd (by rw [hN]; rfl) (.inl (lo _ (by decide))) (pe_op op_cat (pe_var (i := 1) (by rw [hN]; rfl) (.inl (lo _ (by decide)))) (pe_lst (pa_cons (isx 4 (by decide) (by decide) _ _ _ _) (pa_cons (isx 5 (by decide) (by decide) _ _ _ _) (pa_cons (isx 6 (by decide) (by decide) _ _ _ _) pa_nil))))) (by rfl) (.inl (hfn _)))
    (pss_cons (ps_set (i := 1) nd (by rw [hN]; rfl) (.inl (lo _ (by decide))) (pe_op op_cat (pe_var (i := 1) (by rw [hN]; rfl) (.inl (lo _ (by decide)))) (pe_lst (pa_cons (isx 7 (by decide) (by decide) _ _ _ _) (pa_cons (isx 8 (by decide) (by decide) _ _ _ _) (pa_cons (isx 9 (by decide) (by decide) _ _ _ _) pa_nil))))) (by rfl) (.inl (hfn _)))
    (pss_cons (ps_set (i := 1) nd (by rw [hN]; rfl) (.inl (lo _ (by decide))) (pe_op op_cat (pe_var (i := 1) (by rw [hN]; rfl) (.inl (lo _ (by decide)))) (pe_lst (pa_cons (isV _ _ _ _) pa_nil))) (by rfl) (.inl (hfn _)))
    (pss_cons (ps_set (i := 2) nd (by rw [hN]; rfl) (.inl (lo _ (by decide))) (pe_lst (pa_cons pe_str (pa_cons pe_str (pa_cons pe_str (pa_cons pe_str (pa_cons pe_str (pa_cons pe_str (pa_cons pe_str pa_nil)))))))) (by rfl) (.inl (hfn _)))
    (pss_cons (ps_set (i := 2) nd (by rw [hN]; rfl) (.inl (lo _ (by decide))) (pe_op op_cat (pe_var (i := 2) (by rw [hN]; rfl) (.inl (lo _ (by decide)))) (pe_lst (pa_cons pe_str (pa_cons pe_str (pa_cons pe_str (pa_cons pe_str pa_nil)))))) (by rfl) (.inl (hfn _)))
    (pss_one (ps_ret (pe_join pe_str (hlc _ _ _ _ _ _ _ _ _ _ _) (by rfl) (by rfl) hl))))))))), ?_⟩
  have len : ∀ n : Nat, Nat.ble n 100 = true → n ≤ sizeLine := fun n h => by have := Nat.le_of_ble_eq_true h; rw [sizeLine_eq]; omega
  have kp : ∀ (H1 H2 : Hp) (r : Addr) (o : HO), H1 r = none → (∀ b o, H b = some o → H1 b = some o) → ∀ b o', H b = some o' → upd H1 r o b = some o' := fun H1 H2 r o n x b o' e => (upd_ne (ne_of_none (x b o' e) n)).trans (x b o' e)
  have x0 : ∀ b o, H b = some o → H b = some o := fun _ _ e => e
  refine ⟨rfl, hd, rfl, hd, rfl, hd, rfl, hd, len _ rfl, fun p1 h1 => ?_⟩
  have x1 := kp H H p1 (.lst [V.bl (decide (c = 0)), V.bl (decide (c = 1)), V.bl (decide (c = 2)), V.bl (decide (c = 3))]) h1 x0
  have a1 : upd H p1 (.lst [V.bl (decide (c = 0)), V.bl (decide (c = 1)), V.bl (decide (c = 2)), V.bl (decide (c = 3))]) p1 = some (.lst [V.bl (decide (c = 0)), V.bl (decide (c = 1)), V.bl (decide (c = 2)), V.bl (decide (c = 3))]) := upd_same
  generalize upd H p1 (.lst [V.bl (decide (c = 0)), V.bl (decide (c = 1)), V.bl (decide (c = 2)), V.bl (decide (c = 3))]) = H1 at x1 a1 ⊢
  refine ⟨_, rfl, rfl, hd.ext x1, rfl, hd.ext x1, rfl, hd.ext x1, len _ rfl, fun p2 h2 => ?_⟩
  have x2 := kp H1 H1 p2 (.lst [V.bl (decide (c = 4)), V.bl (decide (c = 5)), V.bl (decide (c = 6))]) h2 x1
  have a2 : upd H1 p2 (.lst [V.bl (decide (c = 4)), V.bl (decide (c = 5)), V.bl (decide (c = 6))]) p2 = some (.lst [V.bl (decide (c = 4)), V.bl (decide (c = 5)), V.bl (decide (c = 6))]) := upd_same
  have c2 : upd H1 p2 (.lst [V.bl (decide (c = 4)), V.bl (decide (c = 5)), V.bl (decide (c = 6))]) p1 = some (.lst [V.bl (decide (c = 0)), V.bl (decide (c = 1)), V.bl (decide (c = 2)), V.bl (decide (c = 3))]) := (upd_ne (ne_of_none a1 h2)).trans a1
  generalize upd H1 p2 (.lst [V.bl (decide (c = 4)), V.bl (decide (c = 5)), V.bl (decide (c = 6))]) = H2 at x2 a2 c2 ⊢
  refine ⟨p1, p2, _, _, rfl, rfl, c2, a2, len _ rfl, fun p3 h3 => ?_⟩
  have x3 := kp H2 H2 p3 (.lst ([V.bl (decide (c = 0)), V.bl (decide (c = 1)), V.bl (decide (c = 2)), V.bl (decide (c = 3))] ++ [V.bl (decide (c = 4)), V.bl (decide (c = 5)), V.bl (decide (c = 6))])) h3 x2
  have a3 : upd H2 p3 (.lst ([V.bl (decide (c = 0)), V.bl (decide (c = 1)), V.bl (decide (c = 2)), V.bl (decide (c = 3))] ++ [V.bl (decide (c = 4)), V.bl (decide (c = 5)), V.bl (decide (c = 6))])) p3 = some (.lst ([V.bl (decide (c = 0)), V.bl (decide (c = 1)), V.bl (decide (c = 2)), V.bl (decide (c = 3))] ++ [V.bl (decide (c = 4)), V.bl (decide (c = 5)), V.bl (decide (c = 6))])) := upd_same
  generalize upd H2 p3 (.lst ([V.bl (decide (c = 0)), V.bl (decide (c = 1)), V.bl (decide (c = 2)), V.bl (decide (c = 3))] ++ [V.bl (decide (c = 4)), V.bl (decide (c = 5)), V.bl (decide (c = 6))])) = H3 at x3 a3 ⊢
  refine ⟨_, rfl, rfl, hd.ext x3, rfl, hd.ext x3, rfl, hd.ext x3, len _ rfl, fun p4 h4 => ?_⟩
  have x4 := kp H3 H3 p4 (.lst [V.bl (decide (c = 7)), V.bl (decide (c = 8)), V.bl (decide (c = 9))]) h4 x3
  have a4 : upd H3 p4 (.lst [V.bl (decide (c = 7)), V.bl (decide (c = 8)), V.bl (decide (c = 9))]) p4 = some (.lst [V.bl (decide (c = 7)), V.bl (decide (c = 8)), V.bl (decide (c = 9))]) := upd_same
  have c4 : upd H3 p4 (.lst [V.bl (decide (c = 7)), V.bl (decide (c = 8)), V.bl (decide (c = 9))]) p3 = some (.lst ([V.bl (decide (c = 0)), V.bl (decide (c = 1)), V.bl (decide (c = 2)), V.bl (decide (c = 3))] ++ [V.bl (decide (c = 4)), V.bl (decide (c = 5)), V.bl (decide (c = 6))])) := (upd_ne (ne_of_none a3 h4)).trans a3
  generalize upd H3 p4 (.lst [V.bl (decide (c = 7)), V.bl (decide (c = 8)), V.bl (decide (c = 9))]) = H4 at x4 a4 c4 ⊢
  refine ⟨p3, p4, _, _, rfl, rfl, c4, a4, len _ rfl, fun p5 h5 => ?_⟩
  have x5 := kp H4 H4 p5 (.lst (([V.bl (decide (c = 0)), V.bl (decide (c = 1)), V.bl (decide (c = 2)), V.bl (decide (c = 3))] ++ [V.bl (decide (c = 4)), V.bl (decide (c = 5)), V.bl (decide (c = 6))]) ++ [V.bl (decide (c = 7)), V.bl (decide (c = 8)), V.bl (decide (c = 9))])) h5 x4
  have a5 : upd H4 p5 (.lst (([V.bl (decide (c = 0)), V.bl (decide (c = 1)), V.bl (decide (c = 2)), V.bl (decide (c = 3))] ++ [V.bl (decide (c = 4)), V.bl (decide (c = 5)), V.bl (decide (c = 6))]) ++ [V.bl (decide (c = 7)), V.bl (decide (c = 8)), V.bl (decide (c = 9))])) p5 = some (.lst (([V.bl (decide (c = 0)), V.bl (decide (c = 1)), V.bl (decide (c = 2)), V.bl (decide (c = 3))] ++ [V.bl (decide (c = 4)), V.bl (decide (c = 5)), V.bl (decide (c = 6))]) ++ [V.bl (decide (c = 7)), V.bl (decide (c = 8)), V.bl (decide (c = 9))])) := upd_same
  generalize upd H4 p5 (.lst (([V.bl (decide (c = 0)), V.bl (decide (c = 1)), V.bl (decide (c = 2)), V.bl (decide (c = 3))] ++ [V.bl (decide (c = 4)), V.bl (decide (c = 5)), V.bl (decide (c = 6))]) ++ [V.bl (decide (c = 7)), V.bl (decide (c = 8)), V.bl (decide (c = 9))])) = H5 at x5 a5 ⊢
  refine ⟨_, rfl, rfl, hd.ext x5, len _ rfl, fun p6 h6 => ?_⟩
  have x6 := kp H5 H5 p6 (.lst [V.bl true]) h6 x5
  have a6 : upd H5 p6 (.lst [V.bl true]) p6 = some (.lst [V.bl true]) := upd_same
  have c6 : upd H5 p6 (.lst [V.bl true]) p5 = some (.lst (([V.bl (decide (c = 0)), V.bl (decide (c = 1)), V.bl (decide (c = 2)), V.bl (decide (c = 3))] ++ [V.bl (decide (c = 4)), V.bl (decide (c = 5)), V.bl (decide (c = 6))]) ++ [V.bl (decide (c = 7)), V.bl (decide (c = 8)), V.bl (decide (c = 9))])) := (upd_ne (ne_of_none a5 h6)).trans a5
  generalize upd H5 p6 (.lst [V.bl true]) = H6 at x6 a6 c6 ⊢
  refine ⟨p5, p6, _, _, rfl, rfl, c6, a6, len _ rfl, fun p7 h7 => ?_⟩
  have x7 := kp H6 H6 p7 (.lst ((([V.bl (decide (c = 0)), V.bl (decide (c = 1)), V.bl (decide (c = 2)), V.bl (decide (c = 3))] ++ [V.bl (decide (c = 4)), V.bl (decide (c = 5)), V.bl (decide (c = 6))]) ++ [V.bl (decide (c = 7)), V.bl (decide (c = 8)), V.bl (decide (c = 9))]) ++ [V.bl true])) h7 x6
  have a7 : upd H6 p7 (.lst ((([V.bl (decide (c = 0)), V.bl (decide (c = 1)), V.bl (decide (c = 2)), V.bl (decide (c = 3))] ++ [V.bl (decide (c = 4)), V.bl (decide (c = 5)), V.bl (decide (c = 6))]) ++ [V.bl (decide (c = 7)), V.bl (decide (c = 8)), V.bl (decide (c = 9))]) ++ [V.bl true])) p7 = some (.lst ((([V.bl (decide (c = 0)), V.bl (decide (c = 1)), V.bl (decide (c = 2)), V.bl (decide (c = 3))] ++ [V.bl (decide (c = 4)), V.bl (decide (c = 5)), V.bl (decide (c = 6))]) ++ [V.bl (decide (c = 7)), V.bl (decide (c = 8)), V.bl (decide (c = 9))]) ++ [V.bl true])) := upd_same
  generalize upd H6 p7 (.lst ((([V.bl (decide (c = 0)), V.bl (decide (c = 1)), V.bl (decide (c = 2)), V.bl (decide (c = 3))] ++ [V.bl (decide (c = 4)), V.bl (decide (c = 5)), V.bl (decide (c = 6))]) ++ [V.bl (decide (c = 7)), V.bl (decide (c = 8)), V.bl (decide (c = 9))]) ++ [V.bl true])) = H7 at x7 a7 ⊢
  refine ⟨len _ rfl, fun p8 h8 => ?_⟩
  have x8 := kp H7 H7 p8 (.lst [V.str "Ended", V.str "InvalidBook", V.str "InvalidClaim", V.str "InvalidHeard", V.str "InvalidNumber", V.str "InvalidText", V.str "InvalidWord"]) h8 x7
  have a8 : upd H7 p8 (.lst [V.str "Ended", V.str "InvalidBook", V.str "InvalidClaim", V.str "InvalidHeard", V.str "InvalidNumber", V.str "InvalidText", V.str "InvalidWord"]) p8 = some (.lst [V.str "Ended", V.str "InvalidBook", V.str "InvalidClaim", V.str "InvalidHeard", V.str "InvalidNumber", V.str "InvalidText", V.str "InvalidWord"]) := upd_same
  have d8 : upd H7 p8 (.lst [V.str "Ended", V.str "InvalidBook", V.str "InvalidClaim", V.str "InvalidHeard", V.str "InvalidNumber", V.str "InvalidText", V.str "InvalidWord"]) p7 = some (.lst ((([V.bl (decide (c = 0)), V.bl (decide (c = 1)), V.bl (decide (c = 2)), V.bl (decide (c = 3))] ++ [V.bl (decide (c = 4)), V.bl (decide (c = 5)), V.bl (decide (c = 6))]) ++ [V.bl (decide (c = 7)), V.bl (decide (c = 8)), V.bl (decide (c = 9))]) ++ [V.bl true])) := (upd_ne (ne_of_none a7 h8)).trans a7
  generalize upd H7 p8 (.lst [V.str "Ended", V.str "InvalidBook", V.str "InvalidClaim", V.str "InvalidHeard", V.str "InvalidNumber", V.str "InvalidText", V.str "InvalidWord"]) = H8 at x8 a8 d8 ⊢
  refine ⟨_, rfl, len _ rfl, fun p9 h9 => ?_⟩
  have x9 := kp H8 H8 p9 (.lst [V.str "NothingToUndo", V.str "TooMany", V.str "Unlike", V.str "+"]) h9 x8
  have a9 : upd H8 p9 (.lst [V.str "NothingToUndo", V.str "TooMany", V.str "Unlike", V.str "+"]) p9 = some (.lst [V.str "NothingToUndo", V.str "TooMany", V.str "Unlike", V.str "+"]) := upd_same
  have c9 : upd H8 p9 (.lst [V.str "NothingToUndo", V.str "TooMany", V.str "Unlike", V.str "+"]) p8 = some (.lst [V.str "Ended", V.str "InvalidBook", V.str "InvalidClaim", V.str "InvalidHeard", V.str "InvalidNumber", V.str "InvalidText", V.str "InvalidWord"]) := (upd_ne (ne_of_none a8 h9)).trans a8
  have d9 : upd H8 p9 (.lst [V.str "NothingToUndo", V.str "TooMany", V.str "Unlike", V.str "+"]) p7 = some (.lst ((([V.bl (decide (c = 0)), V.bl (decide (c = 1)), V.bl (decide (c = 2)), V.bl (decide (c = 3))] ++ [V.bl (decide (c = 4)), V.bl (decide (c = 5)), V.bl (decide (c = 6))]) ++ [V.bl (decide (c = 7)), V.bl (decide (c = 8)), V.bl (decide (c = 9))]) ++ [V.bl true])) := (upd_ne (ne_of_none d8 h9)).trans d8
  generalize upd H8 p9 (.lst [V.str "NothingToUndo", V.str "TooMany", V.str "Unlike", V.str "+"]) = H9 at x9 a9 c9 d9 ⊢
  refine ⟨p8, p9, _, _, rfl, rfl, c9, a9, len _ rfl, fun p10 h10 => ?_⟩
  have x10 := kp H9 H9 p10 (.lst ([V.str "Ended", V.str "InvalidBook", V.str "InvalidClaim", V.str "InvalidHeard", V.str "InvalidNumber", V.str "InvalidText", V.str "InvalidWord"] ++ [V.str "NothingToUndo", V.str "TooMany", V.str "Unlike", V.str "+"])) h10 x9
  have a10 : upd H9 p10 (.lst ([V.str "Ended", V.str "InvalidBook", V.str "InvalidClaim", V.str "InvalidHeard", V.str "InvalidNumber", V.str "InvalidText", V.str "InvalidWord"] ++ [V.str "NothingToUndo", V.str "TooMany", V.str "Unlike", V.str "+"])) p10 = some (.lst ([V.str "Ended", V.str "InvalidBook", V.str "InvalidClaim", V.str "InvalidHeard", V.str "InvalidNumber", V.str "InvalidText", V.str "InvalidWord"] ++ [V.str "NothingToUndo", V.str "TooMany", V.str "Unlike", V.str "+"])) := upd_same
  have d10 : upd H9 p10 (.lst ([V.str "Ended", V.str "InvalidBook", V.str "InvalidClaim", V.str "InvalidHeard", V.str "InvalidNumber", V.str "InvalidText", V.str "InvalidWord"] ++ [V.str "NothingToUndo", V.str "TooMany", V.str "Unlike", V.str "+"])) p7 = some (.lst ((([V.bl (decide (c = 0)), V.bl (decide (c = 1)), V.bl (decide (c = 2)), V.bl (decide (c = 3))] ++ [V.bl (decide (c = 4)), V.bl (decide (c = 5)), V.bl (decide (c = 6))]) ++ [V.bl (decide (c = 7)), V.bl (decide (c = 8)), V.bl (decide (c = 9))]) ++ [V.bl true])) := (upd_ne (ne_of_none d9 h10)).trans d9
  generalize upd H9 p10 (.lst ([V.str "Ended", V.str "InvalidBook", V.str "InvalidClaim", V.str "InvalidHeard", V.str "InvalidNumber", V.str "InvalidText", V.str "InvalidWord"] ++ [V.str "NothingToUndo", V.str "TooMany", V.str "Unlike", V.str "+"])) = H10 at x10 a10 d10 ⊢
  refine ⟨⟨_, rfl⟩, lc_sel (a := p10) (b := p7) (ws := kWords) (gs := kFlags c) (by decide) (Nat.le_of_ble_eq_true rfl) (Nat.le_of_ble_eq_true rfl) rfl (Nat.lt_of_lt_of_le (by show 11 < 100; decide) (len 100 rfl)) (fun R hR => ⟨_, rfl, _, rfl, hR⟩) a10 d10 fun D' H' ext hD => ?_⟩
  refine ⟨_, D', sel kWords (kFlags c), rfl, rfl, .inl (SqL.inj hD), ?_, q H' fun b o e => ext b o (x10 b o e)⟩
  exact sel_size c
end Hx

/-! A try with several clauses that name the error; a lambda given to a def, its errors with an empty context. -/
namespace Hx
open PySem PySem.Spec PyProof.Rows L2 HotX L2H Ev LamX
abbrev Sui : Type := Value × (Addr → Value → Option Addr → TS)
/-- behind a suite its name is gone -/
def Ends.less (D : Ends) (i : Nat) : Ends := { nx := fun σ H => D.nx (σ.set i none) H, rt := D.rt, bk := fun σ H => D.bk (σ.set i none) H, ct := fun σ H => D.ct (σ.set i none) H }
def wClauses (K : PySem.W.Frag) (i : Nat) (Wout : WX) (D : Ends) : List Sui → WX
  | [] => Wout
  | (c, ts) :: r => fun cls d σ H => ∃ b, PySem.W.exmOne K cls c = some b ∧ (b = true → ∀ a, H a = none → ts a cls d (Ends.less D i) (σ.set i (some (.ref a))) H) ∧ (b = false → wClauses K i Wout D r cls d σ H)
inductive Clauses (X : Cx) (n : Str) : List ExceptHandler → List Sui → Prop
  | nil : Clauses X n [] []
  | cons {x : Str} {c : Value} {ts : Addr → Value → Option Addr → TS} {b0 : Stmt} {suite : List Stmt} {p1 p2 : Pos} {hds : List ExceptHandler} {l : List Sui} (hc : Names X x c)
      (hsu : ∀ (a : Addr) (oe : Obj) (cls : Value) (d : Option Addr) (pn : List (Addr × Obj)), L2N.Zn cls d oe → (∃ vs, oe.data = .fields vs) → PSs (X.suite a ((a, oe) :: pn)) (b0 :: suite) (ts a cls d)) (r : Clauses X n hds l) :
      Clauses X n (.ExceptHandler (some (.Name x p1)) (some n) (b0 :: suite) p2 :: hds) ((c, ts) :: l)
section
variable {X : Cx} {body : List Stmt} {hd0 : ExceptHandler} {hds : List ExceptHandler} {l : List Sui} {pos : Pos} {tb : WX → TS} {Wout : WX} {n : Str} {i : Nat}
/-- try: body, except x as n: .., except y as n: .. -/
theorem ps_try_clauses (hs : X.stack = X.env :: X.outer) (hf : X.env.frame = some X.env.locals) (hN : X.N.Nodup) (hi : X.N[i]? = some n) (hln : X.env.kindOf n = some .local) (tk : L2N.Takes X Wout)
    (hb : ∀ (W : WX) (pn : List (Addr × Obj)) (xe : Value → Shared → Prop), L2N.Takes (X.tr pn xe) W → PassesOwn (model X.prog X.w) X.A X.env xe → PSs (X.tr pn xe) body (tb W))
    (hh : Clauses X n (hd0 :: hds) l) : PS X (.Try body (hd0 :: hds) [] [] pos) (fun D σ H => tb (wClauses X.K i Wout D l) D σ H) := by
  refine ⟨fun pins s σ H D I h => ?_⟩
  have ok := I.ok
  have fr : X.A.frames = some (X.env :: X.outer) := by rw [ok.frames, hs]
  refine wpAny_Try_except ?_
  have B := hb (wClauses X.K i Wout D l) (X.pn ++ pins) (fun e s1 => wpAny (model X.prog X.w) X.A (noteFrame e X.env) (fun _ s2 => wpAny (model X.prog X.w) X.A (setFlight e none) (fun _ s3 =>
    wpAny (model X.prog X.w) X.A (handleBy e X.env (hd0 :: hds)) (SP X pins D) X.xe s3) X.xe s2) X.xe s1) (fun u s' xx => ?_) PassesOwn.looking
  · refine wpAny_mono (B.run [] s σ H D (I.toTry _) h) (fun f s1 hsp => ?_) (fun e s1 he => he)
    cases f with
    | next =>
      obtain ⟨σ1, H1, J, q⟩ := hsp
      exact wpAny_execs_nil ⟨σ1, H1, J.ofTry ok, q⟩
    | brk =>
      obtain ⟨σ1, H1, J, q⟩ := hsp
      exact ⟨σ1, H1, J.ofTry ok, q⟩
    | cont =>
      obtain ⟨σ1, H1, J, q⟩ := hsp
      exact ⟨σ1, H1, J.ofTry ok, q⟩
    | ret u =>
      obtain ⟨v, σ1, H1, J, r, q⟩ := hsp
      exact ⟨v, σ1, H1, J.ofTry ok, r, q⟩
  · -- an error has come
    obtain ⟨a, G, sI, pins', τ, H1, cls, d, rfl, J0, nb, up, sky, na, os, ag, w⟩ := xx
    have J : Inv X pins τ H1 sI := J0.ofTry ok
    have sky1 : Sky G (X.env :: X.outer) a (L2N.Zn cls d) X.env.locals s'.heap := by rw [← hs]; exact sky
    show wpAny (model X.prog X.w) X.A (noteFrame (.ref a) X.env) _ _ _
    refine L2N.Sky.land L2N.Zn.steady fr hf sky1 fun h3 fl3 up3 => ?_
    have J3 : Inv X pins τ H1 { s' with heap := h3 } := J.landed nb fl3.1 (up.trans up3) os ag
    obtain ⟨oe3, vs3, he3, hz3, hd3⟩ := fl3.there
    have noF : a ∉ frs (X.env :: X.outer) := fun hm => by
      obtain ⟨_, o1, e1, hnf⟩ := fl3.2.2.1.mem hm
      rw [he3] at e1
      cases e1
      exact hnf _ hd3
    have nL : a ≠ X.env.locals := fun z => noF (List.mem_filterMap.mpr ⟨X.env, List.mem_cons_self, by rw [hf, z]⟩)
    have nO : a ∉ X.fs := fun hm => by
      obtain ⟨e, he, q⟩ := List.mem_filterMap.mp hm
      exact noF (List.mem_filterMap.mpr ⟨e, List.mem_cons_of_mem _ he, q⟩)
    have S3 := J3.suite he3 hd3 na nL nO
    have go : ∀ {hs' : List ExceptHandler} {l' : List Sui}, Clauses X n hs' l' → wClauses X.K i Wout D l' cls d τ H1 → wpAny (model X.prog X.w) X.A (handleBy (.ref a) X.env hs') (SP X pins D) X.xe { s' with heap := h3 } := by
      intro hs' l' hk
      induction hk with
      | nil =>
        intro w
        refine wpAny_handleBy_nil ?_
        obtain ⟨_, _, _, oe, vs, T, oT, ts1, he, hz, hd, h1, hr⟩ := id fl3
        unfold PySem.passOn
        refine wpAny_bind (wpAny_field he hd h1 ?_)
        rw [if_neg (fun z : (Value.ref T == Value.none) = true => by simp at z)]
        have thrown : wpAny (model X.prog X.w) X.A (setFlight (.ref a) X.env.frame) (fun _ s4 => wpAny (model X.prog X.w) X.A (throw (.ref a) : Sem Flow) (SP X pins D) X.xe s4) X.xe { s' with heap := h3 } := by
          rw [hf]
          refine HandSPX.setFlight_upZ fl3 fun h4 hh4 up4 => wpAny_throw (tk _ _ ⟨a, G, sI, pins, τ, H1, cls, d, rfl, J, nb, (up.trans up3).trans up4, .inr (.inr (by rw [hs]; exact hh4)), na, os, ag, w⟩)
        first
          | exact wpAny_bind (wpAny_pure (wpAny_bind thrown))
          | exact wpAny_bind thrown
      | @cons x c ts b0 suite p1 p2 hds2 l2 hc hsu r ih =>
        intro w
        obtain ⟨b, hb1, hyes, hno⟩ := w
        refine wpAny_handleBy_cons (codeAny_handlers_test ?_) (by intro q; cases q)
        have LT : PySem.W.Looks (model X.prog X.w) h3 (typeOf (.ref a)) cls := fun A Q E s k q => wpAny_typeOf_ref (k _ _ he3) (by rw [hz3.1]; exact q)
        have LM := PySem.W.exm_one (M := model X.prog X.w) (J3.kIn) LT hb1
        have named : ∀ {Q : Value → Shared → Prop} {E : Value → Shared → Prop}, Q c { s' with heap := h3 } → wpAny (model X.prog X.w) (X.A.mark (some (.ref a))) (eval (.Name x p1) X.env) Q E { s' with heap := h3 } := fun {Q E} q => by
          obtain ⟨g1, g2, g3 | ⟨g3, g4, g5⟩⟩ := hc
          · exact ld_glob (X := X.suite a ((a, oe3) :: (X.pn ++ pins))) S3 g1 g3 q g2
          · exact ld_blt (X := X.suite a ((a, oe3) :: (X.pn ++ pins))) S3 g1 g3 g4 q g5 g2
        refine named (LM.here ?_)
        cases b with
        | false =>
          show wpAny _ X.A (handleBy (.ref a) X.env hds2) _ _ _
          exact ih (hno rfl)
        | true =>
          refine codeAny_handlers_suite_as ?_
          refine HandSPX.lands_againZ fl3 fun h4 fl4 up4 => ?_
          have J4 : Inv X pins τ H1 { s' with heap := h4 } := J.landed nb fl4.1 ((up.trans up3).trans up4) os ag
          obtain ⟨oe4, vs4, he4, hz4, hd4⟩ := fl4.there
          have S4 := J4.suite he4 hd4 na nL nO
          refine store_ok (X := X.suite a ((a, oe4) :: (X.pn ++ pins))) (v := .ref a) S4 hN hi (.inl hln) rfl (fun s5 S5 => ?_) (.inr hln)
          refine wpAny_mono ((hsu a oe4 cls d (X.pn ++ pins) hz4 ⟨_, hd4⟩).run [] s5 _ H1 _ S5 (hyes rfl a na)) (fun f s6 hsp => ?_) (fun _ _ z => False.elim z)
          have behind : ∀ {σ6 : L2.St} {H6 : Hp} {Q : Shared → Prop}, Inv (X.suite a ((a, oe4) :: (X.pn ++ pins))) [] σ6 H6 s6 → (∀ s7, Inv X pins (σ6.set i none) H6 s7 → Q s7) → wpAny (model X.prog X.w) X.A (do bindName X.env n .none; unbindBehindTheSuite X.env n p2) (fun _ s7 => Q s7) X.xe s6 :=
            fun {σ6 H6 Q} S6 hq => gone_ok (S6.unsuite ok) hN hi hln hq
          cases f with
          | next =>
            obtain ⟨σ6, H6, S6, q6⟩ := hsp
            exact behind S6 fun s7 J7 => ⟨_, _, J7, q6⟩
          | brk =>
            obtain ⟨σ6, H6, S6, q6⟩ := hsp
            exact behind S6 fun s7 J7 => ⟨_, _, J7, q6⟩
          | cont =>
            obtain ⟨σ6, H6, S6, q6⟩ := hsp
            exact behind S6 fun s7 J7 => ⟨_, _, J7, q6⟩
          | ret u =>
            obtain ⟨v6, σ6, H6, S6, r6, q6⟩ := hsp
            exact behind S6 fun s7 J7 => ⟨_, _, _, J7, r6, q6⟩
    exact go hh w
end

/-! ### lambdas -/
/-- the lambda's body runs, its errors with an empty context -/
abbrev lamN (X : Cx) (A : Around) (outer : List PySem.Env) (s : Shared) (H : Hp) (E : XK) (scope : Scope) (f c' : Addr) : Cx :=
  (lamCx X A outer s H E scope f c').wish fun e s' => wpAny (model X.prog X.w) (A.deeper (lamEnv X scope s.heap.objs.size f c')) (leaving (lamEnv X scope s.heap.objs.size f c') e) (fun _ s'' => L2N.CX X.prog X.w outer H s E e s'') (fun e' s'' => L2N.CX X.prog X.w outer H s E e' s'') s'
section
variable {X : Cx} {pins : List (Addr × Obj)} {σ : L2.St} {H : Hp} {s : Shared}
theorem lamN_takes {A : Around} {outer : List PySem.Env} {s1 : Shared} {HZ : Hp} {E : XK} {scope : Scope} {f c' : Addr} : L2N.Takes (lamN X A outer s1 HZ E scope f c') (fun cls d _ H => E cls d H) := L2N.takes_of rfl rfl rfl rfl
/-- x(), in the def that was given the lambda -/
theorem pe_actN {Eg : XK} {Ng : List Str} {qg : Str} {sg : Scope} {g f c' : Addr} {cdg pm ctv : Value} {params : Arguments} {body : Expr} {scope : Scope} {k i : Nat} {a : Str} {pn : List (Addr × Obj)} {xe : Value → Shared → Prop} {W : WX} {E : XK} {tb : TE} {p1 p2 : Pos} {CXg : CXT}
    (I : Inv X pins σ H s) (L : LamS X.env.scope scope) (hf : s.heap.get? f = some (PySem.W.kla_obj "<lambda>" (X.env.qual ++ "<lambda>") params body scope (cloFrom X.env.cells scope.names []) pm c' ctv)) (hfn : H f = none) (hfr : f ∉ frs X.stack)
    (hbind : bindArgs (PySem.W.kla_fn "<lambda>" (X.env.qual ++ "<lambda>") params body scope (cloFrom X.env.cells scope.names []) pm (.ref c') ctv) ⟨[], []⟩ = pure [])
    (tk : L2N.Takes ((cxOf CXg X.prog X.w X.K X.mg X.base Ng qg sg g cdg X.A X.stack s H Eg).tr pn xe) W) (hW : ∀ cls d τ H', E cls d H' → W cls d τ H') (hr : Room (k + 1) (X.A.deeper (envOfC qg sg s.heap.objs.size g cdg)))
    (hbody : ∀ (A : Around) (outer : List PySem.Env) (s : Shared) (H : Hp), Room k (A.deeper (lamEnv X scope s.heap.objs.size f c')) → PE (lamN X A outer s H E scope f c') body tb)
    (hN : Ng[i]? = some a) (hv : Vis sg a) (hd : (a == ("__debug__" : Str)) = false := by decide) (hcd : (a == ("__classdict__" : Str)) = false := by decide) :
    PE ((cxOf CXg X.prog X.w X.K X.mg X.base Ng qg sg g cdg X.A X.stack s H Eg).tr pn xe) (.Call (.Name a p1) [] [] p2) (fun σZ HZ Q => σZ[i]? = some (some (.ref f)) ∧ HZ c' = some (CodeO c' (X.env.qual ++ "<lambda>")) ∧ tb σ HZ Q) := by
  refine ⟨fun pZ sZ σZ HZ Q IZ h => ?_⟩
  obtain ⟨hs, hc, ht⟩ := h
  have look := (pe_var (pos := p1) (i := i) hN hv hd hcd).run pZ sZ σZ HZ (fun v H1 => v = .ref f ∧ H1 = HZ) IZ ⟨.ref f, hs, rfl, rfl⟩
  refine wpAny_Call_Name_kw (thn look fun u s1 ⟨v, H1, I1, r1, ev, eH⟩ => ?_)
  subst ev
  subst eH
  obtain rfl : u = Value.ref f := r1
  have there : s1.heap.get? f = some (PySem.W.kla_obj "<lambda>" (X.env.qual ++ "<lambda>") params body scope (cloFrom X.env.cells scope.names []) pm c' ctv) := I1.base.keep f _ hf hfn hfr (fun z => nomatch (show f ∈ ([] : List Addr) from z))
  refine PySem.W.callWith_F0 ⟨_, _, _, _, there⟩ ?_
  have un : Un (frs X.stack) [] H H1 s.heap s1.heap := I1.base
  obtain ⟨⟨oc, vs, t, hoc, hdc, hvc⟩, _, _⟩ := I1.hok c' _ hc
  have called : codeAny (model X.prog X.w) (X.A.deeper (envOfC qg sg s.heap.objs.size g cdg)) (.call (.ref f) ⟨[], []⟩) (CR (L2N.CX X.prog X.w) (envOfC qg sg s.heap.objs.size g cdg :: X.stack) X.prog X.w H1 s1 Q E) s1 := by
    refine PySem.W.kla_callFunE hr.depth there rfl L.co L.gen rfl ⟨c', oc, vs, t, rfl, hoc, hdc, hvc⟩ ?_
    rw [hbind]
    refine wpAny_pure (wpAny_newFunctionEnv (fun y hy => (L.own y hy).2) (fun y hy => absurd hy (by simp)) (fun g1 hns hsb => ⟨I1.nolimit.fresh _ hsb, ?_⟩) L.kind)
    show codeAny _ _ (.expr body (lamEnv X scope s1.heap.objs.size f c')) _ _
    have kp : ∀ b o, s1.heap.get? b = some o → g1.get? b = some o := fun b o e => hsb.extBut b o (Nat.ne_of_lt (Heap.lt_size e)) (Heap.get?_push_of_some _ e)
    have J0 : Inv (lamCx X (X.A.deeper (envOfC qg sg s.heap.objs.size g cdg)) (envOfC qg sg s.heap.objs.size g cdg :: X.stack) s1 H1 E scope f c') [] σ H1 { s1 with heap := g1, toks := s1.toks + ([] : List (Str × Value)).length } :=
      lam_start2 I L I1.env0 hr.hd un hns kp
    have J : Inv (lamN X (X.A.deeper (envOfC qg sg s.heap.objs.size g cdg)) (envOfC qg sg s.heap.objs.size g cdg :: X.stack) s1 H1 E scope f c') [] σ H1 { s1 with heap := g1, toks := s1.toks + ([] : List (Str × Value)).length } := J0.wish _
    refine PySem.W.kla_codeExpr (wpAny_mono ((hbody _ _ s1 H1 (hr.deeper _)).run [] _ _ H1 Q J ht) (fun v s' hq => ?_) fun e s' hq => hq)
    obtain ⟨w', H', J', rv, q⟩ := hq
    exact ⟨w', H', J'.os, J'.bare, J'.base, J'.hok, rv, q⟩
  refine wpAny_call (codeAny_mono called fun r s' hq => ?_)
  · cases r with
    | error e => exact (L2N.passes_call tk hW) pZ σZ H1 s1 e s' I1 hq
    | ok fl =>
      cases fl with
      | ret u => exact I1.after hq
      | next => exact False.elim hq
      | brk => exact False.elim hq
      | cont => exact False.elim hq
/-- where a lambda has been made: all as it was, or one more code object, noted in the maker's table -/
def Grown (P : Addr) (q : Str) (H H1 : Hp) : Prop := H1 = H ∨ ∃ (ps ps' : Array Value) (c : Addr), H P = some (.tbl ps) ∧ H c = none ∧ H1 = upd (upd H P (.tbl ps')) c (CodeO c q)
theorem Grown.ext {P : Addr} {q : Str} {H H1 : Hp} (g : Grown P q H H1) : ExtN H H1 := by
  rcases g with e | ⟨ps, ps', c, hP, hc, e⟩
  · rw [e]
    exact ExtN.refl H
  · rw [e]
    intro b o hb nt
    rw [upd_ne (ne_of_none hb hc), upd_ne fun z => nt ps (Option.some.inj (hb.symm.trans (by rw [z]; exact hP)))]
    exact hb
theorem lam_made {T : List (Addr × Str)} {c P : Addr} {params : Arguments} {body : Expr} {scope : Scope} {pos : Pos} {E : Value → Shared → Prop} {Q : Value → Shared → Prop} (I : Inv X pins σ H s) (TB : TabB X.base X.mg c P) (hcode : X.env.code = .ref c)
    (hm : (P, X.env.qual ++ "<lambda>") ∈ T) (hu : ∀ p ∈ T, p.1 = P → p.2 = X.env.qual ++ "<lambda>") (hT : Tabs T H) (hdef : defaultsOf params X.env = ([], [])) (hfree : ∀ y ∈ scope.names, y.2 = .free → ∃ c, X.env.cells.lookup y.1 = some c)
    (h : ∀ (f c' : Addr) (pm ctv : Value) (H1 : Hp) (s' : Shared), Inv X pins σ H1 s' → Grown P (X.env.qual ++ "<lambda>") H H1 → Tabs T H1 →
      s'.heap.get? f = some (PySem.W.kla_obj "<lambda>" (X.env.qual ++ "<lambda>") params body scope (cloFrom X.env.cells scope.names []) pm c' ctv) → H1 f = none → f ∉ frs X.stack → H1 c' = some (CodeO c' (X.env.qual ++ "<lambda>")) → Q (.ref f) s') :
    wpAny (model X.prog X.w) X.A (eval (.Lambda params body scope pos) X.env) Q E s := by
  obtain ⟨ps, hP, htr, hks⟩ := hT _ hm
  refine PySem.W.kla_eval hdef ?_
  have there : s.heap.get? P = some { cls := .none, data := .fields ps } := I.hok P _ hP
  have noF : ∀ f, s.heap.objs.size ≤ f → f ∉ frs X.stack := fun f hf z => by
    rcases List.mem_cons.mp (I.stkSub _ z) with e | e
    · have lt := I.lt
      rw [← e] at lt
      exact absurd (Nat.lt_of_lt_of_le lt hf) (Nat.lt_irrefl _)
    · exact I.nofs hf e
  cases hc : codeAmong pos ps.toList with
  | some cv =>
    obtain ⟨c1, e1, hco⟩ := hks pos cv hc
    subst e1
    refine PySem.W.kla_makeFunctionHit (mg := X.mg) (c := c) (P := P) (ps := ps) (closure_ok hfree) I.ok.glob (I.mod.glob.keeps I.bk) hcode (TB.code.keeps I.bk) there htr hc (TB.bm.keeps I.bk) fun ctv g tk hx hsz => ?_
    exact h g.objs.size c1 _ ctv H _ (I.kept fun b o e => Heap.get?_push_of_some _ (hx b o e)) (.inl rfl) hT (Heap.get?_push_size _ rfl) (I.hok.fresh hsz) (noF _ hsz) hco
  | none =>
    refine PySem.W.kla_makeFunction (mg := X.mg) (c := c) (P := P) (ps := ps) (closure_ok hfree) I.ok.glob (I.mod.glob.keeps I.bk) hcode (TB.code.keeps I.bk) there htr hc TB.gP (TB.bm.keeps I.bk) fun c1 ctv g tk hx hge hlt hrec htb => ?_
    obtain ⟨c2, oc, vs, t, e2, hoc, hd, hv⟩ := hrec
    cases e2
    have sz := Nat.le_trans hge (Nat.le_of_lt hlt)
    have nC : H c1 = none := I.hok.fresh hge
    have I1 := inv_table (q := X.env.qual ++ "<lambda>") (t' := tk) (more := #[rawInt pos.line, rawInt pos.col, .ref c1]) (h' := g.push (PySem.W.kla_obj "<lambda>" (X.env.qual ++ "<lambda>") params body scope (cloFrom X.env.cells scope.names []) ((X.mg "__name__").getD .none) c1 ctv)) I hP
      (fun b o hb e => Heap.get?_push_of_some _ (hx b o hb e)) (Heap.get?_push_of_some _ htb) hge ⟨oc, vs, t, Heap.get?_push_of_some _ hoc, hd, hv⟩
    have G : Grown P (X.env.qual ++ "<lambda>") H (upd (upd H P (.tbl (ps ++ #[rawInt pos.line, rawInt pos.col, .ref c1]))) c1 (CodeO c1 (X.env.qual ++ "<lambda>"))) := .inr ⟨ps, _, c1, hP, nC, rfl⟩
    have eL : (ps ++ #[rawInt pos.line, rawInt pos.col, .ref c1]).toList = ps.toList ++ [rawInt pos.line, rawInt pos.col, .ref c1] := by simp
    refine h g.objs.size c1 _ ctv _ _ I1 G (fun p hp => ?_) (Heap.get?_push_size _ rfl) ?_ (noF _ sz) upd_same
    · by_cases e : p.1 = P
      · rw [hu p hp e, e]
        refine ⟨_, (upd_ne (ne_of_none hP nC)).trans upd_same, by rw [eL]; exact PySem.TriplesOk_snoc _ _ _ _ htr, fun p1 cv hcv => ?_⟩
        rw [eL] at hcv
        rcases among_app _ htr hcv with z | z
        · obtain ⟨c0, g1, g2⟩ := hks p1 cv z
          exact ⟨c0, g1, G.ext _ _ g2 codeO_ne⟩
        · exact ⟨c1, z, upd_same⟩
      · obtain ⟨ps2, g1, g2, g3⟩ := hT p hp
        refine ⟨ps2, (upd_ne (ne_of_none g1 nC)).trans ((upd_ne e).trans g1), g2, fun p1 cv hcv => ?_⟩
        obtain ⟨c0, g4, g5⟩ := g3 p1 cv hcv
        exact ⟨c0, g4, G.ext _ _ g5 codeO_ne⟩
    · rw [upd_ne (Nat.ne_of_gt hlt), upd_ne (Nat.ne_of_gt (Nat.lt_of_lt_of_le (Heap.lt_size there) sz))]
      exact I.hok.fresh sz
/-- the def that calls what it was given; TT: what it makes of the lambda's reading -/
def GivesN (X : Cx) (Ng : List Str) (x : Str) (sg : Scope) (g : Addr) (cdg : Value) (bg : List Stmt) (a : Str) (q : Str) (TT : (XK → Hp → VK → Prop) → Hp → VK → Prop) : Prop :=
  ∀ (f c' : Addr) (s : Shared) (H : Hp) (Q : VK) (tl : XK → Hp → VK → Prop),
    (∀ (W : WX) (pn : List (Addr × Obj)) (xe : Value → Shared → Prop) (E : XK) (p1 p2 : Pos), L2N.Takes ((cxOf C8.CX0 X.prog X.w X.K X.mg X.base Ng x sg g cdg X.A X.stack s H C8.E0).tr pn xe) W → (∀ cls d τ H', E cls d H' → W cls d τ H') →
      PE ((cxOf C8.CX0 X.prog X.w X.K X.mg X.base Ng x sg g cdg X.A X.stack s H C8.E0).tr pn xe) (.Call (.Name a p1) [] [] p2) (fun σZ HZ Q => σZ[0]? = some (some (.ref f)) ∧ HZ c' = some (CodeO c' q) ∧ tl E HZ Q)) →
    H c' = some (CodeO c' q) → TT tl H Q →
    ∃ t, PSs (cxOf C8.CX0 X.prog X.w X.K X.mg X.base Ng x sg g cdg X.A X.stack s H C8.E0).nox bg t ∧ t { nx := fun _ H' => Q .non H', rt := Q } (L2.start Ng [.ref f]) H
/-- x(lambda: body), run -/
theorem lamcallN {T : List (Addr × Str)} {TT : (XK → Hp → VK → Prop) → Hp → VK → Prop} {x a : Str} {g c P : Addr} {k : Nat} {pg : Arguments} {bg : List Stmt} {sg : Scope} {dV kV doc pm cdv ct oc : Value} {an od : Option Addr} {osl : Array (Option Value)} {Ng : List Str} {Q : VK}
    {params : Arguments} {body : Expr} {scope : Scope} {t : XK → TE} {p lpos pos : Pos} (hg : Gl X x) (hm : X.mg x = some (.ref g)) (hk : PySem.W.keepIn X.K (.ref g) = true)
    (lk : X.K.lookup g = some ⟨oc, od, .func (PySem.W.fnOf x x pg bg sg dV kV doc pm an cdv ct), osl⟩) (hcg : PySem.W.codeIn X.K cdv x = true) (hb : L2.Binds X.K (PySem.W.fnOf x x pg bg sg dV kV doc pm an cdv ct) [a] []) (Sg : FnScope Ng [a] sg) (hNg : Ng[0]? = some a) (hva : Vis sg a)
    (hG : GivesN X Ng x sg g cdv bg a (X.env.qual ++ "<lambda>") TT)
    (TB : TabB X.base X.mg c P) (hcode : X.env.code = .ref c) (hmT : (P, X.env.qual ++ "<lambda>") ∈ T) (hu : ∀ p ∈ T, p.1 = P → p.2 = X.env.qual ++ "<lambda>") (hr : Room (k + 2) X.A) (L : LamS X.env.scope scope) (hdef : defaultsOf params X.env = ([], []))
    (hbind : ∀ (q : Str) (cl : List (Str × Addr)) (pm cv ctv : Value), bindArgs (PySem.W.kla_fn "<lambda>" q params body scope cl pm cv ctv) ⟨[], []⟩ = pure [])
    (hbody : ∀ (A : Around) (outer : List PySem.Env) (s : Shared) (H : Hp) (E : XK) (f c' : Addr), Room k (A.deeper (lamEnv X scope s.heap.objs.size f c')) → PE (lamN X A outer s H E scope f c') body (t E))
    (I : Inv X pins σ H s) (hT : Tabs T H) (h : ∀ H1, Grown P (X.env.qual ++ "<lambda>") H H1 → Tabs T H1 → TT (fun E H' Q' => t E σ H' Q') H1 Q)
    (hdb : (x == ("__debug__" : Str)) = false := by decide) (hd : (a == ("__debug__" : Str)) = false := by decide) (hcd : (a == ("__classdict__" : Str)) = false := by decide) :
    wpAny (model X.prog X.w) X.A (eval (.Call (.Name x p) [.Lambda params body scope lpos] [] pos) X.env) (EP X pins σ Q) X.xe s := by
  refine wpAny_Call_Name_kw (ld_glob I hg hm ?_ hdb)
  refine PySem.W.callWith_K (h₀ := X.base) I.ok.mod.kin hk ?_ (by rfl) (by rfl)
  show wpAny _ _ (spliced ((false, eval (.Lambda params body scope lpos) X.env) :: backTo pos (starEach [] X.env))) _ _ s
  refine Calls.spliced_cons (lam_made I TB hcode hmT hu hT hdef (L.has I.ok) fun f c' pm1 ctv H1 s1 I1 eN T1 hf hfn hfr hco => ?_)
  refine Calls.spliced_nil ⟨I1.kIn, ?_⟩
  refine wpAny_call (codeAny_mono (R := CR C8.CX0 X.stack X.prog X.w H1 s1 Q C8.E0) ?_ fun r s2 hq => ?_)
  · refine run_ofS (N := Ng) (ps := [a]) (us := [.ref f]) (vs := [.ref f]) lk hcg Sg hr I1.env0 (hb s1 [.ref f] I1.kIn rfl) (.cons rfl .nil) rfl fun hr1 => ?_
    obtain ⟨t1, ht1, hq1⟩ := hG f c' s1 H1 Q (fun E H' Q' => t E σ H' Q') (fun W pn xe E p1 p2 tk hW => pe_actN (i := 0) I1 L hf hfn hfr (hbind _ _ _ _ _) tk hW hr1 (fun A outer s H hr2 => hbody A outer s H E f c' hr2) hNg hva hd hcd) hco (h H1 eN T1)
    exact ⟨t1, ht1.nox, hq1⟩
  · cases r with
    | error e => exact (show False from hq).elim
    | ok fl =>
      cases fl with
      | ret u => exact I1.after hq
      | next => exact False.elim hq
      | brk => exact False.elim hq
      | cont => exact False.elim hq
end
end Hx

/-! The def that calls what it is given, and tells what came of it. -/
namespace Hx
open PySem PySem.Spec PyProof.Rows L2 HotX L2H Ev LamX
def cNames : List Str := ["_law_call_so", "_law_found", "_law_e"]
def cBody (q1 q2 q3 q4 q5 q6 q7 q8 q9 : Pos) (m1 m2 m3 m4 m5 m6 : Nat) (t1 t2 t3 t4 t5 t6 t7 t8 t9 t10 r1 r2 r3 r4 r5 r6 r7 r8 r9 r10 l1 l2 l3 l4 l5 l6 l7 l8 e1 e2 e3 : Pos) : List Stmt :=
  [.Assign [(.Name "_law_found" q1)] (.Constant .none m1 q2) q3,
    .Try [.Assign [(.Name "_law_found" q4)] (.Tuple [(.Constant (.str "told") m2 q5), (.Call (.Name "_law_call_so" q6) [] [] q7)] m3 q8) q9]
      [.ExceptHandler (some (.Name "TooMany" t1)) (some "_law_e") [.Assign [(.Name "_law_found" t2)] (.Tuple [(.Call (.Name "_law_kinds" t3) [(.Name "_law_e" t4)] [] t5), (.Attribute (.Name "_law_e" t6) "limit" t7)] m4 t8) t9] t10,
       .ExceptHandler (some (.Name "InvalidText" r1)) (some "_law_e") [.Assign [(.Name "_law_found" r2)] (.Tuple [(.Call (.Name "_law_kinds" r3) [(.Name "_law_e" r4)] [] r5), (.Attribute (.Name "_law_e" r6) "line" r7)] m5 r8) r9] r10,
       .ExceptHandler (some (.Name "LockError" l1)) (some "_law_e") [.Assign [(.Name "_law_found" l2)] (.Tuple [(.Call (.Name "_law_kinds" l3) [(.Name "_law_e" l4)] [] l5)] m6 l6) l7] l8] [] [] e1,
    .Return (some (.Name "_law_found" e2)) e3]
def spK (K : PySem.W.Frag) : Addr × Obj → Sp := fun p vs H Q _ => ∃ c, vs = [.ref p.1] ∧ ErrK K c ∧ p.2.cls = .ref (He.ga K (xname c)) ∧ DctOk H p.2 ∧ (∃ us, p.2.data = .fields us) ∧ ∀ H', (∀ b o, H b = some o → H' b = some o) → Q (.str (kText c)) H'
theorem kinds_fn {P : Program} {w : World} {K : PySem.W.Frag} {mg : Str → Option Value} {base : Heap} {f : Addr} {name qual : Str} {params : Arguments} {body : List Stmt} {scope csc : Scope} {dV kV doc pm cdv ct oc : Value} {an od : Option Addr} {osl : Array (Option Value)}
    (lk : K.lookup f = some ⟨oc, od, .func (PySem.W.fnOf name qual params body scope dV kV doc pm an cdv ct), osl⟩) (hcd : PySem.W.codeIn K cdv qual = true) (S : FnScope kNames ["_law_e"] scope) (M : KMg K mg) (SC : KSc scope csc)
    (hb : ∀ (Y : Cx) (c : Nat) (p : Addr × Obj) (H : Hp) (Q : VK) (D : Ends), Y.N = kNames → ErrK Y.K c → KMg Y.K Y.mg → Y.env.scope = scope → (∀ x, Y.fn x = true) → Hot1 Y.A p → p ∈ Y.pn → p.2.cls = .ref (He.ga Y.K (xname c)) → DctOk H p.2 → (∃ vs, p.2.data = .fields vs) → (∀ H', (∀ b o, H b = some o → H' b = some o) → D.rt (.str (kText c)) H') →
      ∃ t, PSs Y body t ∧ t D (L2.start kNames [.ref p.1]) H) :
    FnP P w K mg base C8.CX0 1 f (PySem.W.fnOf name qual params body scope dV kV doc pm an cdv ct) ["_law_e"] (spK K) := by
  refine fnP_of (k := 0) lk hcd S (fun p vs H Q E ⟨c, e, _⟩ => by rw [e]; rfl) fun A outer s H vs Q E p hot hr ⟨c, e, C, hz, hd, hf, q⟩ => ?_
  subst e
  exact hb (cxH C8.CX0 P w K mg base kNames qual scope f cdv A outer s H E p) c p H Q _ rfl C M rfl (fun _ => rfl) hot (List.mem_singleton.mpr rfl) hz hd hf q
/-- the scope of the def that calls -/
structure CSc (sc : Scope) : Prop where
  gl : ∀ x ∈ (["TooMany", "InvalidText", "LockError", "_law_kinds"] : List Str), sc.names.lookup x = some .globalImplicit
  lo : ∀ x ∈ cNames, sc.names.lookup x = some .local
/-- an error without attributes, as the clauses see it -/
structure ExmK (K : PySem.W.Frag) (LE : Addr) (c : Nat) : Prop where
  e8 : PySem.W.exmOne K (.ref (He.ga K (xname c))) (.ref (He.ga K (xname 8))) = some false
  e5 : PySem.W.exmOne K (.ref (He.ga K (xname c))) (.ref (He.ga K (xname 5))) = some false
  eL : PySem.W.exmOne K (.ref (He.ga K (xname c))) (.ref LE) = some true
/-- an error's attribute -/
def fname (c : Nat) : Str := if c = 5 then "line" else "limit"
/-- an error with an attribute, as the clauses see it -/
structure FldK (K : PySem.W.Frag) (c : Nat) : Prop where
  e8 : PySem.W.exmOne K (.ref (He.ga K (xname c))) (.ref (He.ga K (xname 8))) = some (decide (c = 8))
  e5 : PySem.W.exmOne K (.ref (He.ga K (xname c))) (.ref (He.ga K (xname 5))) = some (decide (c = 5))
  hdC : PySem.W.hasDictIn K (He.ga K (xname c)) = true
  no : PySem.W.findIn K (.ref (He.ga K (xname c))) (fname c) = some none
/-- an error that is told with its attribute -/
def ech2 (K : PySem.W.Frag) (Q : VK) : XK := fun cls d H1 => ∃ (c : Nat) (i : Int) (dd : Addr), (c = 5 ∨ c = 8) ∧ cls = .ref (He.ga K (xname c)) ∧ d = some dd ∧ ErrK K c ∧ FldK K c ∧ H1 dd = some (.xd [(fname c, .int i)]) ∧ ∀ H2, (∀ b o, H1 b = some o → H2 b = some o) → ∀ p, H2 p = none → Q (.ref p) (upd H2 p (.tup [.str (kText c), .int i]))
def ech1 (K : PySem.W.Frag) (LE : Addr) (Q : VK) : XK := fun cls d H1 => ∃ c, cls = .ref (He.ga K (xname c)) ∧ d = none ∧ ErrK K c ∧ ExmK K LE c ∧ ∀ H2, (∀ b o, H1 b = some o → H2 b = some o) → ∀ p, H2 p = none → Q (.ref p) (upd H2 p (.tup [.str (kText c)]))
def echK (K : PySem.W.Frag) (LE : Addr) (Q : VK) : XK := fun cls d H1 => ech1 K LE Q cls d H1 ∨ ech2 K Q cls d H1
/-- what is told -/
def TTc (K : PySem.W.Frag) (LE : Addr) : (XK → Hp → VK → Prop) → Hp → VK → Prop := fun tl H Q =>
  tl (echK K LE Q) H
    (fun v H1 => 2 ≤ sizeLine ∧ ∀ p, H1 p = none → Q (.ref p) (upd H1 p (.tup [.str "told", v])))
theorem cNd : cNames.Nodup := by decide +kernel
theorem gives_call {X : Cx} {sg : Scope} {g LE fk : Addr} {cdg : Value} {fdk : FuncData} {q : Str} (SC : CSc sg) (hm : ∀ j, j < 10 → X.mg (xname j) = some (.ref (He.ga X.K (xname j)))) (hLE : X.mg "LockError" = some (.ref LE)) (hk : X.mg "_law_kinds" = some (.ref fk)) (kk : PySem.W.keepIn X.K (.ref fk) = true)
    (F : FnP X.prog X.w X.K X.mg X.base C8.CX0 1 fk fdk ["_law_e"] (spK X.K)) (hb : L2.Binds X.K fdk ["_law_e"] []) (hr : Room 2 X.A)
    (q1 q2 q3 q4 q5 q6 q7 q8 q9 : Pos) (m1 m2 m3 m4 m5 m6 : Nat) (t1 t2 t3 t4 t5 t6 t7 t8 t9 t10 r1 r2 r3 r4 r5 r6 r7 r8 r9 r10 l1 l2 l3 l4 l5 l6 l7 l8 e1 e2 e3 : Pos) :
    GivesN X cNames "_law_call" sg g cdg (cBody q1 q2 q3 q4 q5 q6 q7 q8 q9 m1 m2 m3 m4 m5 m6 t1 t2 t3 t4 t5 t6 t7 t8 t9 t10 r1 r2 r3 r4 r5 r6 r7 r8 r9 r10 l1 l2 l3 l4 l5 l6 l7 l8 e1 e2 e3) "_law_call_so" q (TTc X.K LE) := by
  intro f c' s H Q tl act hc h
  generalize hZ : (cxOf C8.CX0 X.prog X.w X.K X.mg X.base cNames "_law_call" sg g cdg X.A X.stack s H C8.E0).nox = Z
  have zN : Z.N = cNames := by rw [← hZ]; rfl
  have zK : Z.K = X.K := by rw [← hZ]; rfl
  have zmg : Z.mg = X.mg := by rw [← hZ]; rfl
  have zsc : Z.env.scope = sg := by rw [← hZ]; rfl
  have zfn : ∀ x, Z.fn x = true := fun x => by rw [← hZ]; rfl
  have nd : Z.N.Nodup := by rw [zN]; exact cNd
  have lo : ∀ x ∈ cNames, Z.env.scope.names.lookup x = some .local := by rw [zsc]; exact SC.lo
  have gl : ∀ x ∈ (["TooMany", "InvalidText", "LockError", "_law_kinds"] : List Str), Gl Z x := fun x hx => by show Z.env.scope.names.lookup x = _; rw [zsc]; exact SC.gl x hx
  let tsF : Nat → Addr → Value → Option Addr → TS := fun c a cls d D σ H => σ.length = 3 → ∃ (i : Int) (dd : Addr), cls = .ref (He.ga X.K (xname c)) ∧ d = some dd ∧ ErrK X.K c ∧ FldK X.K c ∧ H dd = some (.xd [(fname c, .int i)]) ∧ σ[2]? = some (some (.ref a)) ∧ ∀ H2, (∀ b o, H b = some o → H2 b = some o) → ∀ p, H2 p = none → D.nx (σ.set 1 (some (.ref p))) (upd H2 p (.tup [.str (kText c), .int i]))
  let tsL : Addr → Value → Option Addr → TS := fun a cls d D σ H => σ.length = 3 → ∃ c, cls = .ref (He.ga X.K (xname c)) ∧ d = none ∧ ErrK X.K c ∧ σ[2]? = some (some (.ref a)) ∧ ∀ H2, (∀ b o, H b = some o → H2 b = some o) → ∀ p, H2 p = none → D.nx (σ.set 1 (some (.ref p))) (upd H2 p (.tup [.str (kText c)]))
  have suiteF : ∀ (c : Nat) (u1 u2 u3 u4 u5 u6 u7 u8 u9 : Pos) (mm : Nat) (a : Addr) (oe : Obj) (cls : Value) (d : Option Addr) (pn : List (Addr × Obj)), L2N.Zn cls d oe → (∃ vs, oe.data = .fields vs) → PSs (Z.suite a ((a, oe) :: pn)) [.Assign [(.Name "_law_found" u2)] (.Tuple [(.Call (.Name "_law_kinds" u3) [(.Name "_law_e" u4)] [] u5), (.Attribute (.Name "_law_e" u6) (fname c) u7)] mm u8) u9] (tsF c a cls d) := by
    intro c u1 u2 u3 u4 u5 u6 u7 u8 u9 mm a oe cls d pn hz hf
    refine ⟨fun pins s1 σ H1 D I hh => ?_⟩
    obtain ⟨i, dd, rfl, rfl, C, FK, hx, hs, hq⟩ := hh (by rw [I.len]; show Z.N.length = 3; rw [zN]; rfl)
    obtain ⟨vs, hv⟩ := hf
    have hot : Hot1 (Z.suite a ((a, oe) :: pn)).A (a, oe) := ⟨rfl, vs, hv, hz.2.2 vs hv⟩
    have rm : RoomH 1 (Z.suite a ((a, oe) :: pn)).A := by
      have h1 := roomH_of (hr.deeper (envOfC "_law_call" sg s.heap.objs.size g cdg))
      have e : Z.A = X.A.deeper (envOfC "_law_call" sg s.heap.objs.size g cdg) := by rw [← hZ]; rfl
      rw [← e] at h1
      exact ⟨h1.dp, h1.un⟩
    have FZ : FnP (Z.suite a ((a, oe) :: pn)).prog (Z.suite a ((a, oe) :: pn)).w (Z.suite a ((a, oe) :: pn)).K (Z.suite a ((a, oe) :: pn)).mg (Z.suite a ((a, oe) :: pn)).base C8.CX0 1 fk fdk ["_law_e"] (spK X.K) := by
      subst hZ
      exact F
    have xf : XfC Z.K (He.ga X.K (xname c)) := by
      rw [zK]
      exact ⟨C.ec.hg, C.ec.hk, C.ec.hs, FK.hdC⟩
    have T := pss_one (ps_set (X := Z.suite a ((a, oe) :: pn)) (i := 1) (pos := u9) (pos' := u2) nd (by show Z.N[1]? = _; rw [zN]; rfl) (.inl (lo _ (by decide)))
      (pe_tup (x1 := mm) (pos := u8) (pa_cons (pe_callP (E := fun _ => C8.E0) (q := u3) (pos := u5) FZ rm hot List.mem_cons_self (gl "_law_kinds" (by decide)) (by show Z.mg _ = _; rw [zmg]; exact hk) (by show PySem.W.keepIn Z.K _ = _; rw [zK]; exact kk) (by show L2.Binds Z.K _ _ _; rw [zK]; exact hb) (fun σ pins H s e s' I h => h.elim)
        (pa_cons (pe_var (i := 2) (pos := u4) (by show Z.N[2]? = _; rw [zN]; rfl) (.inl (lo _ (by decide)))) pa_nil))
        (pa_cons (pe_xf (X := Z) (pos := u7) xf (by rw [zK]; exact FK.no) hz.zc ⟨vs, hv⟩ (pe_var (i := 2) (pos := u6) (by show Z.N[2]? = _; rw [zN]; rfl) (.inl (lo _ (by decide))))) pa_nil))) (by rfl) (.inl (zfn _)))
    refine T.run pins s1 σ H1 D I ?_
    refine ⟨_, hs, c, rfl, C, hz.1, (fun d2 e2 => by
      have e3 : some d2 = some dd := e2.symm.trans hz.2.1
      cases e3
      exact ⟨_, hx⟩), ⟨vs, hv⟩, fun H2 ext => ?_⟩
    exact ⟨.ref a, hs, rfl, rfl, dd, [(fname c, .int i)], .int i, rfl, ext _ _ hx, by simp [List.lookup], by show 2 ≤ sizeLine; decide, fun p hp => hq H2 ext p hp⟩
  have suite : ∀ (a : Addr) (oe : Obj) (cls : Value) (d : Option Addr) (pn : List (Addr × Obj)), L2N.Zn cls d oe → (∃ vs, oe.data = .fields vs) → PSs (Z.suite a ((a, oe) :: pn)) [.Assign [(.Name "_law_found" l2)] (.Tuple [(.Call (.Name "_law_kinds" l3) [(.Name "_law_e" l4)] [] l5)] m6 l6) l7] (tsL a cls d) := by
    intro a oe cls d pn hz hf
    refine ⟨fun pins s1 σ H1 D I hh => ?_⟩
    obtain ⟨c, rfl, rfl, C, hs, hq⟩ := hh (by rw [I.len]; show Z.N.length = 3; rw [zN]; rfl)
    obtain ⟨vs, hv⟩ := hf
    have hot : Hot1 (Z.suite a ((a, oe) :: pn)).A (a, oe) := ⟨rfl, vs, hv, hz.2.2 vs hv⟩
    have rm : RoomH 1 (Z.suite a ((a, oe) :: pn)).A := by
      have h1 := roomH_of (hr.deeper (envOfC "_law_call" sg s.heap.objs.size g cdg))
      have e : Z.A = X.A.deeper (envOfC "_law_call" sg s.heap.objs.size g cdg) := by rw [← hZ]; rfl
      rw [← e] at h1
      exact ⟨h1.dp, h1.un⟩
    have FZ : FnP (Z.suite a ((a, oe) :: pn)).prog (Z.suite a ((a, oe) :: pn)).w (Z.suite a ((a, oe) :: pn)).K (Z.suite a ((a, oe) :: pn)).mg (Z.suite a ((a, oe) :: pn)).base C8.CX0 1 fk fdk ["_law_e"] (spK X.K) := by
      subst hZ
      exact F
    have T := pss_one (ps_set (X := Z.suite a ((a, oe) :: pn)) (i := 1) (pos := l7) (pos' := l2) nd (by show Z.N[1]? = _; rw [zN]; rfl) (.inl (lo _ (by decide)))
      (pe_tup (x1 := m6) (pos := l6) (pa_cons (pe_callP (E := fun _ => C8.E0) (q := l3) (pos := l5) FZ rm hot List.mem_cons_self (gl "_law_kinds" (by decide)) (by show Z.mg _ = _; rw [zmg]; exact hk) (by show PySem.W.keepIn Z.K _ = _; rw [zK]; exact kk) (by show L2.Binds Z.K _ _ _; rw [zK]; exact hb) (fun σ pins H s e s' I h => h.elim)
        (pa_cons (pe_var (i := 2) (pos := l4) (by show Z.N[2]? = _; rw [zN]; rfl) (.inl (lo _ (by decide)))) pa_nil)) pa_nil)) (by rfl) (.inl (zfn _)))
    refine T.run pins s1 σ H1 D I ?_
    refine ⟨_, hs, c, rfl, C, hz.1, DctOk.none hz.2.1, ⟨vs, hv⟩, fun H2 ext => ⟨by show 1 ≤ sizeLine; decide, fun p hp => hq H2 ext p hp⟩⟩
  have cl : Clauses Z "_law_e" [.ExceptHandler (some (.Name "TooMany" t1)) (some "_law_e") [.Assign [(.Name "_law_found" t2)] (.Tuple [(.Call (.Name "_law_kinds" t3) [(.Name "_law_e" t4)] [] t5), (.Attribute (.Name "_law_e" t6) "limit" t7)] m4 t8) t9] t10,
       .ExceptHandler (some (.Name "InvalidText" r1)) (some "_law_e") [.Assign [(.Name "_law_found" r2)] (.Tuple [(.Call (.Name "_law_kinds" r3) [(.Name "_law_e" r4)] [] r5), (.Attribute (.Name "_law_e" r6) "line" r7)] m5 r8) r9] r10,
       .ExceptHandler (some (.Name "LockError" l1)) (some "_law_e") [.Assign [(.Name "_law_found" l2)] (.Tuple [(.Call (.Name "_law_kinds" l3) [(.Name "_law_e" l4)] [] l5)] m6 l6) l7] l8] [(.ref (He.ga X.K (xname 8)), tsF 8), (.ref (He.ga X.K (xname 5)), tsF 5), (.ref LE, tsL)] := by
    refine .cons ⟨gl "TooMany" (by decide), by decide, .inl (by rw [zmg]; exact hm 8 (by omega))⟩ (fun a oe cls d pn h1 h2 => suiteF 8 t1 t2 t3 t4 t5 t6 t7 t8 t9 m4 a oe cls d pn h1 h2) (.cons ⟨gl "InvalidText" (by decide), by decide, .inl (by rw [zmg]; exact hm 5 (by omega))⟩ (fun a oe cls d pn h1 h2 => suiteF 5 r1 r2 r3 r4 r5 r6 r7 r8 r9 m5 a oe cls d pn h1 h2) (.cons ⟨gl "LockError" (by decide), by decide, .inl (by rw [zmg]; exact hLE)⟩ suite .nil))
  have zst : Z.stack = Z.env :: Z.outer := by rw [← hZ]; rfl
  have zfr : Z.env.frame = some Z.env.locals := by rw [← hZ]; rfl
  have tk0 : L2N.Takes Z (fun _ _ _ _ => False) := fun u s' xx => by
    obtain ⟨_, _, _, _, _, _, _, _, _, _, _, _, _, _, _, _, w⟩ := xx
    exact w.elim
  have tr := ps_try_clauses (X := Z) (i := 2) (pos := e1) (Wout := fun _ _ _ _ => False) (body := [.Assign [(.Name "_law_found" q4)] (.Tuple [(.Constant (.str "told") m2 q5), (.Call (.Name "_law_call_so" q6) [] [] q7)] m3 q8) q9])
    (tb := fun W D σ H => ∃ Ech : XK, (∀ cls d σ' H', Ech cls d H' → W cls d σ' H') ∧ σ[0]? = some (some (.ref f)) ∧ H c' = some (CodeO c' q) ∧ tl Ech H (fun v H1 => 2 ≤ sizeLine ∧ ∀ p, H1 p = none → D.nx (σ.set 1 (some (.ref p))) (upd H1 p (.tup [.str "told", v]))))
    zst zfr nd (by rw [zN]; rfl) (lo _ (by decide)) tk0 (fun W pn xe tk _ => ⟨fun pins s1 σ H1 D I hh => by
      obtain ⟨Ech, hW, h1, h2, h3⟩ := hh
      have hact : PE (Z.tr pn xe) (.Call (.Name "_law_call_so" q6) [] [] q7) (fun σZ HZ Q => σZ[0]? = some (some (.ref f)) ∧ HZ c' = some (CodeO c' q) ∧ tl Ech HZ Q) := by
        subst hZ
        exact act W pn xe Ech q6 q7 tk hW
      have T := pss_one (ps_set (X := Z.tr pn xe) (i := 1) (pos := q9) (pos' := q4) nd (by show Z.N[1]? = _; rw [zN]; rfl) (.inl (lo _ (by decide))) (pe_tup (x1 := m3) (pos := q8) (pa_cons (pe_str (x := "told") (j := m2) (pos := q5)) (pa_cons hact pa_nil))) (by rfl) (.inl (zfn _)))
      exact T.run pins s1 σ H1 D I ⟨h1, h2, h3⟩⟩) cl
  have whole := pss_cons (ps_set (X := Z) (i := 1) (pos := q3) (pos' := q1) nd (by rw [zN]; rfl) (.inl (lo _ (by decide))) (pe_non (j := m1) (pos := q2)) (by rfl) (.inl (zfn _))) (pss_cons tr (pss_one (ps_ret (pos := e3) (pe_var (i := 1) (pos := e2) (by rw [zN]; rfl) (.inl (lo _ (by decide)))))))
  refine ⟨_, by rw [← hZ] at whole ⊢; exact whole, ?_⟩
  refine ⟨echK X.K LE Q, fun cls d σ1 H1 hx => ?_, rfl, hc, ?_⟩
  · have zk : Z.K = X.K := zK
    rcases hx with ⟨c, e1, e2, C, X1, hq⟩ | ⟨c, i, dd, hc5, e1, e2, C, FK, hx, hq⟩
    · subst e1
      subst e2
      refine ⟨false, X1.e8, (fun z => nomatch z), fun _ => ⟨false, X1.e5, (fun z => nomatch z), fun _ => ⟨true, X1.eL, fun _ a ha => fun hl => ?_, (fun z => nomatch z)⟩⟩⟩
      have hl : σ1.length = 3 := by rw [List.length_set] at hl; exact hl
      refine ⟨c, rfl, rfl, C, by rw [List.getElem?_set, if_pos rfl, if_pos (by omega)], fun H2 ext p hp => ⟨.ref p, ?_, hq H2 ext p hp⟩⟩
      simp [List.getElem?_set, hl]
    · subst e1
      subst e2
      rcases hc5 with rfl | rfl
      · refine ⟨false, FK.e8, (fun z => nomatch z), fun _ => ⟨true, FK.e5, fun _ a ha => fun hl => ?_, (fun z => nomatch z)⟩⟩
        have hl : σ1.length = 3 := by rw [List.length_set] at hl; exact hl
        refine ⟨i, dd, rfl, rfl, C, FK, hx, by rw [List.getElem?_set, if_pos rfl, if_pos (by omega)], fun H2 ext p hp => ⟨.ref p, ?_, hq H2 ext p hp⟩⟩
        simp [List.getElem?_set, hl]
      · refine ⟨true, FK.e8, fun _ a ha => fun hl => ?_, (fun z => nomatch z)⟩
        have hl : σ1.length = 3 := by rw [List.length_set] at hl; exact hl
        refine ⟨i, dd, rfl, rfl, C, FK, hx, by rw [List.getElem?_set, if_pos rfl, if_pos (by omega)], fun H2 ext p hp => ⟨.ref p, ?_, hq H2 ext p hp⟩⟩
        simp [List.getElem?_set, hl]
  · have e : (fun (v : V) (H1 : Hp) => 2 ≤ sizeLine ∧ ∀ p, H1 p = none → Q (.ref p) (upd H1 p (.tup [.str "told", v]))) =
        fun (v : V) (H1 : Hp) => 2 ≤ sizeLine ∧ ∀ p, H1 p = none → ∃ u, (((L2.start cNames [V.ref f]).set 1 (some .non)).set 1 (some (.ref p)))[1]? = some (some u) ∧ Q u (upd H1 p (.tup [.str "told", v])) := by
      funext v H1
      refine propext ⟨fun ⟨a, b⟩ => ⟨a, fun p hp => ⟨_, rfl, b p hp⟩⟩, fun ⟨a, b⟩ => ⟨a, fun p hp => ?_⟩⟩
      obtain ⟨u, e1, e2⟩ := b p hp
      cases (Option.some.inj (Option.some.inj e1))
      exact e2
    have h2 := h
    unfold TTc at h2
    rw [e] at h2
    exact h2
end Hx

/-! An error whose class has an __init__ of its own: it calls its parent's, then keeps what it is given. -/
namespace Hx
open PySem PySem.Spec PyProof.Rows L2 Ev
theorem pasN {X : Cx} : Passes (L2N.CX X.prog X.w) X (fun _ _ _ => False) := L2N.passes_call (W := fun _ _ _ _ => False) (fun _ _ x => by
  obtain ⟨_, _, _, _, _, _, _, _, _, _, _, _, _, _, _, _, z⟩ := x
  exact z.elim) fun _ _ _ _ h => h
/-- the parent's __init__ is ValueError's -/
structure ParK (K : PySem.W.Frag) (LE : Addr) : Prop where
  rd : PySem.W.readsIn K LE (.type "type") = true
  ga : PySem.W.specialIn K (.ref LE) "__getattribute__" = some (some (.builtin "type.__getattribute__"))
  fi : PySem.W.findCls K (.ref LE) (.type "type") "__init__" = some (.val (.builtin "ValueError.__init__"))
section
variable {X : Cx} {x m f : Str} {e : Expr} {es : List Expr} {ta : TA} {LE : Addr} {q1 q2 q3 : Pos}
theorem pe_parinit (hg : Gl X x) (hm : X.mg x = some (.ref LE)) (R : ParK X.K LE) (ha : PA X (e :: es) ta) (hdb : (x == ("__debug__" : Str)) = false) (hl : (q2.endLine == q3.line) = true)
    (hform : methodCallForm (e :: es).length (backTo q3 (starEach (e :: es) X.env)) (backToKw q3 (keywordEach [] X.env)) = true := by rfl)
    (hs : starEach (e :: es) X.env = (false, eval e X.env) :: starEach es X.env := by rfl) (hp : (backTo q3 (starEach es X.env)).any (·.1) = false := by rfl) :
    PE X (.Call (.Attribute (.Name x q1) "__init__" q2) (e :: es) [] q3) (tVeI X.K ta) := by
  refine ⟨fun pins s σ H Q I h => ?_⟩
  rw [arm_eval_Call]
  show wpAny _ _ (eval (.Name x q1) X.env >>= _) _ _ _
  refine wpAny_bind (ld_glob I hg hm ?_ hdb)
  refine wpAny_bind (wpAny_standAt ?_)
  show wpAny _ _ (methodCall (.Name x q1) "__init__" q2 q3 X.env (.ref LE) (e :: es).length (backTo q3 (starEach (e :: es) X.env)) (backToKw q3 (keywordEach [] X.env))) _ _ _
  rw [mcall_line hform hl]
  refine wpAny_bind (wpAny_holding (PySem.W.method_cls I.kIn R.ga (PySem.W.cls_value I.kIn R.rd R.fi (by decide +kernel) ?_)))
  show wpAny _ _ (callWith q3 (Value.builtin "ValueError.__init__") [] (backTo q3 (starEach (e :: es) X.env)) []) _ _ _
  refine PyProof.Rows.callWith_method1 (thn (ha.run q3 pins _ σ H _ (I.tok _) h) fun us s1 hh => ?_) hs hp
  obtain ⟨vs, H1, I1, r1, a, C, ws, rfl, hl, T, ea, q⟩ := hh
  cases r1 with
  | @cons _ u0 _ ur ra rw' =>
    obtain rfl : u0 = Value.ref a := ra
    have hlen : ur.length ≤ sizeLine := by
      have := Paired.length rw'
      rw [sizeLine_eq]
      omega
    exact oinit_ok T I1 ea hlen fun s' J => ⟨.non, H1, J, rfl, q⟩
end
/-- self, and what is kept -/
def spI (K : PySem.W.Frag) (C : Addr) (f : Str) : Sp := fun vs H Q _ => ∃ (a : Addr) (v : V), vs = [.ref a, v] ∧ H a = some (exo a C none) ∧ ∀ dx, H dx = none → dx ≠ a → Q .non (upd (upd H dx (exd dx [(f, v)])) a (exo a C (some dx)))
def iNames (f : Str) : List Str := ["self", f]
def iBody (m f : Str) (j : Nat) (q1 q2 q3 q4 q5 q6 q7 q8 q9 q10 : Pos) : List Stmt :=
  [.Expr (.Call (.Attribute (.Name "LockError" q1) "__init__" q2) [.Name "self" q3, .Constant (.str m) j q4] [] q5) q6,
    .Assign [.Attribute (.Name "self" q7) f q8] (.Name f q9) q10]
structure ISc (sc : Scope) (f : Str) : Prop where
  gl : sc.names.lookup ("LockError" : Str) = some .globalImplicit
  lo : ∀ x ∈ iNames f, sc.names.lookup x = some .local
theorem init_fn {P : Program} {w : World} {K : PySem.W.Frag} {mg : Str → Option Value} {base : Heap} {C LE fI : Addr} {fd : FuncData} {qual f m : Str} {params : Arguments} {scope : Scope} {j : Nat} {q1 q2 q3 q4 q5 q6 q7 q8 q9 q10 : Pos}
    (F : FunD K "__init__" qual params (iBody m f j q1 q2 q3 q4 q5 q6 q7 q8 q9 q10) scope [] [] fI fd) (S : FnScope (iNames f) (iNames f) scope) (SC : ISc scope f) (hm : mg "LockError" = some (.ref LE)) (R : ParK K LE) (T : OexC K C)
    (hno : PySem.W.findIn K (.ref C) f = some none) (hf : f = "line" ∨ f = "limit") (hl : (q2.endLine == q5.line) = true) : FnOk P w K mg base (L2N.CX P w) 1 fI fd (iNames f) (spI K C f) := by
  refine F.ok (k := 0) S (fun vs H Q E ⟨a, v, e, _⟩ => by rw [e]; rfl) fun cdv A outer s H vs Q E hr hsp => ?_
  obtain ⟨a, v, rfl, ha, q⟩ := hsp
  generalize hZ : cxOf (L2N.CX P w) P w K mg base (iNames f) qual scope fI cdv A outer s H E = Z
  have zN : Z.N = iNames f := by rw [← hZ]; rfl
  have zK : Z.K = K := by rw [← hZ]; rfl
  have zmg : Z.mg = mg := by rw [← hZ]; rfl
  have zsc : Z.env.scope = scope := by rw [← hZ]; rfl
  have lo : ∀ x ∈ iNames f, Z.env.scope.names.lookup x = some .local := by rw [zsc]; exact SC.lo
  have d1 : (f == ("__debug__" : Str)) = false := by rcases hf with rfl | rfl <;> decide
  have d2 : (f == ("__classdict__" : Str)) = false := by rcases hf with rfl | rfl <;> decide
  have e1 : PE Z (.Name "self" q3) (tVar 0) := pe_var (i := 0) (by rw [zN]; rfl) (.inl (lo _ List.mem_cons_self))
  have e2 : PE Z (.Name "self" q7) (tVar 0) := pe_var (i := 0) (by rw [zN]; rfl) (.inl (lo _ List.mem_cons_self))
  have e3 : PE Z (.Name f q9) (tVar 1) := pe_var (i := 1) (by rw [zN]; rfl) (.inl (lo _ (List.mem_cons_of_mem _ List.mem_cons_self))) d1 d2
  have s1 := ps_expr (pos := q6) (pe_parinit (X := Z) (x := "LockError") (q1 := q1) (q2 := q2) (q3 := q5) (show Z.env.scope.names.lookup _ = _ by rw [zsc]; exact SC.gl) (by rw [zmg]; exact hm) (by rw [zK]; exact R) (pa_cons e1 (pa_cons (pe_str (x := m) (j := j) (pos := q4)) pa_nil)) (by decide) hl)
  have s2 := ps_ost (f := f) (p' := q8) (pos := q10) e2 e3
  have whole := pss_cons s1 (pss_one s2)
  refine ⟨_, whole, ?_⟩
  rw [zK]
  refine ⟨_, rfl, a, C, _, rfl, by show 1 ≤ 1000; decide, T, ha, ?_⟩
  exact ⟨_, rfl, _, rfl, a, C, rfl, T, hno, .inl ⟨ha, fun dx n ne => q dx n ne⟩⟩
/-- C(e): the error, as it is made; its dict holds what e gave -/
theorem pmk_ini {X : Cx} {x f : Str} {C fI : Addr} {fd : FuncData} {e : Expr} {te : TE} {p pos : Pos} (T : OexC X.K C) (iC : PySem.W.findIn X.K (.ref C) "__init__" = some (some (.ref fI))) (tI : PySem.W.typeIn X.K (.ref fI) = some (.type "function"))
    (F1 : FnOk X.prog X.w X.K X.mg X.base (L2N.CX X.prog X.w) 1 fI fd (iNames f) (spI X.K C f)) (hr : Room 2 X.A) (hb : Binds X.K fd (iNames f) []) (hg : Gl X x) (hm : X.mg x = some (.ref C)) (ha : PE X e te) (hdb : (x == ("__debug__" : Str)) = false)
    (he : starEach [e] X.env = (false, eval e X.env) :: starEach [] X.env) :
    L2N.PMk X (.Call (.Name x p) [e] [] pos) (fun σ H Q => te σ H fun v H1 => ∀ d, H1 d = none → Q (.ref C) (some d) (upd H1 d (.xd [(f, v)]))) := by
  intro pins s σ H Q I h
  obtain ⟨nm, q, N, bs, bm, sn, sub, ab, col, dd, k0, k1, k2, k3, k5, hC, hbm⟩ := T.cls
  have hA : PA X [e] (tCons te tNil) := pa_cons ha pa_nil he
  refine wpAny_Call_Name_kw (ld_glob I hg hm ?_ hdb)
  refine PySem.W.callWith_K (h₀ := X.base) I.ok.mod.kin T.kC (thn (hA.run pos pins s σ H (fun vs H1 => ∃ v, vs = [v] ∧ ∀ d, H1 d = none → Q (.ref C) (some d) (upd H1 d (.xd [(f, v)]))) I ?_) fun us s1 hh => ?_) he (by rfl)
  · have h2 : te σ H fun v H1 => ∃ v', [v] = [v'] ∧ ∀ d, H1 d = none → Q (.ref C) (some d) (upd H1 d (.xd [(f, v')])) := by
      have e0 : (fun (v : V) (H1 : Hp) => ∀ d, H1 d = none → Q (.ref C) (some d) (upd H1 d (.xd [(f, v)]))) = fun v H1 => ∃ v', [v] = [v'] ∧ ∀ d, H1 d = none → Q (.ref C) (some d) (upd H1 d (.xd [(f, v')])) := by
        funext v H1
        refine propext ⟨fun z => ⟨v, rfl, z⟩, fun ⟨v', e1, z⟩ => ?_⟩
        cases e1
        exact z
      rw [← e0]
      exact h
    exact h2
  obtain ⟨vs, H1, I1, r1, v, rfl, q1⟩ := hh
  refine ⟨I1.kIn, ?_⟩
  show wpAny _ _ (call (.ref C) us) _ _ _
  obtain ⟨hp, g, dr, tk, os⟩ := s1
  have big : hp.objs.size ≤ hp.objs.size + 1 := Nat.le_succ _
  have fresh : H1 (hp.objs.size + 1) = none := I1.hok.fresh big
  have kept : ∀ b o, hp.get? b = some o → ((hp.push (PySem.W.kdv_tup us)).push (PySem.HandSPX.excO C hp.objs.size)).get? b = some o := fun b o z => Heap.get?_push_of_some _ (Heap.get?_push_of_some _ z)
  have at_e : ((hp.push (PySem.W.kdv_tup us)).push (PySem.HandSPX.excO C hp.objs.size)).get? (hp.objs.size + 1) = some (PySem.HandSPX.excO C hp.objs.size) := by heap_get
  have I2 := I1.laid (t' := tk) (a := hp.objs.size + 1) (o := exo (hp.objs.size + 1) C none) (h' := (hp.push (PySem.W.kdv_tup us)).push (PySem.HandSPX.excO C hp.objs.size)) kept big (exo_ok at_e)
  have r2 : Vals [V.ref (hp.objs.size + 1), v] (Value.ref (hp.objs.size + 1) :: us) := .cons rfl r1
  have hl : (Value.ref (hp.objs.size + 1) :: us ++ []).length = (iNames f).length := by
    have := r2.length
    rw [List.append_nil, ← this]
    rfl
  have b2 := hb _ (Value.ref (hp.objs.size + 1) :: us) I2.kIn hl
  rw [List.append_nil] at b2
  have hus : us.length ≤ sizeLine := by
    rw [← Paired.length r1, sizeLine_eq]
    show 1 ≤ 16777216
    decide
  have spc : spI X.K C f [.ref (hp.objs.size + 1), v] (upd H1 (hp.objs.size + 1) (exo (hp.objs.size + 1) C none))
      (fun u H2 => u = .non ∧ ∃ d, H2 (hp.objs.size + 1) = some (exo (hp.objs.size + 1) C (some d)) ∧ H2 d = some (exd d [(f, v)]) ∧ H1 d = none ∧ Q (.ref C) (some d) (upd (del H2 (hp.objs.size + 1)) d (.xd [(f, v)]))) (fun _ _ _ => False) := by
    refine ⟨_, v, rfl, upd_same, fun dx n ne => ⟨rfl, dx, upd_same, by rw [upd_ne ne, upd_same], by rw [upd_ne ne] at n; exact n, ?_⟩⟩
    have n1 : H1 dx = none := by rw [upd_ne ne] at n; exact n
    have eH : upd (del (upd (upd (upd H1 (hp.objs.size + 1) (exo (hp.objs.size + 1) C none)) dx (exd dx [(f, v)])) (hp.objs.size + 1) (exo (hp.objs.size + 1) C (some dx))) (hp.objs.size + 1)) dx (.xd [(f, v)]) = upd H1 dx (.xd [(f, v)]) := by
      funext b
      by_cases hd : b = dx
      · rw [hd, upd_same, upd_same]
      · rw [upd_ne hd, upd_ne hd]
        by_cases hb2 : b = hp.objs.size + 1
        · rw [hb2, del_same, fresh]
        · rw [del_ne hb2, upd_ne hb2, upd_ne hd, upd_ne hb2]
    rw [eH]
    exact q1 dx n1
  refine wpAny_call (PySem.HandSPX.call_own F.excBase_ValueError (fun Y => PySem.HandSPX.refsVE_contains Y bm hbm) (I1.kIn _ _ hC) (PySem.W.looks_findIn I1.kIn iC) (fun self => PySem.W.bind_fn I1.kIn self tI) hus
    (codeAny_mono (F1.run _ X.stack _ _ ⟨Value.ref (hp.objs.size + 1) :: us, []⟩ _ _ _ (fun _ _ _ => False) (hr.make C us []) (I2.env0.make C us []) b2 r2 spc) fun r s' hq => ?_))
  cases r with
  | error er => exact pasN pins σ _ _ er s' I2 hq
  | ok fl =>
    cases fl with
    | ret u =>
      obtain ⟨w0, H2, os2, bare2, un2, hok2, rv, rfl, d, ea, ed, hd1, q2⟩ := hq
      obtain ⟨h2, g2, d2, t2, os'⟩ := s'
      obtain ⟨t0, G, J, kG, ge, hoe, na⟩ := mk_end0 (d2 := d2) (t2 := t2) I1 big kept un2 hok2 os2 bare2 ea ed hd1
      refine ⟨rv, ⟨hp.objs.size + 1, _, _, ⟨G, g2, d2, t2, os'⟩, _, .ref C, some d, rfl, J, kG, ge, hoe, ⟨rfl, rfl, fun vs hv => ?_⟩, rfl, rfl, na, rfl, bare2, raises_own T.exC T.tyC, q2⟩⟩
      cases hv
      rfl
    | next => exact False.elim hq
    | brk => exact False.elim hq
    | cont => exact False.elim hq
end Hx

/-! Dicts of such keys: the rules. -/
namespace Ev
open PySem PySem.Spec PyProof.Rows L2
section
variable {X : Cx} {fa : Fx} {pins : List (Addr × Obj)} {σ : L2.St} {s : Shared} {w : Wd}
mutual
theorem nested_is (I : Inv X pins σ w.H s) : ∀ {d : D} {v : V} {u : Value} {k : NestedKey}, Rp X.K fa w v d → nk d = some k → RelV v u → NestedIs s.heap k u
  | .non, v, u, k, h, e, r => by
    cases h
    cases e
    cases (show u = Value.none from r)
    exact .none
  | .bl b, v, u, k, h, e, r => by
    cases h
    cases e
    cases (show u = Value.bool b from r)
    exact .bool rfl
  | .int i, v, u, k, h, e, r => by
    cases h
    cases e
    obtain ⟨t, rfl⟩ := r
    exact .int i t
  | .tup xs, v, u, k, h, e, r => by
    cases h with
    | tup a b c =>
      obtain ⟨ks, rfl, e2⟩ := nk_tup e
      cases (show u = Value.ref _ from r)
      obtain ⟨its, rv, ⟨o, g1, g2, n, g3⟩, _⟩ := I.tuple a
      exact .tup g1 g2 g3 (by simpa using nested_all I c e2 rv)
  | .str _, _, _, _, _, e, _ => by cases e
  | .lst _, _, _, _, _, e, _ => by cases e
  | .rol _, _, _, _, _, e, _ => by cases e
  | .loc _, _, _, _, _, e, _ => by cases e
  | .fn _, _, _, _, _, e, _ => by cases e
  | .dic _ _, _, _, _, _, e, _ => by cases e
theorem nested_all (I : Inv X pins σ w.H s) : ∀ {ds : List D} {vs : List V} {us : List Value} {ks : List NestedKey}, Rps X.K fa w vs ds → nks ds = some ks → Vals vs us → NestedAll s.heap ks us
  | [], _, _, _, h, e, r => by
    cases h
    cases e
    cases r
    exact .nil
  | d :: ds, _, _, _, h, e, r => by
    obtain ⟨k, r', rfl, h1, h2⟩ := nks_cons e
    cases h with
    | cons a b =>
      cases r with
      | cons p q => exact .cons (nested_is I a h1 p) (nested_all I b h2 q)
end
end
/-! ### from the frame's dict -/
mutual
theorem nk_some : ∀ {d : D}, D.kyb d = true → ∃ k, nk d = some k ∧ k.depth ≤ D.dep d
  | .non, _ => ⟨_, rfl, Nat.le_refl _⟩
  | .bl _, _ => ⟨_, rfl, Nat.le_refl _⟩
  | .int _, _ => ⟨_, rfl, Nat.le_refl _⟩
  | .tup xs, h => by
    obtain ⟨ks, e, l⟩ := nks_some (show D.kybs xs = true from h)
    refine ⟨.tup ks, ?_, ?_⟩
    · show (match nks xs with | some ks => some (NestedKey.tup ks) | none => none) = _
      rw [e]
    · show NestedKey.depthAll ks + 1 ≤ D.deps xs + 1
      omega
  | .str _, h => by cases h
  | .lst _, h => by cases h
  | .rol _, h => by cases h
  | .loc _, h => by cases h
  | .fn _, h => by cases h
  | .dic _ _, h => by cases h
theorem nks_some : ∀ {ds : List D}, D.kybs ds = true → ∃ ks, nks ds = some ks ∧ NestedKey.depthAll ks ≤ D.deps ds
  | [], _ => ⟨[], rfl, Nat.le_refl _⟩
  | d :: ds, h => by
    have h : (D.kyb d && D.kybs ds) = true := h
    rw [Bool.and_eq_true] at h
    obtain ⟨k, e1, l1⟩ := nk_some h.1
    obtain ⟨ks, e2, l2⟩ := nks_some h.2
    refine ⟨k :: ks, ?_, ?_⟩
    · show (match nk d, nks ds with | some k, some ks => some (k :: ks) | _, _ => none) = _
      rw [e1, e2]
    · show max (NestedKey.depth k) (NestedKey.depthAll ks) ≤ max (D.dep d) (D.deps ds)
      omega
end
theorem key_nk {d : D} (h : D.key d = true) : ∃ k, nk d = some k ∧ k.depth ≤ 8 := by
  cases d <;> try (cases h; done)
  rename_i xs
  have h : (D.kybs xs && decide (D.deps xs ≤ 7)) = true := h
  rw [Bool.and_eq_true, decide_eq_true_eq] at h
  obtain ⟨k, e, l⟩ := nk_some (d := .tup xs) h.1
  refine ⟨k, e, Nat.le_trans l ?_⟩
  show D.deps xs + 1 ≤ 8
  omega
theorem key_ref {K : PySem.W.Frag} {fa : Fx} {w : Wd} {v : V} {d : D} (h : D.key d = true) (r : Rp K fa w v d) : ∃ b, v = .ref b := by
  cases d <;> try (cases h; done)
  cases r with
  | tup a b c => exact ⟨_, rfl⟩
theorem eqv_iff {x y : D} {a b : NestedKey} (h : nk x = some a) (g : nk y = some b) : D.eqv x y = decide (a = b) := by
  rw [nk_eqv h g, NestedKey.decide_eq]
/-- a key's tuple stands at b -/
def KeyK (K : PySem.W.Frag) (H : Hp) (b : Addr) (k : NestedKey) : Prop := ∃ (fa : Fx) (w : Wd) (d : D), w.H = H ∧ D.key d = true ∧ nk d = some k ∧ Rp K fa w (.ref b) d
theorem KeyK.is {X : Cx} {pins : List (Addr × Obj)} {σ : L2.St} {s : Shared} {H : Hp} {b : Addr} {k : NestedKey} (h : KeyK X.K H b k) (I : Inv X pins σ H s) : (nestedKind X.prog X.w).is s.heap k b ∧ Tf k := by
  obtain ⟨fa, w, d, rfl, h1, h2, h3⟩ := h
  obtain ⟨k', e', l⟩ := key_nk h1
  rw [h2] at e'
  cases e'
  exact ⟨⟨nested_is I h3 h2 rfl, l⟩, nk_tf h2⟩
/-- a dict of such keys stands at a -/
structure DicK (K : PySem.W.Frag) (H : Hp) (a : Addr) (xs : List (NestedKey × Addr)) (vs : List V) : Prop where
  at_ : H a = some (.ext (Dn a xs vs)) ∨ ∃ o, H a = some (.frz o (.ext (Dn a xs vs)))
  len : xs.length ≤ sizeLine
  keys : ∀ p ∈ xs, KeyK K H p.2 p.1
section
variable {X : Cx} {pins : List (Addr × Obj)} {σ : L2.St} {s : Shared} {H : Hp} {a b : Addr} {xs : List (NestedKey × Addr)} {vs : List V} {k : NestedKey}
theorem DicK.dn {P : Program} {W : World} {h : Heap} (hok : HOk P W H h) (e : H a = some (.ext (Dn a xs vs)) ∨ ∃ o, H a = some (.frz o (.ext (Dn a xs vs)))) : Dn a xs vs h := by
  rcases e with e | ⟨o, e⟩
  · exact (hok a _ e).1
  · exact (hok a _ e).2.1
theorem DicK.get (d : DicK X.K H a xs vs) (I : Inv X pins σ H s) : (a == sysModules) = false ∧ ∃ us, Vals vs us ∧ xs.length = us.length ∧ (xs.map (·.1)).Nodup ∧ s.heap.DictOfH (nestedKind X.prog X.w) a (z3 xs us) := by
  obtain ⟨g0, us, g1, g2, g3, o, es, ep, e, g4, g5, g6⟩ := DicK.dn I.hok d.at_
  exact ⟨g0, us, g1, g2, g3, o, es, ep, e, g4, g5, g6 X.prog X.w, fun x hx => ((d.keys _ (z3_mem hx)).is I).1, by rw [z3_keys g2]; exact g3⟩
theorem room8 (hu : X.A.units + 64 < cLine) : (nestedKind X.prog X.w).room X.A.in1 := by
  show X.A.units + 1 + 8 < cLine
  omega
def rDin (K : PySem.W.Frag) (neg : Bool) : R2 := fun x y H Q => ∃ b a xs vs k, x = .ref b ∧ y = .ref a ∧ DicK K H a xs vs ∧ KeyK K H b k ∧ Q (.bl (if neg then !(vAt xs vs k).isSome else (vAt xs vs k).isSome)) H
theorem vAt_isSome {us : List Value} (hl : xs.length = us.length) (r : Vals vs us) : (atKey (z3 xs us) k).isSome = (vAt xs vs k).isSome := by
  cases q : vAt xs vs k with
  | none => rw [vAt_none hl r q] <;> rfl
  | some v =>
    obtain ⟨p, h1, _⟩ := vAt_some hl r q
    rw [h1] <;> rfl
theorem op_din (hu : X.A.units + 64 < cLine) : OpR X (compareOp .In) (rDin X.K false) := by
  intro pins s σ H x y v u Q I rx ry h
  obtain ⟨b, a, xs, vs, k, rfl, rfl, d, kk, q⟩ := h
  cases rx
  cases ry
  obtain ⟨g0, us, g1, g2, g3, hm⟩ := d.get I
  refine wpAny_in_heap (room8 hu) (kk.is I).1 g0 hm ?_
  rw [vAt_isSome g2 g1]
  exact ⟨.bl (vAt xs vs k).isSome, H, I.tok _, rfl, by simpa using q⟩
theorem op_dnin (hu : X.A.units + 64 < cLine) : OpR X (compareOp .NotIn) (rDin X.K true) := by
  intro pins s σ H x y v u Q I rx ry h
  obtain ⟨b, a, xs, vs, k, rfl, rfl, d, kk, q⟩ := h
  cases rx
  cases ry
  obtain ⟨g0, us, g1, g2, g3, hm⟩ := d.get I
  refine wpAny_notIn_heap (room8 hu) (kk.is I).1 g0 hm ?_
  rw [vAt_isSome g2 g1]
  exact ⟨.bl (!(vAt xs vs k).isSome), H, I.tok _, rfl, by simpa using q⟩
def rDget (K : PySem.W.Frag) : R2 := fun x y H Q => ∃ a b xs vs k v, x = .ref a ∧ y = .ref b ∧ DicK K H a xs vs ∧ KeyK K H b k ∧ vAt xs vs k = some v ∧ Q v H
theorem ix_dic (hu : X.A.units + 64 < cLine) : IxR X (rDget X.K) := by
  intro value slice pins s σ H x y v u Q I rx ry h hs
  obtain ⟨a, b, xs, vs, k, z, rfl, rfl, d, kk, hv, q⟩ := h
  cases rx
  cases ry
  obtain ⟨g0, us, g1, g2, g3, hm⟩ := d.get I
  obtain ⟨p, h1, h2⟩ := vAt_some g2 g1 hv
  exact subscriptTail_builtinR (x := p.2) hm.typeIs PySem.F.slot_dict_getitem.lookup (wpAny_getItem_heap (Q := fun r s' => r = p.2 ∧ EP X pins σ Q r s') (room8 hu) (kk.is I).1 hm h1 ⟨rfl, z, H, I.tok _, h2, q⟩) hs
/-- d[k] = v, a dict of one's own -/
def rDset (K : PySem.W.Frag) : V → V → V → Hp → (Hp → Prop) → Prop := fun o i v H Q => ∃ a b xs vs k, o = .ref a ∧ i = .ref b ∧ H a = some (.ext (Dn a xs vs)) ∧ DicK K H a xs vs ∧ KeyK K H b k ∧ Q (upd H a (.ext (Dn a (kSt xs vs k b) (vSt xs vs k v))))
theorem set_d (hu : X.A.units + 64 < cLine) : PSet X (rDset X.K) := by
  intro pins s σ H o i v ov iv u Q I ro ri rv h
  obtain ⟨a, b, xs, vs, k, rfl, rfl, ha, d, kk, q⟩ := h
  cases ro
  cases ri
  obtain ⟨g0, us, g1, g2, g3, hm⟩ := d.get I
  refine wpAny_setItem_heap (room8 hu) (kk.is I).1 hm (fun h' hm' hs => ?_) (by unfold z3; rw [List.length_zipWith]; have := d.len; omega)
  have hd := Dn.store g0 g1 g2 g3 rv (fun p hp => ((d.keys p hp).is I).2) (kk.is I).2 hm'
  have hE : ∃ u, h'.get? a = some u := by
    obtain ⟨o, _, _, e, _⟩ := hm'
    exact ⟨o, e⟩
  exact ⟨_, I.write (x := a) (e := a) (by rw [ha]; trivial) (.inl rfl) (fun c u hc e => (hs.2 c hc).trans e) hE hd.ok, q⟩
def tDNewN : TE := fun _ H Q => ∀ p, H p = none → Q (.ref p) (upd H p (.ext (Dn p [] [])))
theorem pe_dnewN {pos : Pos} : PE X (.Dict [] [] pos) tDNewN := ⟨fun pins s σ H Q I h =>
  wpAny_Dict_empty ⟨.ref s.heap.objs.size, _, I.laid (a := s.heap.objs.size) (o := .ext (Dn s.heap.objs.size [] [])) (t' := s.toks) (fun _ _ q => Heap.get?_push_of_some _ q) (Nat.le_refl _)
    (Dn.ok ⟨beq_eq_false_iff_ne.mpr (Ne.symm (Nat.ne_of_lt I.big)), [], .nil, rfl, List.nodup_nil, _, #[], 0, Heap.get?_push_size _ rfl, ⟨rfl, rfl, rfl⟩, rfl, fun _ _ => rfl⟩), rfl, h _ (I.hok.fresh (Nat.le_refl _))⟩⟩
end
section
variable {K : PySem.W.Frag} {fa : Fx} {w : Wd}
theorem key_is {b : Addr} {d : D} {k : NestedKey} (h : D.key d = true) (e : nk d = some k) (r : Rp K fa w (.ref b) d) : KeyK K w.H b k := ⟨fa, w, d, rfl, h, e, r⟩
theorem Ks.is : ∀ {ps : List (NestedKey × Addr)} {ds : List D}, Ks K fa w ps ds → ∀ p ∈ ps, KeyK K w.H p.2 p.1
  | _, _, .nil => fun p m => nomatch m
  | _, _, .cons a b c h => fun p m => by
    rcases List.mem_cons.mp m with e | m
    · rw [e]
      exact key_is a b c
    · exact Ks.is h p m
theorem dAt_vAt {k : NestedKey} {d : D} (e : nk d = some k) : ∀ {ps : List (NestedKey × Addr)} {vs : List V} {kvs : List (D × D)}, Ks K fa w ps (kvs.map (·.1)) → Rps K fa w vs (kvs.map (·.2)) →
    match dAt kvs d with
    | some x => ∃ v, vAt ps vs k = some v ∧ Rp K fa w v x
    | none => vAt ps vs k = none
  | ps, vs, [], h, r => by
    cases h
    cases r
    rfl
  | ps, vs, p :: kvs, h, r => by
    cases h with
    | cons a b c h =>
      cases r with
      | cons r1 r2 =>
        rename_i q ps v vs
        have ih := dAt_vAt e h r2
        have e2 := eqv_iff b e
        show (match (if D.eqv p.1 d then some p.2 else dAt kvs d) with
          | some x => ∃ v', (if q.1 = k then some v else vAt ps vs k) = some v' ∧ Rp K fa w v' x
          | none => (if q.1 = k then some v else vAt ps vs k) = none)
        by_cases z : q.1 = k
        · rw [e2, decide_eq_true z, if_pos z]
          exact ⟨_, rfl, r1⟩
        · rw [e2, decide_eq_false z, if_neg z]
          exact ih
theorem dPut_none {k v : D} : ∀ {kvs : List (D × D)}, dAt kvs k = none → dPut k v kvs = kvs ++ [(k, v)]
  | [], _ => rfl
  | p :: r, h => by
    have h : (if D.eqv p.1 k then some p.2 else dAt r k) = none := h
    show (if D.eqv p.1 k then (p.1, v) :: r else p :: dPut k v r) = _
    by_cases z : D.eqv p.1 k = true
    · rw [if_pos z] at h
      cases h
    · rw [if_neg z] at h ⊢
      rw [dPut_none h]
      rfl
theorem dPut_keys {k v x : D} : ∀ {kvs : List (D × D)}, dAt kvs k = some x → (dPut k v kvs).map (·.1) = kvs.map (·.1)
  | [], h => by cases h
  | p :: r, h => by
    have h : (if D.eqv p.1 k then some p.2 else dAt r k) = some x := h
    show (if D.eqv p.1 k then (p.1, v) :: r else p :: dPut k v r).map (·.1) = _
    by_cases z : D.eqv p.1 k = true
    · rw [if_pos z]
      rfl
    · rw [if_neg z] at h ⊢
      rw [List.map_cons, List.map_cons, dPut_keys h]
theorem Ks.snoc {p : NestedKey × Addr} {d : D} (h1 : D.key d = true) (h2 : nk d = some p.1) (h3 : Rp K fa w (.ref p.2) d) : ∀ {ps : List (NestedKey × Addr)} {ds : List D}, Ks K fa w ps ds → Ks K fa w (ps ++ [p]) (ds ++ [d])
  | _, _, .nil => .cons h1 h2 h3 .nil
  | _, _, .cons a b c h => .cons a b c (Ks.snoc h1 h2 h3 h)
theorem vPut_rps {k : NestedKey} {d x : D} {u : V} (e : nk d = some k) (ru : Rp K fa w u x) : ∀ {ps : List (NestedKey × Addr)} {vs : List V} {kvs : List (D × D)}, Ks K fa w ps (kvs.map (·.1)) → Rps K fa w vs (kvs.map (·.2)) → (vAt ps vs k).isSome = true → Rps K fa w (vPut k u ps vs) ((dPut d x kvs).map (·.2))
  | ps, vs, [], h, r, z => by
    cases h
    cases r
    cases z
  | ps, vs, p :: kvs, h, r, z => by
    cases h with
    | cons a b c h =>
      cases r with
      | cons r1 r2 =>
        rename_i q ps v vs
        have e2 := eqv_iff b e
        have z : (if q.1 = k then some v else vAt ps vs k).isSome = true := z
        show Rps K fa w (if q.1 = k then u :: vs else v :: vPut k u ps vs) ((if D.eqv p.1 d then (p.1, x) :: kvs else p :: dPut d x kvs).map (·.2))
        by_cases y : q.1 = k
        · rw [e2, decide_eq_true y, if_pos y]
          exact .cons ru r2
        · rw [if_neg y] at z
          rw [e2, decide_eq_false y, if_neg y]
          exact .cons r1 (vPut_rps e ru h r2 z)
theorem st_rep {k : NestedKey} {d x : D} {u : V} {b : Addr} (hk : D.key d = true) (e : nk d = some k) (rb : Rp K fa w (.ref b) d) (ru : Rp K fa w u x) {ps : List (NestedKey × Addr)} {vs : List V} {kvs : List (D × D)} (h : Ks K fa w ps (kvs.map (·.1))) (r : Rps K fa w vs (kvs.map (·.2))) :
    Ks K fa w (kSt ps vs k b) ((dPut d x kvs).map (·.1)) ∧ Rps K fa w (vSt ps vs k u) ((dPut d x kvs).map (·.2)) := by
  have q := dAt_vAt e h r
  unfold kSt vSt
  cases z : dAt kvs d with
  | some y =>
    rw [z] at q
    obtain ⟨v, q1, _⟩ := q
    rw [dPut_keys z, q1]
    exact ⟨h, vPut_rps e ru h r (by rw [q1]; rfl)⟩
  | none =>
    rw [z] at q
    have q : vAt ps vs k = none := q
    rw [dPut_none z, q, List.map_append, List.map_append]
    exact ⟨Ks.snoc hk e rb h, r.snoc ru⟩
theorem kSt_len {ps : List (NestedKey × Addr)} {vs : List V} {k : NestedKey} {b : Addr} : (kSt ps vs k b).length ≤ ps.length + 1 := by
  unfold kSt
  split
  · omega
  · rw [List.length_append]
    exact Nat.le_refl _
theorem Ks.len : ∀ {ps : List (NestedKey × Addr)} {ds : List D}, Ks K fa w ps ds → ps.length = ds.length
  | _, _, .nil => rfl
  | _, _, .cons _ _ _ h => by rw [List.length_cons, List.length_cons, Ks.len h]
/-- the same of two rows -/
theorem dAt2_vAt {k : NestedKey} {d : D} (e : nk d = some k) : ∀ {ps : List (NestedKey × Addr)} {vs : List V} {ks ds : List D}, Ks K fa w ps ks → Rps K fa w vs ds →
    match dAt2 ks ds d with
    | some x => ∃ v, vAt ps vs k = some v ∧ Rp K fa w v x
    | none => vAt ps vs k = none
  | _, vs, [], ds, .nil, r => by
    cases vs <;> rfl
  | _, [], k0 :: ks, _, .cons a b c h, r => by
    cases r
    rfl
  | _, v :: vs, k0 :: ks, _, .cons (p := q) (ps := ps) a b c h, r => by
    cases r with
    | cons r1 r2 =>
      rename_i x ds
      have ih := dAt2_vAt e h r2
      have e2 := eqv_iff b e
      show (match (if D.eqv k0 d then some x else dAt2 ks ds d) with
        | some x => ∃ v', (if q.1 = k then some v else vAt ps vs k) = some v' ∧ Rp K fa w v' x
        | none => (if q.1 = k then some v else vAt ps vs k) = none)
      by_cases z : q.1 = k
      · rw [e2, decide_eq_true z, if_pos z]
        exact ⟨_, rfl, r1⟩
      · rw [e2, decide_eq_false z, if_neg z]
        exact ih
theorem Ks.refs : ∀ {ps : List (NestedKey × Addr)} {ds : List D}, Ks K fa w ps ds → Rps K fa w (ps.map fun p => V.ref p.2) ds
  | _, _, .nil => .nil
  | _, _, .cons _ _ c h => .cons c (Ks.refs h)
theorem dAt2_map : ∀ (kvs : List (D × D)) (x : D), dAt2 (kvs.map (·.1)) (kvs.map (·.2)) x = dAt kvs x
  | [], _ => rfl
  | p :: r, x => by
    show (if D.eqv p.1 x then some p.2 else dAt2 (r.map (·.1)) (r.map (·.2)) x) = (if D.eqv p.1 x then some p.2 else dAt r x)
    rw [dAt2_map r x]
end
end Ev

/-! Comparisons, built-ins, places, slices. -/
namespace Ev
open PySem PySem.Spec PyProof.Rows L2

/-! ### == -/
mutual
def D.py : D → PyData
  | .non => .none
  | .bl b => .bool b
  | .int i => .int i
  | .str cs => .str (tx cs)
  | .tup xs => .tuple (D.pys xs)
  | .lst xs => .list (D.pys xs)
  | _ => .none
def D.pys : List D → List PyData
  | [] => []
  | x :: xs => D.py x :: D.pys xs
end
theorem tx_beq (a b : List Nat) : (tx a == tx b) = (a == b) := by
  rw [Bool.eq_iff_iff, beq_iff_eq, beq_iff_eq]
  exact ⟨tx_inj, fun e => by rw [e]⟩
mutual
theorem D.py_eqv : ∀ x y : D, D.cmpb x = true → D.cmpb y = true → PyData.eqv x.py y.py = D.eqv x y
  | .non, y, h, g => by cases y <;> first | (cases g; done) | simp [D.py, PyData.eqv, D.eqv]
  | .bl _, y, h, g => by cases y <;> first | (cases g; done) | simp [D.py, PyData.eqv, D.eqv]
  | .int _, y, h, g => by cases y <;> first | (cases g; done) | simp [D.py, PyData.eqv, D.eqv]
  | .str _, y, h, g => by cases y <;> first | (cases g; done) | simp [D.py, PyData.eqv, D.eqv, tx_beq]
  | .tup xs, y, h, g => by
    cases y with
    | tup ys =>
      simp only [D.py, PyData.eqv, D.eqv]
      exact D.py_eqvs xs ys (by simpa [D.cmpb] using h) (by simpa [D.cmpb] using g)
    | _ => first | (cases g; done) | simp [D.py, PyData.eqv, D.eqv]
  | .lst xs, y, h, g => by
    cases y with
    | lst ys =>
      simp only [D.py, PyData.eqv, D.eqv]
      exact D.py_eqvs xs ys (by simpa [D.cmpb] using h) (by simpa [D.cmpb] using g)
    | _ => first | (cases g; done) | simp [D.py, PyData.eqv, D.eqv]
  | .rol _, y, h, g => by cases h
  | .loc _, y, h, g => by cases h
  | .fn _, y, h, g => by cases h
  | .dic _ _, y, h, g => by cases h
theorem D.py_eqvs : ∀ xs ys : List D, D.cmpbs xs = true → D.cmpbs ys = true → PyData.eqvAll (D.pys xs) (D.pys ys) = D.eqvs xs ys
  | [], [], _, _ => by simp [D.pys, PyData.eqvAll, D.eqvs]
  | [], _ :: _, _, _ => by simp [D.pys, PyData.eqvAll, D.eqvs]
  | _ :: _, [], _, _ => by simp [D.pys, PyData.eqvAll, D.eqvs]
  | x :: xs, y :: ys, h, g => by
    simp only [D.cmpbs, Bool.and_eq_true] at h g
    simp only [D.pys, PyData.eqvAll, D.eqvs]
    rw [D.py_eqv x y h.1 g.1, D.py_eqvs xs ys h.2 g.2]
end
mutual
theorem D.py_dep : ∀ x : D, PyData.depth x.py = D.dep x
  | .tup xs => by simp only [D.py, PyData.depth, D.dep, D.pys_dep xs]
  | .lst xs => by simp only [D.py, PyData.depth, D.dep, D.pys_dep xs]
  | .non => by simp [D.py, PyData.depth, D.dep]
  | .bl _ => by simp [D.py, PyData.depth, D.dep]
  | .int _ => by simp [D.py, PyData.depth, D.dep]
  | .str _ => by simp [D.py, PyData.depth, D.dep]
  | .rol _ => by simp [D.py, PyData.depth, D.dep]
  | .loc _ => by simp [D.py, PyData.depth, D.dep]
  | .fn _ => by simp [D.py, PyData.depth, D.dep]
  | .dic _ _ => by simp [D.py, PyData.depth, D.dep]
theorem D.pys_dep : ∀ xs : List D, PyData.depthAll (D.pys xs) = D.deps xs
  | [] => by simp [D.pys, PyData.depthAll, D.deps]
  | x :: xs => by simp only [D.pys, PyData.depthAll, D.deps, D.py_dep x, D.pys_dep xs]
end
section
variable {K : PySem.W.Frag} {fa : Fx} {w : Wd}
mutual
theorem Rp.dp : ∀ {d : D} {v : V}, Rp K fa w v d → D.cmpb d = true → Dp K w.H v d.py ∧ PyData.canLay0 d.py = true
  | .non, _, h, c => by cases h; exact ⟨.non, by simp [D.py, PyData.canLay0]⟩
  | .bl b, _, h, c => by cases h; exact ⟨.bl b, by simp [D.py, PyData.canLay0]⟩
  | .int i, _, h, c => by cases h; exact ⟨.int i, by simp [D.py, PyData.canLay0]⟩
  | .str cs, _, h, c => by
    cases h with
    | str t => exact ⟨.str _, by simpa [D.py, PyData.canLay0, PyData.strOk, tx] using t.ok⟩
  | .tup ds, _, h, c => by
    cases h with
    | tup a b e =>
      obtain ⟨x, y⟩ := Rps.dp e (by simpa [D.cmpb] using c)
      exact ⟨.tup a x, by simpa [D.py, PyData.canLay0] using y⟩
  | .lst ds, _, h, c => by
    cases h with
    | lst a f b e =>
      obtain ⟨x, y⟩ := Rps.dp e (by simpa [D.cmpb] using c)
      exact ⟨.lst (.of a) x, by simpa [D.py, PyData.canLay0] using y⟩
  | .rol _, _, h, c => by cases c
  | .loc _, _, h, c => by cases c
  | .fn _, _, h, c => by cases c
  | .dic _ _, _, h, c => by cases c
theorem Rps.dp : ∀ {ds : List D} {vs : List V}, Rps K fa w vs ds → D.cmpbs ds = true → DpAll K w.H vs (D.pys ds) ∧ PyData.canLayAll0 (D.pys ds) = true
  | [], _, h, c => by cases h; exact ⟨.nil, by simp [D.pys, PyData.canLayAll0]⟩
  | d :: ds, _, h, c => by
    cases h with
    | cons a b =>
      simp only [D.cmpbs, Bool.and_eq_true] at c
      obtain ⟨x, y⟩ := Rp.dp a c.1
      obtain ⟨x2, y2⟩ := Rps.dp b c.2
      exact ⟨.cons x x2, by simp only [D.pys, PyData.canLayAll0, y, y2, Bool.and_self]⟩
end
theorem RpP.dp {v : V} {d : D} (h : RpP K fa w v d) (c : D.cmpb d = true) : Dp K w.H v d.py ∧ PyData.canLay0 d.py = true := by
  rcases h with h | ⟨a, vs, ds, rfl, rfl, h1, h2, h3, h4⟩ | ⟨a, xs, vs, ks, ds, rfl, rfl, _⟩
  · exact h.dp c
  · obtain ⟨x, y⟩ := h4.dp (by simpa [D.cmpb] using c)
    exact ⟨.lst (.of h1) x, by simpa [D.py, PyData.canLay0] using y⟩
  · cases c
end
def rEqE (K : PySem.W.Frag) (ng : Bool) : R2 := fun x y H Q => ∃ d e, Dp K H x d ∧ Dp K H y e ∧ d.canLay0 = true ∧ e.canLay0 = true ∧ min d.depth e.depth ≤ 60 ∧ Q (.bl (if ng then !PyData.eqv d e else PyData.eqv d e)) H
section
variable {X : Cx}
theorem op_eqE (hu : X.A.units + 64 < cLine) : OpR X (compareOp .Eq) (rEqE X.K false) := by
  intro pins s σ H x y v u Q I rx ry h
  obtain ⟨d, e, hd, he, sd, se, hm, q⟩ := h
  obtain ⟨as, r1⟩ := Dp.reads I d x v hd rx
  obtain ⟨bs, r2⟩ := Dp.reads I e y u he ry
  exact SeqAt.compareEq_reads r1 r2 sd se (by omega) ⟨.bl _, H, I, rfl, q⟩
theorem op_neE (hu : X.A.units + 64 < cLine) : OpR X (compareOp .NotEq) (rEqE X.K true) := by
  intro pins s σ H x y v u Q I rx ry h
  obtain ⟨d, e, hd, he, sd, se, hm, q⟩ := h
  obtain ⟨as, r1⟩ := Dp.reads I d x v hd rx
  obtain ⟨bs, r2⟩ := Dp.reads I e y u he ry
  exact SeqAt.compareNe_reads r1 r2 sd se (by omega) ⟨.bl _, H, I, rfl, q⟩
end
/-- a comparison: the answer alone -/
def CopL (K : PySem.W.Frag) (fa : Fx) (r : R2) (g : D → D → Option Bool) : Prop :=
  ∀ (w : Wd) (x y : D) (b : Bool) (v u : V) (Q : VK), w.Ok → RpP K fa w v x → RpP K fa w u y → g x y = some b → Q (.bl b) w.H → r v u w.H Q
section
variable {K : PySem.W.Frag} {fa : Fx}
theorem CopL.op {r : R2} {g : D → D → Option Bool} (h : CopL K fa r g) : OpL K fa r (fun x y => (g x y).map .bl) := by
  intro w S x y d v u Q k sr hx hy e q
  have e : (g x y).map D.bl = some d := e
  cases hg : g x y with
  | none =>
    rw [hg] at e
    cases e
  | some b =>
    rw [hg] at e
    cases (Option.some.inj e)
    exact h w x y b v u Q k hx hy hg (here k sr q (Rp.bl b))
theorem depOk_le {x y : D} (h : depOk x y = true) : min (PyData.depth x.py) (PyData.depth y.py) ≤ 60 := by
  rw [D.py_dep, D.py_dep]
  unfold depOk at h
  rw [Bool.or_eq_true, decide_eq_true_eq, decide_eq_true_eq] at h
  omega
theorem copl_eq : CopL K fa (rEqE K false) (cop .eq) := by
  intro w x y b v u Q k hx hy h q
  obtain ⟨c, e⟩ := ite_someB h
  subst e
  simp only [Bool.and_eq_true] at c
  obtain ⟨⟨c1, c2⟩, c3⟩ := c
  obtain ⟨a1, a2⟩ := hx.dp c1
  obtain ⟨b1, b2⟩ := hy.dp c2
  refine ⟨x.py, y.py, a1, b1, a2, b2, depOk_le c3, ?_⟩
  show Q (.bl (PyData.eqv x.py y.py)) w.H
  rw [D.py_eqv x y c1 c2]
  exact q
theorem copl_ne : CopL K fa (rEqE K true) (cop .ne) := by
  intro w x y b v u Q k hx hy h q
  obtain ⟨c, e⟩ := ite_someB h
  subst e
  simp only [Bool.and_eq_true] at c
  obtain ⟨⟨c1, c2⟩, c3⟩ := c
  obtain ⟨a1, a2⟩ := hx.dp c1
  obtain ⟨b1, b2⟩ := hy.dp c2
  refine ⟨x.py, y.py, a1, b1, a2, b2, depOk_le c3, ?_⟩
  show Q (.bl (!PyData.eqv x.py y.py)) w.H
  rw [D.py_eqv x y c1 c2]
  exact q
theorem copl_lt : CopL K fa (rI0 fun i j => .bl (decide (i < j))) (cop .lt) := by
  intro w x y b v u Q k hx hy h q
  cases x <;> cases y <;> first | (cases h; done) | skip
  case int.int i j =>
    cases (Option.some.inj h)
    exact ⟨i, j, hx.int, hy.int, q⟩
theorem copl_le : CopL K fa (rI0 fun i j => .bl (decide (i ≤ j))) (cop .le) := by
  intro w x y b v u Q k hx hy h q
  cases x <;> cases y <;> first | (cases h; done) | skip
  case int.int i j =>
    cases (Option.some.inj h)
    exact ⟨i, j, hx.int, hy.int, q⟩
theorem copl_gt : CopL K fa (rI0 fun i j => .bl (decide (j < i))) (cop .gt) := by
  intro w x y b v u Q k hx hy h q
  cases x <;> cases y <;> first | (cases h; done) | skip
  case int.int i j =>
    cases (Option.some.inj h)
    exact ⟨i, j, hx.int, hy.int, q⟩
theorem copl_ge : CopL K fa (rI0 fun i j => .bl (decide (j ≤ i))) (cop .ge) := by
  intro w x y b v u Q k hx hy h q
  cases x <;> cases y <;> first | (cases h; done) | skip
  case int.int i j =>
    cases (Option.some.inj h)
    exact ⟨i, j, hx.int, hy.int, q⟩
theorem Rp.flatV {w : Wd} {v : V} {d : D} (h : Rp K fa w v d) (f : D.flat d = true) : flatV v = true := by
  cases d <;> first | (cases f; done) | (cases h; rfl)
theorem Rp.eqV {w : Wd} {v u : V} {d e : D} (h : Rp K fa w v d) (g : Rp K fa w u e) (f : D.flat d = true) (f2 : D.flat e = true) : eqV v u = D.eqv d e := by
  cases d <;> first | (cases f; done) | (cases h; cases e <;> first | (cases f2; done) | (cases g; simp [L2.eqV, D.eqv, tx_beq]))
theorem Rps.flatV {w : Wd} : ∀ {vs : List V} {ds : List D}, Rps K fa w vs ds → ds.all D.flat = true → vs.all L2.flatV = true
  | [], _, h, f => rfl
  | v :: vs, _, h, f => by
    cases h with
    | cons a b =>
      rw [List.all_cons, Bool.and_eq_true] at f ⊢
      exact ⟨a.flatV f.1, Rps.flatV b f.2⟩
theorem Rps.inV {w : Wd} {u : V} {e : D} (g : Rp K fa w u e) (f2 : D.flat e = true) : ∀ {vs : List V} {ds : List D}, Rps K fa w vs ds → ds.all D.flat = true → L2.inV u vs = inD e ds
  | [], _, h, f => by cases h; rfl
  | v :: vs, _, h, f => by
    cases h with
    | cons a b =>
      rw [List.all_cons, Bool.and_eq_true] at f
      have ih := Rps.inV g f2 b f.2
      unfold L2.inV inD at ih ⊢
      rw [List.any_cons, List.any_cons, ih, a.eqV g f.1 f2]
theorem flat_nl {d : D} (f : D.flat d = true) : ∀ ds, d ≠ .lst ds := fun ds z => by
  rw [z] at f
  cases f
theorem flat_nd {d : D} (f : D.flat d = true) : ∀ ks ds, d ≠ .dic ks ds := fun ks ds z => by
  rw [z] at f
  cases f
theorem key_nl {d : D} (f : D.key d = true) : ∀ ds, d ≠ .lst ds := fun ds z => by
  rw [z] at f
  cases f
theorem key_nd {d : D} (f : D.key d = true) : ∀ ks ds, d ≠ .dic ks ds := fun ks ds z => by
  rw [z] at f
  cases f
theorem RpP.dicK {w : Wd} {v : V} {ks ds : List D} (h : RpP K fa w v (.dic ks ds)) : ∃ a xs vs, v = .ref a ∧ DicK K w.H a xs vs ∧ Ks K fa w xs ks ∧ Rps K fa w vs ds := by
  obtain ⟨a, xs, vs, e, h1, h2, h3, h4⟩ := h.dic
  exact ⟨a, xs, vs, e, ⟨h1, h2, h3.is⟩, h3, h4⟩
/-- what stands at a key -/
theorem dic_at {w : Wd} {v : V} {x : D} {a : Addr} {xs : List (NestedKey × Addr)} {vs : List V} {ks ds : List D} (hx : RpP K fa w v x) (c : D.key x = true) (h3 : Ks K fa w xs ks) (h4 : Rps K fa w vs ds) : ∃ b k, v = .ref b ∧ KeyK K w.H b k ∧
    (match dAt2 ks ds x with
    | some y => ∃ u, vAt xs vs k = some u ∧ Rp K fa w u y
    | none => vAt xs vs k = none) := by
  have rx := hx.val (key_nl c) (key_nd c)
  obtain ⟨b, rfl⟩ := key_ref c rx
  obtain ⟨k, e, _⟩ := key_nk c
  exact ⟨b, k, rfl, key_is c e rx, dAt2_vAt e h3 h4⟩
theorem dic_some {xs : List (NestedKey × Addr)} {vs : List V} {ks ds : List D} {x : D} {k : NestedKey} {w : Wd} (h : match dAt2 ks ds x with
    | some y => ∃ u, vAt xs vs k = some u ∧ Rp K fa w u y
    | none => vAt xs vs k = none) : (vAt xs vs k).isSome = (dAt2 ks ds x).isSome := by
  cases q : dAt2 ks ds x with
  | none =>
    rw [q] at h
    have h : vAt xs vs k = none := h
    rw [h] <;> rfl
  | some y =>
    rw [q] at h
    obtain ⟨u, h1, _⟩ := h
    rw [h1] <;> rfl
abbrev rInE (K : PySem.W.Frag) (ng : Bool) : R2 := fun x y H Q => rIn K ng x y H Q ∨ rDin K ng x y H Q
def rSgn : R2 := fun x y H Q => ∃ (c : Nat) (z : Str), x = .str ⟨#[c]⟩ ∧ y = .str z ∧ Q (.bl (decide (c ∈ z.cps.toList))) H
abbrev rInF (K : PySem.W.Frag) : R2 := fun x y H Q => rInE K false x y H Q ∨ (rInD K x y H Q ∨ rSgn x y H Q)
theorem inD_py {x : D} (hx : D.cmpb x = true) : ∀ {ys : List D}, D.cmpbs ys = true → (D.pys ys).any (fun e => PyData.eqv e x.py) = inD x ys
  | [], _ => by simp [D.pys, inD]
  | y :: ys, h => by
    obtain ⟨h1, h2⟩ := Bool.and_eq_true_iff.mp (show (D.cmpb y && D.cmpbs ys) = true from h)
    have ih := inD_py hx h2
    simp only [D.pys, List.any_cons, inD] at ih ⊢
    rw [ih, D.py_eqv y x h1 hx]
theorem deep_shaped {x : D} (c : x.py.canLay0 = true) (d : D.dep x ≤ 60) : SeqAt.shaped x.py = true := by
  show (x.py.canLay0 && decide (x.py.depth ≤ 64)) = true
  rw [Bool.and_eq_true]
  exact ⟨c, decide_eq_true (by rw [D.py_dep]; omega)⟩
theorem copl_in : CopL K fa (rInF K) (cop .isin) := by
  intro w x y b v u Q k hx hy h q
  cases y <;> first | (cases h; done) | skip
  case tup ys =>
    obtain ⟨c, e⟩ := ite_someB h
    subst e
    rw [Bool.and_eq_true] at c
    obtain ⟨p, vs, e1, s1, l1, r1⟩ := hy.tup
    have rx := hx.val (flat_nl c.1) (flat_nd c.1)
    refine .inl (.inl ⟨p, vs, e1, .inr s1, rx.flatV c.1, r1.flatV c.2, ?_⟩)
    show Q (.bl (L2.inV v vs)) w.H
    rw [r1.inV rx c.1 c.2]
    exact q
  case lst ys =>
    by_cases c : (D.flat x && ys.all D.flat) = true
    · have h : (if (D.flat x && ys.all D.flat) = true then some (inD x ys) else if deepOk x ys = true then some (inD x ys) else none) = some b := h
      rw [if_pos c] at h
      cases (Option.some.inj h)
      rw [Bool.and_eq_true] at c
      obtain ⟨p, vs, e1, s1, l1, r1⟩ := hy.lst
      have rx := hx.val (flat_nl c.1) (flat_nd c.1)
      refine .inl (.inl ⟨p, vs, e1, .inl (.of s1), rx.flatV c.1, r1.flatV c.2, ?_⟩)
      show Q (.bl (L2.inV v vs)) w.H
      rw [r1.inV rx c.1 c.2]
      exact q
    · have h : (if (D.flat x && ys.all D.flat) = true then some (inD x ys) else if deepOk x ys = true then some (inD x ys) else none) = some b := h
      rw [if_neg c] at h
      obtain ⟨c2, e⟩ := ite_someB h
      subst e
      obtain ⟨d1, c2⟩ := Bool.and_eq_true_iff.mp c2
      obtain ⟨d2, c2⟩ := Bool.and_eq_true_iff.mp c2
      obtain ⟨d3, d4⟩ := Bool.and_eq_true_iff.mp c2
      have d3 := of_decide_eq_true d3
      have d4 := of_decide_eq_true d4
      obtain ⟨a1, a2⟩ := hx.dp d1
      obtain ⟨b1, b2⟩ := hy.dp (show D.cmpb (.lst ys) = true from d2)
      refine .inr (.inl ⟨x.py, D.pys ys, a1, b1, deep_shaped a2 (by omega), deep_shaped (x := .lst ys) b2 (by show D.deps ys + 1 ≤ 60; omega), ?_⟩)
      rw [inD_py d1 d2]
      exact q
  case str cs =>
    cases x <;> first | (cases h; done) | skip
    case str ds =>
      obtain _ | ⟨c, _ | ⟨c2, r⟩⟩ := ds <;> first | (cases h; done) | skip
      cases (Option.some.inj h)
      refine .inr (.inr ⟨c, tx cs, hx.str.1, hy.str.1, ?_⟩)
      have e : decide (c ∈ (tx cs).cps.toList) = cs.contains c := by
        rw [Bool.eq_iff_iff]
        simp only [tx, List.contains_eq_mem]
        exact ⟨fun z => decide_eq_true (of_decide_eq_true z), fun z => decide_eq_true (of_decide_eq_true z)⟩
      rw [e]
      exact q
  case dic ks ds =>
    obtain ⟨c, e⟩ := ite_someB h
    subst e
    obtain ⟨a, xs, vs, e1, d1, h3, h4⟩ := hy.dicK
    obtain ⟨b, kk, e2, k1, m1⟩ := dic_at (a := a) hx c h3 h4
    refine .inl (.inr ⟨b, a, xs, vs, kk, e2, e1, d1, k1, ?_⟩)
    rw [dic_some m1]
    exact q
theorem copl_notin : CopL K fa (rInE K true) (cop .notin) := by
  intro w x y b v u Q k hx hy h q
  cases y <;> first | (cases h; done) | skip
  case tup ys =>
    obtain ⟨c, e⟩ := ite_someB h
    subst e
    rw [Bool.and_eq_true] at c
    obtain ⟨p, vs, e1, s1, l1, r1⟩ := hy.tup
    have rx := hx.val (flat_nl c.1) (flat_nd c.1)
    refine .inl ⟨p, vs, e1, .inr s1, rx.flatV c.1, r1.flatV c.2, ?_⟩
    show Q (.bl (!L2.inV v vs)) w.H
    rw [r1.inV rx c.1 c.2]
    exact q
  case lst ys =>
    obtain ⟨c, e⟩ := ite_someB h
    subst e
    rw [Bool.and_eq_true] at c
    obtain ⟨p, vs, e1, s1, l1, r1⟩ := hy.lst
    have rx := hx.val (flat_nl c.1) (flat_nd c.1)
    refine .inl ⟨p, vs, e1, .inl (.of s1), rx.flatV c.1, r1.flatV c.2, ?_⟩
    show Q (.bl (!L2.inV v vs)) w.H
    rw [r1.inV rx c.1 c.2]
    exact q
  case dic ks ds =>
    obtain ⟨c, e⟩ := ite_someB h
    subst e
    obtain ⟨a, xs, vs, e1, d1, h3, h4⟩ := hy.dicK
    obtain ⟨b, kk, e2, k1, m1⟩ := dic_at (a := a) hx c h3 h4
    refine .inr ⟨b, a, xs, vs, kk, e2, e1, d1, k1, ?_⟩
    rw [dic_some m1]
    exact q
end
def opOf : COp → CmpOp
  | .eq => .Eq | .ne => .NotEq | .lt => .Lt | .le => .LtE | .gt => .Gt | .ge => .GtE | .isin => .In | .notin => .NotIn
def rCop (K : PySem.W.Frag) : COp → R2
  | .eq => rEqE K false | .ne => rEqE K true | .lt => rI0 fun i j => .bl (decide (i < j)) | .le => rI0 fun i j => .bl (decide (i ≤ j)) | .gt => rI0 fun i j => .bl (decide (j < i)) | .ge => rI0 fun i j => .bl (decide (j ≤ i))
  | .isin => rInF K | .notin => rInE K true
theorem copr {X : Cx} (hu : X.A.units + 65 < cLine) : ∀ o : COp, OpR X (compareOp (opOf o)) (rCop X.K o)
  | .eq => op_eqE (by omega) | .ne => op_neE (by omega) | .lt => op_lt | .le => op_le | .gt => op_gt | .ge => op_ge | .isin => (op_in_seq.or (op_din (by omega))).or ((op_inD hu).or op_in_sign) | .notin => op_notIn_seq.or (op_dnin (by omega))
theorem copl {K : PySem.W.Frag} {fa : Fx} : ∀ o : COp, CopL K fa (rCop K o) (cop o)
  | .eq => copl_eq | .ne => copl_ne | .lt => copl_lt | .le => copl_le | .gt => copl_gt | .ge => copl_ge | .isin => copl_in | .notin => copl_notin
def boOf : BOp → Operator
  | .add => .Add | .sub => .Sub | .mul => .Mult | .mod => .Mod | .fdiv => .FloorDiv | .pow => .Pow
def rBop (K : PySem.W.Frag) : BOp → R2
  | .add => rAddE K | .sub => rSubE | .mul => rMulE K | .mod => rI (fun _ j => 0 < j) fun i j => .int (i % j) | .fdiv => rI CDivE fun i j => .int (i / j) | .pow => rI CPowE fun i j => .int (i ^ j.toNat)
theorem bopr {X : Cx} : ∀ o : BOp, OpR X (binaryOp (boOf o)) (rBop X.K o)
  | .add => op_addE | .sub => op_subE | .mul => op_mulEE | .mod => op_mod | .fdiv => op_fdivE | .pow => op_powE
theorem bopl {K : PySem.W.Frag} {fa : Fx} : ∀ o : BOp, OpL K fa (rBop K o) (bop o)
  | .add => opl_add | .sub => opl_sub | .mul => opl_mul | .mod => opl_mod | .fdiv => opl_fdiv | .pow => opl_pow

/-! ### built-ins -/
theorem call_str_bool {X : Cx} : CallR X (.type "str") (fun xs H Q => ∃ b, xs = [.bl b] ∧ Q (.str (if b then "True" else "False")) H) := by
  intro pins s σ H xs us Q I r h
  obtain ⟨b, rfl, q⟩ := h
  obtain ⟨u, rfl, r1⟩ := vals1 r
  cases r1
  exact PySem.P.str_of_bool ⟨.str _, H, I.tok _, ⟨_, rfl⟩, q⟩
def rLenE (K : PySem.W.Frag) : List V → Hp → VK → Prop := fun xs H Q => (∃ p ys, xs = [.ref p] ∧ (SqL K H p ys ∨ SqT K H p ys) ∧ Q (.int ys.length) H) ∨ ∃ z : Str, xs = [.str z] ∧ z.length ≤ sizeLine ∧ Q (.int z.length) H
def rStrE : List V → Hp → VK → Prop := fun xs H Q => (∃ i : Int, xs = [.int i] ∧ i.natAbs.log2 < 1920 ∧ Q (.str (toString i)) H) ∨ ∃ b, xs = [.bl b] ∧ Q (.str (if b then "True" else "False")) H
def rInt1 : List V → Hp → VK → Prop := fun xs H Q => (∃ i, xs = [.int i] ∧ Q (.int i) H) ∨ ∃ k, xs = [.bl k] ∧ Q (.int (if k then 1 else 0)) H
def rAbs : List V → Hp → VK → Prop := fun xs H Q => ∃ i : Int, xs = [.int i] ∧ Q (.int (if i < 0 then -i else i)) H
def rMin2 : List V → Hp → VK → Prop := fun xs H Q => ∃ i j : Int, xs = [.int i, .int j] ∧ Q (.int (if j < i then j else i)) H
def rMax2 : List V → Hp → VK → Prop := fun xs H Q => ∃ i j : Int, xs = [.int i, .int j] ∧ Q (.int (if j > i then j else i)) H
def rTupOf (K : PySem.W.Frag) : List V → Hp → VK → Prop := fun xs H Q => ∃ p ys, xs = [.ref p] ∧ ((SqL K H p ys ∧ ∀ l, H l = none → Q (.ref l) (upd H l (.tup ys))) ∨ (SqT K H p ys ∧ Q (.ref p) H))
def rLstOf (K : PySem.W.Frag) : List V → Hp → VK → Prop := fun xs H Q => ∃ p ys, xs = [.ref p] ∧ (SqL K H p ys ∨ SqT K H p ys) ∧ ∀ l, H l = none → Q (.ref l) (upd H l (.lst ys))
/-- list(d) -/
def rLstD (K : PySem.W.Frag) : List V → Hp → VK → Prop := fun us H Q => ∃ a xs vs, us = [.ref a] ∧ DicK K H a xs vs ∧ ∀ l, H l = none → Q (.ref l) (upd H l (.lst (xs.map fun p => V.ref p.2)))
theorem vals_refs : ∀ (xs : List (NestedKey × Addr)), Vals (xs.map fun p => V.ref p.2) (xs.map fun p => Value.ref p.2)
  | [] => .nil
  | p :: xs => .cons rfl (vals_refs xs)
theorem call_list_dic {X : Cx} (hc : X.calm = true) : CallR X (.type "list") (rLstD X.K) := by
  intro pins s σ H us ws Q I r h
  obtain ⟨a, xs, vs, rfl, d, q⟩ := h
  obtain ⟨u, rfl, rx⟩ := vals1 r
  cases rx
  obtain ⟨g0, us, g1, g2, g3, hm⟩ := d.get I
  obtain ⟨es, ep, hr, hsz, he⟩ := hm.raw
  have hz : es.size = xs.length := by
    rw [hsz]
    unfold z3
    rw [List.length_zipWith, g2, Nat.min_self]
  have hl := d.len
  refine PySem.W.kdl_call (PySem.KdlSrc.rawDict g0) (I.ok.hd hc) hr (by omega) fun h' tk acc' c' kp e it => ?_
  have hacc : acc' = (xs.map fun p => Value.ref p.2).toArray := by
    apply Array.ext
    · have e5 : acc'.size = xs.length := it.1.trans hz
      rw [e5]
      simp
    · intro i h1 h2
      obtain ⟨hi, hv⟩ := it.2 i acc'[i] (Array.getElem?_eq_getElem h1)
      obtain ⟨y, y1, y2, _⟩ := he i hi
      rw [hv, y2]
      rw [List.getElem_toArray, List.getElem_map]
      have hm2 := z3_mem (List.mem_of_getElem? y1)
      have : xs[i]? = some (y.1, y.2.1) := z3_get y1
      obtain ⟨hi2, e3⟩ := List.getElem?_eq_some_iff.mp this
      rw [e3]
  subst hacc
  exact ⟨.ref s.heap.objs.size, _, I.laid (t' := tk) kp (Nat.le_refl _) (show ObjOk X.prog X.w _ h' _ (.lst (xs.map fun p => V.ref p.2)) from ⟨by rw [List.length_map]; exact hl, _, c', vals_refs xs, e⟩), rfl, q _ (I.hok.fresh (Nat.le_refl _))⟩
section
variable {P : Program} {w : World} {A : Around} {E : Value → Shared → Prop} {s : Shared}
abbrev set0 (w : World) : Obj := { cls := .type "set", dict := none, data := .set #[] 0 (.fresh 0 0 (!w.params.followText "set-order")) }
/-- what filling a new set from a list of ints leaves behind -/
def Fill (w : World) (s : Shared) (ns : List Int) (s₂ : Shared) : Prop := ∃ h' tk c, s₂ = { s with heap := h', toks := tk } ∧ SetR w h' s.heap.objs.size (fun j => decide (j ∈ ns)) c ∧ c ≤ ns.length ∧ (∀ b o, s.heap.get? b = some o → h'.get? b = some o)
/-- set.__init__ on a list of ints: the loop -/
theorem fill_loop {l : Addr} {items : Array Value} (ns : List Int) (hh : A.handled = none) (hl : s.heap.IsList l items) (hit : IntsAre items.toList ns) (hb : ns.length + 1 < scanBound) {R : Result → Shared → Prop}
    (hR : ∀ s', Fill w s ns s' → R (.ok (.ret .none)) s') :
    codeAny (model P w) A (.builtin "set.update.loop" ⟨[.ref s.heap.objs.size, .ref (s.heap.push (set0 w)).objs.size], []⟩) R { s with heap := (s.heap.push (set0 w)).push { cls := .type "list_iterator", data := .fields #[.ref l, .int 0 0] } } := by
  have hz : items.size = ns.length := by
    have q := IntsAre.length hit
    rw [Array.length_toList] at q
    exact q
  have hlt : l < s.heap.objs.size := by obtain ⟨_, e, _⟩ := hl; exact Heap.lt_size e
  have h1 : (s.heap.push (set0 w)).IsList l items := hl.push _
  have sz : (s.heap.push (set0 w)).objs.size = s.heap.objs.size + 1 := Heap.size_push ..
  have hneI : l ≠ (s.heap.push (set0 w)).objs.size := by rw [sz]; exact Nat.ne_of_lt (Nat.lt_succ_of_lt hlt)
  have get0 : ((s.heap.push (set0 w)).push { cls := .type "list_iterator", data := .fields #[.ref l, .int 0 0] }).get? s.heap.objs.size = some (set0 w) := Heap.get?_push_of_some _ (Heap.get?_push_size _ rfl)
  refine set_update_ints ((Walks.list (A := A.in1) (by simp [hh]) _ l hneI items).toS) s.heap.objs.size (fun z => ?_) ns hz hb (fun i v hv => ?_) (items.size - 0) 0 _ (by omega) (Nat.zero_le _)
    ⟨⟨_, Heap.get?_push_size _ rfl, rfl, rfl⟩, h1.push _⟩ ⟨0, Nat.le_refl 0, setR_new_at get0⟩ fun s' c hm hc hS => hR s' ?_
  · rcases List.mem_cons.mp z with z | z
    · rw [sz] at z
      exact absurd z (Nat.ne_of_lt (Nat.lt_succ_self _))
    · exact absurd (List.mem_singleton.mp z) (Nat.ne_of_gt hlt)
  · have hi : i < ns.length := by rw [← hz]; exact (Array.getElem?_eq_some_iff.mp hv).1
    obtain ⟨t, e⟩ := IntsAre.int_at hit i v (by rw [Array.getElem?_toList]; exact hv)
    refine ⟨ns[i], t, List.getElem?_eq_getElem hi, ?_⟩
    rw [e, List.getD_eq_getElem?_getD, List.getElem?_eq_getElem hi] <;> rfl
  · obtain ⟨h', g, d, tk, os⟩ := s'
    have eg : g = s.gens := hm.gens
    have ed : d = s.drawn := hm.drawn
    have eo : os = s.os := hm.os
    subst eg; subst ed; subst eo
    refine ⟨h', tk, c, rfl, hS, by omega, fun b o e => hm.heap b o (fun z => ?_) (Heap.get?_push_of_some _ (Heap.get?_push_of_some _ e))⟩
    have hb0 := Heap.lt_size e
    rcases List.mem_cons.mp z with z | z
    · exact absurd z (Nat.ne_of_lt hb0)
    · have z := List.mem_singleton.mp z
      rw [sz] at z
      exact absurd z (Nat.ne_of_lt (Nat.lt_succ_of_lt hb0))
theorem set_list_ints {l : Addr} {items : Array Value} (ns : List Int) {Q : Value → Shared → Prop} (hh : A.handled = none) (hl : s.heap.IsList l items) (hit : IntsAre items.toList ns) (hb : ns.length + 1 < scanBound)
    (h : ∀ s', Fill w s ns s' → Q (.ref s.heap.objs.size) s') : wpAny (model P w) A (call (.type "set") [.ref l]) Q E s := by
  obtain ⟨c, tl, hmro⟩ := F.called_set.mro
  have hmade := F.called_set.made
  have hsub := F.called_set.sub
  have h1 := F.called_set.notType
  have h2 := F.called_set.canCreate
  have hct := F.typeCall_set_1 (.ref l)
  refine wpAny_call (codeAny_of_tree ?_)
  show wpAny _ _ (callAny (.type "set") _) _ _ _
  refine wpAny_pure ⟨Code.quiet_builtin _ (by decide +kernel), codeAny_builtin F.entry_type_call ?_⟩
  rw [Around.under_plain (weight_type_call_type "set" [.ref l] []) rfl]
  repeat (any_goals (first | assumption | wp_step))
  refine codeAny_mono (code_set_led1 (.ref l) (E := E) (Q₁ := fun obj s₁ => obj = .ref s.heap.objs.size ∧ s₁ = { s with heap := s.heap.push (set0 w) }) ⟨rfl, rfl⟩) fun r s₁ hr => ?_
  rcases r with e | fl
  · exact hr
  cases fl
  case ret obj =>
    obtain ⟨rfl, rfl⟩ := hr
    have hS : (s.heap.push (set0 w)).get? s.heap.objs.size = some (set0 w) := Heap.get?_push_size _ rfl
    have hT : Shared.TypeIs { s with heap := s.heap.push (set0 w) } (.ref s.heap.objs.size) "set" := ⟨_, hS, rfl⟩
    have hli := F.called_set.init.lookup
    have hbi := F.called_set.init.bind (.ref s.heap.objs.size)
    repeat (any_goals (first | assumption | wp_step))
    refine codeAny_mono (codeAny_call_builtin (R := wants (fun r s₂ => r = .none ∧ Fill w s ns s₂) E) F.called_set.init.plain F.entry_set_init (check_set_init_1 hT ?_)) fun r₂ s₂ hr₂ => ?_
    · obtain ⟨⟨_, odict, _, oslots⟩, hol, hcl, nl, hdl⟩ := hl
      simp only at hcl hdl
      subst hcl; subst hdl
      have hol' : (s.heap.push (set0 w)).get? l = some { cls := .type "list", dict := odict, data := .seq items nl, slots := oslots } := Heap.get?_push_of_some _ hol
      have g1 := PySem.F.sub_list_set
      have g2 := PySem.F.sub_list_frozenset
      have hne : (Value.type "list" == Value.type "dict") = false := by decide
      have hl1 : (s.heap.push (set0 w)).IsList l items := ⟨_, hol', rfl, nl, rfl⟩
      unfold Builtin.«set.__init__» noKeywords Builtin.Frozenset.updateFrom
      generalize hPI : pyIter = PI
      wp_walk
      subst hPI
      refine wpAny_pyIter_list hl1 (wpAny_bind (wpAny_runValue ?_))
      refine fill_loop ns (by simp [hh]) ⟨_, hol, rfl, nl, rfl⟩ hit hb fun s' hF => ?_
      show wpAny _ _ _ _ _ _
      refine wpAny_pure ?_
      show wpAny _ _ (ret Value.none) _ _ _
      exact wpAny_pure ⟨rfl, hF⟩
    · rcases r₂ with e | fl₂
      · exact hr₂
      cases fl₂
      case ret r =>
        obtain ⟨rfl, hF⟩ := hr₂
        have hF2 := hF
        obtain ⟨h', tk, c', rfl, -⟩ := hF
        repeat (any_goals (first | assumption | wp_step))
        exact h _ hF2
      all_goals exact hr₂.elim
  all_goals exact hr.elim
end
/-! ### sorted(set(xs)) -/
theorem mem_insU (x z : Int) : ∀ l : List Int, z ∈ insU x l ↔ z = x ∨ z ∈ l
  | [] => by show z ∈ [x] ↔ _; simp
  | y :: l => by
    show z ∈ (if x < y then x :: y :: l else if y < x then y :: insU x l else y :: l) ↔ _
    by_cases h : x < y
    · rw [if_pos h, List.mem_cons]
    · rw [if_neg h]
      by_cases h2 : y < x
      · rw [if_pos h2, List.mem_cons, mem_insU x z l, List.mem_cons]
        constructor
        · rintro (h | h | h)
          · exact .inr (.inl h)
          · exact .inl h
          · exact .inr (.inr h)
        · rintro (h | h | h)
          · exact .inr (.inl h)
          · exact .inl h
          · exact .inr (.inr h)
      · rw [if_neg h2]
        have e : x = y := by omega
        subst e
        constructor
        · exact .inr
        · rintro (h | h)
          · rw [h]; exact List.mem_cons_self
          · exact h
theorem pw_insU (x : Int) : ∀ l : List Int, l.Pairwise (· < ·) → (insU x l).Pairwise (· < ·)
  | [], _ => by show [x].Pairwise _; exact List.pairwise_singleton ..
  | y :: l, h => by
    show (if x < y then x :: y :: l else if y < x then y :: insU x l else y :: l).Pairwise _
    obtain ⟨h1, h2⟩ := List.pairwise_cons.mp h
    by_cases c : x < y
    · rw [if_pos c]
      refine List.pairwise_cons.mpr ⟨fun z hz => ?_, h⟩
      rcases List.mem_cons.mp hz with e | e
      · rw [e]; exact c
      · exact Int.lt_trans c (h1 z e)
    · rw [if_neg c]
      by_cases c2 : y < x
      · rw [if_pos c2]
        refine List.pairwise_cons.mpr ⟨fun z hz => ?_, pw_insU x l h2⟩
        rcases (mem_insU x z l).mp hz with e | e
        · rw [e]; exact c2
        · exact h1 z e
      · rw [if_neg c2]
        exact h
theorem mem_sortU (z : Int) : ∀ l : List Int, z ∈ sortU l ↔ z ∈ l
  | [] => Iff.rfl
  | x :: l => by
    show z ∈ insU x (sortU l) ↔ _
    rw [mem_insU, mem_sortU z l, List.mem_cons]
theorem pw_sortU : ∀ l : List Int, (sortU l).Pairwise (· < ·)
  | [] => List.Pairwise.nil
  | x :: l => pw_insU x _ (pw_sortU l)
theorem pw_one : ∀ (a b : List Int), a.Pairwise (· < ·) → b.Pairwise (· < ·) → (∀ z, z ∈ a ↔ z ∈ b) → a = b
  | [], [], _, _, _ => rfl
  | [], y :: b, _, _, h => by cases (h y).mpr List.mem_cons_self
  | x :: a, [], _, _, h => by cases (h x).mp List.mem_cons_self
  | x :: a, y :: b, p, q, h => by
    obtain ⟨p1, p2⟩ := List.pairwise_cons.mp p
    obtain ⟨q1, q2⟩ := List.pairwise_cons.mp q
    have e : x = y := by
      rcases List.mem_cons.mp ((h x).mp List.mem_cons_self) with e | e
      · exact e
      · rcases List.mem_cons.mp ((h y).mpr List.mem_cons_self) with e2 | e2
        · exact e2.symm
        · have := q1 x e
          have := p1 y e2
          omega
    subst e
    rw [pw_one a b p2 q2 fun z => ?_]
    constructor
    · intro hz
      rcases List.mem_cons.mp ((h z).mp (List.mem_cons_of_mem _ hz)) with e | e
      · have := p1 z hz
        omega
      · exact e
    · intro hz
      rcases List.mem_cons.mp ((h z).mpr (List.mem_cons_of_mem _ hz)) with e | e
      · have := q1 z hz
        omega
      · exact e
def rSetI (K : PySem.W.Frag) (w : World) : List V → Hp → VK → Prop := fun vs H Q => ∃ (a : Addr) (ns : List Int), vs = [V.ref a] ∧ SqL K H a (ns.map V.int) ∧ ns.length < 64 ∧
  ∀ (p : Addr) (c : Nat), H p = none → c ≤ ns.length → Q (.ref p) (upd H p (SetO w p (fun j => decide (j ∈ ns)) c))
theorem cr_setI {X : Cx} (hc : X.calm = true) : CallR X (.type "set") (rSetI X.K X.w) := by
  intro pins s σ H vs us Q I r h
  obtain ⟨a, ns, rfl, hs, h64, q⟩ := h
  obtain ⟨its, rv, hl, _⟩ := I.list hs
  rw [Vals.ref1 r]
  refine set_list_ints ns (I.ok.hd hc) hl.isList rv.ints (by unfold scanBound; omega) fun s' hF => ?_
  obtain ⟨h', tk, c, rfl, R, hc', k⟩ := hF
  exact ⟨.ref s.heap.objs.size, upd H s.heap.objs.size (SetO X.w s.heap.objs.size (fun j => decide (j ∈ ns)) c), I.laid (t' := tk) k (Nat.le_refl _) (setO_new R), rfl, q _ c (I.hok.fresh (Nat.le_refl _)) hc'⟩
theorem min_rawT {prog : Program} {w : World} {A : Around} {s : Shared} {l : Addr} {its : List Value} {ns : List Int} {Q : Value → Shared → Prop} {E : Value → Shared → Prop} (hh : A.handled = none) (hl : s.heap.IsTuple l its.toArray) (hi : IntsAre its ns) (hne : 0 < ns.length)
    (h : ∀ h' tk M t', (∀ b o, s.heap.get? b = some o → h'.get? b = some o) → M ∈ ns → (∀ a, a ∈ ns → M ≤ a) → Q (.int M t') { s with heap := h', toks := tk }) : wpAny (model prog w) A (call (.builtin "min") [.ref l]) Q E s := by
  obtain ⟨xs, e⟩ := hi.allInts.items
  have hn : numsOf (intItems xs).toList = ns := by rw [← e]; exact hi.numsOf
  rw [nums_intItems] at hn
  subst hn
  rw [e] at hl
  have hsz : 0 < xs.size := by simpa using hne
  have hlt : l < s.heap.objs.size := by obtain ⟨_, e, _⟩ := hl; exact Heap.lt_size e
  refine call_min_walk (wpAny_pyIter_tuple hl ?_)
  refine ⟨_, _, _, _, _, _, _, rfl, Walks.tuple (A := A.in1) hh _ l (Nat.ne_of_lt hlt) (intItems xs), ⟨⟨_, Heap.get?_push_size _ rfl, rfl, rfl⟩, hl.push _⟩, fun b hb => ?_, by simpa [intItems] using hsz, CmpOf.ints_lt (numAt xs) (fun _ _ => intItems_at), fun v h' tk hP hk => ?_⟩
  · show b < (s.heap.push _).objs.size
    rw [Heap.size_push]
    rcases List.mem_cons.mp hb with rfl | hb
    · exact Nat.lt_succ_self _
    · rcases List.mem_cons.mp hb with rfl | hb
      · exact Nat.lt_succ_of_lt hlt
      · cases hb
  · have hsz2 : (intItems xs).size = xs.size := by simp [intItems]
    rw [hsz2] at hP
    obtain ⟨t, rfl⟩ := intItems_at hP
    obtain ⟨h1, h2⟩ := argBest_lt (numAt xs) (xs.size - 1)
    refine h h' tk _ t (fun b o eo => hk b o (fun hmem => absurd ((List.mem_singleton.mp hmem) ▸ Heap.lt_size eo) (Nat.lt_irrefl _)) (Heap.get?_push_of_some _ eo)) ?_ fun a ha => ?_
    · rw [numAt_eq]; exact PySem.getD_mem (by rw [List.length_map, Array.length_toList]; omega)
    · obtain ⟨j, hj, rfl⟩ := mem_getD ha
      rw [List.length_map, Array.length_toList] at hj
      rw [← numAt_eq]; exact h2 j (by omega)
def rMinT (K : PySem.W.Frag) : List V → Hp → VK → Prop := fun vs H Q => ∃ (a : Addr) (ns : List Int), vs = [V.ref a] ∧ SqT K H a (ns.map V.int) ∧ 0 < ns.length ∧ ∀ m, m ∈ ns → (∀ y, y ∈ ns → m ≤ y) → Q (.int m) H
theorem cr_minT {X : Cx} (hc : X.calm = true) : CallR X (.builtin "min") (rMinT X.K) := by
  intro pins s σ H vs us Q I r h
  obtain ⟨a, ns, rfl, hs, hne, q⟩ := h
  obtain ⟨its, rv, ⟨o, ho, hcl, n, hd⟩, _⟩ := I.tuple hs
  rw [Vals.ref1 r]
  exact min_rawT (I.ok.hd hc) ⟨o, ho, hcl, n, hd⟩ rv.ints hne fun h' tk m t' hk h1 h2 => ⟨.int _, H, I.kept hk, ⟨_, rfl⟩, q m h1 h2⟩
abbrev rInt2 : List V → Hp → VK → Prop := fun xs H Q => rInt1 xs H Q ∨ ∃ a n, xs = [.str a] ∧ PySem.intText? a = some n ∧ a.length ≤ 640 ∧ Q (.int n) H
abbrev rStrF : List V → Hp → VK → Prop := fun xs H Q => rStrE xs H Q ∨ ∃ a, xs = [.str a] ∧ Q (.str a) H
def rBl (K : PySem.W.Frag) : Bl → List V → Hp → VK → Prop
  | .len => rLenE K | .abs => rAbs | .int => rInt2 | .min2 => rMin2 | .max2 => rMax2 | .tuple => rTupOf K | .list => (fun us H Q => rLstOf K us H Q ∨ rLstD K us H Q) | .str => rStrF | .all => rAll K | .min3 => rNuC3 nuMin3 | .sum => rSum K | .maxL => rMax K | .minL => (fun us H Q => rMin K us H Q ∨ rMinT K us H Q)
def nmBl : Bl → Str
  | .len => "len" | .abs => "abs" | .int => "int" | .min2 => "min" | .max2 => "max" | .tuple => "tuple" | .list => "list" | .str => "str" | .all => "all" | .min3 => "min" | .sum => "sum" | .maxL => "max" | .minL => "min"
def valBl : Bl → Value
  | .len => .builtin "len" | .abs => .builtin "abs" | .int => .type "int" | .min2 => .builtin "min" | .max2 => .builtin "max" | .tuple => .type "tuple" | .list => .type "list" | .str => .type "str" | .all => .builtin "all" | .min3 => .builtin "min" | .sum => .builtin "sum" | .maxL => .builtin "max" | .minL => .builtin "min"
theorem blr {X : Cx} (hc : X.calm = true) : ∀ f : Bl, CallR X (valBl f) (rBl X.K f)
  | .len => call_len_seq.or call_len_str | .abs => call_abs | .int => call_int1.or call_int_str | .min2 => call_min2 hc | .max2 => call_max2 hc | .tuple => call_tuple_of | .list => call_list_of.or (call_list_dic hc) | .str => (call_str_int.or call_str_bool).or SkE.call_str_str | .all => cr_all hc | .min3 => call_min3Nu hc | .sum => cr_sum hc | .maxL => cr_max hc | .minL => (cr_min hc).or (cr_minT hc)
section
variable {K : PySem.W.Frag} {fa : Fx} {w : Wd}
theorem pair1 {vs : List V} {d : D} (h : Paired (RpP K fa w) vs [d]) : ∃ v, vs = [v] ∧ RpP K fa w v d := by
  cases h with
  | cons a b => cases b; exact ⟨_, rfl, a⟩
theorem pair2 {vs : List V} {d e : D} (h : Paired (RpP K fa w) vs [d, e]) : ∃ v u, vs = [v, u] ∧ RpP K fa w v d ∧ RpP K fa w u e := by
  cases h with
  | cons a b =>
    cases b with
    | cons a2 b2 => cases b2; exact ⟨_, _, rfl, a, a2⟩
theorem bools_of : ∀ {ds : List D} {bs : List Bool} {vs : List V}, Rps K fa w vs ds → boolsOf ds = some bs → vs = bs.map V.bl
  | [], bs, vs, h, e => by
    cases (Option.some.inj e)
    cases h
    rfl
  | .bl b :: ds, bs, vs, h, e => by
    cases h with
    | cons a t =>
      cases a
      unfold boolsOf at e
      cases q : boolsOf ds with
      | none =>
        rw [q] at e
        cases e
      | some cs =>
        rw [q] at e
        cases (Option.some.inj e)
        rw [bools_of t q]
        rfl
  | .non :: _, _, _, _, e => by cases e
  | .int _ :: _, _, _, _, e => by cases e
  | .str _ :: _, _, _, _, e => by cases e
  | .tup _ :: _, _, _, _, e => by cases e
  | .lst _ :: _, _, _, _, e => by cases e
  | .rol _ :: _, _, _, _, e => by cases e
  | .loc _ :: _, _, _, _, e => by cases e
  | .fn _ :: _, _, _, _, e => by cases e
  | .dic _ _ :: _, _, _, _, e => by cases e
theorem ints_of : ∀ {ds : List D} {ns : List Int} {vs : List V}, Rps K fa w vs ds → intsOf ds = some ns → vs = ns.map V.int
  | [], ns, vs, h, e => by
    cases (Option.some.inj e)
    cases h
    rfl
  | .int b :: ds, ns, vs, h, e => by
    cases h with
    | cons a t =>
      cases a
      unfold intsOf at e
      cases q : intsOf ds with
      | none =>
        rw [q] at e
        cases e
      | some cs =>
        rw [q] at e
        cases (Option.some.inj e)
        rw [ints_of t q]
        rfl
  | .non :: _, _, _, _, e => by cases e
  | .bl _ :: _, _, _, _, e => by cases e
  | .str _ :: _, _, _, _, e => by cases e
  | .tup _ :: _, _, _, _, e => by cases e
  | .lst _ :: _, _, _, _, e => by cases e
  | .rol _ :: _, _, _, _, e => by cases e
  | .loc _ :: _, _, _, _, e => by cases e
  | .fn _ :: _, _, _, _, e => by cases e
  | .dic _ _ :: _, _, _, _, e => by cases e
theorem maxI_ok : ∀ (ns : List Int) (n : Int), (maxI n ns ∈ n :: ns) ∧ ∀ y ∈ n :: ns, y ≤ maxI n ns
  | [], n => ⟨List.mem_cons_self, fun y hy => by rw [List.mem_singleton.mp hy]; exact Int.le_refl _⟩
  | m :: ns, n => by
    obtain ⟨h1, h2⟩ := maxI_ok ns (if m > n then m else n)
    have e : maxI n (m :: ns) = maxI (if m > n then m else n) ns := rfl
    rw [e]
    have h3 := h2 _ List.mem_cons_self
    generalize maxI (if m > n then m else n) ns = T at h1 h2 h3 ⊢
    refine ⟨?_, fun y hy => ?_⟩
    · rcases List.mem_cons.mp h1 with q | q
      · rw [q]
        split
        · exact List.mem_cons_of_mem _ List.mem_cons_self
        · exact List.mem_cons_self
      · exact List.mem_cons_of_mem _ (List.mem_cons_of_mem _ q)
    · rcases List.mem_cons.mp hy with q | q
      · subst q
        split at h3 <;> omega
      · rcases List.mem_cons.mp q with q | q
        · subst q
          split at h3 <;> omega
        · exact h2 y (List.mem_cons_of_mem _ q)
theorem minI_ok : ∀ (ns : List Int) (n : Int), (minI n ns ∈ n :: ns) ∧ ∀ y ∈ n :: ns, minI n ns ≤ y
  | [], n => ⟨List.mem_cons_self, fun y hy => by rw [List.mem_singleton.mp hy]; exact Int.le_refl _⟩
  | m :: ns, n => by
    obtain ⟨h1, h2⟩ := minI_ok ns (if m < n then m else n)
    have e : minI n (m :: ns) = minI (if m < n then m else n) ns := rfl
    rw [e]
    have h3 := h2 _ List.mem_cons_self
    generalize minI (if m < n then m else n) ns = T at h1 h2 h3 ⊢
    refine ⟨?_, fun y hy => ?_⟩
    · rcases List.mem_cons.mp h1 with q | q
      · rw [q]
        split
        · exact List.mem_cons_of_mem _ List.mem_cons_self
        · exact List.mem_cons_self
      · exact List.mem_cons_of_mem _ (List.mem_cons_of_mem _ q)
    · rcases List.mem_cons.mp hy with q | q
      · subst q
        split at h3 <;> omega
      · rcases List.mem_cons.mp q with q | q
        · subst q
          split at h3 <;> omega
        · exact h2 y (List.mem_cons_of_mem _ q)
theorem pair3 {vs : List V} {d e f : D} (h : Paired (RpP K fa w) vs [d, e, f]) : ∃ v u x, vs = [v, u, x] ∧ RpP K fa w v d ∧ RpP K fa w u e ∧ RpP K fa w x f := by
  cases h with
  | cons a b =>
    obtain ⟨v, u, rfl, h1, h2⟩ := pair2 b
    exact ⟨_, _, _, rfl, a, h1, h2⟩
theorem min2_ok (i j : Int) : nuMin2 (.int i) (.int j) = some (V.int (if j < i then j else i)) := by
  by_cases h : j < i <;> simp [nuMin2, nuLt, nuCB, h]
theorem min3_ok (i j m : Int) : nuMin3 (.int i) (.int j) (.int m) = some (V.int (if m < (if j < i then j else i) then m else (if j < i then j else i))) := by
  unfold nuMin3
  rw [min2_ok]
  show nuMin2 (V.int (if j < i then j else i)) (V.int m) = _
  rw [min2_ok]
theorem log2_small {n : Nat} (h : n < 2 ^ 1000) : n.log2 < 1920 := Nat.lt_of_lt_of_le (PySem.Flt.log2_lt_of (by omega) h) (by omega)
/-- the figures of a number: signs below 128 -/
theorem cdsStr (s : String) : codesOf s = s.toList.map Char.toNat := by
  unfold codesOf
  rw [Str.ofString_eq_toList]
theorem digits_ok (i : Int) (h : i.natAbs < 2 ^ 1000) : TxOk (codesOf (toString i : String)) := by
  have h1 : i.natAbs.log2 < 1000 := PySem.Flt.log2_lt_of (by omega) h
  have h2 := int_text_length_le (a := i) (k := 1000) (by omega) h1
  rw [cdsStr]
  refine ⟨?_, fun c hc => ?_⟩
  · rw [List.length_map, String.length_toList, sizeLine_eq]
    omega
  · obtain ⟨x, _, e⟩ := List.mem_map.mp hc
    subst e
    have h3 := x.valid
    simp only [UInt32.isValidChar, Nat.isValidChar] at h3
    show x.val.toNat < 1114112
    omega
theorem bll : ∀ f : Bl, CallL K fa (rBl K f) (blt f) := by
  intro f w S xs d vs Q k r hp h q
  cases f
  case len =>
    obtain _ | ⟨x, _ | ⟨y, t⟩⟩ := xs
    · cases h
    · obtain ⟨v, rfl, hx⟩ := pair1 hp
      cases x <;> first | (cases h; done) | skip
      case str cs =>
        cases (Option.some.inj h)
        obtain ⟨e, t⟩ := hx.str
        refine .inr ⟨tx cs, by rw [e], by rw [tx_len]; exact t.len, ?_⟩
        rw [tx_len]
        exact here k r q (Rp.int _)
      case tup ys =>
        cases (Option.some.inj h)
        obtain ⟨p, us, e1, s1, l1, r1⟩ := hx.tup
        refine .inl ⟨p, us, by rw [e1], .inr s1, ?_⟩
        rw [r1.len]
        exact here k r q (Rp.int _)
      case lst ys =>
        cases (Option.some.inj h)
        obtain ⟨p, us, e1, s1, l1, r1⟩ := hx.lst
        refine .inl ⟨p, us, by rw [e1], .inl (.of s1), ?_⟩
        rw [r1.len]
        exact here k r q (Rp.int _)
      case rol ys =>
        cases (Option.some.inj h)
        obtain ⟨p, us, e1, s1, l1, r1⟩ := hx.rol
        refine .inl ⟨p, us, by rw [e1], .inl s1.sq, ?_⟩
        rw [r1.len]
        exact here k r q (Rp.int _)
    · cases x <;> cases h
  case abs =>
    obtain _ | ⟨x, _ | ⟨y, t⟩⟩ := xs
    · cases h
    · obtain ⟨v, rfl, hx⟩ := pair1 hp
      cases x <;> first | (cases h; done) | skip
      case int i =>
        cases (Option.some.inj h)
        exact ⟨i, by rw [hx.int], here k r q (Rp.int _)⟩
    · cases x <;> cases h
  case int =>
    obtain _ | ⟨x, _ | ⟨y, t⟩⟩ := xs
    · cases h
    · obtain ⟨v, rfl, hx⟩ := pair1 hp
      cases x <;> first | (cases h; done) | skip
      case int i =>
        cases (Option.some.inj h)
        exact .inl (.inl ⟨i, by rw [hx.int], here k r q (Rp.int _)⟩)
      case bl i =>
        cases (Option.some.inj h)
        exact .inl (.inr ⟨i, by rw [hx.bl], here k r q (Rp.int _)⟩)
      case str cs =>
        obtain ⟨c, e⟩ := ite_someB h
        subst e
        obtain ⟨c1, c⟩ := Bool.and_eq_true_iff.mp c
        obtain ⟨c2, c3⟩ := Bool.and_eq_true_iff.mp c
        have c1 := of_decide_eq_true c1
        refine .inr ⟨tx cs, _, by rw [hx.str.1], SX.int_S c3 (fun z => by rw [z] at c2; cases c2) (by omega), by rw [tx_len]; omega, here k r q (Rp.int _)⟩
    · cases x <;> cases h
  case min2 =>
    obtain _ | ⟨x, _ | ⟨y, _ | ⟨z, t⟩⟩⟩ := xs
    · cases h
    · cases x <;> cases h
    · obtain ⟨v, u, rfl, hx, hy⟩ := pair2 hp
      cases x <;> cases y <;> first | (cases h; done) | skip
      case int.int i j =>
        cases (Option.some.inj h)
        exact ⟨i, j, by rw [hx.int, hy.int], here k r q (Rp.int _)⟩
    · cases x <;> cases y <;> cases h
  case max2 =>
    obtain _ | ⟨x, _ | ⟨y, _ | ⟨z, t⟩⟩⟩ := xs
    · cases h
    · cases x <;> cases h
    · obtain ⟨v, u, rfl, hx, hy⟩ := pair2 hp
      cases x <;> cases y <;> first | (cases h; done) | skip
      case int.int i j =>
        cases (Option.some.inj h)
        exact ⟨i, j, by rw [hx.int, hy.int], here k r q (Rp.int _)⟩
    · cases x <;> cases y <;> cases h
  case tuple =>
    obtain _ | ⟨x, _ | ⟨y, t⟩⟩ := xs
    · cases h
    · obtain ⟨v, rfl, hx⟩ := pair1 hp
      cases x <;> first | (cases h; done) | skip
      case tup ys =>
        cases (Option.some.inj h)
        obtain ⟨p, us, e1, s1, l1, r1⟩ := hx.tup
        exact ⟨p, us, by rw [e1], .inr ⟨s1, here k r q (Rp.tup s1 l1 r1)⟩⟩
      case lst ys =>
        cases (Option.some.inj h)
        obtain ⟨p, us, e1, s1, l1, r1⟩ := hx.lst
        exact ⟨p, us, by rw [e1], .inl ⟨.of s1, fun l hl => newT k r hl l1 r1 q⟩⟩
    · cases x <;> cases h
  case list =>
    obtain _ | ⟨x, _ | ⟨y, t⟩⟩ := xs
    · cases h
    · obtain ⟨v, rfl, hx⟩ := pair1 hp
      cases x <;> first | (cases h; done) | skip
      case tup ys =>
        cases (Option.some.inj h)
        obtain ⟨p, us, e1, s1, l1, r1⟩ := hx.tup
        exact .inl ⟨p, us, by rw [e1], .inr s1, fun l hl => newL k r hl l1 r1 q⟩
      case lst ys =>
        cases (Option.some.inj h)
        obtain ⟨p, us, e1, s1, l1, r1⟩ := hx.lst
        exact .inl ⟨p, us, by rw [e1], .inl (.of s1), fun l hl => newL k r hl l1 r1 q⟩
      case dic ks ds =>
        cases (Option.some.inj h)
        obtain ⟨a, xs, vs, e1, d1, h3, h4⟩ := hx.dicK
        exact .inr ⟨a, xs, vs, by rw [e1], d1, fun l hl => newL k r hl (by rw [List.length_map]; exact d1.len) h3.refs q⟩
    · cases x <;> cases h
  case str =>
    obtain _ | ⟨x, _ | ⟨y, t⟩⟩ := xs
    · cases h
    · obtain ⟨v, rfl, hx⟩ := pair1 hp
      cases x <;> first | (cases h; done) | skip
      case int i =>
        obtain ⟨c, e⟩ := ite_some h
        subst e
        refine .inl (.inl ⟨i, by rw [hx.int], log2_small c, ?_⟩)
        have e : ((toString i : String) : Str) = tx (codesOf (toString i : String)) := (tx_codes _).symm
        rw [e]
        exact here k r q (Rp.str (digits_ok i c))
      case bl b =>
        cases (Option.some.inj h)
        refine .inl (.inr ⟨b, by rw [hx.bl], ?_⟩)
        have e : (if b = true then ("True" : Str) else "False") = tx (sBool b) := by
          cases b <;> decide +kernel
        rw [e]
        exact here k r q (Rp.str ⟨by cases b <;> decide, by cases b <;> decide⟩)
      case str cs =>
        cases (Option.some.inj h)
        obtain ⟨e1, t1⟩ := hx.str
        exact .inr ⟨tx cs, by rw [e1], here k r q (Rp.str t1)⟩
    · cases x <;> cases h
  case all =>
    obtain _ | ⟨x, _ | ⟨y, t⟩⟩ := xs
    · cases h
    · obtain ⟨v, rfl, hx⟩ := pair1 hp
      cases x <;> first | (cases h; done) | skip
      case lst ys =>
        have h2 : (boolsOf ys).map (fun bs => D.bl (bs.all id)) = some d := h
        cases q2 : boolsOf ys with
        | none =>
          rw [q2] at h2
          cases h2
        | some bs =>
          rw [q2] at h2
          cases (Option.some.inj h2)
          obtain ⟨p, us, e1, s1, l1, r1⟩ := hx.lst
          have eb := bools_of r1 q2
          subst eb
          exact ⟨p, bs, by rw [e1], .of s1, here k r q (Rp.bl _)⟩
    · cases x <;> cases h
  case min3 =>
    obtain _ | ⟨x, _ | ⟨y, _ | ⟨z, _ | ⟨u, t⟩⟩⟩⟩ := xs
    · cases h
    · cases x <;> cases h
    · cases x <;> first | (cases h; done) | (cases y <;> cases h)
    · obtain ⟨v1, v2, v3, rfl, hx, hy, hz⟩ := pair3 hp
      cases x <;> first | (cases h; done) | skip
      cases y <;> first | (cases h; done) | skip
      cases z <;> first | (cases h; done) | skip
      rename_i i j m
      cases (Option.some.inj h)
      rw [hx.int, hy.int, hz.int]
      refine ⟨_, _, _, V.int (if m < (if j < i then j else i) then m else (if j < i then j else i)), rfl, min3_ok i j m, here k r q (Rp.int _)⟩
    · cases x <;> first | (cases h; done) | skip
      cases y <;> first | (cases h; done) | (cases z <;> cases h)
  case sum =>
    obtain _ | ⟨x, _ | ⟨y, t⟩⟩ := xs
    · cases h
    · obtain ⟨v, rfl, hx⟩ := pair1 hp
      cases x <;> first | (cases h; done) | skip
      case lst ys =>
        have h2 : (intsOf ys).map (fun ns => D.int ns.sum) = some d := h
        cases q2 : intsOf ys with
        | none =>
          rw [q2] at h2
          cases h2
        | some ns =>
          rw [q2] at h2
          cases (Option.some.inj h2)
          obtain ⟨p, us, e1, s1, l1, r1⟩ := hx.lst
          have eb := ints_of r1 q2
          subst eb
          exact ⟨p, ns, by rw [e1], .of s1, here k r q (Rp.int _)⟩
    · cases x <;> cases h
  case maxL =>
    obtain _ | ⟨x, _ | ⟨y, t⟩⟩ := xs
    · cases h
    · obtain ⟨v, rfl, hx⟩ := pair1 hp
      cases x <;> first | (cases h; done) | skip
      case lst ys =>
        have h2 : (match intsOf ys with | some (n :: ns) => some (D.int (maxI n ns)) | _ => none) = some d := h
        cases q2 : intsOf ys with
        | none =>
          rw [q2] at h2
          cases h2
        | some ns =>
          rw [q2] at h2
          cases ns with
          | nil => cases h2
          | cons n ns =>
            cases (Option.some.inj h2)
            obtain ⟨p, us, e1, s1, l1, r1⟩ := hx.lst
            have eb := ints_of r1 q2
            subst eb
            obtain ⟨g1, g2⟩ := maxI_ok ns n
            refine ⟨p, n :: ns, by rw [e1], .of s1, Nat.succ_pos _, fun m hm hle => ?_⟩
            have e : m = maxI n ns := Int.le_antisymm (g2 m hm) (hle _ g1)
            rw [e]
            exact here k r q (Rp.int _)
    · cases x <;> cases h
  case minL =>
    obtain _ | ⟨x, _ | ⟨y, t⟩⟩ := xs
    · cases h
    · obtain ⟨v, rfl, hx⟩ := pair1 hp
      cases x <;> first | (cases h; done) | skip
      case lst ys =>
        have h2 : (match intsOf ys with | some (n :: ns) => some (D.int (minI n ns)) | _ => none) = some d := h
        cases q2 : intsOf ys with
        | none =>
          rw [q2] at h2
          cases h2
        | some ns =>
          rw [q2] at h2
          cases ns with
          | nil => cases h2
          | cons n ns =>
            cases (Option.some.inj h2)
            obtain ⟨p, us, e1, s1, l1, r1⟩ := hx.lst
            have eb := ints_of r1 q2
            subst eb
            obtain ⟨g1, g2⟩ := minI_ok ns n
            refine .inl ⟨p, n :: ns, by rw [e1], .of s1, Nat.succ_pos _, fun m hm hle => ?_⟩
            have e : m = minI n ns := Int.le_antisymm (hle _ g1) (g2 m hm)
            rw [e]
            exact here k r q (Rp.int _)
      case tup ys =>
        have h2 : (match intsOf ys with | some (n :: ns) => some (D.int (minI n ns)) | _ => none) = some d := h
        cases q2 : intsOf ys with
        | none =>
          rw [q2] at h2
          cases h2
        | some ns =>
          rw [q2] at h2
          cases ns with
          | nil => cases h2
          | cons n ns =>
            cases (Option.some.inj h2)
            obtain ⟨p, us, e1, s1, l1, r1⟩ := hx.tup
            have eb := ints_of r1 q2
            subst eb
            obtain ⟨g1, g2⟩ := minI_ok ns n
            refine .inr ⟨p, n :: ns, by rw [e1], s1, Nat.succ_pos _, fun m hm hle => ?_⟩
            have e : m = minI n ns := Int.le_antisymm (hle _ g1) (g2 m hm)
            rw [e]
            exact here k r q (Rp.int _)
    · cases x <;> cases h
end
end Ev

/-! Readings over worlds; what of the text a term of the small language stands for. -/
namespace Ev
open PySem PySem.Spec PyProof.Rows L2

/-! ### steps of the small machine -/
section
variable {α β : Type} {S S' S'' : Sto}
theorem bind_eq {m : M α} {f : α → M β} {a : α} (h : m S = .ok a S') : M.bind m f S = f a S' := by
  show (match m S with | .stk => Res.stk | .ok a S' => f a S') = _
  rw [h]
theorem bind_ok {m : M α} {f : α → M β} {b : β} (h : M.bind m f S = .ok b S') : ∃ a S1, m S = .ok a S1 ∧ f a S1 = .ok b S' := by
  have h : (match m S with | .stk => Res.stk | .ok a S' => f a S') = .ok b S' := h
  cases q : m S with
  | stk =>
    rw [q] at h
    cases h
  | ok a S1 =>
    rw [q] at h
    exact ⟨a, S1, rfl, h⟩
theorem opt_ok {o : Option α} {a : α} (h : M.opt o S = .ok a S') : o = some a ∧ S' = S := by
  cases o with
  | none => cases h
  | some x => cases h; exact ⟨rfl, rfl⟩
theorem pure_ok {a b : α} (h : M.pure a S = .ok b S') : a = b ∧ S' = S := by
  cases h
  exact ⟨rfl, rfl⟩
theorem guard_ok {c : Bool} {m : M α} {a : α} (h : M.guard c m S = .ok a S') : c = true ∧ m S = .ok a S' := by
  cases c with
  | false => cases h
  | true => exact ⟨rfl, h⟩
end

/-! ### readings -/
structure Sit (K : PySem.W.Frag) (fa : Fx) (w : Wd) (H : Hp) (σ : L2.St) (ρ : Env) (S : Sto) : Prop where
  h : w.H = H
  ok : w.Ok
  fr : FR K fa w σ ρ
  sr : SR K fa w S
def rdG {α : Type} (K : PySem.W.Frag) (fa : Fx) (R : Wd → Wd → V → α → Prop) (m : Env → M α) : TE := fun σ H Q => ∃ w ρ S d S', Sit K fa w H σ ρ S ∧ m ρ S = .ok d S' ∧ ∀ w' v, w.Le w' → w'.Ok → SR K fa w' S' → R w w' v d → Q v w'.H
abbrev rd (K : PySem.W.Frag) (fa : Fx) (m : Env → M D) : TE := rdG K fa (fun _ w' v d => Rp K fa w' v d) m
abbrev rdP (K : PySem.W.Frag) (fa : Fx) (m : Env → M D) : TE := rdG K fa (fun _ w' v d => RpP K fa w' v d) m
abbrev rdN (K : PySem.W.Frag) (fa : Fx) (m : Env → M D) : TE := rdG K fa (fun w w' v d => RN K fa w w' v d) m
/-- a new dict that nobody else holds -/
def FreshD (K : PySem.W.Frag) (fa : Fx) (w w' : Wd) (v : V) (kvs : List (D × D)) : Prop :=
  ∃ a xs vs, v = .ref a ∧ w.H a = none ∧ w'.H a = some (.ext (Dn a xs vs)) ∧ xs.length ≤ sizeLine ∧ Ks K fa w' xs (kvs.map (·.1)) ∧ Rps K fa w' vs (kvs.map (·.2))
def RR (K : PySem.W.Frag) (fa : Fx) (w w' : Wd) (v : V) : RV → Prop
  | .val d => Rp K fa w' v d
  | .own ds => Fresh K fa w w' v ds
  | .dic kvs => FreshD K fa w w' v kvs
  | .exc _ _ => False
def RV.ok : RV → Bool
  | .exc _ _ => false
  | _ => true
/-- no error is handed on -/
def M.val (m : M RV) : M RV := M.bind m fun r => M.guard r.ok (M.pure r)
theorem val_ok {m : M RV} {S S' : Sto} {r : RV} (h : M.val m S = .ok r S') : m S = .ok r S' ∧ r.ok = true := by
  obtain ⟨r', S1, h1, h2⟩ := bind_ok h
  obtain ⟨h3, h4⟩ := guard_ok h2
  obtain ⟨rfl, rfl⟩ := pure_ok h4
  exact ⟨h1, h3⟩
/-- an error, as it flies: its class, its own dict -/
def XR (K : PySem.W.Frag) (w : Wd) (c : Nat) (d : D) (cls : Value) (dd : Option Addr) : Prop := cls = .ref (He.ga K (xname c)) ∧ ((d = .non ∧ dd = none) ∨ ∃ (i : Int) (a : Addr), d = .int i ∧ dd = some a ∧ w.H a = some (.xd [(Hx.fname c, .int i)]))
def rdT (K : PySem.W.Frag) (fa : Fx) (m : Env → M Bool) : TT := fun σ H Q => ∃ w ρ S b S', Sit K fa w H σ ρ S ∧ m ρ S = .ok b S' ∧ ∀ w', w.Le w' → w'.Ok → SR K fa w' S' → Q b w'.H
def rdA (K : PySem.W.Frag) (fa : Fx) (R : Wd → V → D → Prop) (m : Env → M (List D)) : TA := fun σ H Q => ∃ w ρ S ds S', Sit K fa w H σ ρ S ∧ m ρ S = .ok ds S' ∧ ∀ w' vs, w.Le w' → w'.Ok → SR K fa w' S' → Paired (R w') vs ds → Q vs w'.H
section
variable {K : PySem.W.Frag} {fa : Fx} {X : Cx} {e : Expr} {σ : L2.St} {H : Hp} {Q : VK}
theorem Sit.next {w w' : Wd} {ρ : Env} {S S' : Sto} (s : Sit K fa w H σ ρ S) (l : w.Le w') (k : w'.Ok) (r : SR K fa w' S') : Sit K fa w' w'.H σ ρ S' := ⟨rfl, k, s.fr.mono l s.ok, r⟩
/-- a new list is let stand -/
theorem Fresh.fix {w w' : Wd} {v : V} {ds : List D} {S : Sto} (h : Fresh K fa w w' v ds) (l : w.Le w') (k : w'.Ok) (r : SR K fa w' S) : ∃ w2, w.Le w2 ∧ w2.Ok ∧ SR K fa w2 S ∧ Rp K fa w2 v (.lst ds) ∧ w2.H = w'.H := by
  obtain ⟨a, vs, rfl, n, e, nf, na, hl, hr⟩ := h
  have kp : Kp w' (w'.fix a) := ⟨fun _ _ e => e, fun _ _ _ e => e, fun _ _ f e => ⟨.inl f, e⟩, fun _ _ e => e⟩
  refine ⟨w'.fix a, ⟨fun x f => .inl (l.f x f), fun x f => ?_, l.a, fun b o e n nt => l.h b o e n nt, l.tb⟩, ⟨fun x f => ?_, k.ce, fun x m f => ?_, k.nd⟩, r.keep kp rfl (fun _ _ => rfl) (fun _ _ e _ _ => e) (fun _ _ e => e), .lst e (.inr rfl) hl (hr.keep kp), rfl⟩
  · rcases f with f | f
    · exact l.fn x f
    · subst f
      exact .inr n
  · rcases f with f | f
    · exact k.fz x f
    · subst f
      exact ⟨vs, e⟩
  · rcases f with f | f
    · exact k.cf x m f
    · subst f
      exact na m
theorem rdN_rd {m : Env → M D} (h : rd K fa m σ H Q) : rdN K fa m σ H Q := by
  obtain ⟨w, ρ, S, d, S', st, hm, q⟩ := h
  refine ⟨w, ρ, S, d, S', st, hm, fun w' v l k r rn => ?_⟩
  cases d with
  | lst ds =>
    obtain ⟨w2, l2, k2, r2, rp, e⟩ := Fresh.fix (show Fresh K fa w w' v ds from rn) l k r
    rw [← e]
    exact q w2 v l2 k2 r2 rp
  | _ => exact q w' v l k r rn
theorem rd_rdP {m : Env → M D} (h : rdP K fa m σ H Q) : rd K fa m σ H Q := by
  obtain ⟨w, ρ, S, d, S', st, hm, q⟩ := h
  exact ⟨w, ρ, S, d, S', st, hm, fun w' v l k r rn => q w' v l k r (.inl rn)⟩
/-- a dict that nobody else holds, locked for ever -/
theorem FreshD.fix {w w' : Wd} {v : V} {kvs : List (D × D)} {S : Sto} (h : FreshD K fa w w' v kvs) (l : w.Le w') (k : w'.Ok) (r : SR K fa w' S) : ∃ a xs vs, v = .ref a ∧ w'.H a = some (.ext (Dn a xs vs)) ∧
    ∀ o, ∃ w2, w.Le w2 ∧ w2.Ok ∧ SR K fa w2 S ∧ Rp K fa w2 v (.dic (kvs.map (·.1)) (kvs.map (·.2))) ∧ w2.H = upd w'.H a (.frz o (.ext (Dn a xs vs))) := by
  obtain ⟨a, xs, vs, rfl, n, e, hl, hk, hv⟩ := h
  refine ⟨a, xs, vs, rfl, e, fun o => ?_⟩
  have ne : ∀ b u, w'.H b = some u → (∀ φ, u ≠ .ext φ) → b ≠ a := fun b u q nz z => by
    subst z
    rw [e] at q
    exact nz _ (Option.some.inj q).symm
  let w2 : Wd := { w' with H := upd w'.H a (.frz o (.ext (Dn a xs vs))) }
  have at2 : ∀ b, b ≠ a → w2.H b = w'.H b := fun b hb => upd_ne hb
  have kp : Kp w' w2 := ⟨fun b ys q => by rw [at2 b (ne b _ q fun _ z => by cases z)]; exact q, fun b o u q => by rw [at2 b (ne b _ q fun _ z => by cases z)]; exact q,
    fun b ys f q => ⟨f, by rw [at2 b (ne b _ q fun _ z => by cases z)]; exact q⟩, fun _ _ q => q⟩
  refine ⟨w2, ⟨l.f, l.fn, l.a, fun b u q nb nt => ?_, fun b ps q => ?_⟩, ⟨fun b f => ?_, fun b m => ?_, k.cf, k.nd⟩, r.keep kp rfl (fun b m => ?_) (fun b u q n1 n2 => ?_) (fun b ps z => upd_tbl (fun ps z => by cases z) z), .dic (o := o) upd_same hl (hk.keep kp) (hv.keep kp), rfl⟩
  · have hb : b ≠ a := ne_of_none q n
    rw [at2 b hb]
    exact l.h b u q nb nt
  · have hb : b ≠ a := ne_of_none q n
    rw [at2 b hb]
    exact l.tb b ps q
  · obtain ⟨us, q⟩ := k.fz b f
    exact ⟨us, by rw [at2 b (ne b _ q fun _ z => by cases z)]; exact q⟩
  · obtain ⟨us, q⟩ := k.ce b m
    exact ⟨us, by rw [at2 b (ne b _ q fun _ z => by cases z)]; exact q⟩
  · obtain ⟨us, q⟩ := k.ce b m
    exact at2 b (ne b _ q fun _ z => by cases z)
  · have hb : b ≠ a := fun z => by
      subst z
      rw [e] at q
      exact n2 _ _ (Option.some.inj q).symm
    rw [at2 b hb]
    exact q
/-- the value may be locked -/
def tFrz (t : TE) : TE := fun σ H Q => t σ H fun v H1 => Q v H1 ∨ ∃ a φ, v = .ref a ∧ H1 a = some (.ext φ) ∧ ∀ od, Q v (upd H1 a (.frz od (.ext φ)))
theorem pe_frz {t : TE} (h : PE X e t) : PE X e (tFrz t) := ⟨fun pins s σ H Q I hq => thn (h.run pins s σ H _ I hq) fun u s1 ⟨x, H1, I1, rx, q⟩ => by
  rcases q with q | ⟨a, φ, rfl, ha, q⟩
  · exact ⟨x, H1, I1, rx, q⟩
  · obtain ⟨od, I2⟩ := I1.lock ha trivial
    exact ⟨_, _, I2, rx, q od⟩⟩
/-- two operands, an operation -/
theorem rd_op2 {r : R2} {g : D → D → Option D} (hop : OpL K fa r g) {ma mb : Env → M D} (h : rdN K fa (fun ρ => M.bind (ma ρ) fun x => M.bind (mb ρ) fun y => M.opt (g x y)) σ H Q) : tOp r (rdP K fa ma) (rdP K fa mb) σ H Q := by
  obtain ⟨w, ρ, S, d, S', st, hm, q⟩ := h
  obtain ⟨x, S1, h1, hm⟩ := bind_ok hm
  obtain ⟨y, S2, h2, hm⟩ := bind_ok hm
  obtain ⟨he, rfl⟩ := opt_ok hm
  refine ⟨w, ρ, S, x, S1, st, h1, fun w1 v1 l1 k1 r1 rp1 => ?_⟩
  refine ⟨w1, ρ, S1, y, S', st.next l1 k1 r1, h2, fun w2 v2 l2 k2 r2 rp2 => ?_⟩
  refine hop w2 S' x y d v1 v2 Q k2 r2 (rp1.mono l2 k1) rp2 he fun w' z l k r rn => ?_
  have l12 := l1.trans l2 st.ok k1
  refine q w' z (l12.trans l st.ok k2) k r ?_
  cases d with
  | lst ds =>
    obtain ⟨a, vs, e1, n, rest⟩ := rn
    exact ⟨a, vs, e1, l12.free st.ok k2 n, rest⟩
  | _ => exact rn
theorem rdT_cop {r : R2} {g : D → D → Option Bool} (hop : CopL K fa r g) {ma mb : Env → M D} {Q : Bool → Hp → Prop} (h : rdT K fa (fun ρ => M.bind (ma ρ) fun x => M.bind (mb ρ) fun y => M.opt (g x y)) σ H Q) : tTest (tOp r (rdP K fa ma) (rdP K fa mb)) σ H Q := by
  obtain ⟨w, ρ, S, b, S', st, hm, q⟩ := h
  obtain ⟨x, S1, h1, hm⟩ := bind_ok hm
  obtain ⟨y, S2, h2, hm⟩ := bind_ok hm
  obtain ⟨he, rfl⟩ := opt_ok hm
  refine ⟨w, ρ, S, x, S1, st, h1, fun w1 v1 l1 k1 r1 rp1 => ?_⟩
  refine ⟨w1, ρ, S1, y, S', st.next l1 k1 r1, h2, fun w2 v2 l2 k2 r2 rp2 => ?_⟩
  exact hop w2 x y b v1 v2 _ k2 (rp1.mono l2 k1) rp2 he ⟨b, rfl, q w2 (l1.trans l2 st.ok k1) k2 r2⟩
end

/-! ### what stands around a block -/
def spC (K : PySem.W.Frag) (fa : Fx) (C : List D → M RV) : Sp := fun vs H Q E => ∃ w S ds r S', w.H = H ∧ w.Ok ∧ SR K fa w S ∧ Rps K fa w vs ds ∧ C ds S = .ok r S' ∧ (∀ w' v, w.Le w' → w'.Ok → SR K fa w' S' → RR K fa w w' v r → Q v w'.H) ∧
    ∀ c d, r = .exc c d → ∀ w' cls dd, w.Le w' → w'.Ok → SR K fa w' S' → XR K w' c d cls dd → E cls dd w'.H
theorem takes0N {X : Cx} : L2N.Takes X (fun _ _ _ _ => False) := fun _ _ x => by
  obtain ⟨_, _, _, _, _, _, _, _, _, _, _, _, _, _, _, _, z⟩ := x
  exact z.elim
theorem pasN {X : Cx} : Passes (L2N.CX X.prog X.w) X E0 := L2N.passes_call takes0N fun _ _ _ _ h => h
def bnames : List Str := ["len", "abs", "int", "min", "max", "tuple", "list", "str", "all", "isinstance", "range", "bool", "sum", "sorted", "set"]
/-- the scope of a def that hands lambdas on -/
def tellS (sc : Scope) : Prop := sc.names.lookup ("_law_call" : Str) = some .globalImplicit
def noTell (sc : Scope) : Bool := decide (sc.names.lookup ("_law_call" : Str) = none)
theorem noTell_ok {sc : Scope} (h : noTell sc = true) : ¬ tellS sc := fun z => by
  have e : sc.names.lookup ("_law_call" : Str) = none := of_decide_eq_true h
  unfold tellS at z
  rw [e] at z
  cases z
/-- an error without attributes that the law may be told -/
def tellB (c : Nat) : Bool := decide (c < 10) && (!(c == 5) && !(c == 8))
/-- what stands around a lambda that is handed to the law's def -/
structure LamOk (X : Cx) (cfg : Cfg) (fa : Fx) (fns : List Str) : Prop where
  ex : ∃ (k : Nat) (c P g LE : Addr) (pg : Arguments) (bg : List Stmt) (sg : Scope) (dV kV doc pm cdv ct oc : Value) (an od : Option Addr) (osl : Array (Option Value)),
    L2.Room (k + 2) X.A ∧ (∀ (f : Nat) x, fns[f]? = some x → ∃ fd ps, PySem.W.keepIn X.K (.ref (fa f)) = true ∧ L2.Binds X.K fd ps [] ∧ L2.FnOk X.prog X.w X.K X.mg X.base (L2N.CX X.prog X.w) k (fa f) fd ps (spC X.K fa (cfg.C f))) ∧
    X.env.code = .ref c ∧ LamX.TabB X.base X.mg c P ∧ (P, X.env.qual ++ "<lambda>") ∈ fa.T ∧ (∀ p ∈ fa.T, p.1 = P → p.2 = X.env.qual ++ "<lambda>") ∧
    X.mg "_law_call" = some (.ref g) ∧ PySem.W.keepIn X.K (.ref g) = true ∧ X.K.lookup g = some ⟨oc, od, .func (PySem.W.fnOf "_law_call" "_law_call" pg bg sg dV kV doc pm an cdv ct), osl⟩ ∧ PySem.W.codeIn X.K cdv "_law_call" = true ∧
    L2.Binds X.K (PySem.W.fnOf "_law_call" "_law_call" pg bg sg dV kV doc pm an cdv ct) ["_law_call_so"] [] ∧ L2.FnScope Hx.cNames ["_law_call_so"] sg ∧ L2.Vis sg "_law_call_so" ∧
    (∀ Y : Cx, Y.prog = X.prog → Y.w = X.w → Y.K = X.K → Y.mg = X.mg → Y.base = X.base → L2.Room 2 Y.A → ∀ q, Hx.GivesN Y Hx.cNames "_law_call" sg g cdv bg "_law_call_so" q (Hx.TTc X.K LE)) ∧
    (∀ e, tellB e = true → Hx.ErrK X.K e ∧ Hx.ExmK X.K LE e) ∧ ∀ e, (e = 5 ∨ e = 8) → Hx.ErrK X.K e ∧ Hx.FldK X.K e
structure Good (X : Cx) (cfg : Cfg) (fa : Fx) (fns gns : List Str) : Prop where
  nd : X.N.Nodup
  calm : X.calm = true
  units : X.A.units + 65 < cLine
  bl : ∀ x ∈ bnames, X.mg x = none
  glo : ∀ (k : Nat) d x, cfg.G[k]? = some d → gns[k]? = some x → ∃ u v, X.mg x = some u ∧ RelV v u ∧ ∀ w : Wd, Rp X.K fa w v d
  fnv : ∀ (f : Nat) x, fns[f]? = some x → X.mg x = some (.ref (fa f))
  big : ∀ f, fns.length ≤ f → ∀ xs S, cfg.C f xs S = .stk
  lam : tellS X.env.scope → LamOk X cfg fa fns
  fn : ∀ (f : Nat) x, fns[f]? = some x → ∃ fd ps k, Room k X.A ∧ PySem.W.keepIn X.K (.ref (fa f)) = true ∧ Binds X.K fd ps [] ∧ FnOk X.prog X.w X.K X.mg X.base (L2N.CX X.prog X.w) k (fa f) fd ps (spC X.K fa (cfg.C f))

/-! ### which term stands for which text -/
def visB (sc : Scope) (x : Str) : Bool := match sc.names.lookup x with
  | some .local => true
  | some .cell => true
  | some .free => true
  | _ => false
def glB (sc : Scope) (x : Str) : Bool := match sc.names.lookup x with
  | some .globalImplicit => true
  | _ => false
def locB (sc : Scope) (x : Str) : Bool := match sc.names.lookup x with
  | some .local => true
  | _ => false
def celB (sc : Scope) (x : Str) : Bool := match sc.names.lookup x with
  | some .cell => true
  | _ => false
/-- a local; where c holds, also one that a block within uses -/
def lcB (c : Bool) (sc : Scope) (x : Str) : Bool := locB sc x || (c && celB sc x)
def nmB (x : Str) : Bool := !(x == ("__debug__" : Str)) && (!(x == ("__classdict__" : Str)) && decide (x ≠ ("__name__" : Str)))
def ownOf (N : List Str) (vs : List Nat) : List (Str × Nat) := vs.map fun i => (N.getD i Str.empty, i)
theorem ownOf_snd (N : List Str) (vs : List Nat) : (ownOf N vs).map (·.2) = vs := by
  unfold ownOf
  rw [List.map_map]
  exact List.map_id' vs
def tyName : Ty → String
  | .int => "int" | .bool => "bool" | .str => "str" | .tup => "tuple" | .lst => "list"
def okTy (t : Ty) (sc : Scope) : Expr → Bool
  | .Name x _ => decide (x = (tyName t : Str)) && glB sc x
  | _ => false
def okTys : List Ty → Scope → List Expr → Bool
  | [], _, [] => true
  | t :: ts, sc, e :: es => okTy t sc e && okTys ts sc es
  | _, _, _ => false
def okTyA (ts : List Ty) (sc : Scope) : Expr → Bool
  | .Tuple es _ _ => decide (ts.length ≤ 10) && okTys ts sc es
  | e => (match ts with
    | [t] => okTy t sc e
    | _ => false)
mutual
def okTg (N : List Str) (c : Bool) (vs : List Nat) : Tg → Scope → Expr → Bool
  | .nm i, sc, .Name x _ => decide (N[i]? = some x) && (lcB c sc x && decide (i ∈ vs))
  | .tp ts, sc, .Tuple es _ _ => okTgs N c vs ts sc es
  | _, _, _ => false
def okTgs (N : List Str) (c : Bool) (vs : List Nat) : Tgs → Scope → List Expr → Bool
  | .nil, _, [] => true
  | .cons t ts, sc, e :: es => okTg N c vs t sc e && okTgs N c vs ts sc es
  | _, _, _ => false
end
def isOp (o : Operator) (b : BOp) : Bool := match o, b with
  | .Add, .add => true | .Sub, .sub => true | .Mult, .mul => true | .Mod, .mod => true | .FloorDiv, .fdiv => true | .Pow, .pow => true | _, _ => false
def isCop (o : CmpOp) (b : COp) : Bool := match o, b with
  | .Eq, .eq => true | .NotEq, .ne => true | .Lt, .lt => true | .LtE, .le => true | .Gt, .gt => true | .GtE, .ge => true | .In, .isin => true | .NotIn, .notin => true | _, _ => false
theorem isOp_eq {o : Operator} {b : BOp} (h : isOp o b = true) : o = boOf b := by
  cases o <;> cases b <;> first | rfl | cases h
theorem isCop_eq {o : CmpOp} {b : COp} (h : isCop o b = true) : o = opOf b := by
  cases o <;> cases b <;> first | rfl | cases h
def nmMt : Mt → Str
  | .split => "split" | .join => "join" | .index => "index"
def isJoin : Mt → Bool
  | .join => true
  | _ => false
def nonJoin : Mt → Bool
  | .join => false
  | _ => true
/-- a lambda without parameters, its names the def's or the module's -/
def lamB (sc scope : Scope) (p : Arguments) : Bool := LamX.lamSB sc scope && (noTell scope &&
  (p.posonlyargs.isEmpty && (p.args.isEmpty && (p.vararg.isNone && (p.kwonlyargs.isEmpty && (p.kw_defaults.isEmpty && (p.kwarg.isNone && p.defaults.isEmpty)))))))
/-- a plain name, call, place: its test is its value's truth -/
def plainT : Expr → Bool
  | .Name _ _ => true
  | .Call _ _ _ _ => true
  | .Subscript _ _ _ => true
  | .BinOp _ _ _ _ => true
  | _ => false
section
variable (N fns gns : List Str)
mutual
def okE : E → Scope → Expr → Bool
  | .non, _, .Constant .none _ _ => true
  | .bl b, _, .Constant (.bool c) _ _ => b == c
  | .int i, _, .Constant (.int j) _ _ => decide (i = j)
  | .str cs, _, .Constant (.str x) _ _ => decide (x = tx cs) && (decide (cs.length ≤ 100000) && cs.all fun c => decide (c < 1114112))
  | .var i, sc, .Name x _ => decide (N[i]? = some x) && (visB sc x && nmB x)
  | .glo k, sc, .Name x _ => decide (gns[k]? = some x) && (glB sc x && nmB x)
  | .fnv f, sc, .Name x _ => decide (fns[f]? = some x) && (glB sc x && nmB x)
  | .bin op a b, sc, .BinOp x o y _ => isOp o op && (okE a sc x && okE b sc y)
  | .neg a, sc, .UnaryOp .USub x _ => okE a sc x
  | .cmp op a b, sc, .Compare x [o] [y] _ => isCop o op && (!behindInMarks o y && (okE a sc x && okE b sc y))
  | .chn o1 o2 a b c, sc, .Compare x [o, o'] [y, z] _ => isCop o o1 && (isCop o' o2 && (!lastMarks [o, o'] [y, z] && (okE a sc x && (okE b sc y && okE c sc z))))
  | .isN a, sc, .Compare x [.Is] [.Constant .none _ _] _ => okE a sc x
  | .ntN a, sc, .Compare x [.IsNot] [.Constant .none _ _] _ => okE a sc x
  | .and a b, sc, .BoolOp .And [x, y] _ => okE a sc x && okE b sc y
  | .and a b, sc, .BoolOp .And (x :: y :: z :: r) p => okE a sc x && okE b sc (.BoolOp .And (y :: z :: r) p)
  | .or a b, sc, .BoolOp .Or [x, y] _ => okE a sc x && okE b sc y
  | .or a b, sc, .BoolOp .Or (x :: y :: z :: r) p => okE a sc x && okE b sc (.BoolOp .Or (y :: z :: r) p)
  | .not a, sc, .UnaryOp .Not x _ => okE a sc x
  | .ife c a b, sc, .IfExp t x y _ => okB c sc t && (okE a sc x && okE b sc y)
  | .tup es, sc, .Tuple xs _ _ => okEs es sc xs
  | .lst es, sc, .List xs _ => okEs es sc xs
  | .cell es, sc, .List xs _ => okEs es sc xs
  | .call f es, sc, .Call (.Name x _) xs [] _ => decide (fns[f]? = some x) && (glB sc x && (nmB x && okEs es sc xs))
  | .blt f es, sc, .Call (.Name x _) (y :: ys) [] _ => decide (x = nmBl f) && (glB sc x && okEs es sc (y :: ys))
  | .isi a ts, sc, .Call (.Name x _) [y, c] [] _ => decide (x = ("isinstance" : Str)) && (glB sc x && (okE a sc y && okTyA ts sc c))
  | .idx a i, sc, .Subscript x y _ => okE a sc x && okE i sc y
  | .slN a, sc, .Subscript x (.Slice none none none _) _ => okE a sc x
  | .slL a lo, sc, .Subscript x (.Slice (some l) none none _) _ => okE a sc x && okE lo sc l
  | .slU a hi, sc, .Subscript x (.Slice none (some u) none _) _ => okE a sc x && okE hi sc u
  | .slB a lo hi, sc, .Subscript x (.Slice (some l) (some u) none _) _ => okE a sc x && (okE lo sc l && okE hi sc u)
  | .sst a, sc, .Call (.Name x _) [.Call (.Name y _) [z] [] _] [] _ => decide (x = ("sorted" : Str)) && (decide (y = ("set" : Str)) && (glB sc x && (glB sc y && okE a sc z)))
  | .rev a, sc, .Subscript x (.Slice none none (some (.UnaryOp .USub (.Constant (.int j) _ _) _)) _) _ => decide (j = 1) && okE a sc x
  | .upper (.var i), sc, .Call (.Attribute (.Name x p) m apos) [] [] cpos => decide (m = ("upper" : Str)) && ((apos.endLine == cpos.line) && okE (.var i) sc (.Name x p))
  | .meth m i b, sc, .Call (.Attribute (.Name x _) a apos) [y] [] cpos => decide (a = nmMt m) && (nonJoin m && ((apos.endLine == cpos.line) && ((decide (N[i]? = some x) && (visB sc x && nmB x)) && okE b sc y)))
  | .join cs b, sc, .Call (.Attribute (.Constant (.str x) _ _) a apos) [y] [] cpos => decide (a = ("join" : Str)) && ((apos.endLine == cpos.line) && ((decide (x = tx cs) && (decide (cs.length ≤ 100000) && cs.all fun c => decide (c < 1114112))) && okE b sc y))
  | .told f es, sc, .Call (.Name x _) [.Lambda params (.Call (.Name g _) (z :: zs) [] _) scope _] [] _ => decide (x = ("_law_call" : Str)) && (glB sc x && (lamB sc scope params && (decide (fns[f]? = some g) && (glB scope g && (nmB g && okEs es scope (z :: zs))))))
  | .toldV i es, sc, .Call (.Name x _) [.Lambda params (.Call (.Name g _) (z :: zs) [] _) scope _] [] _ => decide (x = ("_law_call" : Str)) && (glB sc x && (lamB sc scope params && (decide (N[i]? = some g) && (visB scope g && (nmB g && okEs es scope (z :: zs))))))
  | .lc t s e vs, sc, .ListComp elt [⟨tg, it, [], 0⟩] scope _ => (blkC N sc scope (ownOf N vs) && noTell (relS scope sc)) && (okTg N false vs t (relS scope sc) tg && (okI s sc it && okE e (relS scope sc) elt))
  | .lcf t s c e vs, sc, .ListComp elt [⟨tg, it, [cnd], 0⟩] scope _ => (blkC N sc scope (ownOf N vs) && noTell (relS scope sc)) && (okTg N false vs t (relS scope sc) tg && (okI s sc it && (okB c (relS scope sc) cnd && okE e (relS scope sc) elt)))
  | _, _, _ => false
def okEs : Es → Scope → List Expr → Bool
  | .nil, _, [] => true
  | .cons e es, sc, x :: xs => okE e sc x && okEs es sc xs
  | _, _, _ => false
def okB : B → Scope → Expr → Bool
  | .and a b, sc, .BoolOp .And [x, y] _ => okB a sc x && okB b sc y
  | .and a b, sc, .BoolOp .And (x :: y :: z :: r) p => okB a sc x && okB b sc (.BoolOp .And (y :: z :: r) p)
  | .or a b, sc, .BoolOp .Or [x, y] _ => okB a sc x && okB b sc y
  | .or a b, sc, .BoolOp .Or (x :: y :: z :: r) p => okB a sc x && okB b sc (.BoolOp .Or (y :: z :: r) p)
  | .not a, sc, .UnaryOp .Not x _ => okB a sc x
  | .e e, sc, x => plainT x && okE e sc x
  | .cmp op a b, sc, .Compare x [o] [y] _ => isCop o op && (!behindInMarks o y && (okE a sc x && okE b sc y))
  | .chn o1 o2 a b c, sc, .Compare x [o, o'] [y, z] _ => isCop o o1 && (isCop o' o2 && (!lastMarks [o, o'] [y, z] && (okE a sc x && (okE b sc y && okE c sc z))))
  | .isN a, sc, .Compare x [.Is] [.Constant .none _ _] _ => okE a sc x
  | .ntN a, sc, .Compare x [.IsNot] [.Constant .none _ _] _ => okE a sc x
  | _, _, _ => false
def okI : I → Scope → Expr → Bool
  | .seq e, sc, x => okE e sc x
  | .rng e, sc, .Call (.Name x _) [y] [] _ => decide (x = ("range" : Str)) && (glB sc x && okE e sc y)
  | .rng2 a b, sc, .Call (.Name x _) [y, z] [] _ => decide (x = ("range" : Str)) && (glB sc x && (okE a sc y && okE b sc z))
  | _, _, _ => false
end
end
def isFr : E → Bool
  | .bin _ _ _ => true
  | .lst _ => true
  | .blt _ _ => true
  | .slN _ => true | .slL _ _ => true | .slU _ _ => true | .slB _ _ _ => true
  | .rev _ => true
  | .sst _ => true
  | .meth .split _ _ => true
  | .lc _ _ _ _ => true | .lcf _ _ _ _ _ => true
  | _ => false
end Ev

/-! Each construct keeps what the model does. -/
namespace Ev
open PySem PySem.Spec PyProof.Rows L2

section
variable {K : PySem.W.Frag} {fa : Fx} {w w' w1 : Wd} {S : Sto}
/-! ### a list of one's own is written -/
theorem put_kp {p : Addr} {us vs : List V} (h : w.H p = some (.lst us)) (nf : ¬ w.F p) : Kp w (w.put p vs) := by
  have ne : ∀ b o, w.H b = some o → (∀ xs, o = .lst xs → b ≠ p) → (w.put p vs).H b = some o := fun b o e n => by
    show upd w.H p _ b = _
    have : b ≠ p := fun z => by
      subst z
      rw [h] at e
      exact n us (Option.some.inj e).symm rfl
    rw [upd_ne this]
    exact e
  refine ⟨fun b xs e => ne b _ e fun _ z => (by cases z), fun b o u e => ne b _ e fun _ z => (by cases z), fun b xs f e => ⟨f, ne b _ e fun _ _ z => nf (by rw [← z]; exact f)⟩, fun _ _ e => e⟩
theorem put_ok {p : Addr} {us vs : List V} (k : w.Ok) (h : w.H p = some (.lst us)) (nf : ¬ w.F p) : (w.put p vs).Ok := by
  have st : ∀ a us, w.H a = some (.lst us) → ∃ us, (w.put p vs).H a = some (.lst us) := fun a us e => by
    by_cases z : a = p
    · subst z
      exact ⟨vs, upd_same⟩
    · exact ⟨us, by show upd w.H p _ a = _; rw [upd_ne z]; exact e⟩
  refine ⟨fun a f => ?_, fun a m => ?_, k.cf, k.nd⟩
  · obtain ⟨us, e⟩ := k.fz a f
    exact st a us e
  · obtain ⟨us, e⟩ := k.ce a m
    exact st a us e
theorem put_sr {p : Addr} {us vs : List V} (r : SR K fa w S) (h : w.H p = some (.lst us)) (nf : ¬ w.F p) (na : p ∉ w.A) : SR K fa (w.put p vs) S :=
  r.keep (put_kp h nf) rfl (fun a m => by
    show upd w.H p _ a = _
    have z : a ≠ p := fun z => na (by rw [← z]; exact m)
    rw [upd_ne z]) (fun b o e n _ => by
    show upd w.H p _ b = _
    rw [upd_ne fun z => by subst z; rw [h] at e; exact n _ (Option.some.inj e).symm]
    exact e) fun b ps e => upd_tbl (fun ps z => by cases z) e
theorem put_le {p : Addr} {vs : List V} (l : w1.Le w) (n : w1.H p = none) : w1.Le (w.put p vs) :=
  ⟨l.f, l.fn, l.a, fun b o e m nt => by
    show upd w.H p _ b = _
    rw [upd_ne (ne_of_none e n)]
    exact l.h b o e m nt, fun b ps e => by
    show ∃ ps', upd w.H p _ b = _
    rw [upd_ne (ne_of_none e n)]
    exact l.tb b ps e⟩
theorem new_free {p : Addr} (k : w.Ok) (h : w.H p = none) : ¬ w.F p ∧ p ∉ w.A := by
  refine ⟨fun f => ?_, fun m => ?_⟩
  · obtain ⟨us, e⟩ := k.fz p f
    rw [h] at e
    cases e
  · obtain ⟨us, e⟩ := k.ce p m
    rw [h] at e
    cases e
end

/-! ### simple expressions -/
section
variable {K : PySem.W.Frag} {fa : Fx} {X : Cx} {a b c : Expr} {ma mb mc : Env → M D} {pos : Pos}
theorem s_bin {op : BOp} (ha : PE X a (rdP X.K fa ma)) (hb : PE X b (rdP X.K fa mb)) : PE X (.BinOp a (boOf op) b pos) (rdN X.K fa (fun ρ => M.bind (ma ρ) fun x => M.bind (mb ρ) fun y => M.opt (bop op x y))) :=
  (pe_op (bopr op) ha hb).conv fun _ _ _ h => rd_op2 (bopl op) h
theorem s_cmp {op : COp} (hu : X.A.units + 65 < cLine) (hm : behindInMarks (opOf op) b = false) (ha : PE X a (rdP X.K fa ma)) (hb : PE X b (rdP X.K fa mb)) :
    PE X (.Compare a [opOf op] [b] pos) (rd X.K fa (fun ρ => M.bind (ma ρ) fun x => M.bind (mb ρ) fun y => M.opt ((cop op x y).map .bl))) :=
  (pe_cmpR (copr hu op) ha hb hm).conv fun _ _ _ h => rd_op2 ((copl op).op) (rdN_rd h)
theorem s_cmpT {op : COp} (hu : X.A.units + 65 < cLine) (hm : behindInMarks (opOf op) b = false) (ha : PE X a (rdP X.K fa ma)) (hb : PE X b (rdP X.K fa mb)) :
    PT X (.Compare a [opOf op] [b] pos) (rdT X.K fa (fun ρ => M.bind (ma ρ) fun x => M.bind (mb ρ) fun y => M.opt (cop op x y))) :=
  (pt_cmpR (copr hu op) ha hb hm).conv fun _ _ _ h => rdT_cop (copl op) h
theorem Rp.chainR {w : Wd} {v : V} {d : D} (h : Rp K fa w v d) : RpP K fa w v d := .inl h
theorem s_chn {o1 o2 : COp} (hu : X.A.units + 65 < cLine) (hm : lastMarks [opOf o1, opOf o2] [b, c] = false) (ha : PE X a (rd X.K fa ma)) (hb : PE X b (rd X.K fa mb)) (hc : PE X c (rd X.K fa mc)) :
    PE X (.Compare a [opOf o1, opOf o2] [b, c] pos) (rd X.K fa (fun ρ => M.bind (ma ρ) fun x => M.bind (mb ρ) fun y => M.bind (M.opt (cop o1 x y)) fun k => match k with
      | true => M.bind (mc ρ) fun z => M.opt ((cop o2 y z).map .bl)
      | false => M.pure (.bl false))) := by
  refine (pe_chain (copr hu o1) (copr hu o2) ha hb hc hm).conv fun σ H Q h => ?_
  obtain ⟨w, ρ, S, d, S', st, hm, q⟩ := h
  obtain ⟨x, S1, h1, hm⟩ := bind_ok hm
  obtain ⟨y, S2, h2, hm⟩ := bind_ok hm
  obtain ⟨k, S3, h3, hm⟩ := bind_ok hm
  obtain ⟨e3, rfl⟩ := opt_ok h3
  refine ⟨w, ρ, S, x, S1, st, h1, fun w1 v1 l1 k1 r1 rp1 => ?_⟩
  refine ⟨w1, ρ, S1, y, S3, st.next l1 k1 r1, h2, fun w2 v2 l2 k2 r2 rp2 => ?_⟩
  have l12 := l1.trans l2 st.ok k1
  refine copl o1 w2 x y k v1 v2 _ k2 (.inl (rp1.keep (l2.kp k1))) (.inl rp2) e3 ⟨k, rfl, ?_⟩
  cases k with
  | false =>
    obtain ⟨e, rfl⟩ := pure_ok hm
    subst e
    exact q w2 _ l12 k2 r2 (.bl false)
  | true =>
    obtain ⟨z, S4, h4, hm⟩ := bind_ok hm
    obtain ⟨h5, rfl⟩ := opt_ok hm
    refine ⟨w2, ρ, S3, z, S', st.next l12 k2 r2, h4, fun w3 v3 l3 k3 r3 rp3 => ?_⟩
    cases e : cop o2 y z with
    | none =>
      rw [e] at h5
      cases h5
    | some bb =>
      rw [e] at h5
      cases (Option.some.inj h5)
      exact copl o2 w3 y z bb v2 v3 _ k3 (.inl (rp2.keep (l3.kp k2))) (.inl rp3) e (q w3 _ (l12.trans l3 st.ok k2) k3 r3 (.bl bb))
theorem s_chnT {o1 o2 : COp} (hu : X.A.units + 65 < cLine) (hm : lastMarks [opOf o1, opOf o2] [b, c] = false) (ha : PE X a (rd X.K fa ma)) (hb : PE X b (rd X.K fa mb)) (hc : PE X c (rd X.K fa mc)) :
    PT X (.Compare a [opOf o1, opOf o2] [b, c] pos) (rdT X.K fa (fun ρ => M.bind (ma ρ) fun x => M.bind (mb ρ) fun y => M.bind (M.opt (cop o1 x y)) fun k => match k with
      | true => M.bind (mc ρ) fun z => M.opt (cop o2 y z)
      | false => M.pure false)) := by
  refine (pt_chain (copr hu o1) (copr hu o2) ha hb hc hm).conv fun σ H Q h => ?_
  obtain ⟨w, ρ, S, d, S', st, hm, q⟩ := h
  obtain ⟨x, S1, h1, hm⟩ := bind_ok hm
  obtain ⟨y, S2, h2, hm⟩ := bind_ok hm
  obtain ⟨k, S3, h3, hm⟩ := bind_ok hm
  obtain ⟨e3, rfl⟩ := opt_ok h3
  refine ⟨w, ρ, S, x, S1, st, h1, fun w1 v1 l1 k1 r1 rp1 => ?_⟩
  refine ⟨w1, ρ, S1, y, S3, st.next l1 k1 r1, h2, fun w2 v2 l2 k2 r2 rp2 => ?_⟩
  have l12 := l1.trans l2 st.ok k1
  refine copl o1 w2 x y k v1 v2 _ k2 (.inl (rp1.keep (l2.kp k1))) (.inl rp2) e3 ⟨k, rfl, ?_⟩
  cases k with
  | false =>
    obtain ⟨e, rfl⟩ := pure_ok hm
    subst e
    exact ⟨_, rfl, q w2 l12 k2 r2⟩
  | true =>
    obtain ⟨z, S4, h4, hm⟩ := bind_ok hm
    obtain ⟨h5, rfl⟩ := opt_ok hm
    refine ⟨w2, ρ, S3, z, S', st.next l12 k2 r2, h4, fun w3 v3 l3 k3 r3 rp3 => ?_⟩
    exact copl o2 w3 y z d v2 v3 _ k3 (.inl (rp2.keep (l3.kp k2))) (.inl rp3) h5 ⟨_, rfl, q w3 (l12.trans l3 st.ok k2) k3 r3⟩
theorem Rp.isNon {w : Wd} {v : V} {d : D} (h : Rp K fa w v d) : decide (v = .non) = d.isNon := by
  cases d <;> cases h <;> rfl
theorem s_isN {j pos'} (ha : PE X a (rd X.K fa ma)) : PE X (.Compare a [.Is] [.Constant .none j pos'] pos) (rd X.K fa (fun ρ => M.bind (ma ρ) fun x => M.pure (.bl x.isNon))) := by
  refine (pe_cmp (pc_isN ha) rfl).conv fun σ H Q h => ?_
  obtain ⟨w, ρ, S, d, S', st, hm, q⟩ := h
  obtain ⟨x, S1, h1, hm⟩ := bind_ok hm
  obtain ⟨e, rfl⟩ := pure_ok hm
  subst e
  refine ⟨w, ρ, S, x, S', st, h1, fun w1 v1 l1 k1 r1 rp1 => ?_⟩
  show Q (.bl (decide (v1 = .non))) w1.H
  rw [Rp.isNon rp1]
  exact q w1 _ l1 k1 r1 (.bl _)
theorem s_ntN {j pos'} (ha : PE X a (rd X.K fa ma)) : PE X (.Compare a [.IsNot] [.Constant .none j pos'] pos) (rd X.K fa (fun ρ => M.bind (ma ρ) fun x => M.pure (.bl (!x.isNon)))) := by
  refine (pe_cmp (pc_notN ha) rfl).conv fun σ H Q h => ?_
  obtain ⟨w, ρ, S, d, S', st, hm, q⟩ := h
  obtain ⟨x, S1, h1, hm⟩ := bind_ok hm
  obtain ⟨e, rfl⟩ := pure_ok hm
  subst e
  refine ⟨w, ρ, S, x, S', st, h1, fun w1 v1 l1 k1 r1 rp1 => ?_⟩
  show Q (.bl (!decide (v1 = .non))) w1.H
  rw [Rp.isNon rp1]
  exact q w1 _ l1 k1 r1 (.bl _)
theorem s_isNT {j pos'} (ha : PE X a (rd X.K fa ma)) : PT X (.Compare a [.Is] [.Constant .none j pos'] pos) (rdT X.K fa (fun ρ => M.bind (ma ρ) fun x => M.pure x.isNon)) := by
  refine (pt_cmp (pc_isN ha) rfl).conv fun σ H Q h => ?_
  obtain ⟨w, ρ, S, d, S', st, hm, q⟩ := h
  obtain ⟨x, S1, h1, hm⟩ := bind_ok hm
  obtain ⟨e, rfl⟩ := pure_ok hm
  subst e
  refine ⟨w, ρ, S, x, S', st, h1, fun w1 v1 l1 k1 r1 rp1 => ?_⟩
  show ∃ c, V.bl (decide (v1 = .non)) = .bl c ∧ Q c w1.H
  rw [Rp.isNon rp1]
  exact ⟨_, rfl, q w1 l1 k1 r1⟩
theorem s_ntNT {j pos'} (ha : PE X a (rd X.K fa ma)) : PT X (.Compare a [.IsNot] [.Constant .none j pos'] pos) (rdT X.K fa (fun ρ => M.bind (ma ρ) fun x => M.pure (!x.isNon))) := by
  refine (pt_cmp (pc_notN ha) rfl).conv fun σ H Q h => ?_
  obtain ⟨w, ρ, S, d, S', st, hm, q⟩ := h
  obtain ⟨x, S1, h1, hm⟩ := bind_ok hm
  obtain ⟨e, rfl⟩ := pure_ok hm
  subst e
  refine ⟨w, ρ, S, x, S', st, h1, fun w1 v1 l1 k1 r1 rp1 => ?_⟩
  show ∃ c, V.bl (!decide (v1 = .non)) = .bl c ∧ Q c w1.H
  rw [Rp.isNon rp1]
  exact ⟨_, rfl, q w1 l1 k1 r1⟩
theorem RpP.tru {w : Wd} {v : V} {d : D} {k : Bool} (h : RpP K fa w v d) (e : d.tru = some k) : TruV K v w.H k := by
  cases d with
  | non =>
    have h := h.val (fun _ z => nomatch z) (fun _ _ z => nomatch z)
    cases h
    exact (Option.some.inj e).symm
  | bl b =>
    have h := h.val (fun _ z => nomatch z) (fun _ _ z => nomatch z)
    cases h
    exact (Option.some.inj e).symm
  | int i =>
    have h := h.val (fun _ z => nomatch z) (fun _ _ z => nomatch z)
    cases h
    exact (Option.some.inj e).symm
  | str cs =>
    obtain ⟨rfl, t⟩ := h.str
    refine ⟨by rw [tx_len]; exact t.len, ?_⟩
    rw [tx_len, ← Option.some.inj e]
    cases cs <;> simp <;> omega
  | tup xs =>
    obtain ⟨p, vs, rfl, s1, l1, r1⟩ := h.tup
    exact .inr (.inl ⟨vs, s1, by rw [r1.empty, ← Option.some.inj e]⟩)
  | lst xs =>
    obtain ⟨p, vs, rfl, s1, l1, r1⟩ := h.lst
    exact .inl ⟨vs, .of s1, by rw [r1.empty, ← Option.some.inj e]⟩
  | rol _ => cases e
  | loc _ => cases e
  | fn _ => cases e
  | dic _ _ => cases e
theorem s_and {rest : List Expr} (ha : PE X a (rd X.K fa ma)) (hb : PE X (.BoolOp .And (b :: rest) pos) (rd X.K fa mb)) : PE X (.BoolOp .And (a :: b :: rest) pos) (rd X.K fa (fun ρ => M.bind (ma ρ) fun x => M.bind (M.opt x.tru) fun k => match k with
    | true => mb ρ
    | false => M.pure x)) := by
  refine (pe_andT ha hb).conv fun σ H Q h => ?_
  obtain ⟨w, ρ, S, d, S', st, hm, q⟩ := h
  obtain ⟨x, S1, h1, hm⟩ := bind_ok hm
  obtain ⟨k, S2, h2, hm⟩ := bind_ok hm
  obtain ⟨e2, rfl⟩ := opt_ok h2
  refine ⟨w, ρ, S, x, S2, st, h1, fun w1 v1 l1 k1 r1 rp1 => ⟨k, RpP.tru (.inl rp1) e2, ?_⟩⟩
  cases k with
  | false =>
    obtain ⟨e, rfl⟩ := pure_ok hm
    subst e
    exact q w1 _ l1 k1 r1 rp1
  | true => exact ⟨w1, ρ, S2, d, S', st.next l1 k1 r1, hm, fun w2 v2 l2 k2 r2 rp2 => q w2 v2 (l1.trans l2 st.ok k1) k2 r2 rp2⟩
theorem s_or {rest : List Expr} (ha : PE X a (rd X.K fa ma)) (hb : PE X (.BoolOp .Or (b :: rest) pos) (rd X.K fa mb)) : PE X (.BoolOp .Or (a :: b :: rest) pos) (rd X.K fa (fun ρ => M.bind (ma ρ) fun x => M.bind (M.opt x.tru) fun k => match k with
    | true => M.pure x
    | false => mb ρ)) := by
  refine (pe_orT ha hb).conv fun σ H Q h => ?_
  obtain ⟨w, ρ, S, d, S', st, hm, q⟩ := h
  obtain ⟨x, S1, h1, hm⟩ := bind_ok hm
  obtain ⟨k, S2, h2, hm⟩ := bind_ok hm
  obtain ⟨e2, rfl⟩ := opt_ok h2
  refine ⟨w, ρ, S, x, S2, st, h1, fun w1 v1 l1 k1 r1 rp1 => ⟨k, RpP.tru (.inl rp1) e2, ?_⟩⟩
  cases k with
  | true =>
    obtain ⟨e, rfl⟩ := pure_ok hm
    subst e
    exact q w1 _ l1 k1 r1 rp1
  | false => exact ⟨w1, ρ, S2, d, S', st.next l1 k1 r1, hm, fun w2 v2 l2 k2 r2 rp2 => q w2 v2 (l1.trans l2 st.ok k1) k2 r2 rp2⟩
theorem s_not (ha : PE X a (rd X.K fa ma)) : PE X (.UnaryOp .Not a pos) (rd X.K fa (fun ρ => M.bind (ma ρ) fun x => M.bind (M.opt x.tru) fun k => M.pure (.bl (!k)))) := by
  refine (pe_notT ha).conv fun σ H Q h => ?_
  obtain ⟨w, ρ, S, d, S', st, hm, q⟩ := h
  obtain ⟨x, S1, h1, hm⟩ := bind_ok hm
  obtain ⟨k, S2, h2, hm2⟩ := bind_ok hm
  obtain ⟨e2, rfl⟩ := opt_ok h2
  obtain ⟨e, rfl⟩ := pure_ok hm2
  subst e
  exact ⟨w, ρ, S, x, S', st, h1, fun w1 v1 l1 k1 r1 rp1 => ⟨k, RpP.tru (.inl rp1) e2, q w1 _ l1 k1 r1 (.bl _)⟩⟩
theorem s_neg (ha : PE X a (rd X.K fa ma)) : PE X (.UnaryOp .USub a pos) (rd X.K fa (fun ρ => M.bind (ma ρ) fun x => M.opt (negD x))) := by
  refine (pe_un un_neg ha).conv fun σ H Q h => ?_
  obtain ⟨w, ρ, S, d, S', st, hm, q⟩ := h
  obtain ⟨x, S1, h1, hm⟩ := bind_ok hm
  obtain ⟨h2, rfl⟩ := opt_ok hm
  refine ⟨w, ρ, S, x, S', st, h1, fun w1 v1 l1 k1 r1 rp1 => ?_⟩
  cases x <;> first | (cases h2; done) | skip
  case int i =>
    cases (Option.some.inj h2)
    cases rp1
    exact ⟨i, rfl, q w1 _ l1 k1 r1 (.int _)⟩
theorem s_ife {t : Expr} {mt : Env → M Bool} (hc : PT X t (rdT X.K fa mt)) (ha : PE X a (rd X.K fa ma)) (hb : PE X b (rd X.K fa mb)) : PE X (.IfExp t a b pos) (rd X.K fa (fun ρ => M.bind (mt ρ) fun k => match k with
    | true => ma ρ
    | false => mb ρ)) := by
  refine (pe_ifExp hc ha hb).conv fun σ H Q h => ?_
  obtain ⟨w, ρ, S, d, S', st, hm, q⟩ := h
  obtain ⟨k, S1, h1, hm⟩ := bind_ok hm
  refine ⟨w, ρ, S, k, S1, st, h1, fun w1 l1 k1 r1 => ?_⟩
  cases k with
  | true => exact ⟨w1, ρ, S1, d, S', st.next l1 k1 r1, hm, fun w2 v2 l2 k2 r2 rp2 => q w2 v2 (l1.trans l2 st.ok k1) k2 r2 rp2⟩
  | false => exact ⟨w1, ρ, S1, d, S', st.next l1 k1 r1, hm, fun w2 v2 l2 k2 r2 rp2 => q w2 v2 (l1.trans l2 st.ok k1) k2 r2 rp2⟩
/-! ### tests -/
theorem t_and {rest : List Expr} {mt mu : Env → M Bool} (ha : PT X a (rdT X.K fa mt)) (hb : PW X (.BoolOp .And (b :: rest) pos) (rdT X.K fa mu)) : PW X (.BoolOp .And (a :: b :: rest) pos) (rdT X.K fa (fun ρ => M.bind (mt ρ) fun k => match k with
    | true => mu ρ
    | false => M.pure false)) := by
  have h0 := pw_and ha hb
  refine ⟨fun wh pins s σ H Q I h => h0.run wh pins s σ H Q I ?_⟩
  obtain ⟨w, ρ, S, d, S', st, hm, q⟩ := h
  obtain ⟨k, S1, h1, hm⟩ := bind_ok hm
  refine ⟨w, ρ, S, k, S1, st, h1, fun w1 l1 k1 r1 => ?_⟩
  cases k with
  | true => exact ⟨w1, ρ, S1, d, S', st.next l1 k1 r1, hm, fun w2 l2 k2 r2 => q w2 (l1.trans l2 st.ok k1) k2 r2⟩
  | false =>
    obtain ⟨e, rfl⟩ := pure_ok hm
    subst e
    exact q w1 l1 k1 r1
theorem t_or {rest : List Expr} {mt mu : Env → M Bool} (ha : PT X a (rdT X.K fa mt)) (hb : PW X (.BoolOp .Or (b :: rest) pos) (rdT X.K fa mu)) : PW X (.BoolOp .Or (a :: b :: rest) pos) (rdT X.K fa (fun ρ => M.bind (mt ρ) fun k => match k with
    | true => M.pure true
    | false => mu ρ)) := by
  have h0 := pw_or ha hb
  refine ⟨fun wh pins s σ H Q I h => h0.run wh pins s σ H Q I ?_⟩
  obtain ⟨w, ρ, S, d, S', st, hm, q⟩ := h
  obtain ⟨k, S1, h1, hm⟩ := bind_ok hm
  refine ⟨w, ρ, S, k, S1, st, h1, fun w1 l1 k1 r1 => ?_⟩
  cases k with
  | false => exact ⟨w1, ρ, S1, d, S', st.next l1 k1 r1, hm, fun w2 l2 k2 r2 => q w2 (l1.trans l2 st.ok k1) k2 r2⟩
  | true =>
    obtain ⟨e, rfl⟩ := pure_ok hm
    subst e
    exact q w1 l1 k1 r1
theorem t_not {mt : Env → M Bool} (ha : PT X a (rdT X.K fa mt)) : PT X (.UnaryOp .Not a pos) (rdT X.K fa (fun ρ => M.bind (mt ρ) fun k => M.pure (!k))) := by
  refine (pt_not ha).conv fun σ H Q h => ?_
  obtain ⟨w, ρ, S, d, S', st, hm, q⟩ := h
  obtain ⟨k, S1, h1, hm⟩ := bind_ok hm
  obtain ⟨e, rfl⟩ := pure_ok hm
  subst e
  exact ⟨w, ρ, S, k, S', st, h1, fun w1 l1 k1 r1 => q w1 l1 k1 r1⟩
theorem t_val (ha : PE X a (rdP X.K fa ma)) (hp : plainT a = true) : PT X a (rdT X.K fa (fun ρ => M.bind (ma ρ) fun x => M.opt x.tru)) := by
  have he : ∀ whole, isTrue a X.env whole = (do let v ← whole; standAt a.pos; holding [v] (truthy v)) := by
    cases a <;> first | (cases hp; done) | (intro _; rfl)
  refine (pt_truth ha he).conv fun σ H Q h => ?_
  obtain ⟨w, ρ, S, d, S', st, hm, q⟩ := h
  obtain ⟨x, S1, h1, hm⟩ := bind_ok hm
  obtain ⟨h2, rfl⟩ := opt_ok hm
  exact ⟨w, ρ, S, x, S', st, h1, fun w1 v1 l1 k1 r1 rp1 => ⟨d, rp1.tru h2, q w1 l1 k1 r1⟩⟩
end
end Ev

/-! Displays, calls, places, slices. -/
namespace PySem
namespace HTR
open PySem PySem.Calls PyProof.Rows HT
section
variable {prog : Program} {w : World} {A : Around} {E : Value → Shared → Prop} {s : Shared}
theorem adjust_rev (n : Nat) : Builtin.Slice.sliceAdjust none none (-1) (n : Int) = ((n : Int) - 1, -1) := by
  unfold Builtin.Slice.sliceAdjust
  rfl
theorem places_rev (n : Nat) : Builtin.Slice.slicePlaces ((n : Int) - 1) (-1) (-1) = n := by
  unfold Builtin.Slice.slicePlaces
  have h1 : ¬ ((-1 : Int) > 0) := by decide
  rw [if_neg h1, show (- -1 : Int) = 1 by decide, Int.ediv_one]
  split <;> omega
theorem sliceApplied_rev {sl : Addr} {vl vu vs : Value} {n : Nat} {Q : Int × Int × Nat → Shared → Prop} (hs : s.heap.IsSliceOf sl vl vu vs) (pl : IsPart vl none) (pu : IsPart vu none) (ps : IsPart vs (some (-1)))
    (h : Q ((n : Int) - 1, -1, n) s) : wpAny (model prog w) A (Builtin.Slice.sliceApplied (.ref sl) (pure (n : Int))) Q E s := by
  obtain ⟨os, hos, hcs, hds⟩ := id hs
  unfold Builtin.Slice.sliceApplied Builtin.Slice.sliceFields
  refine wpAny_bind (wpAny_bind (wpAny_field hos hds (x := vl) rfl (wpAny_bind (wpAny_field hos hds (x := vu) rfl (wpAny_bind (wpAny_field hos hds (x := vs) rfl (wpAny_pure ?_)))))))
  refine wpAny_bind (slicePart_ ps ?_)
  show wpAny _ _ (if ((-1 : Int) == 0) = true then _ else _) _ _ s
  rw [if_neg (by decide)]
  refine wpAny_bind (slicePart_ pl (wpAny_bind (slicePart_ pu (wpAny_bind (wpAny_pure ?_)))))
  show wpAny _ _ (match Builtin.Slice.sliceAdjust none none (-1) (n : Int) with | (lo, hi) => pure (lo, (-1 : Int), Builtin.Slice.slicePlaces lo hi (-1))) _ _ s
  rw [adjust_rev n]
  show wpAny _ _ (pure ((n : Int) - 1, (-1 : Int), Builtin.Slice.slicePlaces ((n : Int) - 1) (-1) (-1))) _ _ s
  rw [places_rev]
  exact wpAny_pure h
theorem fm_congr {α β : Type} {f g : α → Option β} : ∀ {l : List α}, (∀ a ∈ l, f a = g a) → l.filterMap f = l.filterMap g
  | [], _ => rfl
  | a :: l, h => by
    rw [List.filterMap_cons, List.filterMap_cons, h a (List.mem_cons_self ..), fm_congr fun b hb => h b (List.mem_cons_of_mem _ hb)]
theorem pick_rev (xs : Array Value) : ((List.range xs.size).filterMap fun (m : Nat) => xs[((xs.size : Int) - 1 + (m : Int) * -1).toNat]?).toArray = xs.toList.reverse.toArray := by
  have e : ((List.range xs.size).filterMap fun (m : Nat) => xs[((xs.size : Int) - 1 + (m : Int) * -1).toNat]?) = ((List.range xs.size).map fun k => xs.size - 1 - k).filterMap (xs[·]?) := by
    rw [List.filterMap_map]
    refine fm_congr fun m hm => ?_
    have := List.mem_range.mp hm
    have e2 : ((xs.size : Int) - 1 + (m : Int) * -1).toNat = xs.size - 1 - m := by omega
    show xs[((xs.size : Int) - 1 + (m : Int) * -1).toNat]? = xs[xs.size - 1 - m]?
    rw [e2]
  rw [e, PySem.W.krv_range, List.filterMap_reverse, PySem.W.krv_all]
theorem getItem_tuple_rev {t sl : Addr} {items : Array Value} {vl vu vs : Value} {Q : Value → Shared → Prop} (ht : IsTup s.heap t items) (hs : s.heap.IsSliceOf sl vl vu vs) (pl : IsPart vl none) (pu : IsPart vu none) (ps : IsPart vs (some (-1)))
    (h : Q (.ref s.heap.objs.size) { s with heap := s.heap.push { cls := .type "tuple", data := .seq items.toList.reverse.toArray } })
    (hsz : items.size ≤ sizeLine) : wpAny (model prog w) A (getItem (.ref t) (.ref sl)) Q E s := by
  have htake : sizeOk (.seq items.toList.reverse.toArray) := by
    show items.toList.reverse.toArray.size ≤ sizeLine
    rw [List.size_toArray, List.length_reverse, Array.length_toList]
    exact hsz
  obtain ⟨os, hos, hcs, hds⟩ := id hs
  have hTs : s.TypeIs (.ref sl) "slice" := ⟨os, hos, hcs⟩
  unfold getItem
  try with_reducible refine wpAny_holding ?_
  first | refine wpAny_bind (wpAny_pure ?_) | skip
  refine wpAny_bind (wpAny_sequenceKey ht.typeIs (by decide) ?_)
  refine wpAny_bind (wpAny_callSpecial?_slot (name := Str.ofString "__getitem__") ht.typeIs PyProof.Rows.slot_tuple_getitem
    (wpAny_call_entry PyProof.Rows.slot_tuple_getitem ht.typeIs entry_tuple_getitem ?_ (args_tuple_getitem _ _)))
  show wpAny _ _ (Builtin.Tuple.tupleItemsOf (.ref t) >>= _) _ _ s
  refine wpAny_bind (tupleItemsOf_ ht ?_)
  refine wpAny_bind (wpAny_typeOf hTs ?_)
  rw [if_pos (by decide)]
  refine wpAny_bind (sliceApplied_rev hs pl pu ps ?_)
  have hno : ¬ ((((items.size : Int) - 1) == 0 && (-1 : Int) == 1 && items.size == items.size) = true) := by
    intro q
    rw [Bool.and_eq_true, Bool.and_eq_true] at q
    have q1 : (-1 : Int) = 1 := eq_of_beq q.1.2
    omega
  show wpAny _ _ (if (((items.size : Int) - 1) == 0 && (-1 : Int) == 1 && items.size == items.size) = true then _ else _) _ _ s
  rw [if_neg hno, pick_rev]
  first
    | exact wpAny_bind (m := Builtin.Tuple.tupleExact _) (wpAny_newObj_type (wpAny_pure ⟨_, rfl, wpAny_pure h⟩) htake)
    | exact wpAny_bind (m := Builtin.Tuple.tupleExact _) (wpAny_newObj_type (wpAny_bind (wpAny_pure (wpAny_pure ⟨_, rfl, wpAny_pure h⟩))) htake)
    | exact wpAny_bind (wpAny_bind (m := Builtin.Tuple.tupleExact _) (wpAny_newObj_type (wpAny_pure (wpAny_pure ⟨_, rfl, wpAny_pure h⟩)) htake))
    | exact wpAny_bind (wpAny_bind (m := Builtin.Tuple.tupleExact _) (wpAny_newObj_type (wpAny_pure ⟨_, rfl, wpAny_pure h⟩) htake))
end
end HTR
end PySem
namespace Ev
open PySem PySem.Spec PyProof.Rows L2

/-! ### x[::-1] of a list, a tuple -/
def tRevE (K : PySem.W.Frag) (te : TE) : TE := fun σ H Q => te σ H fun x H1 => (∃ a xs, x = .ref a ∧ SqL K H1 a xs ∧ ∀ p, H1 p = none → Q (.ref p) (upd H1 p (.lst xs.reverse))) ∨ ∃ a xs, x = .ref a ∧ SqT K H1 a xs ∧ ∀ p, H1 p = none → Q (.ref p) (upd H1 p (.tup xs.reverse))
theorem pe_revE {X : Cx} {e : Expr} {te : TE} {k : Nat} {p1 p2 p3 pos : Pos} (he : PE X e te) : PE X (.Subscript e (.Slice none none (some (.UnaryOp .USub (.Constant (.int 1) k p1) p2)) p3) pos) (tRevE X.K te) := by
  refine ⟨fun pins s σ H Q I h => ?_⟩
  refine Subscript_ (thn (he.run pins s σ H _ I h) fun v s1 ⟨x, H1, I1, r1, q1⟩ => ?_)
  have hst : PO X (some (.UnaryOp .USub (.Constant (.int 1) k p1) p2)) (tPart (tUn (rU fun i => .int (-i)) (tC (.int 1)))) := po_some (pe_un un_neg pe_int)
  refine wpAny_Slice (thn (po_none.run pins s1 σ H1 (fun o H2 => o = none ∧ H2 = H1) I1 ⟨rfl, rfl⟩) fun vl s2 ⟨l, H2, I2, pl, el, e2⟩ => ?_)
  subst el e2
  refine thn (po_none.run pins s2 σ H2 (fun o H3 => o = none ∧ H3 = H2) I2 ⟨rfl, rfl⟩) fun vu s3 ⟨u, H3, I3, pu, eu, e3⟩ => ?_
  subst eu e3
  refine thn (hst.run pins s3 σ H3 (fun o H4 => o = some (-1) ∧ H4 = H3) I3 ⟨1, rfl, -1, rfl, rfl, rfl⟩) fun vs s4 ⟨o, H4, I4, ps, eo, e4⟩ => ?_
  subst eo e4
  have I5 : Inv X pins σ H4 { s4 with heap := s4.heap.push { cls := .type "slice", data := .fields #[vl, vu, vs] } } := I4.kept (t' := s4.toks) fun b ob q => Heap.get?_push_of_some _ q
  rcases q1 with ⟨a, xs, ex, hx, q⟩ | ⟨a, xs, ex, hx, q⟩
  · subst ex
    cases r1
    obtain ⟨its, r, ht, hz⟩ := I5.list hx
    have hlen := r.length
    show wpAny (model X.prog X.w) X.A (subscriptTail e (.Slice none none (some (.UnaryOp .USub (.Constant (.int 1) k p1) p2)) p3) (.ref a) (.ref s4.heap.objs.size)) (EP X pins σ Q) X.xe { s4 with heap := s4.heap.push { cls := .type "slice", data := .fields #[vl, vu, vs] } }
    refine tail_any (ops := [.ref a, .ref s4.heap.objs.size]) ht.isList.typeIs (PySem.slot_list_getitem.lookup) ?_ (by with_unfolding_all rfl)
    refine wpAny_getItem_list_slice ht.isList (Heap.IsSliceOf.new _ vl vu vs) pl pu ps (by decide) ?_ (by rw [List.size_toArray]; omega)
    rw [PySem.W.krv_pick]
    refine ⟨.ref _, _, I5.laid (t' := s4.toks) (o := .lst xs.reverse) (fun b ob q => Heap.get?_push_of_some _ q) (Nat.le_refl _) ?_, rfl, q _ (I5.hok.fresh (Nat.le_refl _))⟩
    exact ⟨by rw [List.length_reverse]; exact hz, _, 0, r.reverse, Heap.get?_push_size _ rfl⟩
  · subst ex
    cases r1
    obtain ⟨its, r, ht, hz⟩ := I5.tuple hx
    have hlen := r.length
    show wpAny (model X.prog X.w) X.A (subscriptTail e (.Slice none none (some (.UnaryOp .USub (.Constant (.int 1) k p1) p2)) p3) (.ref a) (.ref s4.heap.objs.size)) (EP X pins σ Q) X.xe { s4 with heap := s4.heap.push { cls := .type "slice", data := .fields #[vl, vu, vs] } }
    refine tail_any (ops := [.ref a, .ref s4.heap.objs.size]) ht.typeIs (PyProof.Rows.slot_tuple_getitem.lookup) ?_ (by with_unfolding_all rfl)
    refine HTR.getItem_tuple_rev ht (Heap.IsSliceOf.new _ vl vu vs) pl pu ps ?_ (by rw [List.size_toArray]; omega)
    refine ⟨.ref _, _, I5.laid (t' := s4.toks) (o := .tup xs.reverse) (fun b ob q => Heap.get?_push_of_some _ q) (Nat.le_refl _) ?_, rfl, q _ (I5.hok.fresh (Nat.le_refl _))⟩
    exact ⟨by rw [List.length_reverse]; exact hz, _, r.reverse, IsTup.new _ _⟩

section
variable {K : PySem.W.Frag} {fa : Fx} {X : Cx} {a b c : Expr} {ma mb mc : Env → M D} {pos : Pos}
/-- a frame's reading of what a step hands on -/
theorem RN.back {w w1 w' : Wd} {z : V} {d : D} (h : RN K fa w1 w' z d) (l : w.Le w1) (k : w.Ok) (k1 : w1.Ok) : RN K fa w w' z d := by
  cases d with
  | lst ds =>
    obtain ⟨a, vs, e1, n, rest⟩ := h
    exact ⟨a, vs, e1, l.free k k1 n, rest⟩
  | _ => exact h
theorem s_rev (ha : PE X a (rdP X.K fa ma)) {k : Nat} {p1 p2 p3 : Pos} : PE X (.Subscript a (.Slice none none (some (.UnaryOp .USub (.Constant (.int 1) k p1) p2)) p3) pos) (rdN X.K fa (fun ρ => M.bind (ma ρ) fun x => M.opt (revD x))) := by
  refine (pe_revE ha).conv fun σ H Q h => ?_
  obtain ⟨w, ρ, S, d, S', st, hm, q⟩ := h
  obtain ⟨x, S1, h1, hm⟩ := bind_ok hm
  obtain ⟨h2, rfl⟩ := opt_ok hm
  refine ⟨w, ρ, S, x, S', st, h1, fun w1 v1 l1 k1 r1 rp1 => ?_⟩
  cases x <;> first | (cases h2; done) | skip
  case tup xs =>
    obtain ⟨_, e⟩ := ite_someB h2
    subst e
    obtain ⟨p, vs, e1, s1, ll, rr⟩ := rp1.tup
    exact .inr ⟨p, vs, e1, s1, fun p hp => newT k1 r1 hp (by rw [List.length_reverse]; exact ll) rr.rev fun w' z l k r rn => q w' z (l1.trans l st.ok k1) k r (rn.back l1 st.ok k1)⟩
  case lst xs =>
    cases (Option.some.inj h2)
    obtain ⟨p, vs, e1, s1, ll, rr⟩ := rp1.lst
    exact .inl ⟨p, vs, e1, .of s1, fun p hp => newL k1 r1 hp (by rw [List.length_reverse]; exact ll) rr.rev fun w' z l k r rn => q w' z (l1.trans l st.ok k1) k r (rn.back l1 st.ok k1)⟩

/-! ### argument lists -/
theorem a_nil {R : Wd → V → D → Prop} : PA X [] (rdA X.K fa R (fun _ => M.pure [])) := by
  refine pa_nil.conv fun σ H Q h => ?_
  obtain ⟨w, ρ, S, ds, S', st, hm, q⟩ := h
  obtain ⟨e, rfl⟩ := pure_ok hm
  subst e
  have := q w [] (.refl w) st.ok st.sr .nil
  rw [st.h] at this
  exact this
theorem a_cons {R : Wd → V → D → Prop} (hR : ∀ (w w' : Wd) v d, R w v d → w.Le w' → w.Ok → R w' v d) {es : List Expr} {ms : Env → M (List D)} (ha : PE X a (rdG X.K fa (fun _ w' v d => R w' v d) ma)) (hs : PA X es (rdA X.K fa R ms))
    (hst : starEach (a :: es) X.env = (false, eval a X.env) :: starEach es X.env) : PA X (a :: es) (rdA X.K fa R (fun ρ => M.bind (ma ρ) fun x => M.bind (ms ρ) fun xs => M.pure (x :: xs))) := by
  refine (pa_cons ha hs hst).conv fun σ H Q h => ?_
  obtain ⟨w, ρ, S, ds, S', st, hm, q⟩ := h
  obtain ⟨x, S1, h1, hm⟩ := bind_ok hm
  obtain ⟨xs, S2, h2, hm⟩ := bind_ok hm
  obtain ⟨e, rfl⟩ := pure_ok hm
  subst e
  refine ⟨w, ρ, S, x, S1, st, h1, fun w1 v1 l1 k1 r1 rp1 => ?_⟩
  exact ⟨w1, ρ, S1, xs, S', st.next l1 k1 r1, h2, fun w2 vs l2 k2 r2 rp2 => q w2 _ (l1.trans l2 st.ok k1) k2 r2 (.cons (hR _ _ _ _ rp1 l2 k1) rp2)⟩
theorem Rps.of_paired {w : Wd} : ∀ {vs : List V} {ds : List D}, Paired (Rp K fa w) vs ds → Rps K fa w vs ds
  | [], _, h => by cases h; exact .nil
  | v :: vs, _, h => by
    cases h with
    | cons a b => exact .cons a (Rps.of_paired b)
theorem cons_guard {xs : List D} {d : D} {S S' : Sto} (h : M.guard (decide (xs.length ≤ 100)) (M.pure d) S = .ok d S') : xs.length ≤ 100 := of_decide_eq_true (guard_ok h).1
theorem s_tup {es : List Expr} {x1} {ms : Env → M (List D)} (hs : PA X es (rdA X.K fa (Rp X.K fa) ms)) : PE X (.Tuple es x1 pos) (rd X.K fa (fun ρ => M.bind (ms ρ) fun xs => M.guard (decide (xs.length ≤ 100)) (M.pure (.tup xs)))) := by
  refine (pe_tup hs).conv fun σ H Q h => ?_
  obtain ⟨w, ρ, S, d, S', st, hm, q⟩ := h
  obtain ⟨xs, S1, h1, hm⟩ := bind_ok hm
  obtain ⟨hl, hm2⟩ := guard_ok hm
  have hl := of_decide_eq_true hl
  obtain ⟨e, rfl⟩ := pure_ok hm2
  subst e
  refine ⟨w, ρ, S, xs, S', st, h1, fun w1 vs l1 k1 r1 rp1 => ?_⟩
  have rr := Rps.of_paired rp1
  have hz : vs.length ≤ sizeLine := by rw [rr.len, sizeLine_eq]; omega
  exact ⟨hz, fun p hp => newT k1 r1 hp hz rr fun w' z l k r rn => q w' z (l1.trans l st.ok k1) k r rn⟩
theorem s_lst {es : List Expr} {ms : Env → M (List D)} (hs : PA X es (rdA X.K fa (Rp X.K fa) ms)) : PE X (.List es pos) (rdN X.K fa (fun ρ => M.bind (ms ρ) fun xs => M.guard (decide (xs.length ≤ 100)) (M.pure (.lst xs)))) := by
  refine (pe_lst hs).conv fun σ H Q h => ?_
  obtain ⟨w, ρ, S, d, S', st, hm, q⟩ := h
  obtain ⟨xs, S1, h1, hm⟩ := bind_ok hm
  obtain ⟨hl, hm2⟩ := guard_ok hm
  have hl := of_decide_eq_true hl
  obtain ⟨e, rfl⟩ := pure_ok hm2
  subst e
  refine ⟨w, ρ, S, xs, S', st, h1, fun w1 vs l1 k1 r1 rp1 => ?_⟩
  have rr := Rps.of_paired rp1
  have hz : vs.length ≤ sizeLine := by rw [rr.len, sizeLine_eq]; omega
  exact ⟨hz, fun p hp => newL k1 r1 hp hz rr fun w' z l k r rn => q w' z (l1.trans l st.ok k1) k r (rn.back l1 st.ok k1)⟩
theorem s_cell {es : List Expr} {ms : Env → M (List D)} (hs : PA X es (rdA X.K fa (Rp X.K fa) ms)) : PE X (.List es pos) (rd X.K fa (fun ρ => M.bind (ms ρ) fun xs => M.guard (decide (xs.length ≤ 100)) fun S => .ok (.loc S.length) (S ++ [.cell xs]))) := by
  refine (pe_lst hs).conv fun σ H Q h => ?_
  obtain ⟨w, ρ, S, d, S', st, hm, q⟩ := h
  obtain ⟨xs, S1, h1, hm⟩ := bind_ok hm
  obtain ⟨hl, hm2⟩ := guard_ok hm
  have hl := of_decide_eq_true hl
  have hm3 : Res.ok (D.loc S1.length) (S1 ++ [Ob.cell xs]) = Res.ok d S' := hm2
  injection hm3 with e1 e2
  subst e1 e2
  refine ⟨w, ρ, S, xs, S1, st, h1, fun w1 vs l1 k1 r1 rp1 => ?_⟩
  have rr := Rps.of_paired rp1
  have hz : vs.length ≤ sizeLine := by rw [rr.len, sizeLine_eq]; omega
  refine ⟨hz, fun p hp => ?_⟩
  have l2 := Wd.new_le (w := w1) (p := p) (o := .lst vs) hp
  have k2 := Wd.new_ok (w := w1) (p := p) (o := .lst vs) k1 hp
  obtain ⟨nf, na⟩ := new_free k1 hp
  have l3 : w1.Le ((w1.new p (.lst vs)).cel p) := ⟨l2.f, l2.fn, ⟨[p], rfl, fun a m => by rw [List.mem_singleton.mp m]; exact hp⟩, fun b o e n nt => l2.h b o e n nt, l2.tb⟩
  have kp := l3.kp k1
  refine q ((w1.new p (.lst vs)).cel p) (.ref p) (l1.trans l3 st.ok k1) ⟨k2.fz, fun a m => ?_, fun a m f => ?_, ?_⟩ ⟨?_, fun n a o e1 e2 => ?_, (r1.new k1 hp).tb⟩ (.loc ?_)
  · rcases List.mem_append.mp m with m | m
    · exact k2.ce a m
    · rw [List.mem_singleton.mp m]
      exact ⟨vs, upd_same⟩
  · rcases List.mem_append.mp m with m | m
    · exact k2.cf a m f
    · rw [List.mem_singleton.mp m] at f
      exact nf f
  · show (w1.A ++ [p]).Nodup
    rw [List.nodup_append]
    exact ⟨k1.nd, by simp, fun x hx y hy z => na (by rw [← List.mem_singleton.mp hy, ← z]; exact hx)⟩
  · show (w1.A ++ [p]).length = (S1 ++ [Ob.cell xs]).length
    rw [List.length_append, List.length_append, r1.len]
    rfl
  · have e1 : (w1.A ++ [p])[n]? = some a := e1
    by_cases hn : n < w1.A.length
    · rw [List.getElem?_append_left hn] at e1
      rw [List.getElem?_append_left (by rw [← r1.len]; exact hn)] at e2
      have q := r1.at_ n a o e1 e2
      cases o with
      | cell ds =>
        obtain ⟨us, h1, h2, h3⟩ := q
        exact ⟨us, by show upd w1.H p _ a = _; rw [upd_ne (ne_of_none h1 hp)]; exact h1, h2, h3.keep kp⟩
    · rw [List.getElem?_append_right (by omega)] at e1
      rw [List.getElem?_append_right (by rw [← r1.len]; omega), ← r1.len] at e2
      have hz : n - w1.A.length = 0 := by
        rcases Nat.eq_zero_or_pos (n - w1.A.length) with z | z
        · exact z
        · rw [List.getElem?_eq_none (by simp; omega)] at e1
          cases e1
      rw [hz] at e1 e2
      cases e1
      cases e2
      exact ⟨vs, upd_same, by assumption, rr.keep kp⟩
  · show (w1.A ++ [p])[S1.length]? = some p
    rw [← r1.len, List.getElem?_append_right (Nat.le_refl _), Nat.sub_self]
    rfl

/-! ### calls -/
theorem RR.back {w w1 w' : Wd} {z : V} {r : RV} (h : RR K fa w1 w' z r) (l : w.Le w1) (k : w.Ok) (k1 : w1.Ok) : RR K fa w w' z r := by
  cases r with
  | own ds =>
    obtain ⟨a, vs, e1, n, rest⟩ := h
    exact ⟨a, vs, e1, l.free k k1 n, rest⟩
  | dic kvs =>
    obtain ⟨a, xs, vs, e1, n, rest⟩ := h
    exact ⟨a, xs, vs, e1, l.free k k1 n, rest⟩
  | val d => exact h
  | exc c d => exact h
abbrev rdR (K : PySem.W.Frag) (fa : Fx) (m : Env → M RV) : TE := rdG K fa (fun w w' v d => RR K fa w w' v d) m
theorem rdR_rd {m : Env → M RV} {σ : L2.St} {H : Hp} {Q : VK} (h : rd K fa (fun ρ => M.bind (m ρ) fun r => M.opt r.d) σ H Q) : tFrz (rdR K fa (fun ρ => M.val (m ρ))) σ H Q := by
  obtain ⟨w, ρ, S, d, S', st, hm, q⟩ := h
  obtain ⟨r, S1, h1, hm⟩ := bind_ok hm
  obtain ⟨e, rfl⟩ := opt_ok hm
  have hv : M.val (m ρ) S = .ok r S' := by
    show M.bind (m ρ) _ S = _
    rw [bind_eq h1]
    cases r <;> first | rfl | cases e
  refine ⟨w, ρ, S, r, S', st, hv, fun w' v l k rr rn => ?_⟩
  cases r with
  | own ds =>
    cases (Option.some.inj e)
    obtain ⟨w2, l2, k2, r2, rp, e⟩ := Fresh.fix (show Fresh K fa w w' v ds from rn) l k rr
    left
    rw [← e]
    exact q w2 v l2 k2 r2 rp
  | val d =>
    cases (Option.some.inj e)
    exact .inl (q w' v l k rr rn)
  | dic kvs =>
    cases (Option.some.inj e)
    obtain ⟨a, xs, vs, e1, e2, f⟩ := FreshD.fix (show FreshD K fa w w' v kvs from rn) l k rr
    refine .inr ⟨a, _, e1, e2, fun od => ?_⟩
    obtain ⟨w2, l2, k2, r2, rp, e3⟩ := f od
    rw [← e3]
    exact q w2 v l2 k2 r2 rp
  | exc c d => cases e
theorem s_call {x : Str} {f : Nat} {cfg : Cfg} {fns gns : List Str} {es : List Expr} {p : Pos} {ms : Env → M (List D)} (G : Good X cfg fa fns gns) (hf : fns[f]? = some x) (hg : Gl X x) (hd : (x == ("__debug__" : Str)) = false)
    (hs : PA X es (rdA X.K fa (Rp X.K fa) ms)) (hne : es ≠ []) (hst : ∀ e r, es = e :: r → starEach (e :: r) X.env = (false, eval e X.env) :: starEach r X.env ∧ (backTo pos (starEach r X.env)).any (·.1) = false) :
    PE X (.Call (.Name x p) es [] pos) (rdR X.K fa (fun ρ => M.bind (ms ρ) fun xs => M.val (cfg.C f xs))) := by
  obtain ⟨fd, ps, k, hr, hk, hb, F⟩ := G.fn f x hf
  have hm := G.fnv f x hf
  have go : ∀ σ H Q, rdR X.K fa (fun ρ => M.bind (ms ρ) fun xs => M.val (cfg.C f xs)) σ H Q → tCall (spC X.K fa (cfg.C f)) [] E0 (rdA X.K fa (Rp X.K fa) ms) σ H Q := fun σ H Q h => by
    obtain ⟨w, ρ, S, r, S', st, hm, q⟩ := h
    obtain ⟨xs, S1, h1, hm⟩ := bind_ok hm
    refine ⟨w, ρ, S, xs, S1, st, h1, fun w1 vs l1 k1 r1 rp1 => ?_⟩
    obtain ⟨hm, hok⟩ := val_ok hm
    refine ⟨w1, S1, xs, r, S', rfl, k1, r1, by rw [List.append_nil]; exact Rps.of_paired rp1, hm, fun w' v l k rr rn => q w' v (l1.trans l st.ok k1) k rr (rn.back l1 st.ok k1), fun c d e => ?_⟩
    rw [e] at hok
    cases hok
  cases es with
  | nil => exact absurd rfl hne
  | cons e r =>
    obtain ⟨h1, h2⟩ := hst e r rfl
    exact (pe_call F hr hg hm hk hb .nil pasN hs hd h1 h2).conv go
theorem s_call0 {x : Str} {f : Nat} {cfg : Cfg} {fns gns : List Str} {p : Pos} (G : Good X cfg fa fns gns) (hf : fns[f]? = some x) (hg : Gl X x) (hd : (x == ("__debug__" : Str)) = false) :
    PE X (.Call (.Name x p) [] [] pos) (rdR X.K fa (fun _ => M.val (cfg.C f []))) := by
  obtain ⟨fd, ps, k, hr, hk, hb, F⟩ := G.fn f x hf
  refine (pe_call0 F hr hg (G.fnv f x hf) hk hb .nil pasN hd).conv fun σ H Q h => ?_
  obtain ⟨w, ρ, S, r, S', st, hm, q⟩ := h
  obtain ⟨hm, hok⟩ := val_ok hm
  refine ⟨w, S, [], r, S', st.h, st.ok, st.sr, .nil, hm, q, fun c d e => ?_⟩
  rw [e] at hok
  cases hok
/-- a built-in by its name -/
theorem s_blt {f : Bl} {cfg : Cfg} {fns gns : List Str} {e : Expr} {r : List Expr} {p : Pos} {ms : Env → M (List D)} (G : Good X cfg fa fns gns) (hg : Gl X (nmBl f))
    (hs : PA X (e :: r) (rdA X.K fa (RpP X.K fa) ms)) (hst : starEach (e :: r) X.env = (false, eval e X.env) :: starEach r X.env) (hpl : (backTo pos (starEach r X.env)).any (·.1) = false) :
    PE X (.Call (.Name (nmBl f) p) (e :: r) [] pos) (rdN X.K fa (fun ρ => M.bind (ms ρ) fun xs => M.opt (blt f xs))) := by
  have hm : X.mg (nmBl f) = none := G.bl _ (by cases f <;> decide +kernel)
  have hn : nmBl f ≠ "__name__" := by cases f <;> decide +kernel
  have hd : (nmBl f == ("__debug__" : Str)) = false := by cases f <;> decide +kernel
  have main : PE X (.Call (.Name (nmBl f) p) (e :: r) [] pos) (tCB (rBl X.K f) (rdA X.K fa (RpP X.K fa) ms)) := by
    cases f
    case len => exact pe_callB (id := "len") (blr G.calm .len) hg hm PySem.boot_len hs hn hd hst hpl
    case abs => exact pe_callB (id := "abs") (blr G.calm .abs) hg hm PyProof.Rows.boot_abs hs hn hd hst hpl
    case int => exact pe_callTy (T := "int") (blr G.calm .int) hg hm (by decide +kernel) hs hn hd hst hpl
    case min2 => exact pe_callB (id := "min") (blr G.calm .min2) hg hm (by decide +kernel) hs hn hd hst hpl
    case max2 => exact pe_callB (id := "max") (blr G.calm .max2) hg hm (by decide +kernel) hs hn hd hst hpl
    case tuple => exact pe_callTy (T := "tuple") (blr G.calm .tuple) hg hm (by decide +kernel) hs hn hd hst hpl
    case list => exact pe_callTy (T := "list") (blr G.calm .list) hg hm (by decide +kernel) hs hn hd hst hpl
    case str => exact pe_callTy (T := "str") (blr G.calm .str) hg hm (by decide +kernel) hs hn hd hst hpl
    case all => exact pe_callB (id := "all") (blr G.calm .all) hg hm (by decide +kernel) hs hn hd hst hpl
    case min3 => exact pe_callB (id := "min") (blr G.calm .min3) hg hm (by decide +kernel) hs hn hd hst hpl
    case sum => exact pe_callB (id := "sum") (blr G.calm .sum) hg hm (by decide +kernel) hs hn hd hst hpl
    case maxL => exact pe_callB (id := "max") (blr G.calm .maxL) hg hm (by decide +kernel) hs hn hd hst hpl
    case minL => exact pe_callB (id := "min") (blr G.calm .minL) hg hm (by decide +kernel) hs hn hd hst hpl
  refine main.conv fun σ H Q h => ?_
  obtain ⟨w, ρ, S, d, S', st, hm, q⟩ := h
  obtain ⟨xs, S1, h1, hm⟩ := bind_ok hm
  obtain ⟨h2, rfl⟩ := opt_ok hm
  refine ⟨w, ρ, S, xs, S', st, h1, fun w1 vs l1 k1 r1 rp1 => ?_⟩
  exact bll f w1 S' xs d vs Q k1 r1 rp1 h2 fun w' z l k r rn => q w' z (l1.trans l st.ok k1) k r (rn.back l1 st.ok k1)

/-! ### sorted(set(xs)) -/
theorem rps_ints {w : Wd} : ∀ ns : List Int, Rps K fa w (ns.map V.int) (ns.map D.int)
  | [] => .nil
  | n :: ns => .cons (.int n) (rps_ints ns)
theorem s_sst {cfg : Cfg} {fns gns : List Str} {e : Expr} {p p2 pos2 : Pos} {ms : Env → M (List D)} (G : Good X cfg fa fns gns) (hg : Gl X "sorted") (hg2 : Gl X "set")
    (hs : PA X [e] (rdA X.K fa (RpP X.K fa) ms)) (hst : starEach [e] X.env = (false, eval e X.env) :: starEach [] X.env) :
    PE X (.Call (.Name "sorted" p) [.Call (.Name "set" p2) [e] [] pos2] [] pos) (rdN X.K fa (fun ρ => M.bind (ms ρ) fun xs => M.opt (sstD xs))) := by
  have m1 : X.mg "sorted" = none := G.bl _ (by decide +kernel)
  have m2 : X.mg "set" = none := G.bl _ (by decide +kernel)
  have inner : PE X (.Call (.Name "set" p2) [e] [] pos2) (tCB (rSetI X.K X.w) (rdA X.K fa (RpP X.K fa) ms)) := pe_callTy (T := "set") (cr_setI G.calm) hg2 m2 (by decide +kernel) hs (by decide +kernel) (by decide +kernel) hst rfl
  refine (pe_callB (id := "sorted") (cr_sortedSet G.calm) hg m1 (by decide +kernel) (pa_cons inner pa_nil rfl) (by decide +kernel) (by decide +kernel) rfl rfl).conv fun σ H Q h => ?_
  obtain ⟨w, ρ, S, d, S', st, hm, q⟩ := h
  obtain ⟨xs, S1, h1, hm⟩ := bind_ok hm
  obtain ⟨h2, rfl⟩ := opt_ok hm
  refine ⟨w, ρ, S, xs, S', st, h1, fun w1 vs l1 k1 r1 rp1 => ?_⟩
  obtain _ | ⟨x, _ | ⟨y, t⟩⟩ := xs
  · cases h2
  · obtain ⟨v, rfl, hx⟩ := pair1 rp1
    cases x <;> first | (cases h2; done) | skip
    case lst ys =>
      have h3 : (match intsOf ys with | some ns => if decide (ns.length < 64) then some (D.lst ((sortU ns).map .int)) else none | none => none) = some d := h2
      cases q2 : intsOf ys with
      | none => rw [q2] at h3; cases h3
      | some ns =>
        rw [q2] at h3
        obtain ⟨h64, e⟩ := ite_someB h3
        subst e
        have h64 : ns.length < 64 := of_decide_eq_true h64
        obtain ⟨a, us, e1, s1, ll, rr⟩ := hx.lst
        have eb := ints_of rr q2
        subst eb
        refine ⟨a, ns, by rw [e1], .of s1, h64, fun b c hb hc => ?_⟩
        have l2 := Wd.new_le (w := w1) (p := b) (o := SetO X.w b (fun j => decide (j ∈ ns)) c) hb
        have k2 := Wd.new_ok (w := w1) (p := b) (o := SetO X.w b (fun j => decide (j ∈ ns)) c) k1 hb
        have r2 := SR.new (o := SetO X.w b (fun j => decide (j ∈ ns)) c) r1 k1 hb
        refine ⟨b, _, c, rfl, upd_same, by omega, fun ns' p' hp hmem hlen hp' => ?_⟩
        have en : ns' = sortU ns := pw_one _ _ hp (pw_sortU ns) fun z => by rw [hmem, mem_sortU]; simp
        have hle : (ns'.map V.int).length ≤ sizeLine := by rw [List.length_map, sizeLine_eq]; omega
        subst en
        exact newL k2 r2 hp' hle (rps_ints _) fun w' z l k r rn => q w' z (l1.trans (l2.trans l k1 k2) st.ok k1) k r ((rn.back l2 k1 k2).back l1 st.ok k1)
  · cases x <;> cases h2

/-! ### isinstance -/
def tyS : D → String
  | .non => "NoneType" | .bl _ => "bool" | .int _ => "int" | .str _ => "str" | .tup _ => "tuple" | .lst _ => "list" | _ => ""
theorem Rp.tyx {w : Wd} {v : V} {d : D} (h : Rp K fa w v d) (o : d.isiOk = true) : TyX K w.H v (.type (tyS d)) := by
  cases d with
  | non => cases h; exact .base .non
  | bl b => cases h; exact .base (.bl b)
  | int b => cases h; exact .base (.int b)
  | str b =>
    cases h with
    | str t => exact .base (.str _)
  | tup xs =>
    cases h with
    | tup a b c =>
      rcases a with (a | ⟨ob, a⟩) | ⟨ob, its, n, e1, e2, _⟩
      · exact .base (.tup a)
      · exact .fTuple a
      · exact .kTuple e1 e2
  | lst xs =>
    cases h with
    | lst a b c e => exact .base (.lst a)
  | rol _ => cases o
  | loc _ => cases o
  | fn _ => cases o
  | dic _ _ => cases o
inductive K6 where
  | non | bl | int | str | tup | lst
def K6.nm : K6 → String
  | .non => "NoneType" | .bl => "bool" | .int => "int" | .str => "str" | .tup => "tuple" | .lst => "list"
def K6.has : K6 → Ty → Bool
  | .int, .int => true | .bl, .int => true | .bl, .bool => true | .str, .str => true | .tup, .tup => true | .lst, .lst => true | _, _ => false
theorem K6.kit (k : K6) (t : Ty) : kitB k.nm (tyName t) = some (k.has t) := by
  cases k <;> cases t <;> decide +kernel
theorem kd_ex (d : D) (o : d.isiOk = true) : ∃ k : K6, tyS d = k.nm ∧ ∀ t : Ty, t.has d = k.has t := by
  cases d with
  | non => exact ⟨.non, rfl, fun t => by cases t <;> rfl⟩
  | bl _ => exact ⟨.bl, rfl, fun t => by cases t <;> rfl⟩
  | int _ => exact ⟨.int, rfl, fun t => by cases t <;> rfl⟩
  | str _ => exact ⟨.str, rfl, fun t => by cases t <;> rfl⟩
  | tup _ => exact ⟨.tup, rfl, fun t => by cases t <;> rfl⟩
  | lst _ => exact ⟨.lst, rfl, fun t => by cases t <;> rfl⟩
  | rol _ => cases o
  | loc _ => cases o
  | fn _ => cases o
  | dic _ _ => cases o
theorem kit_has (d : D) (t : Ty) (o : d.isiOk = true) : PySem.W.kitOne K (.type (tyS d)) (.type (tyName t)) = some (t.has d) := by
  obtain ⟨k, e1, e2⟩ := kd_ex d o
  rw [e1, e2]
  exact kit_ty (k.kit t)
theorem kit_any (d : D) (o : d.isiOk = true) : ∀ ts : List Ty, PySem.W.kitAny K (.type (tyS d)) (ts.map fun t => Value.type (tyName t)) = some (ts.any fun t => t.has d)
  | [] => rfl
  | t :: ts => by
    rw [List.map_cons, List.any_cons]
    refine kitAny_cons (kit_has d t o) (fun e => ?_) (fun e => ?_)
    · rw [e, Bool.false_or]
      exact kit_any d o ts
    · rw [e, Bool.true_or]
theorem ty_names (t : Ty) : bootBuiltins (tyName t : Str) = some (.type (tyName t)) := by cases t <;> decide +kernel
theorem pe_ty {t : Ty} {cfg : Cfg} {fns gns : List Str} (G : Good X cfg fa fns gns) {e : Expr} (h : okTy t X.env.scope e = true) : PE X e (tC (.ty (tyName t))) := by
  cases e <;> first | (cases h; done) | skip
  case Name x p =>
    have h : (decide (x = (tyName t : Str)) && glB X.env.scope x) = true := h
    rw [Bool.and_eq_true, decide_eq_true_eq] at h
    obtain ⟨e, h2⟩ := h
    subst e
    have hg : Gl X (tyName t : Str) := by
      unfold glB at h2
      show X.env.scope.names.lookup _ = _
      split at h2
      · assumption
      · cases h2
    exact pe_bltn hg (G.bl _ (by cases t <;> decide +kernel)) (ty_names t) rfl (by cases t <;> decide +kernel) (by cases t <;> decide +kernel)
theorem okTy_star {t : Ty} {sc : Scope} {e : Expr} {es : List Expr} {env : PySem.Env} (h : okTy t sc e = true) : starEach (e :: es) env = (false, eval e env) :: starEach es env := by
  cases e <;> first | (cases h; done) | rfl
theorem pa_tys {cfg : Cfg} {fns gns : List Str} (G : Good X cfg fa fns gns) : ∀ {ts : List Ty} {es : List Expr}, okTys ts X.env.scope es = true → PA X es (fun σ H Q => Q (ts.map fun t => .ty (tyName t)) H)
  | [], [], _ => pa_nil
  | [], _ :: _, h => by cases h
  | _ :: _, [], h => by cases h
  | t :: ts, e :: es, h => by
    have h : (okTy t X.env.scope e && okTys ts X.env.scope es) = true := h
    rw [Bool.and_eq_true] at h
    exact pa_cons (pe_ty G h.1) (pa_tys G h.2) (okTy_star h.1)
theorem paired_ty : ∀ ts : List Ty, Paired ClsV (ts.map fun t => V.ty (tyName t)) (ts.map fun t => Value.type (tyName t))
  | [] => .nil
  | t :: ts => .cons (.ty _) (paired_ty ts)
theorem s_isi {ts : List Ty} {cfg : Cfg} {fns gns : List Str} {p : Pos} (G : Good X cfg fa fns gns) (hg : Gl X "isinstance") (ha : PE X a (rd X.K fa ma)) (hst : ∀ r, starEach (a :: r) X.env = (false, eval a X.env) :: starEach r X.env)
    (hc : okTyA ts X.env.scope c = true) : PE X (.Call (.Name "isinstance" p) [a, c] [] pos) (rd X.K fa (fun ρ => M.bind (ma ρ) fun x => M.guard x.isiOk (M.pure (.bl (ts.any fun t => t.has x))))) := by
  have hm : X.mg "isinstance" = none := G.bl _ (by decide +kernel)
  by_cases hc2 : ∃ es k p2, c = .Tuple es k p2
  · obtain ⟨es, k, p2, rfl⟩ := hc2
    have hc : (decide (ts.length ≤ 10) && okTys ts X.env.scope es) = true := hc
    rw [Bool.and_eq_true, decide_eq_true_eq] at hc
    obtain ⟨hl, hc⟩ := hc
    refine (pe_callB (id := "isinstance") call_isiT hg hm PyProof.Rows.boot_isinstance (pa_cons ha (pa_cons (pe_tup (pa_tys G hc)) pa_nil rfl) (hst _)) (by decide +kernel) (by decide +kernel) (hst _) rfl).conv fun σ H Q h => ?_
    obtain ⟨w, ρ, S, d, S', st, hm, q⟩ := h
    obtain ⟨x, S1, h1, hm⟩ := bind_ok hm
    obtain ⟨ho, hm2⟩ := guard_ok hm
    obtain ⟨e, rfl⟩ := pure_ok hm2
    subst e
    refine ⟨w, ρ, S, x, S', st, h1, fun w1 v1 l1 k1 r1 rp1 => ?_⟩
    refine ⟨?_, fun tp hp => ?_⟩
    · rw [List.length_map, sizeLine_eq]
      omega
    · have l2 := Wd.new_le (w := w1) (p := tp) (o := .tup (ts.map fun t => V.ty (tyName t))) hp
      have k2 := Wd.new_ok (w := w1) (p := tp) (o := .tup (ts.map fun t => V.ty (tyName t))) k1 hp
      have rp2 := rp1.keep (l2.kp k1)
      exact ⟨v1, tp, _, _, _, _, rfl, upd_same, paired_ty ts, rp2.tyx ho, kit_any x ho ts, q (w1.new tp _) _ (l1.trans l2 st.ok k1) k2 (r1.new k1 hp) (.bl _)⟩
  · have h1 : ∃ t, ts = [t] ∧ okTy t X.env.scope c = true := by
      cases c <;> first | (exact absurd ⟨_, _, _, rfl⟩ hc2) | skip
      all_goals
        obtain _ | ⟨t, _ | ⟨u, r⟩⟩ := ts
        · cases hc
        · exact ⟨t, rfl, hc⟩
        · cases hc
    obtain ⟨t, rfl, ht⟩ := h1
    refine (pe_callB (id := "isinstance") call_isi hg hm PyProof.Rows.boot_isinstance (pa_cons ha (pa_cons (pe_ty G ht) pa_nil (okTy_star ht)) (hst _)) (by decide +kernel) (by decide +kernel) (hst _) ?_).conv fun σ H Q h => ?_
    · rw [okTy_star ht] <;> rfl
    obtain ⟨w, ρ, S, d, S', st, hm, q⟩ := h
    obtain ⟨x, S1, h1, hm⟩ := bind_ok hm
    obtain ⟨ho, hm2⟩ := guard_ok hm
    obtain ⟨e, rfl⟩ := pure_ok hm2
    subst e
    refine ⟨w, ρ, S, x, S', st, h1, fun w1 v1 l1 k1 r1 rp1 => ?_⟩
    refine ⟨v1, _, _, _, _, rfl, .ty _, rp1.tyx ho, kit_has x t ho, ?_⟩
    have := q w1 _ l1 k1 r1 (.bl _)
    simpa using this
end
end Ev

/-! Places, slices, comprehensions. -/
namespace Ev
open PySem PySem.Spec PyProof.Rows L2
section
variable {K : PySem.W.Frag} {fa : Fx} {X : Cx} {a b c : Expr} {ma mb mc : Env → M D} {pos : Pos}
theorem Rps.atI {w : Wd} {vs : List V} {ds : List D} {i : Int} {d : D} (h : Rps K fa w vs ds) (e : L2.atI ds i = some d) : ∃ v, L2.atI vs i = some v ∧ Rp K fa w v d := by
  unfold L2.atI at e ⊢
  rw [h.len]
  cases q : ixN ds.length i with
  | none =>
    rw [q] at e
    cases e
  | some j =>
    rw [q] at e
    obtain ⟨v, h1, h2⟩ := h.get (i := j) e
    exact ⟨v, h1, h2⟩
theorem s_idx (hu : X.A.units + 65 < cLine) (ha : PE X a (rdP X.K fa ma)) (hb : PE X b (rd X.K fa mb)) (hs : PlainIx b) : PE X (.Subscript a b pos) (rd X.K fa (fun ρ => M.bind (ma ρ) fun x => M.bind (mb ρ) fun j => idxM x j)) := by
  refine (pe_ix ((ix_list.or ix_tup).or (ix_dic (by omega))) ha hb hs).conv fun σ H Q h => ?_
  obtain ⟨w, ρ, S, d, S', st, hm, q⟩ := h
  obtain ⟨x, S1, h1, hm1⟩ := bind_ok hm
  obtain ⟨j, S2, h2, hm2⟩ := bind_ok hm1
  refine ⟨w, ρ, S, x, S1, st, h1, fun w1 v1 l1 k1 r1 rp1 => ?_⟩
  refine ⟨w1, ρ, S1, j, S2, st.next l1 k1 r1, h2, fun w2 v2 l2 k2 r2 rp2 => ?_⟩
  have l12 := l1.trans l2 st.ok k1
  have rx := rp1.mono l2 k1
  by_cases hdic : ∃ ks ds, x = .dic ks ds
  · obtain ⟨ks, ds, rfl⟩ := hdic
    obtain ⟨c, e⟩ : j.key = true ∧ M.opt (dAt2 ks ds j) S2 = .ok d S' := by
      have hm3 : (if j.key then M.opt (dAt2 ks ds j) S2 else .stk) = Res.ok d S' := hm2
      by_cases c : j.key = true
      · rw [if_pos c] at hm3
        exact ⟨c, hm3⟩
      · rw [if_neg c] at hm3
        cases hm3
    obtain ⟨e5, rfl⟩ := opt_ok e
    obtain ⟨a, xs, vs, e1, d1, h3, h4⟩ := rx.dicK
    obtain ⟨b, kk, e2, k1', m1⟩ := dic_at (a := a) (.inl rp2) c h3 h4
    rw [e5] at m1
    obtain ⟨u, u1, u2⟩ := m1
    exact .inr ⟨a, b, xs, vs, kk, u, e1, e2, d1, k1', u1, q w2 u l12 k2 r2 u2⟩
  cases x <;> cases j <;> first | (cases hm2; done) | (exact (hdic ⟨_, _, rfl⟩).elim) | skip
  case tup.int xs i =>
    obtain ⟨e, rfl⟩ := opt_ok (show M.opt (L2.atI xs i) S2 = .ok d S' from hm2)
    cases rp2
    obtain ⟨p, vs, rfl, s1, _, rr⟩ := rx.tup
    obtain ⟨v, e1, r⟩ := rr.atI e
    exact .inl (.inr ⟨p, vs, i, v, rfl, rfl, s1, e1, q w2 v l12 k2 r2 r⟩)
  case lst.int xs i =>
    obtain ⟨e, rfl⟩ := opt_ok (show M.opt (L2.atI xs i) S2 = .ok d S' from hm2)
    cases rp2
    obtain ⟨p, vs, rfl, s1, _, rr⟩ := rx.lst
    obtain ⟨v, e1, r⟩ := rr.atI e
    exact .inl (.inl ⟨p, vs, i, v, rfl, rfl, .of s1, e1, q w2 v l12 k2 r2 r⟩)
  case rol.int xs i =>
    obtain ⟨e, rfl⟩ := opt_ok (show M.opt (L2.atI xs i) S2 = .ok d S' from hm2)
    cases rp2
    obtain ⟨p, vs, rfl, s1, _, rr⟩ := rx.rol
    obtain ⟨v, e1, r⟩ := rr.atI e
    exact .inl (.inl ⟨p, vs, i, v, rfl, rfl, s1.sq, e1, q w2 v l12 k2 r2 r⟩)
  case loc.int n i =>
    have hm2 : (match S2[n]? with | some (.cell xs) => M.opt (L2.atI xs i) S2 | _ => .stk) = Res.ok d S' := hm2
    cases e0 : S2[n]? with
    | none =>
      rw [e0] at hm2
      cases hm2
    | some o =>
      cases o with
      | cell xs =>
        rw [e0] at hm2
        obtain ⟨e, rfl⟩ := opt_ok hm2
        cases rp2
        have rx := rx.val (fun _ z => nomatch z) (fun _ _ z => nomatch z)
        cases rx with
        | loc hA =>
          obtain ⟨vs, s1, _, rr⟩ := r2.at_ _ _ _ hA e0
          obtain ⟨v, e1, r⟩ := rr.atI e
          exact .inl (.inl ⟨_, vs, i, v, rfl, rfl, .of s1, e1, q w2 v l12 k2 r2 r⟩)
theorem Rps.cut {w : Wd} {vs : List V} {ds : List D} (h : Rps K fa w vs ds) (lo hi : Option Int) : Rps K fa w (cutV vs lo hi) (cut ds lo hi) := by
  unfold cutV Ev.cut
  rw [h.len]
  exact (h.drop _).take _
theorem cut_whole {α : Type} {xs : List α} {lo hi : Option Int} (h : HT.sIx xs.length 0 lo = 0 ∧ HT.sIx xs.length xs.length hi = xs.length) : cut xs lo hi = xs := by
  unfold cut
  rw [h.1, h.2, List.drop_zero, Nat.sub_zero, List.take_length]
def rSlS : V → Option Int → Option Int → Hp → VK → Prop := fun x lo hi H Q => ∃ z, x = .str z ∧ z.length ≤ sizeLine ∧ Q (.str (cutS z lo hi)) H
abbrev rSlE (K : PySem.W.Frag) : V → Option Int → Option Int → Hp → VK → Prop := fun x lo hi H Q => rSlL K x lo hi H Q ∨ (rSlA K x lo hi H Q ∨ rSlS x lo hi H Q)
theorem sl_E : SlR X (rSlE X.K) := sl_list.or (sl_tupA.or sl_str)
theorem cutS_tx (cs : List Nat) (lo hi : Option Int) : cutS (tx cs) lo hi = tx (cut cs lo hi) := by
  unfold cutS cut
  rw [tx_len]
  rfl
theorem cut_mem {α : Type} {cs : List α} {lo hi : Option Int} {x : α} (h : x ∈ cut cs lo hi) : x ∈ cs := List.mem_of_mem_drop (List.mem_of_mem_take h)
theorem cut_len {α : Type} (cs : List α) (lo hi : Option Int) : (cut cs lo hi).length ≤ cs.length := by
  unfold cut
  rw [List.length_take, List.length_drop]
  omega
theorem sll {w : Wd} {S : Sto} {x d : D} {v : V} {lo hi : Option Int} {Q : VK} (k : w.Ok) (r : SR K fa w S) (hx : RpP K fa w v x) (h : slD x lo hi = some d) (q : ∀ w' z, w.Le w' → w'.Ok → SR K fa w' S → RN K fa w w' z d → Q z w'.H) : rSlE K v lo hi w.H Q := by
  cases x <;> first | (cases h; done) | skip
  case tup xs =>
    cases (Option.some.inj h)
    obtain ⟨p, vs, rfl, s1, ll, rr⟩ := hx.tup
    refine .inr (.inl ⟨p, vs, rfl, s1, fun e => ?_, fun _ p hp => newT k r hp (Nat.le_trans (cutV_length vs lo hi) ll) (rr.cut lo hi) q⟩)
    rw [rr.len] at e
    rw [cut_whole e] at q
    exact here k r q (Rp.tup s1 ll rr)
  case lst xs =>
    cases (Option.some.inj h)
    obtain ⟨p, vs, rfl, s1, ll, rr⟩ := hx.lst
    exact .inl ⟨p, vs, rfl, .of s1, fun p hp => newL k r hp (Nat.le_trans (cutV_length vs lo hi) ll) (rr.cut lo hi) q⟩
  case str cs =>
    cases (Option.some.inj h)
    obtain ⟨e1, t1⟩ := hx.str
    refine .inr (.inr ⟨tx cs, e1, by rw [tx_len]; exact t1.len, ?_⟩)
    rw [cutS_tx]
    exact here k r q (Rp.str ⟨Nat.le_trans (cut_len cs lo hi) t1.len, fun c hc => t1.ok c (cut_mem hc)⟩)
theorem s_slN {p2 : Pos} (ha : PE X a (rdP X.K fa ma)) : PE X (.Subscript a (.Slice none none none p2) pos) (rdN X.K fa (fun ρ => M.bind (ma ρ) fun x => M.opt (slD x none none))) := by
  refine (pe_slice sl_E ha po_none po_none).conv fun σ H Q h => ?_
  obtain ⟨w, ρ, S, d, S', st, hm, q⟩ := h
  obtain ⟨x, S1, h1, hm1⟩ := bind_ok hm
  obtain ⟨e, rfl⟩ := opt_ok hm1
  exact ⟨w, ρ, S, x, S', st, h1, fun w1 v1 l1 k1 r1 rp1 => sll k1 r1 rp1 e fun w' z l k r rn => q w' z (l1.trans l st.ok k1) k r (rn.back l1 st.ok k1)⟩
theorem toI_ok {x : D} {i : Int} {w : Wd} {v : V} (h : toI x = some i) (r : Rp K fa w v x) : v = .int i := by
  cases x <;> first | (cases h; done) | (cases h; cases r; rfl)
theorem s_slL {p2 : Pos} (ha : PE X a (rdP X.K fa ma)) (hb : PE X b (rd X.K fa mb)) : PE X (.Subscript a (.Slice (some b) none none p2) pos) (rdN X.K fa (fun ρ => M.bind (ma ρ) fun x => M.bind (mb ρ) fun l => M.bind (M.opt (toI l)) fun l => M.opt (slD x (some l) none))) := by
  refine (pe_slice sl_E ha (po_some hb) po_none).conv fun σ H Q h => ?_
  obtain ⟨w, ρ, S, d, S', st, hm, q⟩ := h
  obtain ⟨x, S1, h1, hm1⟩ := bind_ok hm
  obtain ⟨l, S2, h2, hm2⟩ := bind_ok hm1
  obtain ⟨i, S3, h3, hm3⟩ := bind_ok hm2
  obtain ⟨e3, rfl⟩ := opt_ok h3
  obtain ⟨e, rfl⟩ := opt_ok hm3
  refine ⟨w, ρ, S, x, S1, st, h1, fun w1 v1 l1 k1 r1 rp1 => ?_⟩
  refine ⟨w1, ρ, S1, l, S', st.next l1 k1 r1, h2, fun w2 v2 l2 k2 r2 rp2 => ?_⟩
  have l12 := l1.trans l2 st.ok k1
  exact ⟨i, toI_ok e3 rp2, sll k2 r2 (rp1.mono l2 k1) e fun w' z l k r rn => q w' z (l12.trans l st.ok k2) k r (rn.back l12 st.ok k2)⟩
theorem s_slU {p2 : Pos} (ha : PE X a (rdP X.K fa ma)) (hb : PE X b (rd X.K fa mb)) : PE X (.Subscript a (.Slice none (some b) none p2) pos) (rdN X.K fa (fun ρ => M.bind (ma ρ) fun x => M.bind (mb ρ) fun l => M.bind (M.opt (toI l)) fun l => M.opt (slD x none (some l)))) := by
  refine (pe_slice sl_E ha po_none (po_some hb)).conv fun σ H Q h => ?_
  obtain ⟨w, ρ, S, d, S', st, hm, q⟩ := h
  obtain ⟨x, S1, h1, hm1⟩ := bind_ok hm
  obtain ⟨l, S2, h2, hm2⟩ := bind_ok hm1
  obtain ⟨i, S3, h3, hm3⟩ := bind_ok hm2
  obtain ⟨e3, rfl⟩ := opt_ok h3
  obtain ⟨e, rfl⟩ := opt_ok hm3
  refine ⟨w, ρ, S, x, S1, st, h1, fun w1 v1 l1 k1 r1 rp1 => ?_⟩
  refine ⟨w1, ρ, S1, l, S', st.next l1 k1 r1, h2, fun w2 v2 l2 k2 r2 rp2 => ?_⟩
  have l12 := l1.trans l2 st.ok k1
  exact ⟨i, toI_ok e3 rp2, sll k2 r2 (rp1.mono l2 k1) e fun w' z l k r rn => q w' z (l12.trans l st.ok k2) k r (rn.back l12 st.ok k2)⟩
theorem s_slB {p2 : Pos} (ha : PE X a (rdP X.K fa ma)) (hb : PE X b (rd X.K fa mb)) (hc : PE X c (rd X.K fa mc)) : PE X (.Subscript a (.Slice (some b) (some c) none p2) pos) (rdN X.K fa (fun ρ => M.bind (ma ρ) fun x => M.bind (mb ρ) fun l => M.bind (M.opt (toI l)) fun l => M.bind (mc ρ) fun u => M.bind (M.opt (toI u)) fun u => M.opt (slD x (some l) (some u)))) := by
  refine (pe_slice sl_E ha (po_some hb) (po_some hc)).conv fun σ H Q h => ?_
  obtain ⟨w, ρ, S, d, S', st, hm, q⟩ := h
  obtain ⟨x, S1, h1, hm1⟩ := bind_ok hm
  obtain ⟨l, S2, h2, hm2⟩ := bind_ok hm1
  obtain ⟨i, S3, h3, hm3⟩ := bind_ok hm2
  obtain ⟨e3, rfl⟩ := opt_ok h3
  obtain ⟨u, S4, h4, hm4⟩ := bind_ok hm3
  obtain ⟨j, S5, h5, hm5⟩ := bind_ok hm4
  obtain ⟨e5, rfl⟩ := opt_ok h5
  obtain ⟨e, rfl⟩ := opt_ok hm5
  refine ⟨w, ρ, S, x, S1, st, h1, fun w1 v1 l1 k1 r1 rp1 => ?_⟩
  refine ⟨w1, ρ, S1, l, S3, st.next l1 k1 r1, h2, fun w2 v2 l2 k2 r2 rp2 => ⟨i, toI_ok e3 rp2, ?_⟩⟩
  have l12 := l1.trans l2 st.ok k1
  refine ⟨w2, ρ, S3, u, S', st.next l12 k2 r2, h4, fun w3 v3 l3 k3 r3 rp3 => ⟨j, toI_ok e5 rp3, ?_⟩⟩
  have l13 := l12.trans l3 st.ok k2
  exact sll k3 r3 ((rp1.mono l2 k1).mono l3 k2) e fun w' z l k r rn => q w' z (l13.trans l st.ok k3) k r (rn.back l13 st.ok k3)
theorem s_upper {x : Str} {p apos cpos : Pos} {mm : Str} (hmm : mm = ("upper" : Str)) (hl : (apos.endLine == cpos.line) = true) (ha : PE X (.Name x p) (rd X.K fa ma)) : PE X (.Call (.Attribute (.Name x p) mm apos) [] [] cpos) (rd X.K fa (fun ρ => M.bind (ma ρ) fun x => M.opt (upD x))) := by
  subst hmm
  refine (pe_bm0 PySem.F.plainAttrs_str PySem.F.slot_str_upper PySem.F.type_str_upper mt_upper ha rfl hl).conv fun σ H Q h => ?_
  obtain ⟨w, ρ, S, d, S', st, hm, q⟩ := h
  obtain ⟨x, S1, h1, hm1⟩ := bind_ok hm
  obtain ⟨e, rfl⟩ := opt_ok hm1
  refine ⟨w, ρ, S, x, S', st, h1, fun w1 v1 l1 k1 r1 rp1 => ?_⟩
  cases x <;> first | (cases e; done) | skip
  case str cs =>
    obtain ⟨c, e⟩ := ite_someB e
    subst e
    simp only [Bool.and_eq_true, decide_eq_true_eq, List.all_eq_true] at c
    obtain ⟨⟨c1, c2⟩, c3⟩ := c
    cases rp1 with
    | str t =>
      refine ⟨rfl, tx cs, rfl, rfl, by rw [tx_len]; omega, ?_⟩
      have e2 : Txt.upper (tx cs) = tx (upper cs) := by
        unfold upper
        exact (tx_codes _).symm
      rw [e2]
      exact q w1 _ l1 k1 r1 (.str ⟨by rw [sizeLine_eq]; omega, c2⟩)

/-! ### texts taken apart, put together; places in a list -/
theorem splt_hit {c x : Nat} {cs : List Nat} (h : x = c) : splt c (x :: cs) = [] :: splt c cs := by
  show (if (x == c) = true then [] :: splt c cs else _) = _
  rw [if_pos (by simpa using h)]
theorem splt_miss {c x : Nat} {cs : List Nat} (h : ¬ x = c) : splt c (x :: cs) = (match splt c cs with | h :: t => (x :: h) :: t | [] => [[x]]) := by
  show (if (x == c) = true then [] :: splt c cs else _) = _
  rw [if_neg (by simpa using h)] <;> rfl
theorem spl_splt (c : Nat) : ∀ (cs acc : List Nat), TL.spl [c] 0 acc cs = (match splt c cs with
    | h :: t => (acc ++ h) :: t
    | [] => [acc])
  | [], acc => by
    rw [TL.spl_nil]
    simp [splt]
  | x :: cs, acc => by
    by_cases e : x = c
    · subst e
      rw [TL.spl_hit (by simp [TL.pre])]
      have ih := spl_splt x cs []
      show acc :: TL.spl [x] 0 [] cs = _
      rw [ih, splt_hit rfl]
      cases q : splt x cs with
      | nil => exact absurd q (splt_ne x cs)
      | cons h t => simp
    · rw [TL.spl_miss (by simp [TL.pre]; exact fun z => e z)]
      have ih := spl_splt c cs (acc ++ [x])
      rw [ih, splt_miss e]
      cases q : splt c cs with
      | nil => exact absurd q (splt_ne c cs)
      | cons h t => simp
where
  splt_ne (c : Nat) : ∀ cs : List Nat, splt c cs ≠ []
  | [] => fun z => by cases z
  | x :: cs => fun z => by
    unfold splt at z
    split at z
    · cases z
    · split at z <;> cases z
theorem splt_mem {c : Nat} : ∀ {cs : List Nat} {p : List Nat}, p ∈ splt c cs → ∀ x ∈ p, x ∈ cs
  | [], p, h, x, hx => by
    rw [List.mem_singleton.mp h] at hx
    cases hx
  | y :: cs, p, h, x, hx => by
    unfold splt at h
    split at h
    · rcases List.mem_cons.mp h with e | h
      · rw [e] at hx
        cases hx
      · exact List.mem_cons_of_mem _ (splt_mem h x hx)
    · split at h
      · rename_i a t q
        rcases List.mem_cons.mp h with e | h
        · rw [e] at hx
          rcases List.mem_cons.mp hx with e2 | hx
          · rw [e2]
            exact List.mem_cons_self
          · exact List.mem_cons_of_mem _ (splt_mem (p := a) (by rw [q]; exact List.mem_cons_self) x hx)
        · exact List.mem_cons_of_mem _ (splt_mem (p := p) (by rw [q]; exact List.mem_cons_of_mem _ h) x hx)
      · rw [List.mem_singleton.mp h] at hx
        rw [List.mem_singleton.mp hx]
        exact List.mem_cons_self
theorem splt_sizes (c : Nat) : ∀ cs : List Nat, (splt c cs).length ≤ cs.length + 1 ∧ ∀ p ∈ splt c cs, p.length ≤ cs.length
  | [] => ⟨Nat.le_refl _, fun p h => by rw [List.mem_singleton.mp h]; exact Nat.le_refl _⟩
  | x :: cs => by
    obtain ⟨h1, h2⟩ := splt_sizes c cs
    unfold splt
    split
    · refine ⟨by rw [List.length_cons, List.length_cons]; omega, fun p h => ?_⟩
      rcases List.mem_cons.mp h with e | h
      · rw [e]
        exact Nat.zero_le _
      · exact Nat.le_succ_of_le (h2 p h)
    · split
      · rename_i a t q
        rw [q] at h1 h2
        refine ⟨by rw [List.length_cons] at h1 ⊢; rw [List.length_cons]; omega, fun p h => ?_⟩
        rcases List.mem_cons.mp h with e | h
        · rw [e, List.length_cons, List.length_cons]
          have := h2 a List.mem_cons_self
          omega
        · exact Nat.le_succ_of_le (h2 p (List.mem_cons_of_mem _ h))
      · exact ⟨by simp, fun p h => by rw [List.mem_singleton.mp h]; simp⟩
theorem strs_rps {w : Wd} : ∀ {l : List (List Nat)}, (∀ p ∈ l, TxOk p) → Rps K fa w ((l.map tx).map V.str) (l.map D.str)
  | [], _ => .nil
  | p :: l, h => .cons (.str (h p List.mem_cons_self)) (strs_rps fun q hq => h q (List.mem_cons_of_mem _ hq))
theorem strs_of {w : Wd} : ∀ {ds : List D} {l : List (List Nat)} {vs : List V}, Rps K fa w vs ds → strsOf ds = some l → vs = (l.map tx).map V.str ∧ ∀ p ∈ l, TxOk p
  | [], l, vs, h, e => by
    cases (Option.some.inj e)
    cases h
    exact ⟨rfl, fun p hp => nomatch hp⟩
  | d :: ds, l, vs, h, e => by
    cases d <;> first | (cases e; done) | skip
    case str x =>
      have e : (match strsOf ds with | some l => some (x :: l) | none => none) = some l := e
      cases q : strsOf ds with
      | none =>
        rw [q] at e
        cases e
      | some l2 =>
        rw [q] at e
        cases (Option.some.inj e)
        cases h with
        | cons a t =>
          cases a with
          | str t1 =>
            obtain ⟨e2, h2⟩ := strs_of t q
            refine ⟨by rw [e2]; rfl, fun p hp => ?_⟩
            rcases List.mem_cons.mp hp with e3 | hp
            · rw [e3]
              exact t1
            · exact h2 p hp
theorem joinL_S (s : List Nat) : ∀ l : List (List Nat), TL.joinL s l = joinS s l
  | [] => rfl
  | [x] => rfl
  | x :: y :: r => by
    show x ++ (s ++ TL.joinL s (y :: r)) = x ++ s ++ joinS s (y :: r)
    rw [joinL_S s (y :: r), List.append_assoc]
theorem join_tx (s : List Nat) (l : List (List Nat)) : Txt.join (tx s) (l.map tx) = tx (joinS s l) := by
  have := SX.join_S s l
  rw [joinL_S] at this
  exact this
theorem join_len (s : List Nat) : ∀ l : List (List Nat), (joinS s l).length ≤ sumLen l + l.length * s.length
  | [] => Nat.zero_le _
  | [x] => by simp [joinS, sumLen]
  | x :: y :: r => by
    have ih := join_len s (y :: r)
    have e1 : sumLen (x :: y :: r) = x.length + sumLen (y :: r) := by simp [sumLen]
    have e2 : (x :: y :: r).length * s.length = (y :: r).length * s.length + s.length := by rw [List.length_cons, Nat.succ_mul]
    show (x ++ s ++ joinS s (y :: r)).length ≤ _
    rw [List.length_append, List.length_append, e1, e2]
    omega
theorem join_ok (s : List Nat) : ∀ l : List (List Nat), (∀ c ∈ s, c < 0x110000) → (∀ p ∈ l, ∀ c ∈ p, c < 0x110000) → ∀ c ∈ joinS s l, c < 0x110000
  | [], _, _, c, h => by cases h
  | [x], _, hl, c, h => hl x List.mem_cons_self c h
  | x :: y :: r, hs, hl, c, h => by
    have h : c ∈ x ++ s ++ joinS s (y :: r) := h
    rcases List.mem_append.mp h with h | h
    · rcases List.mem_append.mp h with h | h
      · exact hl x List.mem_cons_self c h
      · exact hs c h
    · exact join_ok s (y :: r) hs (fun p hp => hl p (List.mem_cons_of_mem _ hp)) c h
theorem sum_tx (l : List (List Nat)) : ((l.map tx).map (·.length)).sum = sumLen l := by
  unfold sumLen
  rw [List.map_map]
  rw [show ((fun x : Str => x.length) ∘ tx) = List.length from funext fun p => tx_len p]
theorem find_py {x : D} (hx : D.cmpb x = true) : ∀ {ys : List D} {j : Nat}, D.cmpbs ys = true → ys.findIdx? (fun y => D.eqv y x) = some j → ∃ z, (D.pys ys)[j]? = some z ∧ PyData.eqv z x.py = true ∧ ∀ (m : Nat) z', m < j → (D.pys ys)[m]? = some z' → PyData.eqv z' x.py = false
  | [], j, _, h => by cases h
  | y :: ys, j, hc, h => by
    obtain ⟨h1, h2⟩ := Bool.and_eq_true_iff.mp (show (D.cmpb y && D.cmpbs ys) = true from hc)
    rw [List.findIdx?_cons] at h
    have ey := D.py_eqv y x h1 hx
    split at h
    · rename_i e
      cases (Option.some.inj h)
      exact ⟨y.py, rfl, by rw [ey]; exact e, fun m z hm => absurd hm (Nat.not_lt_zero m)⟩
    · rename_i e
      cases q : ys.findIdx? (fun y => D.eqv y x) with
      | none =>
        rw [q] at h
        cases h
      | some i =>
        rw [q] at h
        cases (Option.some.inj h)
        obtain ⟨z, g1, g2, g3⟩ := find_py hx h2 q
        refine ⟨z, by simpa [D.pys] using g1, g2, fun m z' hm hz => ?_⟩
        cases m with
        | zero =>
          have hz : some y.py = some z' := by simpa [D.pys] using hz
          cases hz
          rw [ey]
          simpa using e
        | succ m => exact g3 m z' (Nat.lt_of_succ_lt_succ hm) (by simpa [D.pys] using hz)
theorem s_split {o : Expr} {apos cpos : Pos} (hl : (apos.endLine == cpos.line) = true) (hs : starEach [b] X.env = [(false, eval b X.env)]) (hbase : attributeBase o "split" X.env (eval o X.env) = eval o X.env) (ha : PE X o (rdP X.K fa ma)) (hb : PE X b (rdP X.K fa mb)) :
    PE X (.Call (.Attribute o "split" apos) [b] [] cpos) (rdN X.K fa (fun ρ => M.bind (ma ρ) fun x => M.bind (mb ρ) fun y => M.opt (methD .split x y))) := by
  refine (pe_split ha hb hs hbase hl).conv fun σ H Q h => ?_
  obtain ⟨w, ρ, S, d, S', st, hm, q⟩ := h
  obtain ⟨x, S1, h1, hm1⟩ := bind_ok hm
  obtain ⟨y, S2, h2, hm2⟩ := bind_ok hm1
  obtain ⟨e, rfl⟩ := opt_ok hm2
  refine ⟨w, ρ, S, x, S1, st, h1, fun w1 v1 l1 k1 r1 rp1 => ?_⟩
  cases x <;> first | (cases e; done) | skip
  case str cs =>
    obtain ⟨e1, t1⟩ := rp1.str
    refine ⟨⟨_, e1⟩, w1, ρ, S1, y, S', st.next l1 k1 r1, h2, fun w2 v2 l2 k2 r2 rp2 => ?_⟩
    have l12 := l1.trans l2 st.ok k1
    cases y <;> first | (cases e; done) | skip
    case str ds =>
      obtain _ | ⟨c, _ | ⟨c2, r⟩⟩ := ds <;> first | (cases e; done) | skip
      obtain ⟨g, e⟩ := ite_someB e
      subst e
      obtain ⟨g1, g2⟩ := Bool.and_eq_true_iff.mp g
      have g1 := of_decide_eq_true g1
      have g2 := of_decide_eq_true g2
      have e2 : Txt.split (tx cs) (tx [c]) = (splt c cs).map tx := by
        have := SX.split_S (a := cs) (b := [c]) (by simp) (by simpa using g1)
        rw [spl_splt c cs []] at this
        refine (show Txt.split (tx cs) (tx [c]) = _ from this).trans ?_
        cases q2 : splt c cs with
        | nil => exact absurd q2 (spl_splt.splt_ne c cs)
        | cons a t => rfl
      obtain ⟨z1, z2⟩ := splt_sizes c cs
      refine ⟨tx cs, tx [c], e1, by rw [rp2.str.1], by rw [tx_len]; rfl, by rw [tx_len]; exact lim_le g2, fun p hp => ?_⟩
      rw [e2]
      have hL := lim_eq
      exact newL k2 r2 hp (by rw [List.length_map, List.length_map]; have := t1.len; omega) (strs_rps fun p hp => ⟨by have := z2 p hp; have := t1.len; omega, fun x hx => t1.ok x (splt_mem hp x hx)⟩) fun w' z l k r rn => q w' z (l12.trans l st.ok k2) k r (rn.back l12 st.ok k2)
theorem s_join {o : Expr} {apos cpos : Pos} (hl : (apos.endLine == cpos.line) = true) (hs : starEach [b] X.env = [(false, eval b X.env)]) (hbase : attributeBase o "join" X.env (eval o X.env) = eval o X.env) (ha : PE X o (rdP X.K fa ma)) (hb : PE X b (rdP X.K fa mb)) :
    PE X (.Call (.Attribute o "join" apos) [b] [] cpos) (rd X.K fa (fun ρ => M.bind (ma ρ) fun x => M.bind (mb ρ) fun y => M.opt (methD .join x y))) := by
  refine (pe_join ha hb hs hbase hl).conv fun σ H Q h => ?_
  obtain ⟨w, ρ, S, d, S', st, hm, q⟩ := h
  obtain ⟨x, S1, h1, hm1⟩ := bind_ok hm
  obtain ⟨y, S2, h2, hm2⟩ := bind_ok hm1
  obtain ⟨e, rfl⟩ := opt_ok hm2
  refine ⟨w, ρ, S, x, S1, st, h1, fun w1 v1 l1 k1 r1 rp1 => ?_⟩
  cases x <;> first | (cases e; done) | skip
  case str cs =>
    obtain ⟨e1, t1⟩ := rp1.str
    refine ⟨⟨_, e1⟩, w1, ρ, S1, y, S', st.next l1 k1 r1, h2, fun w2 v2 l2 k2 r2 rp2 => ?_⟩
    have l12 := l1.trans l2 st.ok k1
    cases y <;> first | (cases e; done) | skip
    case lst ys =>
      have e : (match strsOf ys with | some l => if decide (sumLen l + l.length * cs.length ≤ LIM) = true then some (D.str (joinS cs l)) else none | none => none) = some d := e
      cases q2 : strsOf ys with
      | none =>
        rw [q2] at e
        cases e
      | some l =>
        rw [q2] at e
        obtain ⟨g, e⟩ := ite_someB e
        subst e
        have g := of_decide_eq_true g
        obtain ⟨p, vs, rfl, s1, ll, rr⟩ := rp2.lst
        obtain ⟨e3, h3⟩ := strs_of rr q2
        rw [e3] at s1
        have hj := join_len cs l
        have hL := lim_eq
        refine ⟨tx cs, p, l.map tx, e1, rfl, .inl (.of s1), by rw [sum_tx, List.length_map, tx_len]; exact g, ?_⟩
        rw [join_tx]
        exact q w2 _ l12 k2 r2 (.str ⟨by omega, join_ok cs l t1.ok fun p hp => (h3 p hp).ok⟩)
theorem s_index (hu : X.A.units + 65 < cLine) {o : Expr} {apos cpos : Pos} (hl : (apos.endLine == cpos.line) = true) (hs : starEach [b] X.env = (false, eval b X.env) :: starEach [] X.env) (hbase : attributeBase o "index" X.env (eval o X.env) = eval o X.env) (ha : PE X o (rdP X.K fa ma)) (hb : PE X b (rdP X.K fa mb)) :
    PE X (.Call (.Attribute o "index" apos) [b] [] cpos) (rd X.K fa (fun ρ => M.bind (ma ρ) fun x => M.bind (mb ρ) fun y => M.opt (methD .index x y))) := by
  refine (pe_bm PySem.F.plainAttrs_list PySem.F.slot_list_index PySem.F.type_list_index (mt_indexD hu) ha (pa_cons hb pa_nil hs) hbase (by rw [hs] <;> rfl) hl hs rfl).conv fun σ H Q h => ?_
  obtain ⟨w, ρ, S, d, S', st, hm, q⟩ := h
  obtain ⟨x, S1, h1, hm1⟩ := bind_ok hm
  obtain ⟨y, S2, h2, hm2⟩ := bind_ok hm1
  obtain ⟨e, rfl⟩ := opt_ok hm2
  refine ⟨w, ρ, S, x, S1, st, h1, fun w1 v1 l1 k1 r1 rp1 => ?_⟩
  cases x <;> first | (cases e; done) | skip
  case lst ys =>
    obtain ⟨p, vs, rfl, s1, ll, rr⟩ := rp1.lst
    refine ⟨.inl ⟨rfl, _, SqL.of s1⟩, w1, ρ, S1, y, S', st.next l1 k1 r1, h2, fun w2 v2 l2 k2 r2 rp2 => ?_⟩
    have l12 := l1.trans l2 st.ok k1
    have e : (if deepOk y ys = true then (ys.findIdx? fun z => D.eqv z y).map fun (j : Nat) => D.int (j : Int) else none) = some d := e
    by_cases c : deepOk y ys = true
    · rw [if_pos c] at e
      cases q3 : ys.findIdx? fun z => D.eqv z y with
      | none =>
        rw [q3] at e
        cases e
      | some j =>
        rw [q3] at e
        cases (Option.some.inj e)
        obtain ⟨d1, c2⟩ := Bool.and_eq_true_iff.mp c
        obtain ⟨d2, c2⟩ := Bool.and_eq_true_iff.mp c2
        obtain ⟨d3, d4⟩ := Bool.and_eq_true_iff.mp c2
        have d3 := of_decide_eq_true d3
        have d4 := of_decide_eq_true d4
        obtain ⟨a1, a2⟩ := rp2.dp d1
        obtain ⟨b1, b2⟩ := (rp1.mono l2 k1).dp (show D.cmpb (.lst ys) = true from d2)
        obtain ⟨z, g1, g2, g3⟩ := find_py d1 d2 q3
        exact ⟨p, v2, y.py, D.pys ys, j, z, rfl, rfl, b1, a1, deep_shaped (x := .lst ys) b2 (by show D.deps ys + 1 ≤ 60; omega), deep_shaped a2 (by omega), g1, g2, g3, q w2 _ l12 k2 r2 (.int _)⟩
    · rw [if_neg c] at e
      cases e
/-! ### slots -/
theorem wipe_get (ρ : Env) : ∀ (vs : List Nat) (i : Nat), (Ev.wipe ρ vs)[i]? = if i ∈ vs then (if i < ρ.length then some none else none) else ρ[i]?
  | [], i => by simp [Ev.wipe]
  | v :: vs, i => by
    have ih := wipe_get ρ vs i
    have hl : ∀ vs : List Nat, (Ev.wipe ρ vs).length = ρ.length := fun vs => by
      induction vs with
      | nil => rfl
      | cons v vs ih => unfold Ev.wipe; rw [List.length_set, ih]
    unfold Ev.wipe
    by_cases h : v = i
    · subst h
      rw [List.getElem?_set, if_pos rfl, hl]
      simp
    · rw [List.getElem?_set, if_neg h, ih]
      have : i ∈ v :: vs ↔ i ∈ vs := by simp [Ne.symm h]
      simp only [this]
theorem wipe_getS (σ : L2.St) : ∀ (vs : List Nat) (i : Nat), (L2.wipe σ vs)[i]? = if i ∈ vs then (if i < σ.length then some none else none) else σ[i]?
  | [], i => by simp [L2.wipe]
  | v :: vs, i => by
    have ih := wipe_getS σ vs i
    unfold L2.wipe
    by_cases h : v = i
    · subst h
      rw [List.getElem?_set, if_pos rfl, L2.wipe_length]
      simp
    · rw [List.getElem?_set, if_neg h, ih]
      have : i ∈ v :: vs ↔ i ∈ vs := by simp [Ne.symm h]
      simp only [this]
theorem FR.wipe {w : Wd} {σ : L2.St} {ρ : Env} (f : FR K fa w σ ρ) (vs : List Nat) : FR K fa w (L2.wipe σ vs) (Ev.wipe ρ vs) := by
  have hl : ∀ vs : List Nat, (Ev.wipe ρ vs).length = ρ.length := fun vs => by
    induction vs with
    | nil => rfl
    | cons v vs ih => unfold Ev.wipe; rw [List.length_set, ih]
  have key : ∀ (i : Nat) x, (Ev.wipe ρ vs)[i]? = some (some x) → i ∉ vs ∧ ρ[i]? = some (some x) := fun i x e => by
    rw [wipe_get] at e
    split at e
    · split at e <;> cases e
    · exact ⟨by assumption, e⟩
  have keyS : ∀ i, i ∉ vs → (L2.wipe σ vs)[i]? = σ[i]? := fun i h => by rw [wipe_getS, if_neg h]
  refine ⟨by rw [L2.wipe_length, hl, f.len], fun i d e => ?_, fun i ds e hs => ?_, fun i j ds es a e1 o1 e2 o2 e3 e4 => ?_⟩
  · obtain ⟨h1, h2⟩ := key i _ e
    rw [keyS i h1]
    exact f.val i d h2
  · obtain ⟨h1, h2⟩ := key i _ e
    rw [keyS i h1]
    exact f.own i ds h2 hs
  · obtain ⟨h1, h2⟩ := key i _ e1
    obtain ⟨h3, h4⟩ := key j _ e2
    rw [keyS i h1] at e3
    rw [keyS j h3] at e4
    exact f.dis i j ds es a h2 o1 h4 o2 e3 e4
/-- all slots but these stand -/
def Eqx (vs : List Nat) (σ σ' : L2.St) (ρ ρ' : Env) : Prop := σ'.length = σ.length ∧ ρ'.length = ρ.length ∧ (∀ i : Nat, i ∉ vs → σ'[i]? = σ[i]? ∧ ρ'[i]? = ρ[i]?) ∧ ∀ (i : Nat) sv, ρ'[i]? = some (some sv) → sv.isOwn = true → ρ[i]? = some (some sv) ∧ σ'[i]? = σ[i]?
theorem Eqx.refl (vs : List Nat) (σ : L2.St) (ρ : Env) : Eqx vs σ σ ρ ρ := ⟨rfl, rfl, fun _ _ => ⟨rfl, rfl⟩, fun _ _ e _ => ⟨e, rfl⟩⟩
theorem Eqx.trans {vs : List Nat} {σ σ1 σ2 : L2.St} {ρ ρ1 ρ2 : Env} (a : Eqx vs σ σ1 ρ ρ1) (b : Eqx vs σ1 σ2 ρ1 ρ2) : Eqx vs σ σ2 ρ ρ2 :=
  ⟨b.1.trans a.1, b.2.1.trans a.2.1, fun i h => ⟨(b.2.2.1 i h).1.trans (a.2.2.1 i h).1, (b.2.2.1 i h).2.trans (a.2.2.1 i h).2⟩, fun i ds e o => by
    obtain ⟨e1, e2⟩ := b.2.2.2 i ds e o
    obtain ⟨e3, e4⟩ := a.2.2.2 i ds e1 o
    exact ⟨e3, e2.trans e4⟩⟩
theorem Eqx.wipe {vs : List Nat} {σ σ' : L2.St} {ρ ρ' : Env} (h : Eqx vs σ σ' ρ ρ') : L2.wipe σ' vs = L2.wipe σ vs := by
  apply List.ext_getElem?
  intro i
  rw [wipe_getS, wipe_getS, h.1]
  split
  · rfl
  · exact (h.2.2.1 i (by assumption)).1
/-- a name gets a value -/
theorem FR.set {w : Wd} {σ : L2.St} {ρ : Env} {i : Nat} {v : V} {d : D} (f : FR K fa w σ ρ) (hi : i < σ.length) (r : Rp K fa w v d) : FR K fa w (σ.set i (some v)) (ρ.set i (some (.val d))) := by
  have hl := f.len
  have key : ∀ (j : Nat) sv, (ρ.set i (some (.val d)))[j]? = some (some sv) → sv.isOwn = true → i ≠ j ∧ ρ[j]? = some (some sv) := fun j sv h o => by
    rw [List.getElem?_set] at h
    by_cases hj : i = j
    · rw [if_pos hj] at h
      split at h
      · cases h
        cases o
      · cases h
    · rw [if_neg hj] at h
      exact ⟨hj, h⟩
  have keyS : ∀ j, i ≠ j → (σ.set i (some v))[j]? = σ[j]? := fun j hj => by rw [List.getElem?_set, if_neg hj]
  refine ⟨by rw [List.length_set, List.length_set, hl], fun j e h => ?_, fun j sv h o => ?_, fun j k s1 s2 a e1 o1 e2 o2 e3 e4 => ?_⟩
  · rw [List.getElem?_set] at h
    by_cases hj : i = j
    · subst hj
      rw [if_pos rfl, if_pos (by omega)] at h
      cases h
      exact ⟨v, by rw [List.getElem?_set, if_pos rfl, if_pos hi], r⟩
    · rw [if_neg hj] at h
      rw [List.getElem?_set, if_neg hj]
      exact f.val j e h
  · obtain ⟨hj, h⟩ := key j sv h o
    rw [keyS j hj]
    exact f.own j sv h o
  · obtain ⟨hj, h1⟩ := key j _ e1 o1
    obtain ⟨hk, h2⟩ := key k _ e2 o2
    rw [keyS j hj] at e3
    rw [keyS k hk] at e4
    exact f.dis j k s1 s2 a h1 o1 h2 o2 e3 e4
theorem Eqx.set {vs : List Nat} {i : Nat} (hi : i ∈ vs) (σ : L2.St) (ρ : Env) (v : V) (d : D) : Eqx vs σ (σ.set i (some v)) ρ (ρ.set i (some (.val d))) := by
  refine ⟨List.length_set .., List.length_set .., fun j h => ?_, fun j sv e o => ?_⟩
  · have : i ≠ j := fun z => h (z ▸ hi)
    rw [List.getElem?_set, if_neg this, List.getElem?_set, if_neg this]
    exact ⟨rfl, rfl⟩
  · rw [List.getElem?_set] at e
    by_cases hj : i = j
    · subst hj
      rw [if_pos rfl] at e
      split at e
      · cases e
        cases o
      · cases e
    · rw [if_neg hj] at e
      rw [List.getElem?_set, if_neg hj]
      exact ⟨e, rfl⟩

/-! ### targets -/
def gT (K : PySem.W.Frag) (fa : Fx) (vs : List Nat) (t : Tg) : TG := fun v σ H Q => ∃ (w : Wd) (ρ : Env) (d : D) (ρ' : Env), w.H = H ∧ w.Ok ∧ FR K fa w σ ρ ∧ Rp K fa w v d ∧ bindT t d ρ = some ρ' ∧ ∀ σ', FR K fa w σ' ρ' → Eqx vs σ σ' ρ ρ' → Q σ' H
def gTs (K : PySem.W.Frag) (fa : Fx) (vs : List Nat) (ts : Tgs) : TGs := fun us σ H Q => ∃ (w : Wd) (ρ : Env) (ds : List D) (ρ' : Env), w.H = H ∧ w.Ok ∧ FR K fa w σ ρ ∧ Rps K fa w us ds ∧ bindTs ts ds ρ = some ρ' ∧ ∀ σ', FR K fa w σ' ρ' → Eqx vs σ σ' ρ ρ' → Q σ' H
theorem _root_.L2.PG.conv {X : Cx} {e : Expr} {t t' : TG} (h : PG X e t) (c : ∀ (v : V) (σ : L2.St) (H : Hp) (Q : L2.St → Hp → Prop), t' v σ H Q → t v σ H Q) : PG X e t' := ⟨fun pins s σ H v u Q I r q => h.run pins s σ H v u Q I r (c v σ H Q q)⟩
theorem _root_.L2.PGs.conv {X : Cx} {e : List Expr} {t t' : TGs} (h : PGs X e t) (c : ∀ (v : List V) (σ : L2.St) (H : Hp) (Q : L2.St → Hp → Prop), t' v σ H Q → t v σ H Q) : PGs X e t' := ⟨fun pins s σ H v u Q I r q => h.run pins s σ H v u Q I r (c v σ H Q q)⟩
theorem lcB_ok {X : Cx} {cb : Bool} {x : Str} (h : lcB cb X.env.scope x = true) (hfn : cb = true → ∀ x, X.fn x = true) : Loc X.env.scope x ∧ (X.fn x = true ∨ X.env.scope.names.lookup x = some .local) := by
  rcases Bool.or_eq_true_iff.mp (show (locB X.env.scope x || (cb && celB X.env.scope x)) = true from h) with h | h
  · unfold locB at h
    split at h
    · exact ⟨.inl (by assumption), .inr (by assumption)⟩
    · cases h
  · obtain ⟨h1, h2⟩ := Bool.and_eq_true_iff.mp h
    unfold celB at h2
    split at h2
    · exact ⟨.inr (by assumption), .inl (hfn h1 x)⟩
    · cases h2
theorem tg_star {N : List Str} {c : Bool} {vs : List Nat} {t : Tg} {sc : Scope} {e : Expr} {es : List Expr} {env : PySem.Env} (h : okTg N c vs t sc e = true) : assignEach (e :: es) env = (false, assign e env) :: assignEach es env := by
  cases t <;> cases e <;> first | (cases h; done) | rfl
mutual
theorem s_tg {cb : Bool} {vs : List Nat} (hN : X.N.Nodup) (hc : X.calm = true) (hfn : cb = true → ∀ x, X.fn x = true) : ∀ (t : Tg) (e : Expr), okTg X.N cb vs t X.env.scope e = true → PG X e (gT X.K fa vs t)
  | .nm i, .Name x p, h => by
    have h : (decide (X.N[i]? = some x) && (lcB cb X.env.scope x && decide (i ∈ vs))) = true := h
    rw [Bool.and_eq_true, Bool.and_eq_true, decide_eq_true_eq, decide_eq_true_eq] at h
    obtain ⟨h1, h2, h3⟩ := h
    obtain ⟨hl, hf⟩ := lcB_ok h2 hfn
    refine ⟨fun pins s σ H v u Q I r hq => (pg_name hN h1 hl hf).run pins s σ H v u Q I r ?_⟩
    obtain ⟨w, ρ, d, ρ', e, k, f, rp, hb, q⟩ := hq
    cases (Option.some.inj hb)
    have hi : i < σ.length := by
      rw [I.len]
      exact (List.getElem?_eq_some_iff.mp h1).1
    exact q _ (f.set hi rp) (Eqx.set h3 σ ρ v d)
  | .tp ts, .Tuple es k p, h => by
    have h : okTgs X.N cb vs ts X.env.scope es = true := h
    have hst : ∀ {ts : Tgs} {es : List Expr}, okTgs X.N cb vs ts X.env.scope es = true → (assignEach es X.env).length = es.length ∧ (assignEach es X.env).findIdx? (·.1) = none := fun {ts es} => by
      induction es generalizing ts with
      | nil => intro _; exact ⟨rfl, rfl⟩
      | cons e es ih =>
        intro h
        cases ts with
        | nil => cases h
        | cons t ts =>
          have h : (okTg X.N cb vs t X.env.scope e && okTgs X.N cb vs ts X.env.scope es) = true := h
          rw [Bool.and_eq_true] at h
          obtain ⟨i1, i2⟩ := ih h.2
          rw [tg_star h.1]
          refine ⟨by rw [List.length_cons, List.length_cons, i1], ?_⟩
          rw [List.findIdx?_cons]
          simp [i2]
    obtain ⟨a1, a2⟩ := hst h
    refine (pg_tup (n := es.length) hc (s_tgs hN hc hfn ts es h) a1 a2).conv fun v σ H Q hq => ?_
    obtain ⟨w, ρ, d, ρ', e, k, f, rp, hb, q⟩ := hq
    cases d <;> first | (cases hb; done) | skip
    case tup xs =>
      cases rp with
      | tup s1 ll rr =>
        rw [← e]
        refine ⟨_, _, rfl, s1, ?_, w, ρ, xs, ρ', rfl, k, f, rr, hb, by rw [e]; exact q⟩
        rw [rr.len]
        have : ∀ {ts : Tgs} {es : List Expr} {xs : List D} {ρ ρ' : Env}, okTgs X.N cb vs ts X.env.scope es = true → bindTs ts xs ρ = some ρ' → xs.length = es.length := fun {ts es xs ρ ρ'} => by
          induction es generalizing ts xs ρ with
          | nil =>
            intro h1 h2
            cases ts with
            | nil =>
              cases xs with
              | nil => rfl
              | cons _ _ => cases h2
            | cons _ _ => cases h1
          | cons e es ih =>
            intro h1 h2
            cases ts with
            | nil => cases h1
            | cons t ts =>
              cases xs with
              | nil => cases h2
              | cons x xs =>
                have h1 : (okTg X.N cb vs t X.env.scope e && okTgs X.N cb vs ts X.env.scope es) = true := h1
                rw [Bool.and_eq_true] at h1
                have h2 : (match bindT t x ρ with | some ρ' => bindTs ts xs ρ' | none => none) = some ρ' := h2
                cases q : bindT t x ρ with
                | none =>
                  rw [q] at h2
                  cases h2
                | some ρ1 =>
                  rw [q] at h2
                  rw [List.length_cons, List.length_cons, ih h1.2 h2]
        exact this h hb
  | .nm _, .BoolOp _ _ _, h | .nm _, .NamedExpr _ _ _, h | .nm _, .BinOp _ _ _ _, h | .nm _, .UnaryOp _ _ _, h | .nm _, .Lambda _ _ _ _, h | .nm _, .IfExp _ _ _ _, h | .nm _, .Dict _ _ _, h | .nm _, .Set _ _ _, h | .nm _, .ListComp _ _ _ _, h | .nm _, .SetComp _ _ _ _, h | .nm _, .DictComp _ _ _ _ _, h | .nm _, .GeneratorExp _ _ _ _, h | .nm _, .Await _ _, h | .nm _, .Yield _ _, h | .nm _, .YieldFrom _ _, h | .nm _, .Compare _ _ _ _, h | .nm _, .Call _ _ _ _, h | .nm _, .FormattedValue _ _ _ _, h | .nm _, .JoinedStr _ _, h | .nm _, .Constant _ _ _, h | .nm _, .Attribute _ _ _, h | .nm _, .Subscript _ _ _, h | .nm _, .Starred _ _, h | .nm _, .List _ _, h | .nm _, .Tuple _ _ _, h | .nm _, .Slice _ _ _ _, h => by cases h
  | .tp _, .BoolOp _ _ _, h | .tp _, .NamedExpr _ _ _, h | .tp _, .BinOp _ _ _ _, h | .tp _, .UnaryOp _ _ _, h | .tp _, .Lambda _ _ _ _, h | .tp _, .IfExp _ _ _ _, h | .tp _, .Dict _ _ _, h | .tp _, .Set _ _ _, h | .tp _, .ListComp _ _ _ _, h | .tp _, .SetComp _ _ _ _, h | .tp _, .DictComp _ _ _ _ _, h | .tp _, .GeneratorExp _ _ _ _, h | .tp _, .Await _ _, h | .tp _, .Yield _ _, h | .tp _, .YieldFrom _ _, h | .tp _, .Compare _ _ _ _, h | .tp _, .Call _ _ _ _, h | .tp _, .FormattedValue _ _ _ _, h | .tp _, .JoinedStr _ _, h | .tp _, .Constant _ _ _, h | .tp _, .Attribute _ _ _, h | .tp _, .Subscript _ _ _, h | .tp _, .Starred _ _, h | .tp _, .Name _ _, h | .tp _, .List _ _, h | .tp _, .Slice _ _ _ _, h => by cases h
theorem s_tgs {cb : Bool} {vs : List Nat} (hN : X.N.Nodup) (hc : X.calm = true) (hfn : cb = true → ∀ x, X.fn x = true) : ∀ (ts : Tgs) (es : List Expr), okTgs X.N cb vs ts X.env.scope es = true → PGs X es (gTs X.K fa vs ts)
  | .nil, [], _ => by
    refine pgs_nil.conv fun us σ H Q hq => ?_
    obtain ⟨w, ρ, ds, ρ', e, k, f, rp, hb, q⟩ := hq
    cases ds with
    | nil =>
      cases rp
      cases (Option.some.inj hb)
      exact ⟨rfl, q σ f (Eqx.refl _ _ _)⟩
    | cons _ _ => cases hb
  | .nil, _ :: _, h => by cases h
  | .cons _ _, [], h => by cases h
  | .cons t ts, e :: es, h => by
    have h : (okTg X.N cb vs t X.env.scope e && okTgs X.N cb vs ts X.env.scope es) = true := h
    rw [Bool.and_eq_true] at h
    refine (pgs_cons (s_tg hN hc hfn t e h.1) (s_tgs hN hc hfn ts es h.2) (by rw [tg_star h.1] <;> rfl)).conv fun us σ H Q hq => ?_
    obtain ⟨w, ρ, ds, ρ', e, k, f, rp, hb, q⟩ := hq
    cases ds with
    | nil => cases hb
    | cons x xs =>
      have hb : (match bindT t x ρ with | some ρ' => bindTs ts xs ρ' | none => none) = some ρ' := hb
      cases q1 : bindT t x ρ with
      | none =>
        rw [q1] at hb
        cases hb
      | some ρ1 =>
        rw [q1] at hb
        cases rp with
        | cons r1 r2 => exact ⟨_, _, rfl, w, ρ, x, ρ1, e, k, f, r1, q1, fun σ1 f1 x1 => ⟨w, ρ1, xs, ρ', e, k, f1, r2, hb, fun σ2 f2 x2 => q σ2 f2 (x1.trans x2)⟩⟩
end
end
end Ev

/-! What is walked; comprehensions; every expression. -/
namespace Ev
open PySem PySem.Spec PyProof.Rows L2
/-- the keys of a dict that is locked -/
def ItN (d : Addr) (o : Obj) (xs : List (NestedKey × Addr)) (vs : List V) : It :=
  ⟨fun i H => H d = some (.frz o (.ext (Dn d xs vs))) ∧ i < xs.length, fun i H x H' => H' = H ∧ ∃ p, xs[i]? = some p ∧ x = .ref p.2, fun i H => H d = some (.frz o (.ext (Dn d xs vs))) ∧ xs.length ≤ i⟩
section
variable {X : Cx} {pins : List (Addr × Obj)} {σ : L2.St} {s : Shared} {H : Hp} {d : Addr} {o : Obj} {xs : List (NestedKey × Addr)} {vs : List V}
/-- the locked dict's entries -/
theorem frzN (I : Inv X pins σ H s) (h : H d = some (.frz o (.ext (Dn d xs vs)))) : (d == sysModules) = false ∧ s.heap.get? d = some o ∧ ∃ es ep, o.ExactDict ∧ o.data = .dict es ep ∧ es.size = xs.length ∧ ∀ i (hi : i < es.size), ∃ p, xs[i]? = some p ∧ es[i].key = .ref p.2 := by
  obtain ⟨h1, ⟨g0, us, g1, g2, g3, o', es, ep, e, g4, g5, g6⟩, _⟩ := I.hok d _ h
  rw [h1] at e
  cases e
  have g6 := g6 X.prog X.w
  have hz : es.size = xs.length := by
    have := congrArg List.length g6
    rw [List.length_map] at this
    unfold z3 at this
    rw [List.length_zipWith, g2, Nat.min_self] at this
    rw [g2, ← this]
    simp
  refine ⟨g0, h1, es, ep, g4, g5, hz, fun i hi => ?_⟩
  have e1 : es.toList[i]? = ((z3 xs us).map (entryOfKey (nestedKind X.prog X.w)))[i]? := by rw [g6]
  have e2 : es.toList[i]? = some es[i] := by simp [hi]
  rw [e2, List.getElem?_map] at e1
  cases q : (z3 xs us)[i]? with
  | none =>
    rw [q] at e1
    cases e1
  | some p =>
    rw [q] at e1
    have e1 := Option.some.inj e1
    exact ⟨(p.1, p.2.1), z3_get q, by rw [e1]; rfl⟩
theorem turn_keysN {P : Program} {w : World} {K : PySem.W.Frag} {tg : Expr} {es : Array DictEntry} {ep : Nat} (it : Addr) (hod : o.data = .dict es ep) : Turn P w K tg (ItN d o xs vs) [it] it (fun i h => h.IsKeyIter it d i xs.length ep) where
  mem := by simp
  obj := fun i h st b hb => by
    have e : b = it := by simpa using hb
    subst e
    obtain ⟨oi, e, c, dd⟩ := st
    exact ⟨oi, e, fun v z => by rw [dd] at z; cases z⟩
  keep := fun i h h' st k => st.at fun oi e => k it (by simp) oi e
  item := by
    intro X hP hw hK hc i pins s σ H E I hf st hg
    subst hP hw hK
    obtain ⟨hd, hi⟩ := hg
    obtain ⟨f0, f1, f2, f3, f4, f5⟩ := hf it (by simp)
    obtain ⟨hs, hgd, es', ep', hx, hdt, hsz, kv⟩ := frzN I hd
    rw [hod] at hdt
    cases hdt
    obtain ⟨p, hp, ek⟩ := kv i (by omega)
    rw [← hsz] at st
    refine wpAny_pyNext_keys_item_raw st ⟨o, hgd, hx, hod⟩ (by omega) fun h' st' sb => ?_
    have I1 : Inv X pins σ H { s with heap := h' } := I.turned (t' := s.toks) (fun b ob hb e => (sb.2 b hb).trans e) f0 f1 f3 f4 f5
    obtain ⟨oi, e, c, dd⟩ := id st'
    rw [ek]
    refine ⟨.ref p.2, rfl, go_of (s := { s with heap := h' }) e c dd (by decide) ⟨.ref p.2, H, I1, rfl, ⟨rfl, p, hp, rfl⟩, ?_, fun b hb => (hf b hb).1⟩⟩
    rw [← hsz]
    exact st'
  done := by
    intro X hP hw hK hc i pins s σ H E I hf st hg
    subst hP hw hK
    obtain ⟨hd, hi⟩ := hg
    obtain ⟨f0, f1, f2, f3, f4, f5⟩ := hf it (by simp)
    obtain ⟨hs, hgd, es', ep', hx, hdt, hsz, kv⟩ := frzN I hd
    rw [hod] at hdt
    cases hdt
    rw [← hsz] at st
    exact wpAny_pyNext_keys_end_raw (I.ok.hd hc) st ⟨o, hgd, hx, hod⟩ (by omega) fun h' eb => ⟨rfl, I.turned (t' := s.toks) (fun b ob hb e => eb b ob hb e) f0 f1 f3 f4 f5⟩
  self := fun A i s Q E st h => wpAny_pyIter_keyiter st h
end
/-! ### sources -/
inductive Src (K : PySem.W.Frag) (w : Wd) : It → List V → Prop
  | lst {a : Addr} {vs : List V} : w.H a = some (.lst vs) → a ∉ w.A → Src K w (Itl K a) vs
  | tup {a : Addr} {vs : List V} : SqT K w.H a vs → Src K w (Itt K a) vs
  | dic {a : Addr} {o : Obj} {xs : List (NestedKey × Addr)} {us : List V} : w.H a = some (.frz o (.ext (Dn a xs us))) → Src K w (ItN a o xs us) (xs.map fun p => V.ref p.2)
  | rng (n : Nat) : Src K w (Itr 0 n) ((List.range n).map fun (k : Nat) => V.int (k : Int))
  | rng2 (lo : Int) (n : Nat) : Src K w (Itr lo n) ((List.range n).map fun (k : Nat) => V.int (lo + (k : Int)))
  | sgn (cs : List Nat) : Src K w (Its (tx cs)) (cs.map fun c => V.str ⟨#[c]⟩)
section
variable {K : PySem.W.Frag} {fa : Fx} {w w' : Wd} {J : It} {vs : List V}
theorem Src.mono (s : Src K w J vs) (l : w.Le w') (k : w.Ok) : Src K w' J vs := by
  cases s with
  | lst h n => exact .lst (l.h _ _ h n) (l.nA h n)
  | tup h => exact .tup ((l.kp k).sqt h)
  | dic h => exact .dic ((l.kp k).frz _ _ _ h)
  | rng n => exact .rng n
  | rng2 lo n => exact .rng2 lo n
  | sgn cs => exact .sgn cs
theorem Src.go (s : Src K w J vs) {i : Nat} (h : i < vs.length) : J.go i w.H := by
  cases s with
  | lst e n => exact ⟨vs, vs[i], .of e, List.getElem?_eq_getElem h⟩
  | tup e => exact ⟨vs, vs[i], e, List.getElem?_eq_getElem h⟩
  | dic e => exact ⟨e, by simpa using h⟩
  | rng n =>
    show i < n
    simpa using h
  | rng2 lo n =>
    show i < n
    simpa using h
  | sgn cs =>
    show i < (tx cs).cps.size
    simpa [tx] using h
theorem Src.stop (s : Src K w J vs) {i : Nat} (h : vs.length ≤ i) : J.stop i w.H := by
  cases s with
  | lst e n => exact ⟨vs, .of e, h⟩
  | tup e => exact ⟨vs, e, h⟩
  | dic e => exact ⟨e, by simpa using h⟩
  | rng n =>
    show n ≤ i
    simpa using h
  | rng2 lo n =>
    show n ≤ i
    simpa using h
  | sgn cs =>
    show (tx cs).cps.size ≤ i
    simpa [tx] using h
theorem Src.yld (s : Src K w J vs) {i : Nat} {x : V} {H' : Hp} (y : J.yld i w.H x H') (hi : i < vs.length) : H' = w.H ∧ vs[i]? = some x := by
  cases s with
  | lst e n => exact ⟨y.1, y.2 _ (.of e)⟩
  | tup e => exact ⟨y.1, y.2 _ e⟩
  | dic e =>
    obtain ⟨e1, p, e2, e3⟩ := y
    refine ⟨e1, ?_⟩
    rw [List.getElem?_map, e2, e3]
    rfl
  | rng n =>
    obtain ⟨e1, e2⟩ := y
    refine ⟨e1, ?_⟩
    have hn : i < n := by simpa using hi
    rw [e2, List.getElem?_map, List.getElem?_range hn, Int.zero_add]
    rfl
  | rng2 lo n =>
    obtain ⟨e1, e2⟩ := y
    refine ⟨e1, ?_⟩
    have hn : i < n := by simpa using hi
    rw [e2, List.getElem?_map, List.getElem?_range hn]
    rfl
  | sgn cs =>
    obtain ⟨e1, c, e2, e3⟩ := y
    refine ⟨e1, ?_⟩
    have e4 : cs[i]? = some c := by simpa [tx] using e2
    rw [e3, List.getElem?_map, e4]
    rfl
end
def rdI (K : PySem.W.Frag) (fa : Fx) (m : Env → M (List D)) : TI := fun σ H R => ∃ w ρ S ds S', Sit K fa w H σ ρ S ∧ m ρ S = .ok ds S' ∧ ∀ w' J vs, w.Le w' → w'.Ok → SR K fa w' S' → Rps K fa w' vs ds → Src K w' J vs → R J w'.H
theorem _root_.L2.PI.conv {X : Cx} {tg e : Expr} {t t' : TI} (h : PI X tg e t) (c : ∀ (σ : L2.St) (H : Hp) (R : It → Hp → Prop), t' σ H R → t σ H R) : PI X tg e t' := ⟨fun pins s σ H R I q => h.run pins s σ H R I (c σ H R q)⟩
section
variable {K : PySem.W.Frag} {fa : Fx} {X : Cx} {a b c : Expr} {ma mb mc : Env → M D} {pos : Pos}
def iSeq (K : PySem.W.Frag) (tl : TE) : TI := fun σ H R => tl σ H fun x H1 => (∃ a xs, x = .ref a ∧ SqL K H1 a xs ∧ R (Itl K a) H1) ∨ (∃ a xs, x = .ref a ∧ SqT K H1 a xs ∧ R (Itt K a) H1) ∨ (∃ a o xs vs, x = .ref a ∧ H1 a = some (.frz o (.ext (Dn a xs vs))) ∧ R (ItN a o xs vs) H1) ∨ ∃ z, x = .str z ∧ R (Its z) H1
theorem pi_seq {tg l : Expr} {tl : TE} (hl : PE X l tl) : PI X tg l (iSeq X.K tl) := by
  refine ⟨fun pins s σ H R I h => ?_⟩
  refine thn (hl.run pins s σ H _ I h) fun v s1 ⟨x, H1, I1, r1, q1⟩ => ?_
  rcases q1 with ⟨a, xs, e, hq, q⟩ | ⟨a, xs, e, hq, q⟩ | ⟨a, o, xs, vs, e, hq, q⟩ | ⟨z, e, q⟩
  · subst e
    cases r1
    obtain ⟨its, rv, p, hz⟩ := I1.list hq
    refine wpAny_pyIter_list p.isList ?_
    refine ⟨s1.heap.objs.size, [s1.heap.objs.size], _, _, H1, rfl, I1.kept (t' := s1.toks) fun b o e => Heap.get?_push_of_some _ e, turn_list a _, ⟨_, Heap.get?_push_size _ rfl, rfl, rfl⟩, fun b hb => ?_, q⟩
    have e : b = s1.heap.objs.size := by simpa using hb
    subst e
    exact I1.fpOk (Nat.le_refl _) (I1.hok.fresh (Nat.le_refl _))
  · subst e
    cases r1
    obtain ⟨its, rv, p, hz⟩ := I1.tuple hq
    refine wpAny_pyIter_tuple (show s1.heap.IsTuple a its.toArray from p) ?_
    refine ⟨s1.heap.objs.size, [s1.heap.objs.size], _, _, H1, rfl, I1.kept (t' := s1.toks) fun b o e => Heap.get?_push_of_some _ e, turn_tuple a _, ⟨_, Heap.get?_push_size _ rfl, rfl, rfl⟩, fun b hb => ?_, q⟩
    have e : b = s1.heap.objs.size := by simpa using hb
    subst e
    exact I1.fpOk (Nat.le_refl _) (I1.hok.fresh (Nat.le_refl _))
  · subst e
    cases r1
    obtain ⟨hs, hgd, es, ep, hx, hdt, hsz, kv⟩ := frzN I1 hq
    refine wpAny_pyIter_dict_raw hs ⟨o, hgd, hx, hdt⟩ (pi_one (tk := s1.toks) I1 _ (turn_keysN _ hdt) ⟨_, Heap.get?_push_size _ rfl, rfl, ?_⟩ q)
    rw [hsz] <;> rfl
  · subst e
    obtain ⟨t, rfl⟩ := r1
    cases ha : z.cps.all (· < 128)
    · exact wpAny_pyIter_wide ha (pi_one (tk := s1.toks) I1 _ (turn_str _ z t "str_iterator" (.inr rfl)) ⟨_, Heap.get?_push_size _ rfl, rfl, rfl⟩ q)
    · exact wpAny_pyIter_ascii ha (pi_one (tk := s1.toks) I1 _ (turn_str _ z t "str_ascii_iterator" (.inl rfl)) ⟨_, Heap.get?_push_size _ rfl, rfl, rfl⟩ q)
theorem sgn_rps {K : PySem.W.Frag} {fa : Fx} {w : Wd} : ∀ {cs : List Nat}, (∀ c ∈ cs, c < 0x110000) → Rps K fa w (cs.map fun c => V.str ⟨#[c]⟩) (cs.map fun c => D.str [c])
  | [], _ => .nil
  | c :: cs, h => .cons (.str (cs := [c]) ⟨by rw [sizeLine_eq]; show 1 ≤ 16777216; decide, fun x hx => by rw [List.mem_singleton.mp hx]; exact h c List.mem_cons_self⟩) (sgn_rps fun x hx => h x (List.mem_cons_of_mem _ hx))
theorem RpP.nA {w : Wd} {v : V} {ds : List D} (k : w.Ok) (r : RpP K fa w v (.lst ds)) : ∃ a vs, v = .ref a ∧ w.H a = some (.lst vs) ∧ a ∉ w.A ∧ vs.length ≤ sizeLine ∧ Rps K fa w vs ds := by
  rcases r with r | ⟨a, vs, es, e1, e2, h1, h2, h3, h4⟩ | ⟨a, xs, vs, ks, es, e1, e2, _⟩
  · cases r with
    | lst a b c e => exact ⟨_, _, rfl, a, fun m => k.cf _ m b, c, e⟩
  · cases e2
    exact ⟨a, vs, e1, h1, h2, h3, h4⟩
  · cases e2
/-- what is walked: no dict of one's own -/
abbrev rdL (K : PySem.W.Frag) (fa : Fx) (m : Env → M D) : TE := rdG K fa (fun _ w' v d => RpP K fa w' v d ∧ ∀ ks ds, d = .dic ks ds → Rp K fa w' v d) m
theorem i_seq {tg : Expr} (ha : PE X a (rdL X.K fa ma)) : PI X tg a (rdI X.K fa (fun ρ => M.bind (ma ρ) fun x => M.opt (itemsD x))) := by
  refine (pi_seq ha).conv fun σ H R h => ?_
  obtain ⟨w, ρ, S, ds, S', st, hm, q⟩ := h
  obtain ⟨x, S1, h1, hm1⟩ := bind_ok hm
  obtain ⟨e, rfl⟩ := opt_ok hm1
  refine ⟨w, ρ, S, x, S', st, h1, fun w1 v1 l1 k1 r1 ⟨rp1, rpd⟩ => ?_⟩
  cases x <;> first | (cases e; done) | skip
  case tup xs =>
    cases (Option.some.inj e)
    obtain ⟨p, vs, rfl, s1, _, rr⟩ := rp1.tup
    exact .inr (.inl ⟨p, vs, rfl, s1, q w1 _ vs l1 k1 r1 rr (.tup s1)⟩)
  case lst xs =>
    cases (Option.some.inj e)
    obtain ⟨p, vs, rfl, s1, na, _, rr⟩ := rp1.nA k1
    exact .inl ⟨p, vs, rfl, .of s1, q w1 _ vs l1 k1 r1 rr (.lst s1 na)⟩
  case dic ks ds =>
    cases (Option.some.inj e)
    have rr := rpd _ _ rfl
    cases rr with
    | dic a b c e => exact .inr (.inr (.inl ⟨_, _, _, _, rfl, a, q w1 _ _ l1 k1 r1 c.refs (.dic a)⟩))
  case str cs =>
    cases (Option.some.inj e)
    obtain ⟨e1, t1⟩ := rp1.str
    exact .inr (.inr (.inr ⟨_, e1, q w1 _ _ l1 k1 r1 (sgn_rps t1.ok) (.sgn _)⟩))
theorem rng_rps {w : Wd} (j : Int) : Rps K fa w ((List.range j.toNat).map fun (k : Nat) => V.int (k : Int)) (rngD j) := by
  unfold rngD
  generalize List.range j.toNat = l
  induction l with
  | nil => exact .nil
  | cons x l ih => exact .cons (.int _) ih
theorem i_rng {tg : Expr} {p : Pos} {cfg : Cfg} {fns gns : List Str} (G : Good X cfg fa fns gns) (hg : Gl X "range") (ha : PE X a (rd X.K fa ma)) (hst : starEach [a] X.env = [(false, eval a X.env)]) : PI X tg (.Call (.Name "range" p) [a] [] pos) (rdI X.K fa (fun ρ => M.bind (ma ρ) fun x => M.opt (rngO x))) := by
  refine (pi_range1 hg (G.bl _ (by decide +kernel)) (pa_cons ha pa_nil hst) hst).conv fun σ H R h => ?_
  obtain ⟨w, ρ, S, ds, S', st, hm, q⟩ := h
  obtain ⟨x, S1, h1, hm1⟩ := bind_ok hm
  obtain ⟨e, rfl⟩ := opt_ok hm1
  refine ⟨w, ρ, S, x, S', st, h1, fun w1 v1 l1 k1 r1 rp1 => ?_⟩
  cases x <;> first | (cases e; done) | skip
  case int j =>
    obtain ⟨c, e⟩ := ite_someB e
    subst e
    simp only [Bool.and_eq_true, decide_eq_true_eq] at c
    cases rp1
    exact ⟨j, rfl, by omega, by omega, q w1 _ _ l1 k1 r1 (rng_rps j) (.rng _)⟩

theorem rng_rps2 {w : Wd} (i j : Int) : Rps K fa w ((List.range (j - i).toNat).map fun (k : Nat) => V.int (i + (k : Int))) (rngD2 i j) := by
  unfold rngD2
  generalize List.range (j - i).toNat = l
  induction l with
  | nil => exact .nil
  | cons x l ih => exact .cons (.int _) ih
theorem i_rng2 {tg : Expr} {p : Pos} {cfg : Cfg} {fns gns : List Str} (G : Good X cfg fa fns gns) (hg : Gl X "range") (ha : PE X a (rd X.K fa ma)) (hb : PE X b (rd X.K fa mb)) (hst : ∀ r, starEach (a :: r) X.env = (false, eval a X.env) :: starEach r X.env) (hst2 : starEach [b] X.env = [(false, eval b X.env)]) :
    PI X tg (.Call (.Name "range" p) [a, b] [] pos) (rdI X.K fa (fun ρ => M.bind (ma ρ) fun x => M.bind (mb ρ) fun y => M.opt (rngO2 x y))) := by
  refine (pi_range2 hg (G.bl _ (by decide +kernel)) (pa_cons ha (pa_cons hb pa_nil hst2) (hst [b])) (by rw [hst [b], hst2]) hst2).conv fun σ H R h => ?_
  obtain ⟨w, ρ, S, ds, S', st, hm, q⟩ := h
  obtain ⟨x, S1, h1, hm1⟩ := bind_ok hm
  obtain ⟨y, S2, h2, hm2⟩ := bind_ok hm1
  obtain ⟨e, rfl⟩ := opt_ok hm2
  refine ⟨w, ρ, S, x, S1, st, h1, fun w1 v1 l1 k1 r1 rp1 => ?_⟩
  refine ⟨w1, ρ, S1, y, S', st.next l1 k1 r1, h2, fun w2 v2 l2 k2 r2 rp2 => ?_⟩
  cases x <;> cases y <;> first | (cases e; done) | skip
  case int.int i j =>
    obtain ⟨c, e⟩ := ite_someB e
    subst e
    simp only [Bool.and_eq_true, decide_eq_true_eq] at c
    cases rp1
    cases rp2
    exact ⟨i, j, rfl, ⟨by omega, by omega, by omega, by omega⟩, q w2 _ _ (l1.trans l2 st.ok k1) k2 r2 (rng_rps2 i j) (.rng2 _ _)⟩
/-! ### comprehensions -/
theorem mapF_cons {c : D → M Bool} {f : D → M D} {x : D} {xs ys : List D} {S S' : Sto} (h : mapF' c f (x :: xs) S = .ok ys S') :
    ∃ k S1, c x S = .ok k S1 ∧ ((k = false ∧ mapF' c f xs S1 = .ok ys S') ∨ (k = true ∧ ∃ y S2 zs, f x S1 = .ok y S2 ∧ mapF' c f xs S2 = .ok zs S' ∧ ys = y :: zs)) := by
  unfold mapF' at h
  cases q : c x S with
  | stk =>
    rw [q] at h
    cases h
  | ok k S1 =>
    rw [q] at h
    refine ⟨k, S1, rfl, ?_⟩
    cases k with
    | false => exact .inl ⟨rfl, h⟩
    | true =>
      right
      refine ⟨rfl, ?_⟩
      have h : (match f x S1 with | .stk => Res.stk | .ok y S2 => (match mapF' c f xs S2 with | .stk => Res.stk | .ok ys S3 => Res.ok (y :: ys) S3)) = .ok ys S' := h
      cases q2 : f x S1 with
      | stk =>
        rw [q2] at h
        cases h
      | ok y S2 =>
        rw [q2] at h
        have h : (match mapF' c f xs S2 with | .stk => Res.stk | .ok ys S3 => Res.ok (y :: ys) S3) = .ok ys S' := h
        cases q3 : mapF' c f xs S2 with
        | stk =>
          rw [q3] at h
          cases h
        | ok zs S3 =>
          rw [q3] at h
          cases h
          exact ⟨y, S2, zs, rfl, q3, rfl⟩
theorem lcf_read {vs : List Nat} {t : Tg} {mi : Env → M (List D)} {mc : Env → M Bool} {me : Env → M D} {σ : L2.St} {H : Hp} {Q : VK}
    (h : rdN X.K fa (fun ρ => M.bind (mi ρ) fun xs => M.guard (decide (xs.length ≤ LIM)) (M.bind (mapF' (fun d => M.bind (M.opt (bindT t d (Ev.wipe ρ vs))) fun ρ' => mc ρ') (fun d => M.bind (M.opt (bindT t d (Ev.wipe ρ vs))) fun ρ' => me ρ') xs) fun ys => M.pure (.lst ys))) σ H Q) :
    tLc (rdI X.K fa mi) (gT X.K fa vs t) (rdT X.K fa mc) (rd X.K fa me) vs σ H Q := by
  obtain ⟨w, ρ, S, d, S', st, hm, q⟩ := h
  obtain ⟨xs, S1, h1, hm1⟩ := bind_ok hm
  obtain ⟨hl, hm2⟩ := guard_ok hm1
  have hl := of_decide_eq_true hl
  obtain ⟨ys, S2, h2, hm3⟩ := bind_ok hm2
  obtain ⟨e, e3⟩ := pure_ok hm3
  subst e e3
  refine ⟨w, ρ, S, xs, S1, st, h1, fun w1 J us l1 k1 r1 rr src D0 hD => ?_⟩
  have hlen := rr.len
  have f1 := (st.fr.mono l1 st.ok).wipe vs
  -- the loop's word
  refine ⟨fun i m H => m = us.length - i ∧ i ≤ us.length ∧ ∃ (wi : Wd) (Si : Sto) (acc : List V) (dn rs : List D), wi.H = H ∧ w1.Le wi ∧ wi.Ok ∧ SR X.K fa wi Si ∧ wi.H D0 = some (.lst acc) ∧ ¬ wi.F D0 ∧ D0 ∉ wi.A ∧ acc.length ≤ i ∧ Rps X.K fa wi acc dn ∧
    mapF' (fun d => M.bind (M.opt (bindT t d (Ev.wipe ρ vs))) fun ρ' => mc ρ') (fun d => M.bind (M.opt (bindT t d (Ev.wipe ρ vs))) fun ρ' => me ρ') (xs.drop i) Si = .ok rs S' ∧ ys = dn ++ rs, ⟨us.length, by simp, Nat.zero_le _, ?_⟩, ?_⟩
  · obtain ⟨nf, na⟩ := new_free k1 hD
    exact ⟨w1.new D0 (.lst []), S1, [], [], ys, rfl, Wd.new_le hD, Wd.new_ok k1 hD, r1.new k1 hD, upd_same, nf, na, Nat.le_refl _, .nil, by rw [List.drop_zero]; exact h2, by simp⟩
  · rintro i m H ⟨rfl, hi', wi, Si, acc, dn, rs, rfl, li, ki, ri, eD, nfD, naD, hacc, racc, hmap, hys⟩
    have srci := src.mono li k1
    by_cases hlt : i < us.length
    · right
      refine ⟨srci.go hlt, fun H' => ∃ m', m' < us.length - i ∧ (m' = us.length - (i + 1) ∧ i + 1 ≤ us.length ∧ ∃ (wi : Wd) (Si : Sto) (acc : List V) (dn rs : List D), wi.H = H' ∧ w1.Le wi ∧ wi.Ok ∧ SR X.K fa wi Si ∧ wi.H D0 = some (.lst acc) ∧ ¬ wi.F D0 ∧ D0 ∉ wi.A ∧ acc.length ≤ i + 1 ∧ Rps X.K fa wi acc dn ∧
        mapF' (fun d => M.bind (M.opt (bindT t d (Ev.wipe ρ vs))) fun ρ' => mc ρ') (fun d => M.bind (M.opt (bindT t d (Ev.wipe ρ vs))) fun ρ' => me ρ') (xs.drop (i + 1)) Si = .ok rs S' ∧ ys = dn ++ rs), fun H' ⟨m', h1, h2⟩ => ⟨m', h1, h2⟩, fun x H' y => ?_⟩
      obtain ⟨rfl, hx⟩ := srci.yld y hlt
      obtain ⟨dx, hdx, rx⟩ := (rr.keep (li.kp k1)).getV hx
      have hxi : i < xs.length := by rw [← hlen]; exact hlt
      have ed : xs.drop i = dx :: xs.drop (i + 1) := by
        rw [List.drop_eq_getElem_cons hxi]
        rw [List.getElem?_eq_getElem hxi] at hdx
        rw [Option.some.inj hdx]
      rw [ed] at hmap
      obtain ⟨k, Sc, hk, alt⟩ := mapF_cons hmap
      obtain ⟨ρ', Sb, hb, hk2⟩ := bind_ok hk
      obtain ⟨eb, rfl⟩ := opt_ok hb
      have fi := f1.mono li k1
      refine ⟨wi, Ev.wipe ρ vs, dx, ρ', rfl, ki, fi, rx, eb, fun σ2 f2 x2 => ⟨?_, ?_⟩⟩
      · rw [x2.wipe]
        apply List.ext_getElem?
        intro j
        rw [wipe_getS, wipe_getS, L2.wipe_length]
        split
        · rfl
        · rfl
      · refine ⟨wi, ρ', Sb, k, Sc, ⟨rfl, ki, f2, ri⟩, hk2, fun w3 l3 k3 r3 => ?_⟩
        have l13 := li.trans l3 k1 ki
        have eD3 := l3.h _ _ eD naD
        have nfD3 := l3.nF eD nfD
        have naD3 := l3.nA eD naD
        rcases alt with ⟨rfl, hrest⟩ | ⟨rfl, yv, Sy, zs, hf, hrest, ezs⟩
        · refine iteF ?_
          exact ⟨us.length - (i + 1), by omega, rfl, hlt, w3, Sc, acc, dn, rs, rfl, l13, k3, r3, eD3, nfD3, naD3, by omega, racc.keep (l3.kp ki), hrest, hys⟩
        · refine iteT ?_
          obtain ⟨ρ2, Sb2, hb2, hf2⟩ := bind_ok hf
          obtain ⟨eb2, rfl⟩ := opt_ok hb2
          rw [eb] at eb2
          cases (Option.some.inj eb2)
          refine ⟨w3, ρ', Sb2, yv, Sy, ⟨rfl, k3, f2.mono l3 ki, r3⟩, hf2, fun w4 v4 l4 k4 r4 rp4 => ?_⟩
          have eD4 := l4.h _ _ eD3 naD3
          have nfD4 := l4.nF eD3 nfD3
          have naD4 := l4.nA eD3 naD3
          have hz : acc.length < sizeLine := by have hL : LIM = 16777216 := rfl; rw [sizeLine_eq]; omega
          refine ⟨acc, eD4, hz, us.length - (i + 1), by omega, rfl, hlt, w4.put D0 (acc ++ [v4]), Sy, acc ++ [v4], dn ++ [yv], zs, rfl, put_le (l13.trans l4 k1 k3) hD, put_ok k4 eD4 nfD4, put_sr r4 eD4 nfD4 naD4, upd_same, nfD4, naD4, by rw [List.length_append, List.length_singleton]; omega, ?_, hrest, by rw [hys, ezs, List.append_assoc]; rfl⟩
          exact (((racc.keep (l3.kp ki)).keep (l4.kp k3)).snoc rp4).keep (put_kp eD4 nfD4)
    · left
      have hn : i = us.length := by omega
      refine ⟨srci.stop (by omega), ?_⟩
      have hd : xs.drop i = [] := List.drop_eq_nil_of_le (by omega)
      rw [hd] at hmap
      have hmap : Res.ok ([] : List D) Si = Res.ok rs S' := hmap
      cases hmap
      rw [List.append_nil] at hys
      subst hys
      refine q wi (.ref D0) (l1.trans li st.ok k1) ki ri ⟨D0, acc, rfl, l1.free st.ok k1 hD, eD, nfD, naD, ?_, racc⟩
      have hL : LIM = 16777216 := rfl
      rw [sizeLine_eq]
      omega
theorem s_lcf {elt tg iter : Expr} {ifs : List Expr} {scope : Scope} {vs : List Nat} {t : Tg} {mi : Env → M (List D)} {mc : Env → M Bool} {me : Env → M D} (hN : X.N.Nodup) (hc : X.calm = true) (ok : BlkOk X.N X.env.scope scope (ownOf X.N vs)) (hi : PI X tg iter (rdI X.K fa mi))
    (hg : ∀ (s : Shared) (H : Hp) (C : Addr) (cl : List (Str × Addr)) (fp : List Addr), PG (X.blk s H scope (compEnvC scope cl C X.env) fp) tg (gT X.K fa vs t))
    (ht : ∀ (s : Shared) (H : Hp) (C : Addr) (cl : List (Str × Addr)) (fp : List Addr), PTs (X.blk s H scope (compEnvC scope cl C X.env) fp) ifs (rdT X.K fa mc))
    (he : ∀ (s : Shared) (H : Hp) (C : Addr) (cl : List (Str × Addr)) (fp : List Addr), PE (X.blk s H scope (compEnvC scope cl C X.env) fp) elt (rd X.K fa me)) (hs : ∀ x, foldedSetIterable iter X.env x = pure x) :
    PE X (.ListComp elt [⟨tg, iter, ifs, 0⟩] scope pos) (rdN X.K fa (fun ρ => M.bind (mi ρ) fun xs => M.guard (decide (xs.length ≤ LIM)) (M.bind (mapF' (fun d => M.bind (M.opt (bindT t d (Ev.wipe ρ vs))) fun ρ' => mc ρ') (fun d => M.bind (M.opt (bindT t d (Ev.wipe ρ vs))) fun ρ' => me ρ') xs) fun ys => M.pure (.lst ys)))) := by
  refine (pe_lc hc hN hi ok hg ht he hs).conv fun σ H Q h => ?_
  rw [ownOf_snd]
  exact lcf_read h
end
end Ev

/-! A lambda handed to the law's def: what is told. -/
namespace Ev
open PySem PySem.Spec PyProof.Rows L2
theorem kText_tx : ∀ c, c < 10 → Hx.kText c = tx (kTx c) := by decide +kernel
theorem kTx_ok : ∀ c, c < 10 → (kTx c).length ≤ 100 ∧ (kTx c).all (fun x => decide (x < 128)) = true := by decide +kernel
theorem kTx_tx {c : Nat} (h : c < 10) : TxOk (kTx c) := by
  obtain ⟨h1, h2⟩ := kTx_ok c h
  refine ⟨by rw [sizeLine_eq]; omega, fun x hx => ?_⟩
  have := of_decide_eq_true (List.all_eq_true.mp h2 x hx)
  omega
def Wd.onH (w : Wd) (H : Hp) : Wd := { w with H := H }
section
variable {K : PySem.W.Frag} {fa : Fx} {w : Wd} {S : Sto} {H1 : Hp}
/-- all stands as it was, tables aside -/
theorem onH_le {P : Addr} {q : Str} (e : Hx.Grown P q w.H H1) : w.Le (w.onH H1) := by
  refine ⟨fun _ h => h, fun _ h => .inl h, ⟨[], by simp [Wd.onH], fun _ h => nomatch h⟩, fun b o h _ nt => e.ext b o h nt, fun b ps h => ?_⟩
  rcases e with e | ⟨qs, qs', c, hP, hc, e⟩
  · exact ⟨ps, by show H1 b = _; rw [e]; exact h⟩
  · show ∃ ps', H1 b = _
    rw [e, upd_ne (ne_of_none h hc)]
    by_cases z : b = P
    · rw [z]
      exact ⟨_, upd_same⟩
    · exact ⟨ps, (upd_ne z).trans h⟩
theorem onH_ok (e : LamX.ExtN w.H H1) (k : w.Ok) : (w.onH H1).Ok := by
  refine ⟨fun a f => ?_, fun a m => ?_, k.cf, k.nd⟩
  · obtain ⟨vs, h⟩ := k.fz a f
    exact ⟨vs, e _ _ h (fun ps z => by cases z)⟩
  · obtain ⟨vs, h⟩ := k.ce a m
    exact ⟨vs, e _ _ h (fun ps z => by cases z)⟩
theorem onH_kp (e : LamX.ExtN w.H H1) : Kp w (w.onH H1) :=
  ⟨fun b xs h => e b _ h (fun ps z => by cases z), fun b o u h => e b _ h (fun ps z => by cases z), fun b xs f h => ⟨f, e b _ h (fun ps z => by cases z)⟩, fun n a h => h⟩
theorem onH_sr (e : LamX.ExtN w.H H1) (t : LamX.Tabs fa.T H1) (r : SR K fa w S) : SR K fa (w.onH H1) S := by
  refine ⟨r.len, fun n a ob e1 e2 => ?_, t⟩
  have q := r.at_ n a ob e1 e2
  cases ob with
  | cell ds =>
    obtain ⟨vs, h1, h2, h3⟩ := q
    exact ⟨vs, e _ _ h1 (fun ps z => by cases z), h2, h3.keep (onH_kp e)⟩
/-- all stands as it was -/
theorem onE_le (e : ∀ b o, w.H b = some o → H1 b = some o) : w.Le (w.onH H1) :=
  ⟨fun _ h => h, fun _ h => .inl h, ⟨[], by simp [Wd.onH], fun _ h => nomatch h⟩, fun b o h _ _ => e b o h, fun b ps h => ⟨ps, e b _ h⟩⟩
end
/-- a call that may hand on an error -/
def rdX (K : PySem.W.Frag) (fa : Fx) (EX : XK) (m : Env → M RV) : TE := fun σ H Q => ∃ w ρ S r S', Sit K fa w H σ ρ S ∧ m ρ S = .ok r S' ∧ (∀ w' v, w.Le w' → w'.Ok → SR K fa w' S' → RR K fa w w' v r → Q v w'.H) ∧
  ∀ c d, r = .exc c d → ∀ w' cls dd, w.Le w' → w'.Ok → SR K fa w' S' → XR K w' c d cls dd → EX cls dd w'.H
section
variable {cfg : Cfg} {fa : Fx} {fns gns : List Str} {X : Cx} {EX : XK}
theorem s_callX {f : Nat} {g : Str} {y : Expr} {ys : List Expr} {p2 p : Pos} {ms : Env → M (List D)} (tk : L2N.Takes X (fun cls d _ H => EX cls d H)) (G : Good X cfg fa fns gns) (hf : fns[f]? = some g) (hg : glB X.env.scope g = true) (hn : nmB g = true)
    (hs : PA X (y :: ys) (rdA X.K fa (Rp X.K fa) ms)) (st1 : starEach (y :: ys) X.env = (false, eval y X.env) :: starEach ys X.env) (st2 : (backTo p (starEach ys X.env)).any (·.1) = false) (n1 : (g == ("__debug__" : Str)) = false) (gl : Gl X g) :
    PE X (.Call (.Name g p2) (y :: ys) [] p) (rdX X.K fa EX (fun ρ => M.bind (ms ρ) fun xs => cfg.C f xs)) := by
  obtain ⟨fd, ps, k, hr, hk, hb, F⟩ := G.fn f g hf
  have hm := G.fnv f g hf
  refine (pe_callS F hr gl hm hk hb (fun σ => L2N.passAt tk σ) hs n1 st1 st2).conv fun σ H Q hq => ?_
  obtain ⟨w, ρ, S, r, S', st, hm, q, qe⟩ := hq
  obtain ⟨xs, S1, h1, hm⟩ := bind_ok hm
  refine ⟨w, ρ, S, xs, S1, st, h1, fun w1 vs l1 k1 r1 rp1 => ?_⟩
  exact ⟨w1, S1, xs, r, S', rfl, k1, r1, Rps.of_paired rp1, hm, fun w' v l k rr rn => q w' v (l1.trans l st.ok k1) k rr (rn.back l1 st.ok k1),
    fun c d e w' cls dd l k rr xr => qe c d e w' cls dd (l1.trans l st.ok k1) k rr xr⟩
/-- the callee stands in a slot -/
theorem s_callXV {i : Nat} {g : Str} {y : Expr} {ys : List Expr} {p2 p : Pos} {ms : Env → M (List D)} (tk : L2N.Takes X (fun cls d _ H => EX cls d H)) (G : Good X cfg fa fns gns) (hi : X.N[i]? = some g) (hv : Vis X.env.scope g)
    (hs : PA X (y :: ys) (rdA X.K fa (Rp X.K fa) ms)) (st1 : starEach (y :: ys) X.env = (false, eval y X.env) :: starEach ys X.env) (st2 : (backTo p (starEach ys X.env)).any (·.1) = false) (n1 : (g == ("__debug__" : Str)) = false) (n2 : (g == ("__classdict__" : Str)) = false) :
    PE X (.Call (.Name g p2) (y :: ys) [] p) (rdX X.K fa EX (fun ρ => M.bind (M.opt ((getV ρ i).bind fnD)) fun f => M.bind (ms ρ) fun xs => cfg.C f xs)) := by
  refine ⟨fun pins s σ H Q I hq => ?_⟩
  obtain ⟨w, ρ, S, r, S', st, hm0, q, qe⟩ := hq
  obtain ⟨f, S0, h0, hm1⟩ := bind_ok hm0
  obtain ⟨e0, e00⟩ := opt_ok h0
  subst e00
  obtain ⟨xs, S1, h1, hm⟩ := bind_ok hm1
  obtain ⟨d, hd, hfd⟩ : ∃ d, ρ[i]? = some (some (.val d)) ∧ fnD d = some f := by
    unfold getV at e0
    split at e0
    · rename_i d' hd'
      exact ⟨d', hd', e0⟩
    · cases e0
  cases d <;> first | (cases hfd; done) | skip
  cases (Option.some.inj hfd)
  obtain ⟨v, hv1, hv2⟩ := st.fr.val i _ hd
  cases hv2
  by_cases hlt : f < fns.length
  · obtain ⟨fd, ps, k, hr, hk, hb, F⟩ := G.fn f _ (List.getElem?_eq_getElem hlt)
    have look := (pe_var (pos := p2) hi hv n1 n2).run pins s σ H (fun v H1 => v = .ref (fa f) ∧ H1 = H) I ⟨_, hv1, rfl, rfl⟩
    refine wpAny_Call_Name_kw (thn look fun u s1 ⟨v, H1, I1, r1, ev, eH⟩ => ?_)
    subst ev
    subst eH
    obtain rfl : u = Value.ref (fa f) := r1
    refine PySem.W.callWith_K (h₀ := X.base) I1.ok.mod.kin hk (thn (hs.run p pins s1 σ H1 (fun vs H2 => spC X.K fa (cfg.C f) vs H2 Q EX) I1 ⟨w, ρ, S0, xs, S1, st, h1, fun w1 vs l1 k1 rr1 rp1 => ?_⟩) fun us s2 ⟨vs, H2, I2, rv, q2⟩ => ⟨I2.kIn, ?_⟩) st1 st2
    · exact ⟨w1, S1, xs, r, S', rfl, k1, rr1, Rps.of_paired rp1, hm, fun w' v l k rr rn => q w' v (l1.trans l st.ok k1) k rr (rn.back l1 st.ok k1), fun c d e w' cls dd l k rr xr => qe c d e w' cls dd (l1.trans l st.ok k1) k rr xr⟩
    · have q3 : spC X.K fa (cfg.C f) (vs ++ []) H2 Q EX := by rw [List.append_nil]; exact q2
      exact run_fn F hr hb .nil (L2N.passes_call tk fun _ _ _ _ h => h) I2 rv q3
  · rw [G.big f (by omega)] at hm
    cases hm
theorem room_le {k : Nat} {A : Around} (h : L2.Room (k + 2) A) : L2.Room 2 A := h.mono (by omega)
theorem s_tell {mE : Env → M RV} {p lpos pos : Pos} {params : Arguments} {scope : Scope} {body : Expr} (G : Good X cfg fa fns gns) (hg : Gl X "_law_call") (hL : lamB X.env.scope scope params = true)
    (hbody : ∀ (Y : Cx) (E : XK), Good Y cfg fa fns gns → Y.K = X.K → Y.env.scope = scope → Y.N = X.N → L2N.Takes Y (fun cls d _ H => E cls d H) → PE Y body (rdX X.K fa E mE)) :
    PE X (.Call (.Name "_law_call" p) [.Lambda params body scope lpos] [] pos) (rd X.K fa (fun ρ => M.bind (mE ρ) fun r => M.opt (toldD r))) := by
  refine ⟨fun pins s σ H Q I hq => ?_⟩
  obtain ⟨w, ρ, S, d, S', st, hm, q⟩ := hq
  obtain ⟨r, S1, h1, hm1⟩ := bind_ok hm
  obtain ⟨ht, rfl⟩ := opt_ok hm1
  obtain ⟨k, c, P, g, LE, pg, bg, sg, dV, kV, doc, pm, cdv, ct, oc, an, od, osl, hr, lfn, hcode, TB, hmT, hu, hmg, hk, lk, hcg, hb, Sg, hva, gv, errs, err2⟩ := (G.lam hg).ex
  have hH := st.h
  subst hH
  obtain ⟨b1, m1⟩ := Bool.and_eq_true_iff.mp hL
  obtain ⟨b2', m1⟩ := Bool.and_eq_true_iff.mp m1
  obtain ⟨po, as, va, ko, kd, kw, df⟩ := params
  obtain ⟨n1, m1⟩ := Bool.and_eq_true_iff.mp m1
  obtain ⟨n2, m1⟩ := Bool.and_eq_true_iff.mp m1
  obtain ⟨n3, m1⟩ := Bool.and_eq_true_iff.mp m1
  obtain ⟨n4, m1⟩ := Bool.and_eq_true_iff.mp m1
  obtain ⟨n5, m1⟩ := Bool.and_eq_true_iff.mp m1
  obtain ⟨n6, n7⟩ := Bool.and_eq_true_iff.mp m1
  cases po <;> first | (cases n1; done) | skip
  cases as <;> first | (cases n2; done) | skip
  cases va <;> first | (cases n3; done) | skip
  cases ko <;> first | (cases n4; done) | skip
  cases kd <;> first | (cases n5; done) | skip
  cases kw <;> first | (cases n6; done) | skip
  cases df <;> first | (cases n7; done) | skip
  have L := LamX.lamS_by b1
  refine Hx.lamcallN (T := fa.T) (TT := Hx.TTc X.K LE) (k := k) (t := fun E => rdX X.K fa E mE) hg hmg hk lk hcg hb Sg rfl hva (gv X rfl rfl rfl rfl rfl (room_le hr) _) TB hcode hmT hu hr L rfl (fun q cl pm cv ctv => by rfl) (fun A outer s2 H2 E f c' hr2 => ?_) I st.sr.tb (fun H1 gr tb1 => ?_)
  · have GY : Good (Hx.lamN X A outer s2 H2 E scope f c') cfg fa fns gns := ⟨G.nd, rfl, by have := hr2.un; show (A.deeper (LamX.lamEnv X scope s2.heap.objs.size f c')).units + 65 < cLine; omega, G.bl, G.glo, G.fnv, G.big, fun z => absurd z (noTell_ok b2'), fun f2 x hx => by
      obtain ⟨fd, ps, a1, a2, a3⟩ := lfn f2 x hx
      exact ⟨fd, ps, k, hr2, a1, a2, a3⟩⟩
    exact hbody _ E GY rfl rfl rfl Hx.lamN_takes
  · have ex := gr.ext
    have le1 := onH_le gr
    refine ⟨w.onH H1, ρ, S, r, S', ⟨rfl, onH_ok ex st.ok, st.fr.mono le1 st.ok, onH_sr ex tb1 st.sr⟩, h1, fun w' v l' k' r' rr => ⟨by rw [sizeLine_eq]; decide, fun pA hp => ?_⟩, fun e d' er w' cls dd l' k' r' xr => ?_⟩
    · have ok1 := onH_ok ex st.ok
      have told : ∀ (w2 : Wd) (v2 : V) (d2 : D), w.Le w2 → w2.Ok → SR X.K fa w2 S' → Rp X.K fa w2 v2 d2 → w2.H = w'.H → v2 = v → d = .tup [.str [116, 111, 108, 100], d2] → Q (.ref pA) (upd w'.H pA (.tup [.str "told", v])) := fun w2 v2 d2 l2 k2 r2 rp eH ev ed => by
        subst ev
        have hp2 : w2.H pA = none := by rw [eH]; exact hp
        rw [← eH]
        have nl := Wd.new_le (w := w2) (p := pA) (o := .tup [.str "told", v2]) hp2
        have nk := Wd.new_ok (w := w2) (p := pA) (o := .tup [.str "told", v2]) k2 hp2
        refine q (w2.new pA (.tup [.str "told", v2])) (.ref pA) (l2.trans nl st.ok k2) nk (r2.new k2 hp2) ?_
        rw [ed]
        have e1 : (V.str "told") = V.str (tx [116, 111, 108, 100]) := by decide +kernel
        refine .tup (.of upd_same) (by rw [sizeLine_eq]; show 2 ≤ 16777216; decide) (.cons ?_ (.cons (rp.keep (nl.kp k2)) .nil))
        rw [e1]
        exact .str ⟨by rw [sizeLine_eq]; decide, by decide⟩
      have lw := le1.trans l' st.ok ok1
      cases r with
      | val d2 =>
        cases (Option.some.inj ht)
        exact told w' v d2 lw k' r' rr rfl rfl rfl
      | own ds =>
        cases (Option.some.inj ht)
        obtain ⟨w2, l2, k2, r2, rp, e2⟩ := Fresh.fix (show Fresh X.K fa (w.onH H1) w' v ds from rr) l' k' r'
        exact told w2 v (.lst ds) (le1.trans l2 st.ok ok1) k2 r2 rp e2 rfl rfl
      | dic kvs => cases ht
      | exc e d2 => exact (show False from rr).elim
    · subst er
      obtain ⟨e1, e2⟩ := xr
      have ok1 := onH_ok ex st.ok
      have lw := le1.trans l' st.ok ok1
      rcases e2 with ⟨e2, e3⟩ | ⟨i, dA, e2, e3, hdA⟩
      · subst e1
        subst e2
        subst e3
        have ht : (if (decide (e < 10) && (!(e == 5) && !(e == 8))) = true then some (D.tup [.str (kTx e)]) else none) = some d := ht
        obtain ⟨tb, ed⟩ := ite_someB ht
        obtain ⟨g1, g2⟩ := errs e tb
        have lt := of_decide_eq_true (Bool.and_eq_true_iff.mp tb).1
        refine .inl ⟨e, rfl, rfl, g1, g2, fun H2 ext2 pA hp => ?_⟩
        have ext3 : LamX.ExtN w'.H H2 := fun b o h _ => ext2 b o h
        have k2 := onH_ok ext3 k'
        have l2 := lw.trans (onE_le ext2) st.ok k'
        have r2 := onH_sr ext3 (r'.tb.ext ext2) r'
        have nl := Wd.new_le (w := w'.onH H2) (p := pA) (o := .tup [.str (Hx.kText e)]) hp
        have nk := Wd.new_ok (w := w'.onH H2) (p := pA) (o := .tup [.str (Hx.kText e)]) k2 hp
        refine q ((w'.onH H2).new pA (.tup [.str (Hx.kText e)])) (.ref pA) (l2.trans nl st.ok k2) nk (r2.new k2 hp) ?_
        rw [← ed]
        refine .tup (.of upd_same) (by rw [sizeLine_eq]; show 1 ≤ 16777216; decide) (.cons ?_ .nil)
        rw [kText_tx e lt]
        exact .str (kTx_tx lt)
      · subst e1
        subst e2
        subst e3
        have ht : (if (e == 5 || e == 8) = true then some (D.tup [.str (kTx e), .int i]) else none) = some d := ht
        obtain ⟨tb, ed⟩ := ite_someB ht
        have h58 : e = 5 ∨ e = 8 := by simpa using tb
        obtain ⟨g1, g2⟩ := err2 e h58
        have lt : e < 10 := by rcases h58 with z | z <;> rw [z] <;> decide
        refine .inr ⟨e, i, dA, h58, rfl, rfl, g1, g2, hdA, fun H2 ext2 pA hp => ?_⟩
        have ext3 : LamX.ExtN w'.H H2 := fun b o h _ => ext2 b o h
        have k2 := onH_ok ext3 k'
        have l2 := lw.trans (onE_le ext2) st.ok k'
        have r2 := onH_sr ext3 (r'.tb.ext ext2) r'
        have nl := Wd.new_le (w := w'.onH H2) (p := pA) (o := .tup [.str (Hx.kText e), .int i]) hp
        have nk := Wd.new_ok (w := w'.onH H2) (p := pA) (o := .tup [.str (Hx.kText e), .int i]) k2 hp
        refine q ((w'.onH H2).new pA (.tup [.str (Hx.kText e), .int i])) (.ref pA) (l2.trans nl st.ok k2) nk (r2.new k2 hp) ?_
        rw [← ed]
        refine .tup (.of upd_same) (by rw [sizeLine_eq]; show 2 ≤ 16777216; decide) (.cons ?_ (.cons (.int i) .nil))
        rw [kText_tx e lt]
        exact .str (kTx_tx lt)
end
end Ev

/-! Every expression keeps what the model does. -/
namespace Ev
open PySem PySem.Spec PyProof.Rows L2
theorem bind_assoc {α β γ : Type} {m : M α} {f : α → M β} {g : β → M γ} : M.bind (M.bind m f) g = M.bind m fun x => M.bind (f x) g := by
  funext S
  unfold M.bind
  dsimp only
  cases m S <;> rfl
theorem val_bind {α : Type} (m : Env → M α) (g : α → M RV) : (fun ρ => M.bind (m ρ) fun x => M.val (g x)) = fun ρ => M.val (M.bind (m ρ) g) := by
  funext ρ S
  unfold M.val M.bind
  dsimp only
  cases m ρ S <;> rfl
theorem pw_bool {X : Cx} {o : PySem.BoolOp} {vs : List Expr} {p : Pos} {t : TT} (h : PT X (.BoolOp o vs p) t) (e : ∀ w1 w2, isTrue (.BoolOp o vs p) X.env w1 = isTrue (.BoolOp o vs p) X.env w2) : PW X (.BoolOp o vs p) t :=
  ⟨fun whole pins s σ H Q I hq => by rw [e whole (eval (.BoolOp o vs p) X.env)]; exact h.run pins s σ H Q I hq⟩
theorem mapF_tr {t : Tg} {ρ : Env} {g : Env → M D} : ∀ xs : List D, mapF' (fun _ => M.pure true) (fun d => M.bind (M.opt (bindT t d ρ)) fun ρ' => g ρ') xs = mapF' (fun d => M.bind (M.opt (bindT t d ρ)) fun _ => M.pure true) (fun d => M.bind (M.opt (bindT t d ρ)) fun ρ' => g ρ') xs
  | [] => rfl
  | x :: xs => by
    funext S
    unfold mapF'
    rw [mapF_tr xs]
    cases e : bindT t x ρ with
    | none => rfl
    | some ρ' => rfl
theorem b2 {a b : Bool} (h : (a && b) = true) : a = true ∧ b = true := Bool.and_eq_true_iff.mp h
section
variable {N fns gns : List Str}
theorem ok_noStar {e : E} {sc : Scope} {v : Expr} {p : Pos} : okE N fns gns e sc (.Starred v p) = false := by
  cases e <;> first | rfl | (rename_i a; cases a <;> rfl)
theorem ok_noSlice {e : E} {sc : Scope} {a b c : Option Expr} {p : Pos} : okE N fns gns e sc (.Slice a b c p) = false := by
  cases e <;> first | rfl | (rename_i a; cases a <;> rfl)
theorem ok_noSet {e : E} {sc : Scope} {a : List Expr} {k : Nat} {p : Pos} : okE N fns gns e sc (.Set a k p) = false := by
  cases e <;> first | rfl | (rename_i a; cases a <;> rfl)
theorem ok_star {e : E} {sc : Scope} {x : Expr} {xs : List Expr} {env : PySem.Env} (h : okE N fns gns e sc x = true) : starEach (x :: xs) env = (false, eval x env) :: starEach xs env := by
  cases x <;> first | rfl | (rw [ok_noStar] at h; cases h)
theorem ok_ix {e : E} {sc : Scope} {x : Expr} (h : okE N fns gns e sc x = true) : PlainIx x := by
  cases x <;> first | (intro _ _; rfl) | (rw [ok_noSlice] at h; cases h)
theorem ok_fold {e : E} {sc : Scope} {x : Expr} {env : PySem.Env} (h : okE N fns gns e sc x = true) (v : Value) : foldedSetIterable x env v = pure v := by
  cases x <;> first | rfl | (rw [ok_noSet] at h; cases h)
theorem ok_any {sc : Scope} {env : PySem.Env} {pos : Pos} : ∀ {es : Es} {xs : List Expr}, okEs N fns gns es sc xs = true → (backTo pos (starEach xs env)).any (·.1) = false
  | .nil, [], _ => rfl
  | .nil, _ :: _, h => by cases h
  | .cons _ _, [], h => by cases h
  | .cons e es, x :: xs, h => by
    obtain ⟨h1, k2⟩ := b2 (show (okE N fns gns e sc x && okEs N fns gns es sc xs) = true from h)
    rw [ok_star h1]
    show (false || (backTo pos (starEach xs env)).any (·.1)) = false
    rw [ok_any k2] <;> rfl
end
section
variable {X : Cx} {x : Str}
theorem gl_of (h : glB X.env.scope x = true) : Gl X x := by
  unfold glB at h
  show X.env.scope.names.lookup x = _
  split at h
  · assumption
  · cases h
theorem vis_of {sc : Scope} (h : visB sc x = true) : Vis sc x := by
  unfold visB at h
  split at h
  · exact .inl (by assumption)
  · exact .inr (.inl (by assumption))
  · exact .inr (.inr (by assumption))
  · cases h
theorem nm_of (h : nmB x = true) : (x == ("__debug__" : Str)) = false ∧ (x == ("__classdict__" : Str)) = false ∧ x ≠ ("__name__" : Str) := by
  obtain ⟨h1, k2⟩ := b2 (show (!(x == ("__debug__" : Str)) && (!(x == ("__classdict__" : Str)) && decide (x ≠ ("__name__" : Str)))) = true from h)
  obtain ⟨j2, k3⟩ := b2 k2
  exact ⟨Bool.not_eq_true' _ ▸ h1, Bool.not_eq_true' _ ▸ j2, of_decide_eq_true k3⟩
end
theorem Good.blk {X : Cx} {cfg : Cfg} {fa : Fx} {fns gns : List Str} (G : Good X cfg fa fns gns) (s : Shared) (H : Hp) (scope : Scope) (cenv : PySem.Env) (fp : List Addr) (hn : noTell cenv.scope = true) : Good (X.blk s H scope cenv fp) cfg fa fns gns :=
  ⟨G.nd, G.calm, G.units, G.bl, G.glo, G.fnv, G.big, fun z => absurd z (noTell_ok hn), G.fn⟩
section
variable {K : PySem.W.Frag} {fa : Fx} {X : Cx}
theorem const_rd {t : TE} {e : Expr} {d : D} {v : V} (h : PE X e (tC v)) (r : ∀ w : Wd, Rp X.K fa w v d) : PE X e (rd X.K fa (fun _ => M.pure d)) := h.conv fun σ H Q hq => by
  obtain ⟨w, ρ, S, d', S', st, hm, q⟩ := hq
  obtain ⟨e1, rfl⟩ := pure_ok hm
  subst e1
  have := q w v (.refl w) st.ok st.sr (r w)
  rw [st.h] at this
  exact this
theorem var_rd {i : Nat} {x : Str} {p : Pos} (h1 : X.N[i]? = some x) (hv : Vis X.env.scope x) (hd : (x == ("__debug__" : Str)) = false) (hcd : (x == ("__classdict__" : Str)) = false) : PE X (.Name x p) (rd X.K fa (fun ρ => M.opt (getV ρ i))) ∧ PE X (.Name x p) (rdP X.K fa (fun ρ => M.opt (peekV ρ i))) := by
  refine ⟨(pe_var h1 hv hd hcd).conv fun σ H Q hq => ?_, (pe_var h1 hv hd hcd).conv fun σ H Q hq => ?_⟩
  · obtain ⟨w, ρ, S, d, S', st, hm, q⟩ := hq
    obtain ⟨e, rfl⟩ := opt_ok hm
    have e2 : ρ[i]? = some (some (.val d)) := by
      unfold getV at e
      split at e
      · rename_i d' hd'
        rw [hd', Option.some.inj e]
      · cases e
    obtain ⟨v, h1, h2⟩ := st.fr.val i d e2
    refine ⟨v, h1, ?_⟩
    have := q w v (.refl w) st.ok st.sr h2
    rw [st.h] at this
    exact this
  · obtain ⟨w, ρ, S, d, S', st, hm, q⟩ := hq
    obtain ⟨e, rfl⟩ := opt_ok hm
    unfold peekV at e
    split at e
    · rename_i d' hd'
      cases (Option.some.inj e)
      obtain ⟨v, h1, h2⟩ := st.fr.val i d hd'
      refine ⟨v, h1, ?_⟩
      have := q w v (.refl w) st.ok st.sr (.inl h2)
      rw [st.h] at this
      exact this
    · rename_i xs hd'
      cases (Option.some.inj e)
      obtain ⟨a, vs, h1, h2, h3, h4, h5, h6⟩ := st.fr.ownL i xs hd'
      refine ⟨_, h1, ?_⟩
      have := q w (.ref a) (.refl w) st.ok st.sr (.inr (.inl ⟨a, vs, xs, rfl, rfl, h2, h4, h5, h6⟩))
      rw [st.h] at this
      exact this
    · rename_i kvs hd'
      cases (Option.some.inj e)
      obtain ⟨a, xs, vs, h1, h2, h3, h4, h5⟩ := st.fr.dicL i kvs hd'
      refine ⟨_, h1, ?_⟩
      have := q w (.ref a) (.refl w) st.ok st.sr (.inr (.inr ⟨a, xs, vs, _, _, rfl, rfl, h2, h3, h4, h5⟩))
      rw [st.h] at this
      exact this
    · cases e
theorem varL_rd {i : Nat} {x : Str} {p : Pos} (h1 : X.N[i]? = some x) (hv : Vis X.env.scope x) (hd : (x == ("__debug__" : Str)) = false) (hcd : (x == ("__classdict__" : Str)) = false) : PE X (.Name x p) (rdL X.K fa (fun ρ => M.opt (peekL ρ i))) := by
  refine (pe_var h1 hv hd hcd).conv fun σ H Q hq => ?_
  obtain ⟨w, ρ, S, d, S', st, hm, q⟩ := hq
  obtain ⟨e, rfl⟩ := opt_ok hm
  unfold peekL at e
  split at e
  · rename_i d' hd'
    cases (Option.some.inj e)
    obtain ⟨v, h1, h2⟩ := st.fr.val i d hd'
    refine ⟨v, h1, ?_⟩
    have := q w v (.refl w) st.ok st.sr ⟨.inl h2, fun _ _ _ => h2⟩
    rw [st.h] at this
    exact this
  · rename_i xs hd'
    cases (Option.some.inj e)
    obtain ⟨a, vs, h1, h2, h3, h4, h5, h6⟩ := st.fr.ownL i xs hd'
    refine ⟨_, h1, ?_⟩
    have := q w (.ref a) (.refl w) st.ok st.sr ⟨.inr (.inl ⟨a, vs, xs, rfl, rfl, h2, h4, h5, h6⟩), fun _ _ z => by cases z⟩
    rw [st.h] at this
    exact this
  · cases e
/-- the operand's reading from the expression's -/
theorem pk_of {cfg : Cfg} {fns gns : List Str} {e : E} {py : Expr} (h : PE X py (rd X.K fa (ev cfg e))) (ok : okE X.N fns gns e X.env.scope py = true) : PE X py (rdP X.K fa (fun ρ => pkOf (ev cfg e ρ) e ρ)) := by
  by_cases hv : ∃ i, e = .var i
  · obtain ⟨i, rfl⟩ := hv
    cases py <;> first | (cases ok; done) | skip
    case Name x p =>
      obtain ⟨o1, o2⟩ := b2 (show (decide (X.N[i]? = some x) && (visB X.env.scope x && nmB x)) = true from ok)
      obtain ⟨o2, o3⟩ := b2 o2
      obtain ⟨n1, n2, _⟩ := nm_of o3
      exact (var_rd (of_decide_eq_true o1) (vis_of o2) n1 n2).2
  · have e1 : (fun ρ => pkOf (ev cfg e ρ) e ρ) = ev cfg e := by
      funext ρ
      cases e <;> first | rfl | exact absurd ⟨_, rfl⟩ hv
    rw [e1]
    exact h.conv fun σ H Q hq => rd_rdP hq
theorem pkL_of {cfg : Cfg} {fns gns : List Str} {e : E} {py : Expr} (h : PE X py (rd X.K fa (ev cfg e))) (ok : okE X.N fns gns e X.env.scope py = true) : PE X py (rdL X.K fa (fun ρ => pkL (ev cfg e ρ) e ρ)) := by
  by_cases hv : ∃ i, e = .var i
  · obtain ⟨i, rfl⟩ := hv
    cases py <;> first | (cases ok; done) | skip
    case Name x p =>
      obtain ⟨o1, o2⟩ := b2 (show (decide (X.N[i]? = some x) && (visB X.env.scope x && nmB x)) = true from ok)
      obtain ⟨o2, o3⟩ := b2 o2
      obtain ⟨n1, n2, _⟩ := nm_of o3
      exact varL_rd (of_decide_eq_true o1) (vis_of o2) n1 n2
  · have e1 : (fun ρ => pkL (ev cfg e ρ) e ρ) = ev cfg e := by
      funext ρ
      cases e <;> first | rfl | exact absurd ⟨_, rfl⟩ hv
    rw [e1]
    exact h.conv fun σ H Q hq => by
      obtain ⟨w, ρ, S, d, S', st, hm, q⟩ := hq
      exact ⟨w, ρ, S, d, S', st, hm, fun w' v l k r rn => q w' v l k r ⟨.inl rn, fun _ _ _ => rn⟩⟩
theorem RpP.monoR : ∀ (w w' : Wd) (v : V) (d : D), RpP K fa w v d → w.Le w' → w.Ok → RpP K fa w' v d := fun _ _ _ _ r l k => r.mono l k
theorem Rp.monoR : ∀ (w w' : Wd) (v : V) (d : D), Rp K fa w v d → w.Le w' → w.Ok → Rp K fa w' v d := fun _ _ _ _ r l k => r.keep (l.kp k)
end
theorem fr_rd {X : Cx} {fa : Fx} {py : Expr} {m : Env → M D} (h : PE X py (rdN X.K fa m)) : PE X py (rd X.K fa m) ∧ (True → PE X py (rdN X.K fa m)) := ⟨h.conv fun _ _ _ q => rdN_rd q, fun _ => h⟩
section
variable (cfg : Cfg) (fa : Fx) (fns gns : List Str)
def PEE (X : Cx) (py : Expr) (e : E) : Prop := PE X py (rd X.K fa (ev cfg e)) ∧ (isFr e = true → PE X py (rdN X.K fa (ev cfg e)))
theorem pee_fr {X : Cx} {py : Expr} {e : E} (h : PE X py (rdN X.K fa (ev cfg e))) : PEE cfg fa X py e := ⟨h.conv fun _ _ _ q => rdN_rd q, fun _ => h⟩
theorem pee_rd {X : Cx} {py : Expr} {e : E} (h : PE X py (rd X.K fa (ev cfg e))) (hf : isFr e = false) : PEE cfg fa X py e := ⟨h, fun z => by rw [hf] at z; cases z⟩
mutual
theorem sndE : ∀ (e : E) (X : Cx) (py : Expr), Good X cfg fa fns gns → okE X.N fns gns e X.env.scope py = true → PEE cfg fa X py e
  | .non, X, py, G, h => by
    cases py <;> first | (cases h; done) | skip
    case Constant c k p =>
      cases c <;> first | (cases h; done) | skip
      exact pee_rd cfg fa (const_rd (t := tC .non) pe_non fun _ => .non) rfl
  | .bl b, X, py, G, h => by
    cases py <;> first | (cases h; done) | skip
    case Constant c k p =>
      cases c <;> first | (cases h; done) | skip
      case bool c =>
        have e : b = c := eq_of_beq (show (b == c) = true from h)
        subst e
        exact pee_rd cfg fa (const_rd (t := tC .non) pe_bl fun _ => .bl b) rfl
  | .int i, X, py, G, h => by
    cases py <;> first | (cases h; done) | skip
    case Constant c k p =>
      cases c <;> first | (cases h; done) | skip
      case int j =>
        have e : i = j := of_decide_eq_true (show decide (i = j) = true from h)
        subst e
        exact pee_rd cfg fa (const_rd (t := tC .non) pe_int fun _ => .int i) rfl
  | .str cs, X, py, G, h => by
    cases py <;> first | (cases h; done) | skip
    case Constant c k p =>
      cases c <;> first | (cases h; done) | skip
      case str y =>
        obtain ⟨h1, k2⟩ := b2 (show (decide (y = tx cs) && (decide (cs.length ≤ 100000) && cs.all fun c => decide (c < 1114112))) = true from h)
        obtain ⟨j2, k3⟩ := b2 k2
        have e : y = tx cs := of_decide_eq_true h1
        subst e
        have hl : cs.length ≤ 100000 := of_decide_eq_true j2
        exact pee_rd cfg fa (const_rd (t := tC .non) pe_str fun _ => .str ⟨by rw [sizeLine_eq]; omega, fun c hc => of_decide_eq_true (List.all_eq_true.mp k3 c hc)⟩) rfl
  | .var i, X, py, G, h => by
    cases py <;> first | (cases h; done) | skip
    case Name x p =>
      obtain ⟨o1, o2⟩ := b2 (show (decide (X.N[i]? = some x) && (visB X.env.scope x && nmB x)) = true from h)
      obtain ⟨o2, o3⟩ := b2 o2
      obtain ⟨n1, n2, _⟩ := nm_of o3
      exact pee_rd cfg fa (var_rd (of_decide_eq_true o1) (vis_of o2) n1 n2).1 rfl
  | .glo k, X, py, G, h => by
    cases py <;> first | (cases h; done) | skip
    case Name x p =>
      obtain ⟨o1, o2⟩ := b2 (show (decide (gns[k]? = some x) && (glB X.env.scope x && nmB x)) = true from h)
      obtain ⟨o2, o3⟩ := b2 o2
      obtain ⟨n1, n2, _⟩ := nm_of o3
      refine pee_rd cfg fa ⟨fun pins s σ H Q I hq => ?_⟩ rfl
      obtain ⟨w, ρ, S, d, S', st, hm, q⟩ := hq
      obtain ⟨e, e2⟩ := opt_ok (show M.opt (cfg.G[k]?) S = .ok d S' from hm)
      subst e2
      obtain ⟨u, v, hmg, hr, hrp⟩ := G.glo k d x e (of_decide_eq_true o1)
      refine (pe_glob (gl_of o2) hmg hr n1).run pins s σ H Q I ?_
      have := q w v (.refl w) st.ok st.sr (hrp w)
      rw [st.h] at this
      exact this
  | .fnv f, X, py, G, h => by
    cases py <;> first | (cases h; done) | skip
    case Name x p =>
      obtain ⟨o1, o2⟩ := b2 (show (decide (fns[f]? = some x) && (glB X.env.scope x && nmB x)) = true from h)
      obtain ⟨o2, o3⟩ := b2 o2
      obtain ⟨n1, n2, _⟩ := nm_of o3
      exact pee_rd cfg fa (const_rd (t := tC .non) (pe_glob (v := .ref (fa f)) (gl_of o2) (G.fnv f x (of_decide_eq_true o1)) rfl n1) fun _ => .fn f) rfl
  | .bin op a b, X, py, G, h => by
    cases py <;> first | (cases h; done) | skip
    case BinOp x o y p =>
      obtain ⟨h1, k2⟩ := b2 (show (isOp o op && (okE X.N fns gns a X.env.scope x && okE X.N fns gns b X.env.scope y)) = true from h)
      obtain ⟨j2, k3⟩ := b2 k2
      have e := isOp_eq h1
      subst e
      exact pee_fr cfg fa (s_bin (pk_of (sndE a X x G j2).1 j2) (pk_of (sndE b X y G k3).1 k3))
  | .neg a, X, py, G, h => by
    cases py <;> first | (cases h; done) | skip
    case UnaryOp o x p =>
      cases o <;> first | (cases h; done) | skip
      exact pee_rd cfg fa (s_neg (sndE a X x G h).1) rfl
  | .cmp op a b, X, py, G, h => by
    cases py <;> first | (cases h; done) | skip
    case Compare x os ys p =>
      obtain _ | ⟨o, _ | ⟨o2, os⟩⟩ := os <;> obtain _ | ⟨y, _ | ⟨y2, ys⟩⟩ := ys <;> first | (cases h; done) | skip
      all_goals first | (cases o <;> cases h; done) | skip
      obtain ⟨h1, k2⟩ := b2 (show (isCop o op && (!behindInMarks o y && (okE X.N fns gns a X.env.scope x && okE X.N fns gns b X.env.scope y))) = true from h)
      obtain ⟨j2, k3⟩ := b2 k2
      obtain ⟨j3, k4⟩ := b2 k3
      have e := isCop_eq h1
      subst e
      exact pee_rd cfg fa (s_cmp G.units (Bool.not_eq_true' _ ▸ j2) (pk_of (sndE a X x G j3).1 j3) (pk_of (sndE b X y G k4).1 k4)) rfl
  | .chn o1 o2 a b c, X, py, G, h => by
    cases py <;> first | (cases h; done) | skip
    case Compare x os ys p =>
      obtain _ | ⟨o, _ | ⟨o', _ | ⟨o3, os⟩⟩⟩ := os <;> obtain _ | ⟨y, _ | ⟨z, _ | ⟨y2, ys⟩⟩⟩ := ys <;> first | (cases h; done) | skip
      all_goals first | (cases o <;> cases h; done) | skip
      obtain ⟨h1, k2⟩ := b2 (show (isCop o o1 && (isCop o' o2 && (!lastMarks [o, o'] [y, z] && (okE X.N fns gns a X.env.scope x && (okE X.N fns gns b X.env.scope y && okE X.N fns gns c X.env.scope z))))) = true from h)
      obtain ⟨j2, k3⟩ := b2 k2
      obtain ⟨j3, k4⟩ := b2 k3
      obtain ⟨j4, k5⟩ := b2 k4
      obtain ⟨j5, k6⟩ := b2 k5
      have e := isCop_eq h1
      subst e
      have e := isCop_eq j2
      subst e
      exact pee_rd cfg fa (s_chn G.units (Bool.not_eq_true' _ ▸ j3) (sndE a X x G j4).1 (sndE b X y G j5).1 (sndE c X z G k6).1) rfl
  | .isN a, X, py, G, h => by
    cases py <;> first | (cases h; done) | skip
    case Compare x os ys p =>
      obtain _ | ⟨o, _ | ⟨o2, os⟩⟩ := os <;> obtain _ | ⟨y, _ | ⟨y2, ys⟩⟩ := ys <;> first | (cases h; done) | skip
      all_goals first | (simp [okE] at h; done) | (simp [okB] at h; done) | skip
      cases o <;> first | (cases h; done) | skip
      cases y <;> first | (cases h; done) | skip
      case Constant c k p2 =>
        cases c <;> first | (cases h; done) | skip
        exact pee_rd cfg fa (s_isN (sndE a X x G h).1) rfl
  | .ntN a, X, py, G, h => by
    cases py <;> first | (cases h; done) | skip
    case Compare x os ys p =>
      obtain _ | ⟨o, _ | ⟨o2, os⟩⟩ := os <;> obtain _ | ⟨y, _ | ⟨y2, ys⟩⟩ := ys <;> first | (cases h; done) | skip
      all_goals first | (simp [okE] at h; done) | (simp [okB] at h; done) | skip
      cases o <;> first | (cases h; done) | skip
      cases y <;> first | (cases h; done) | skip
      case Constant c k p2 =>
        cases c <;> first | (cases h; done) | skip
        exact pee_rd cfg fa (s_ntN (sndE a X x G h).1) rfl
  | .and a b, X, py, G, h => by
    cases py <;> first | (cases h; done) | skip
    case BoolOp o vs p =>
      cases o <;> first | (cases h; done) | skip
      obtain _ | ⟨x, _ | ⟨y, _ | ⟨z, r⟩⟩⟩ := vs <;> first | (cases h; done) | skip
      · obtain ⟨h1, h2⟩ := b2 (show (okE X.N fns gns a X.env.scope x && okE X.N fns gns b X.env.scope y) = true from h)
        exact pee_rd cfg fa (s_and (sndE a X x G h1).1 (pe_one (sndE b X y G h2).1)) rfl
      · obtain ⟨h1, h2⟩ := b2 (show (okE X.N fns gns a X.env.scope x && okE X.N fns gns b X.env.scope (.BoolOp .And (y :: z :: r) p)) = true from h)
        exact pee_rd cfg fa (s_and (sndE a X x G h1).1 (sndE b X _ G h2).1) rfl
  | .or a b, X, py, G, h => by
    cases py <;> first | (cases h; done) | skip
    case BoolOp o vs p =>
      cases o <;> first | (cases h; done) | skip
      obtain _ | ⟨x, _ | ⟨y, _ | ⟨z, r⟩⟩⟩ := vs <;> first | (cases h; done) | skip
      · obtain ⟨h1, h2⟩ := b2 (show (okE X.N fns gns a X.env.scope x && okE X.N fns gns b X.env.scope y) = true from h)
        exact pee_rd cfg fa (s_or (sndE a X x G h1).1 (pe_one (sndE b X y G h2).1)) rfl
      · obtain ⟨h1, h2⟩ := b2 (show (okE X.N fns gns a X.env.scope x && okE X.N fns gns b X.env.scope (.BoolOp .Or (y :: z :: r) p)) = true from h)
        exact pee_rd cfg fa (s_or (sndE a X x G h1).1 (sndE b X _ G h2).1) rfl
  | .not a, X, py, G, h => by
    cases py <;> first | (cases h; done) | skip
    case UnaryOp o x p =>
      cases o <;> first | (cases h; done) | skip
      exact pee_rd cfg fa (s_not (sndE a X x G h).1) rfl
  | .ife c a b, X, py, G, h => by
    cases py <;> first | (cases h; done) | skip
    case IfExp t x y p =>
      obtain ⟨h1, k2⟩ := b2 (show (okB X.N fns gns c X.env.scope t && (okE X.N fns gns a X.env.scope x && okE X.N fns gns b X.env.scope y)) = true from h)
      obtain ⟨j2, k3⟩ := b2 k2
      exact pee_rd cfg fa (s_ife (sndB c X t G h1) (sndE a X x G j2).1 (sndE b X y G k3).1) rfl
  | .tup es, X, py, G, h => by
    cases py <;> first | (cases h; done) | skip
    case Tuple xs k p => exact pee_rd cfg fa (s_tup (sndEs es X xs G h).1) rfl
  | .lst es, X, py, G, h => by
    cases py <;> first | (cases h; done) | skip
    case List xs p => exact pee_fr cfg fa (s_lst (sndEs es X xs G h).1)
  | .cell es, X, py, G, h => by
    cases py <;> first | (cases h; done) | skip
    case List xs p => exact pee_rd cfg fa (s_cell (sndEs es X xs G h).1) rfl
  | .call f es, X, py, G, h => by
    cases py <;> first | (cases h; done) | skip
    case Call g xs kw p =>
      cases g <;> first | (cases h; done) | skip
      case Name x p2 =>
        cases kw <;> first | (cases h; done) | skip
        obtain ⟨h1, k2⟩ := b2 (show (decide (fns[f]? = some x) && (glB X.env.scope x && (nmB x && okEs X.N fns gns es X.env.scope xs))) = true from h)
        obtain ⟨j2, k3⟩ := b2 k2
        obtain ⟨j3, k4⟩ := b2 k3
        obtain ⟨n1, n2, _⟩ := nm_of j3
        refine pee_rd cfg fa (PE.conv (t := tFrz (rdR X.K fa (fun ρ => M.val (M.bind (evs cfg es ρ) fun xs => cfg.C f xs)))) (pe_frz (PE.conv (t := rdR X.K fa (fun ρ => M.bind (evs cfg es ρ) fun xs => M.val (cfg.C f xs))) ?_ fun σ H Q hq => by rw [val_bind (evs cfg es) (fun xs => cfg.C f xs)]; exact hq)) fun σ H Q hq => rdR_rd (m := fun ρ => M.bind (evs cfg es ρ) fun xs => cfg.C f xs) ?_) rfl
        · by_cases hne : xs = []
          · subst hne
            cases es with
            | nil => exact s_call0 G (of_decide_eq_true h1) (gl_of j2) n1
            | cons _ _ => cases k4
          · refine s_call G (of_decide_eq_true h1) (gl_of j2) n1 (sndEs es X xs G k4).1 hne fun e r er => ?_
            subst er
            cases es with
            | nil => cases k4
            | cons e2 es =>
              obtain ⟨k1, k2⟩ := b2 (show (okE X.N fns gns e2 X.env.scope e && okEs X.N fns gns es X.env.scope r) = true from k4)
              exact ⟨ok_star k1, ok_any k2⟩
        · obtain ⟨w, ρ, S, d, S', st, hm, q⟩ := hq
          refine ⟨w, ρ, S, d, S', st, ?_, q⟩
          obtain ⟨ys, S1, g1, g2⟩ := bind_ok (show M.bind (evs cfg es ρ) (fun xs => M.bind (cfg.C f xs) fun r => M.opt r.d) S = .ok d S' from hm)
          obtain ⟨r, S2, g3, g4⟩ := bind_ok g2
          show M.bind (M.bind (evs cfg es ρ) fun xs => cfg.C f xs) (fun r => M.opt r.d) S = _
          rw [bind_eq (a := r) (S' := S2) (by rw [bind_eq g1]; exact g3)]
          exact g4
  | .blt f es, X, py, G, h => by
    cases py <;> first | (cases h; done) | skip
    case Call g xs kw p =>
      cases g <;> first | (cases h; done) | skip
      case Name x p2 =>
        obtain _ | ⟨y, ys⟩ := xs <;> cases kw <;> first | (cases h; done) | skip
        obtain ⟨h1, k2⟩ := b2 (show (decide (x = nmBl f) && (glB X.env.scope x && okEs X.N fns gns es X.env.scope (y :: ys))) = true from h)
        obtain ⟨j2, k3⟩ := b2 k2
        have e : x = nmBl f := of_decide_eq_true h1
        subst e
        have hp := (sndEs es X (y :: ys) G k3).2
        cases es with
        | nil => cases k3
        | cons e2 es =>
          obtain ⟨k1, k2⟩ := b2 (show (okE X.N fns gns e2 X.env.scope y && okEs X.N fns gns es X.env.scope ys) = true from k3)
          exact pee_fr cfg fa (s_blt G (gl_of j2) hp (ok_star k1) (ok_any k2))
  | .isi a ts, X, py, G, h => by
    cases py <;> first | (cases h; done) | skip
    case Call g xs kw p =>
      cases g <;> first | (cases h; done) | skip
      case Name x p2 =>
        obtain _ | ⟨y, _ | ⟨c, _ | ⟨z, r⟩⟩⟩ := xs <;> cases kw <;> first | (cases h; done) | skip
        obtain ⟨h1, k2⟩ := b2 (show (decide (x = ("isinstance" : Str)) && (glB X.env.scope x && (okE X.N fns gns a X.env.scope y && okTyA ts X.env.scope c))) = true from h)
        obtain ⟨j2, k3⟩ := b2 k2
        obtain ⟨j3, k4⟩ := b2 k3
        have e : x = ("isinstance" : Str) := of_decide_eq_true h1
        subst e
        exact pee_rd cfg fa (s_isi G (gl_of j2) (sndE a X y G j3).1 (fun r => ok_star j3) k4) rfl
  | .idx a i, X, py, G, h => by
    cases py <;> first | (cases h; done) | skip
    case Subscript x y p =>
      obtain ⟨h1, k2⟩ := b2 (show (okE X.N fns gns a X.env.scope x && okE X.N fns gns i X.env.scope y) = true from h)
      exact pee_rd cfg fa (s_idx G.units (pk_of (sndE a X x G h1).1 h1) (sndE i X y G k2).1 (ok_ix k2)) rfl
  | .slN a, X, py, G, h => by
    cases py <;> first | (cases h; done) | skip
    case Subscript x y p =>
      cases y <;> first | (cases h; done) | skip
      case Slice l u s p2 =>
        cases l <;> cases u <;> cases s <;> first | (cases h; done) | skip
        exact pee_fr cfg fa (s_slN (pk_of (sndE a X x G h).1 h))
  | .slL a lo, X, py, G, h => by
    cases py <;> first | (cases h; done) | skip
    case Subscript x y p =>
      cases y <;> first | (cases h; done) | skip
      case Slice l u s p2 =>
        cases l <;> cases u <;> cases s <;> first | (cases h; done) | skip
        case some.none.none l =>
          obtain ⟨h1, k2⟩ := b2 (show (okE X.N fns gns a X.env.scope x && okE X.N fns gns lo X.env.scope l) = true from h)
          exact pee_fr cfg fa (s_slL (pk_of (sndE a X x G h1).1 h1) (sndE lo X l G k2).1)
  | .slU a hi, X, py, G, h => by
    cases py <;> first | (cases h; done) | skip
    case Subscript x y p =>
      cases y <;> first | (cases h; done) | skip
      case Slice l u s p2 =>
        cases l <;> cases u <;> cases s <;> first | (cases h; done) | skip
        case none.some.none l =>
          obtain ⟨h1, k2⟩ := b2 (show (okE X.N fns gns a X.env.scope x && okE X.N fns gns hi X.env.scope l) = true from h)
          exact pee_fr cfg fa (s_slU (pk_of (sndE a X x G h1).1 h1) (sndE hi X l G k2).1)
  | .slB a lo hi, X, py, G, h => by
    cases py <;> first | (cases h; done) | skip
    case Subscript x y p =>
      cases y <;> first | (cases h; done) | skip
      case Slice l u s p2 =>
        cases l <;> cases u <;> cases s <;> first | (cases h; done) | skip
        case some.some.none l u =>
          obtain ⟨h1, k2⟩ := b2 (show (okE X.N fns gns a X.env.scope x && (okE X.N fns gns lo X.env.scope l && okE X.N fns gns hi X.env.scope u)) = true from h)
          obtain ⟨j2, k3⟩ := b2 k2
          exact pee_fr cfg fa (s_slB (pk_of (sndE a X x G h1).1 h1) (sndE lo X l G j2).1 (sndE hi X u G k3).1)
  | .sst a, X, py, G, h => by
    cases py <;> first | (cases h; done) | skip
    case Call g xs kw p =>
      cases g <;> first | (cases h; done) | skip
      case Name x p2 =>
        obtain _ | ⟨y, ys0⟩ := xs
        · cases h
        cases y <;> first | (cases h; done) | skip
        case Call g2 ys kw2 p3 =>
          cases g2 <;> first | (cases h; done) | skip
          case Name y p4 =>
            obtain _ | ⟨z, zs⟩ := ys
            · cases h
            obtain _ | ⟨c1, r1⟩ := zs
            case cons => cases h
            obtain _ | ⟨c2, r2⟩ := kw2
            case cons => cases h
            obtain _ | ⟨c3, r3⟩ := ys0
            case cons => cases h
            obtain _ | ⟨c4, r4⟩ := kw
            case cons => cases h
            obtain ⟨h1, k2⟩ := b2 (show (decide (x = ("sorted" : Str)) && (decide (y = ("set" : Str)) && (glB X.env.scope x && (glB X.env.scope y && okE X.N fns gns a X.env.scope z)))) = true from h)
            obtain ⟨h2, k3⟩ := b2 k2
            obtain ⟨j1, k4⟩ := b2 k3
            obtain ⟨j2, k5⟩ := b2 k4
            have e : x = ("sorted" : Str) := of_decide_eq_true h1
            have e2 : y = ("set" : Str) := of_decide_eq_true h2
            subst e
            subst e2
            have hp := a_cons RpP.monoR (pk_of (sndE a X z G k5).1 k5) a_nil (ok_star k5)
            exact pee_fr cfg fa (s_sst G (gl_of j1) (gl_of j2) hp (ok_star k5))
  | .rev a, X, py, G, h => by
    cases py <;> first | (cases h; done) | skip
    case Subscript x y p =>
      cases y <;> first | (cases h; done) | skip
      case Slice l u s p2 =>
        cases l <;> cases u <;> cases s <;> first | (cases h; done) | skip
        case none.none.some s =>
          cases s <;> first | (cases h; done) | skip
          case UnaryOp o z p3 =>
            cases o <;> cases z <;> first | (cases h; done) | skip
            case USub.Constant c k p4 =>
              cases c <;> first | (cases h; done) | skip
              case int j =>
                obtain ⟨h1, k2⟩ := b2 (show (decide (j = 1) && okE X.N fns gns a X.env.scope x) = true from h)
                have e : j = 1 := of_decide_eq_true h1
                subst e
                exact pee_fr cfg fa (s_rev (pk_of (sndE a X x G k2).1 k2))
  | .upper a, X, py, G, h => by
    cases a <;> cases py <;> first | (cases h; done) | skip
    case var.Call i g xs kw p =>
      cases g <;> first | (cases h; done) | skip
      case Attribute v m p2 =>
        cases v <;> cases xs <;> cases kw <;> first | (cases h; done) | skip
        case Name.nil.nil x p3 =>
          obtain ⟨h1, k2⟩ := b2 (show (decide (m = ("upper" : Str)) && ((p2.endLine == p.line) && okE X.N fns gns (.var i) X.env.scope (.Name x p3))) = true from h)
          obtain ⟨j2, k3⟩ := b2 k2
          exact pee_rd cfg fa (s_upper (of_decide_eq_true h1) j2 (sndE (.var i) X _ G k3).1) rfl
  | .meth m i b, X, py, G, h => by
    cases py <;> first | (cases h; done) | skip
    case Call g xs kw p =>
      cases g <;> first | (cases h; done) | skip
      case Attribute v nm p2 =>
        cases v <;> first | (cases h; done) | skip
        case Name x p3 =>
          obtain _ | ⟨y, ys⟩ := xs
          · cases h
          obtain _ | ⟨c2, r2⟩ := ys
          case cons => cases h
          obtain _ | ⟨c3, r3⟩ := kw
          case cons => cases h
          obtain ⟨h1, k2⟩ := b2 (show (decide (nm = nmMt m) && (nonJoin m && ((p2.endLine == p.line) && ((decide (X.N[i]? = some x) && (visB X.env.scope x && nmB x)) && okE X.N fns gns b X.env.scope y)))) = true from h)
          obtain ⟨j2, k3⟩ := b2 k2
          obtain ⟨j3, k4⟩ := b2 k3
          obtain ⟨j4, k5⟩ := b2 k4
          obtain ⟨o1, o2⟩ := b2 j4
          obtain ⟨o2, o3⟩ := b2 o2
          obtain ⟨n1, n2, _⟩ := nm_of o3
          have e : nm = nmMt m := of_decide_eq_true h1
          subst e
          have pa : PE X (.Name x p3) (rdP X.K fa (fun ρ => M.opt (peekV ρ i))) := (var_rd (of_decide_eq_true o1) (vis_of o2) n1 n2).2
          have pb := pk_of (sndE b X y G k5).1 k5
          cases m <;> first | (cases j2; done) | skip
          case split => exact pee_fr cfg fa (s_split j3 (ok_star k5) rfl pa pb)
          case index => exact pee_rd cfg fa (s_index G.units j3 (ok_star k5) rfl pa pb) rfl
  | .join cs b, X, py, G, h => by
    cases py <;> first | (cases h; done) | skip
    case Call g xs kw p =>
      cases g <;> first | (cases h; done) | skip
      case Attribute v nm p2 =>
        cases v <;> first | (cases h; done) | skip
        case Constant c k p3 =>
          cases c <;> first | (cases h; done) | skip
          case str x =>
            obtain _ | ⟨y, ys⟩ := xs
            · cases h
            obtain _ | ⟨c2, r2⟩ := ys
            case cons => cases h
            obtain _ | ⟨c3, r3⟩ := kw
            case cons => cases h
            obtain ⟨h1, k2⟩ := b2 (show (decide (nm = ("join" : Str)) && ((p2.endLine == p.line) && ((decide (x = tx cs) && (decide (cs.length ≤ 100000) && cs.all fun c => decide (c < 1114112))) && okE X.N fns gns b X.env.scope y))) = true from h)
            obtain ⟨j3, k4⟩ := b2 k2
            obtain ⟨j4, k5⟩ := b2 k4
            obtain ⟨o1, o2⟩ := b2 j4
            obtain ⟨o2, o3⟩ := b2 o2
            have e : nm = ("join" : Str) := of_decide_eq_true h1
            subst e
            have e : x = tx cs := of_decide_eq_true o1
            subst e
            have hl : cs.length ≤ 100000 := of_decide_eq_true o2
            have pa : PE X (.Constant (.str (tx cs)) k p3) (rdP X.K fa (fun _ => M.pure (.str cs))) := (const_rd (t := tC .non) pe_str fun _ => .str ⟨by rw [sizeLine_eq]; omega, fun c hc => of_decide_eq_true (List.all_eq_true.mp o3 c hc)⟩).conv fun _ _ _ q => rd_rdP q
            have pb := pk_of (sndE b X y G k5).1 k5
            have eq : ev cfg (.join cs b) = fun ρ => M.bind (M.pure (.str cs)) fun x => M.bind (pkOf (ev cfg b ρ) b ρ) fun y => M.opt (methD .join x y) := by
              funext ρ S
              rfl
            refine pee_rd cfg fa ?_ rfl
            rw [eq]
            exact s_join j3 (ok_star k5) rfl pa pb
  | .told f es, X, py, G, h => by
    cases py <;> first | (cases h; done) | skip
    case Call g0 xs kw p =>
      cases g0 <;> first | (cases h; done) | skip
      case Name x p2 =>
        obtain _ | ⟨y, ys⟩ := xs
        · cases h
        cases y <;> first | (cases h; done) | skip
        case Lambda params body scope lpos =>
          cases body <;> first | (cases h; done) | skip
          case Call g1 zs kw1 p3 =>
            cases g1 <;> first | (cases h; done) | skip
            case Name g p4 =>
              obtain _ | ⟨z, zs⟩ := zs
              · cases h
              obtain _ | ⟨c1, r1⟩ := kw1
              case cons => cases h
              obtain _ | ⟨c2, r2⟩ := ys
              case cons => cases h
              obtain _ | ⟨c3, r3⟩ := kw
              case cons => cases h
              obtain ⟨h1, k2⟩ := b2 (show (decide (x = ("_law_call" : Str)) && (glB X.env.scope x && (lamB X.env.scope scope params && (decide (fns[f]? = some g) && (glB scope g && (nmB g && okEs X.N fns gns es scope (z :: zs))))))) = true from h)
              obtain ⟨j2, k3⟩ := b2 k2
              obtain ⟨j3, k4⟩ := b2 k3
              obtain ⟨j4, k5⟩ := b2 k4
              obtain ⟨j5, k6⟩ := b2 k5
              obtain ⟨j6, k7⟩ := b2 k6
              have e : x = ("_law_call" : Str) := of_decide_eq_true h1
              subst e
              obtain ⟨n1, n2, _⟩ := nm_of j6
              have eq : ev cfg (.told f es) = fun ρ => M.bind (M.bind (evs cfg es ρ) fun xs => cfg.C f xs) fun r => M.opt (toldD r) := by
                funext ρ
                exact bind_assoc.symm
              refine pee_rd cfg fa ?_ rfl
              rw [eq]
              refine s_tell G (gl_of j2) j3 fun Y E GY eK eS eN tk => ?_
              have k8 : okEs Y.N fns gns es Y.env.scope (z :: zs) = true := by rw [eN, eS]; exact k7
              have j7 : glB Y.env.scope g = true := by rw [eS]; exact j5
              rw [← eK]
              cases es with
              | nil => cases k8
              | cons e2 es2 =>
                obtain ⟨m1, m2⟩ := b2 (show (okE Y.N fns gns e2 Y.env.scope z && okEs Y.N fns gns es2 Y.env.scope zs) = true from k8)
                exact s_callX tk GY (of_decide_eq_true j4) j7 j6 (sndEs (.cons e2 es2) Y (z :: zs) GY k8).1 (ok_star m1) (ok_any m2) n1 (gl_of j7)
  | .toldV i es, X, py, G, h => by
    cases py <;> first | (cases h; done) | skip
    case Call g0 xs kw p =>
      cases g0 <;> first | (cases h; done) | skip
      case Name x p2 =>
        obtain _ | ⟨y, ys⟩ := xs
        · cases h
        cases y <;> first | (cases h; done) | skip
        case Lambda params body scope lpos =>
          cases body <;> first | (cases h; done) | skip
          case Call g1 zs kw1 p3 =>
            cases g1 <;> first | (cases h; done) | skip
            case Name g p4 =>
              obtain _ | ⟨z, zs⟩ := zs
              · cases h
              obtain _ | ⟨c1, r1⟩ := kw1
              case cons => cases h
              obtain _ | ⟨c2, r2⟩ := ys
              case cons => cases h
              obtain _ | ⟨c3, r3⟩ := kw
              case cons => cases h
              obtain ⟨h1, k2⟩ := b2 (show (decide (x = ("_law_call" : Str)) && (glB X.env.scope x && (lamB X.env.scope scope params && (decide (X.N[i]? = some g) && (visB scope g && (nmB g && okEs X.N fns gns es scope (z :: zs))))))) = true from h)
              obtain ⟨j2, k3⟩ := b2 k2
              obtain ⟨j3, k4⟩ := b2 k3
              obtain ⟨j4, k5⟩ := b2 k4
              obtain ⟨j5, k6⟩ := b2 k5
              obtain ⟨j6, k7⟩ := b2 k6
              have e : x = ("_law_call" : Str) := of_decide_eq_true h1
              subst e
              obtain ⟨n1, n2, _⟩ := nm_of j6
              have eq : ev cfg (.toldV i es) = fun ρ => M.bind (M.bind (M.opt ((getV ρ i).bind fnD)) fun f => M.bind (evs cfg es ρ) fun xs => cfg.C f xs) fun r => M.opt (toldD r) := by
                funext ρ
                refine Eq.trans ?_ bind_assoc.symm
                show M.bind _ _ = M.bind _ _
                congr 1
                funext f
                exact bind_assoc.symm
              refine pee_rd cfg fa ?_ rfl
              rw [eq]
              refine s_tell G (gl_of j2) j3 fun Y E GY eK eS eN tk => ?_
              have k8 : okEs Y.N fns gns es Y.env.scope (z :: zs) = true := by rw [eN, eS]; exact k7
              have j7 : visB Y.env.scope g = true := by rw [eS]; exact j5
              rw [← eK]
              cases es with
              | nil => cases k8
              | cons e2 es2 =>
                obtain ⟨m1, m2⟩ := b2 (show (okE Y.N fns gns e2 Y.env.scope z && okEs Y.N fns gns es2 Y.env.scope zs) = true from k8)
                exact s_callXV tk GY (by rw [eN]; exact of_decide_eq_true j4) (vis_of j7) (sndEs (.cons e2 es2) Y (z :: zs) GY k8).1 (ok_star m1) (ok_any m2) n1 n2
  | .lc t s e vs, X, py, G, h => by
    cases py <;> first | (cases h; done) | skip
    case ListComp elt gs scope p =>
      obtain _ | ⟨⟨tg, it, ifs, as⟩, _ | ⟨g2, gs⟩⟩ := gs <;> first | (cases h; done) | skip
      all_goals obtain _ | ⟨c1, ifs⟩ := ifs <;> obtain (_ | as) | as := as <;> first | (cases h; done) | (simp [okE] at h; done) | skip
      obtain ⟨h1, k2⟩ := b2 (show ((blkC X.N X.env.scope scope (ownOf X.N vs) && noTell (relS scope X.env.scope)) && (okTg X.N false vs t (relS scope X.env.scope) tg && (okI X.N fns gns s X.env.scope it && okE X.N fns gns e (relS scope X.env.scope) elt))) = true from h)
      obtain ⟨j2, k3⟩ := b2 k2
      obtain ⟨j3, k4⟩ := b2 k3
      obtain ⟨i1, i2⟩ := sndI s X tg it G j3
      have eq : ev cfg (.lc t s e vs) = fun ρ => M.bind (its cfg s ρ) fun xs => M.guard (decide (xs.length ≤ LIM)) (M.bind (mapF' (fun d => M.bind (M.opt (bindT t d (Ev.wipe ρ vs))) fun _ => M.pure true) (fun d => M.bind (M.opt (bindT t d (Ev.wipe ρ vs))) fun ρ' => ev cfg e ρ') xs) fun ys => M.pure (.lst ys)) := by
        funext ρ
        show (M.bind (its cfg s ρ) fun xs => M.guard (decide (xs.length ≤ LIM)) (M.bind (mapF' (fun _ => M.pure true) (fun d => M.bind (M.opt (bindT t d (Ev.wipe ρ vs))) fun ρ' => ev cfg e ρ') xs) fun ys => M.pure (D.lst ys))) = _
        simp only [mapF_tr]
      refine pee_fr cfg fa ?_
      rw [eq]
      exact (s_lcf (mc := fun _ => M.pure true) G.nd G.calm (blkOk_by (b2 h1).1) i1 (fun s H C cl fp => s_tg (cb := false) (X := X.blk s H scope (compEnvC scope cl C X.env) fp) G.nd G.calm (fun z => by cases z) t tg j2)
        (fun s H C cl fp => ⟨fun pins s2 σ H2 Q I hq => pts_nil.run pins s2 σ H2 Q I (by
          obtain ⟨w, ρ, S, d, S', st, hm, q⟩ := hq
          obtain ⟨e1, rfl⟩ := pure_ok hm
          subst e1
          have := q w (.refl w) st.ok st.sr
          rw [st.h] at this
          exact this)⟩)
        (fun s H C cl fp => (sndE e (X.blk s H scope (compEnvC scope cl C X.env) fp) elt (G.blk s H scope _ fp (b2 h1).2) k4).1) i2)
  | .lcf t s c e vs, X, py, G, h => by
    cases py <;> first | (cases h; done) | skip
    case ListComp elt gs scope p =>
      obtain _ | ⟨⟨tg, it, ifs, as⟩, _ | ⟨g2, gs⟩⟩ := gs <;> first | (cases h; done) | skip
      all_goals obtain _ | ⟨c1, _ | ⟨c2, ifs⟩⟩ := ifs <;> obtain (_ | as) | as := as <;> first | (cases h; done) | (simp [okE] at h; done) | skip
      obtain ⟨h1, k2⟩ := b2 (show ((blkC X.N X.env.scope scope (ownOf X.N vs) && noTell (relS scope X.env.scope)) && (okTg X.N false vs t (relS scope X.env.scope) tg && (okI X.N fns gns s X.env.scope it && (okB X.N fns gns c (relS scope X.env.scope) c1 && okE X.N fns gns e (relS scope X.env.scope) elt)))) = true from h)
      obtain ⟨j2, k3⟩ := b2 k2
      obtain ⟨j3, k4⟩ := b2 k3
      obtain ⟨j4, k5⟩ := b2 k4
      obtain ⟨i1, i2⟩ := sndI s X tg it G j3
      exact pee_fr cfg fa (s_lcf G.nd G.calm (blkOk_by (b2 h1).1) i1 (fun s H C cl fp => s_tg (cb := false) (X := X.blk s H scope (compEnvC scope cl C X.env) fp) G.nd G.calm (fun z => by cases z) t tg j2)
        (fun s H C cl fp => pts_one (sndB c (X.blk s H scope (compEnvC scope cl C X.env) fp) c1 (G.blk s H scope _ fp (b2 h1).2) j4))
        (fun s H C cl fp => (sndE e (X.blk s H scope (compEnvC scope cl C X.env) fp) elt (G.blk s H scope _ fp (b2 h1).2) k5).1) i2)
theorem sndEs : ∀ (es : Es) (X : Cx) (pys : List Expr), Good X cfg fa fns gns → okEs X.N fns gns es X.env.scope pys = true → PA X pys (rdA X.K fa (Rp X.K fa) (evs cfg es)) ∧ PA X pys (rdA X.K fa (RpP X.K fa) (pks cfg es))
  | .nil, X, [], G, h => ⟨a_nil, a_nil⟩
  | .nil, X, _ :: _, G, h => by cases h
  | .cons _ _, X, [], G, h => by cases h
  | .cons e es, X, x :: xs, G, h => by
    obtain ⟨h1, k2⟩ := b2 (show (okE X.N fns gns e X.env.scope x && okEs X.N fns gns es X.env.scope xs) = true from h)
    have he := (sndE e X x G h1).1
    have hs := sndEs es X xs G k2
    exact ⟨a_cons Rp.monoR he hs.1 (ok_star h1), a_cons RpP.monoR (pk_of he h1) hs.2 (ok_star h1)⟩
theorem sndB : ∀ (c : B) (X : Cx) (py : Expr), Good X cfg fa fns gns → okB X.N fns gns c X.env.scope py = true → PT X py (rdT X.K fa (tst cfg c))
  | .and a b, X, py, G, h => by
    cases py <;> first | (cases h; done) | skip
    case BoolOp o vs p =>
      cases o <;> first | (cases h; done) | skip
      obtain _ | ⟨x, _ | ⟨y, _ | ⟨z, r⟩⟩⟩ := vs <;> first | (cases h; done) | skip
      · obtain ⟨h1, h2⟩ := b2 (show (okB X.N fns gns a X.env.scope x && okB X.N fns gns b X.env.scope y) = true from h)
        exact (t_and (sndB a X x G h1) (pw_and1 (sndB b X y G h2))).pt
      · obtain ⟨h1, h2⟩ := b2 (show (okB X.N fns gns a X.env.scope x && okB X.N fns gns b X.env.scope (.BoolOp .And (y :: z :: r) p)) = true from h)
        exact (t_and (sndB a X x G h1) (pw_bool (sndB b X _ G h2) fun _ _ => rfl)).pt
  | .or a b, X, py, G, h => by
    cases py <;> first | (cases h; done) | skip
    case BoolOp o vs p =>
      cases o <;> first | (cases h; done) | skip
      obtain _ | ⟨x, _ | ⟨y, _ | ⟨z, r⟩⟩⟩ := vs <;> first | (cases h; done) | skip
      · obtain ⟨h1, h2⟩ := b2 (show (okB X.N fns gns a X.env.scope x && okB X.N fns gns b X.env.scope y) = true from h)
        exact (t_or (sndB a X x G h1) (pw_or1 (sndB b X y G h2))).pt
      · obtain ⟨h1, h2⟩ := b2 (show (okB X.N fns gns a X.env.scope x && okB X.N fns gns b X.env.scope (.BoolOp .Or (y :: z :: r) p)) = true from h)
        exact (t_or (sndB a X x G h1) (pw_bool (sndB b X _ G h2) fun _ _ => rfl)).pt
  | .not a, X, py, G, h => by
    cases py <;> first | (cases h; done) | skip
    case UnaryOp o x p =>
      cases o <;> first | (cases h; done) | skip
      exact t_not (sndB a X x G h)
  | .e e, X, py, G, h => by
    obtain ⟨h1, k2⟩ := b2 (show (plainT py && okE X.N fns gns e X.env.scope py) = true from h)
    exact t_val (pk_of (sndE e X py G k2).1 k2) h1
  | .cmp op a b, X, py, G, h => by
    cases py <;> first | (cases h; done) | skip
    case Compare x os ys p =>
      obtain _ | ⟨o, _ | ⟨o2, os⟩⟩ := os <;> obtain _ | ⟨y, _ | ⟨y2, ys⟩⟩ := ys <;> first | (cases h; done) | skip
      all_goals first | (cases o <;> cases h; done) | skip
      obtain ⟨h1, k2⟩ := b2 (show (isCop o op && (!behindInMarks o y && (okE X.N fns gns a X.env.scope x && okE X.N fns gns b X.env.scope y))) = true from h)
      obtain ⟨j2, k3⟩ := b2 k2
      obtain ⟨j3, k4⟩ := b2 k3
      have e := isCop_eq h1
      subst e
      exact s_cmpT G.units (Bool.not_eq_true' _ ▸ j2) (pk_of (sndE a X x G j3).1 j3) (pk_of (sndE b X y G k4).1 k4)
  | .chn o1 o2 a b c, X, py, G, h => by
    cases py <;> first | (cases h; done) | skip
    case Compare x os ys p =>
      obtain _ | ⟨o, _ | ⟨o', _ | ⟨o3, os⟩⟩⟩ := os <;> obtain _ | ⟨y, _ | ⟨z, _ | ⟨y2, ys⟩⟩⟩ := ys <;> first | (cases h; done) | skip
      all_goals first | (cases o <;> cases h; done) | skip
      obtain ⟨h1, k2⟩ := b2 (show (isCop o o1 && (isCop o' o2 && (!lastMarks [o, o'] [y, z] && (okE X.N fns gns a X.env.scope x && (okE X.N fns gns b X.env.scope y && okE X.N fns gns c X.env.scope z))))) = true from h)
      obtain ⟨j2, k3⟩ := b2 k2
      obtain ⟨j3, k4⟩ := b2 k3
      obtain ⟨j4, k5⟩ := b2 k4
      obtain ⟨j5, k6⟩ := b2 k5
      have e := isCop_eq h1
      subst e
      have e := isCop_eq j2
      subst e
      exact s_chnT G.units (Bool.not_eq_true' _ ▸ j3) (sndE a X x G j4).1 (sndE b X y G j5).1 (sndE c X z G k6).1
  | .isN a, X, py, G, h => by
    cases py <;> first | (cases h; done) | skip
    case Compare x os ys p =>
      obtain _ | ⟨o, _ | ⟨o2, os⟩⟩ := os <;> obtain _ | ⟨y, _ | ⟨y2, ys⟩⟩ := ys <;> first | (cases h; done) | skip
      all_goals first | (simp [okE] at h; done) | (simp [okB] at h; done) | skip
      cases o <;> first | (cases h; done) | skip
      cases y <;> first | (cases h; done) | skip
      case Constant c k p2 =>
        cases c <;> first | (cases h; done) | skip
        exact s_isNT (sndE a X x G h).1
  | .ntN a, X, py, G, h => by
    cases py <;> first | (cases h; done) | skip
    case Compare x os ys p =>
      obtain _ | ⟨o, _ | ⟨o2, os⟩⟩ := os <;> obtain _ | ⟨y, _ | ⟨y2, ys⟩⟩ := ys <;> first | (cases h; done) | skip
      all_goals first | (simp [okE] at h; done) | (simp [okB] at h; done) | skip
      cases o <;> first | (cases h; done) | skip
      cases y <;> first | (cases h; done) | skip
      case Constant c k p2 =>
        cases c <;> first | (cases h; done) | skip
        exact s_ntNT (sndE a X x G h).1
theorem sndI : ∀ (s : I) (X : Cx) (tg py : Expr), Good X cfg fa fns gns → okI X.N fns gns s X.env.scope py = true → PI X tg py (rdI X.K fa (its cfg s)) ∧ ∀ v, foldedSetIterable py X.env v = pure v
  | .seq e, X, tg, py, G, h => by
    have h : okE X.N fns gns e X.env.scope py = true := h
    exact ⟨i_seq (pkL_of (sndE e X py G h).1 h), ok_fold h⟩
  | .rng e, X, tg, py, G, h => by
    cases py <;> first | (cases h; done) | skip
    case Call g xs kw p =>
      cases g <;> first | (cases h; done) | skip
      case Name x p2 =>
        obtain _ | ⟨y, _ | ⟨z, r⟩⟩ := xs <;> cases kw <;> first | (cases h; done) | skip
        obtain ⟨h1, k2⟩ := b2 (show (decide (x = ("range" : Str)) && (glB X.env.scope x && okE X.N fns gns e X.env.scope y)) = true from h)
        obtain ⟨j2, k3⟩ := b2 k2
        have e1 : x = ("range" : Str) := of_decide_eq_true h1
        subst e1
        exact ⟨i_rng G (gl_of j2) (sndE e X y G k3).1 (ok_star k3), fun v => rfl⟩
  | .rng2 a b, X, tg, py, G, h => by
    cases py <;> first | (cases h; done) | skip
    case Call g xs kw p =>
      cases g <;> first | (cases h; done) | skip
      case Name x p2 =>
        obtain _ | ⟨y, _ | ⟨z, _ | ⟨u, r⟩⟩⟩ := xs <;> cases kw <;> first | (cases h; done) | skip
        obtain ⟨h1, k2⟩ := b2 (show (decide (x = ("range" : Str)) && (glB X.env.scope x && (okE X.N fns gns a X.env.scope y && okE X.N fns gns b X.env.scope z))) = true from h)
        obtain ⟨j2, k3⟩ := b2 k2
        obtain ⟨k4, k5⟩ := b2 k3
        have e1 : x = ("range" : Str) := of_decide_eq_true h1
        subst e1
        exact ⟨i_rng2 G (gl_of j2) (sndE a X y G k4).1 (sndE b X z G k5).1 (fun r => ok_star k4) (ok_star k5), fun v => rfl⟩
end
end
end Ev

/-! Statements: which term stands for which text; the worlds' steps behind them. -/
namespace Ev
open PySem PySem.Spec PyProof.Rows L2

def isCallE : E → Bool
  | .call _ _ => true
  | _ => false
/-- the store of a value: a comprehension's is exchanged, and is so for sure -/
def compB (sc : Scope) (x : Str) (p : Pos) : Expr → Bool
  | .ListComp _ _ s pos => !locB sc x || (p.line == pos.line) && !(s.names.any fun (n, k) => n == x && (k == .local || k == .cell))
  | .SetComp _ _ _ _ => false
  | .DictComp _ _ _ _ _ => false
  | _ => true
def noComp : Expr → Bool
  | .ListComp _ _ _ _ => false
  | .SetComp _ _ _ _ => false
  | .DictComp _ _ _ _ _ => false
  | _ => true
def noSwapV : Expr → Bool
  | .Tuple vs _ _ => vs.all (foldedForSure 8) || !(vs.length == 2 || vs.length == 3)
  | _ => true
/-- all is folded, or the names are not plain locals all -/
def noSwapT (sc : Scope) (ts : List Expr) : Bool := ts.any fun | .Name x _ => !locB sc x | _ => true
def nmL (N : List Str) (i : Nat) (sc : Scope) (x : Str) : Bool := decide (N[i]? = some x) && lcB true sc x
def nmP (N : List Str) (i : Nat) (sc : Scope) (x : Str) : Bool := decide (N[i]? = some x) && locB sc x
section
variable (N fns gns : List Str)
mutual
def okT : T → Scope → Stmt → Bool
  | .asg i e, sc, .Assign [.Name x p] v _ => nmL N i sc x && (compB sc x p v && okE N fns gns e sc v)
  | .asgO i e, sc, .Assign [.Name x p] v _ => nmL N i sc x && (compB sc x p v && ((isFr e || isCallE e) && okE N fns gns e sc v))
  | .par2 i j a b, sc, .Assign [.Tuple [.Name x px, .Name y py] _ _] (.Tuple [v1, v2] _ _) _ =>
    nmP N i sc x && (nmP N j sc y && (decide (i ≠ j) && ((py.line == px.line) && (!(x == y) && (!(foldedForSure 8 v1 && foldedForSure 8 v2) && (!(constantsAlone 8 v1 && constantsAlone 8 v2) && (okE N fns gns a sc v1 && okE N fns gns b sc v2)))))))
  | .par3 i j k oi a b c, sc, .Assign [.Tuple [.Name x px, .Name y py, .Name z pz] _ _] (.Tuple [v1, v2, v3] _ _) _ =>
    nmP N i sc x && (nmP N j sc y && (nmP N k sc z && (decide (i ≠ j) && (decide (i ≠ k) && (decide (j ≠ k) && ((py.line == px.line) && ((pz.line == px.line) && (!(x == y) && (!(x == z) && (!(y == z) && (!(foldedForSure 8 v1 && (foldedForSure 8 v2 && foldedForSure 8 v3)) && (!(constantsAlone 8 v1 && (constantsAlone 8 v2 && constantsAlone 8 v3)) && ((!oi || (isFr a || isCallE a)) && (okE N fns gns a sc v1 && (okE N fns gns b sc v2 && okE N fns gns c sc v3)))))))))))))))
  | .unp t e, sc, .Assign [.Tuple ts k p] v _ => okTg N true (List.range N.length) t sc (.Tuple ts k p) && ((noSwapV v || noSwapT sc ts) && okE N fns gns e sc v)
  | .setI i k v, sc, .Assign [.Subscript (.Name x _) ix _] v' _ => nmL N i sc x && (nmB x && (okE N fns gns v sc v' && okE N fns gns k sc ix))
  | .app i e, sc, .Expr (.Call (.Attribute (.Name x _) m apos) [v] [] cpos) _ => nmL N i sc x && (nmB x && (decide (m = ("append" : Str)) && ((apos.endLine == cpos.line) && okE N fns gns e sc v)))
  | .ret e, sc, .Return (some v) _ => okE N fns gns e sc v
  | .reto i, sc, .Return (some (.Name x _)) _ => nmL N i sc x && nmB x
  | .ifs c a b, sc, .If v p q _ => okB N fns gns c sc v && (okTs a sc p && okTs b sc q)
  | .fors t s b, sc, .For tg it p [] _ => okTg N true (List.range N.length) t sc tg && (okI N fns gns s sc it && okTs b sc p)
  | .whl c b, sc, .While v p [] _ => okB N fns gns c sc v && okTs b sc p
  | .exp e, sc, .Expr v _ => noComp v && okE N fns gns e sc v
  | .asgD i, sc, .Assign [.Name x _] (.Dict [] [] _) _ => nmL N i sc x
  | .asgC i f es, sc, .Assign [.Name x _] (.Call (.Name g _) (y :: ys) [] _) _ => nmL N i sc x && (decide (fns[f]? = some g) && (glB sc g && (nmB g && okEs N fns gns es sc (y :: ys))))
  | .exX f es, sc, .Expr (.Call (.Name g _) (y :: ys) [] _) _ => decide (fns[f]? = some g) && (glB sc g && (nmB g && okEs N fns gns es sc (y :: ys)))
  | .retX f es, sc, .Return (some (.Call (.Name g _) (y :: ys) [] _)) _ => decide (fns[f]? = some g) && (glB sc g && (nmB g && okEs N fns gns es sc (y :: ys)))
  | .unpX t f es, sc, .Assign [.Tuple ts k p] (.Call (.Name g _) (y :: ys) [] _) _ => okTg N true (List.range N.length) t sc (.Tuple ts k p) && (decide (fns[f]? = some g) && (glB sc g && (nmB g && okEs N fns gns es sc (y :: ys))))
  | .rsv c e, sc, .Raise (some (.Call (.Name x _) [y] [] _)) none _ => decide (x = xname c) && (decide (x ∈ gns) && (glB sc x && ((c == 5 || c == 8) && okE N fns gns e sc y)))
  | .rse c, sc, .Raise (some (.Call (.Name x _) [.Constant (.str _) _ _] [] _)) none _ => (decide (x = xname c) && (decide (x ∈ gns) && glB sc x)) && !(c == 5 || c == 8)
  | .dead, _, .Assign _ _ _ => false
  | .dead, _, _ => true
  | _, _, _ => false
def okTs : Ts → Scope → List Stmt → Bool
  | .nil, _, [] => true
  | .cons t ts, sc, s :: ss => okT t sc s && okTs ts sc ss
  | .frz _ ts, sc, ss => okTs ts sc ss
  | _, _, _ => false
end
end

/-! ### readings of statements -/
def EdT (K : PySem.W.Frag) (fa : Fx) (w0 : Wd) (EX : XK) (w : Wd) (D : Ends) (S' : Sto) : Fl → Prop
  | .nx ρ' => ∀ w' σ', Kp w w' → w0.Le w' → Sit K fa w' w'.H σ' ρ' S' → Yg w0.H σ' ρ' → D.nx σ' w'.H
  | .rt r => ∀ w' v, w0.Le w' → w'.Ok → SR K fa w' S' → RR K fa w0 w' v r → D.rt v w'.H
  | .ex c d => ∀ w' cls dd, w0.Le w' → w'.Ok → SR K fa w' S' → XR K w' c d cls dd → EX cls dd w'.H
def rs (K : PySem.W.Frag) (fa : Fx) (w0 : Wd) (EX : XK) (m : Env → M Fl) : TS := fun D σ H => ∃ w ρ S fl S', Sit K fa w H σ ρ S ∧ w0.Le w ∧ Yg w0.H σ ρ ∧ m ρ S = .ok fl S' ∧ EdT K fa w0 EX w D S' fl
theorem _root_.L2.PS.conv {X : Cx} {st : Stmt} {t t' : TS} (h : PS X st t) (c : ∀ D σ H, t' D σ H → t D σ H) : PS X st t' := ⟨fun pins s σ H D I q => h.run pins s σ H D I (c D σ H q)⟩
theorem _root_.L2.PSs.conv {X : Cx} {st : List Stmt} {t t' : TS} (h : PSs X st t) (c : ∀ D σ H, t' D σ H → t D σ H) : PSs X st t' := ⟨fun pins s σ H D I q => h.run pins s σ H D I (c D σ H q)⟩
section
variable {K : PySem.W.Frag} {fa : Fx} {w w' w0 w1 w2 : Wd} {σ : L2.St} {ρ : Env} {S S' : Sto} {EX : XK}
theorem Kp.refl (w : Wd) : Kp w w := ⟨fun _ _ e => e, fun _ _ _ e => e, fun _ _ f e => ⟨f, e⟩, fun _ _ e => e⟩
theorem Kp.trans (a : Kp w w1) (b : Kp w1 w2) : Kp w w2 :=
  ⟨fun x xs e => b.tup x xs (a.tup x xs e), fun x o u e => b.frz x o u (a.frz x o u e), fun x xs f e => b.lst x xs (a.lst x xs f e).1 (a.lst x xs f e).2, fun n x e => b.loc n x (a.loc n x e)⟩
theorem EdT.kp {D : Ends} {fl : Fl} (h : EdT K fa w0 EX w D S fl) (k : Kp w w1) : EdT K fa w0 EX w1 D S fl := by
  cases fl with
  | nx ρ' => exact fun w' σ' k' l s y => h w' σ' (k.trans k') l s y
  | rt r => exact h
  | ex c d => exact h

/-! ### slots -/
theorem set_key {i : Nat} {x : Option SV} {ρ : Env} {j : Nat} {sv : SV} (h : (ρ.set i x)[j]? = some (some sv)) : (i = j ∧ x = some sv) ∨ (i ≠ j ∧ ρ[j]? = some (some sv)) := by
  rw [List.getElem?_set] at h
  by_cases hj : i = j
  · rw [if_pos hj] at h
    split at h
    · exact .inl ⟨hj, Option.some.inj h⟩
    · cases h
  · rw [if_neg hj] at h
    exact .inr ⟨hj, h⟩
theorem set_ne {α : Type} {i j : Nat} {x : α} {l : List α} (h : i ≠ j) : (l.set i x)[j]? = l[j]? := by rw [List.getElem?_set, if_neg h]
theorem set_eq {α : Type} {i : Nat} {x : α} {l : List α} (h : i < l.length) : (l.set i x)[i]? = some x := by rw [List.getElem?_set, if_pos rfl, if_pos h]
theorem set_lt {i : Nat} {x : Option SV} {ρ : Env} {sv : SV} (h : (ρ.set i x)[i]? = some (some sv)) : i < ρ.length := by
  have := (List.getElem?_eq_some_iff.mp h).1
  rwa [List.length_set] at this
theorem FR.set' {i : Nat} {v : V} {d : D} (f : FR K fa w σ ρ) (r : Rp K fa w v d) : FR K fa w (σ.set i (some v)) (ρ.set i (some (.val d))) := by
  by_cases h : i < σ.length
  · exact f.set h r
  · rw [List.set_eq_of_length_le (by omega), List.set_eq_of_length_le (by rw [← f.len]; omega)]
    exact f
theorem Yg.set {H0 : Hp} {i : Nat} {v : V} {d : D} (y : Yg H0 σ ρ) : Yg H0 (σ.set i (some v)) (ρ.set i (some (.val d))) := by
  intro j sv a h1 o h2
  rcases set_key h1 with ⟨_, e⟩ | ⟨hj, h1⟩
  · cases e
    cases o
  · rw [set_ne hj] at h2
    exact y j sv a h1 o h2
theorem Yg.eqx {H0 : Hp} {vs : List Nat} {σ' : L2.St} {ρ' : Env} (y : Yg H0 σ ρ) (e : Eqx vs σ σ' ρ ρ') : Yg H0 σ' ρ' := by
  intro j sv a h1 o h2
  obtain ⟨e1, e2⟩ := e.2.2.2 j sv h1 o
  rw [e2] at h2
  exact y j sv a e1 o h2
theorem SVOk.own {a : Addr} {sv : SV} (h : SVOk K fa w a sv) : sv.isOwn = true := by
  cases sv <;> first | exact h.elim | rfl
/-- a slot gets a list, a dict that nobody else holds -/
theorem FR.setO {i : Nat} {a : Addr} {sv : SV} (f : FR K fa w σ ρ) (h : SVOk K fa w a sv) (hn : ∀ (j : Nat) s2, ρ[j]? = some (some s2) → s2.isOwn = true → σ[j]? ≠ some (some (.ref a))) : FR K fa w (σ.set i (some (.ref a))) (ρ.set i (some sv)) := by
  have len := f.len
  refine ⟨by rw [List.length_set, List.length_set, len], fun j e q => ?_, fun j s1 q o => ?_, fun j k s1 s2 b e1 o1 e2 o2 e3 e4 => ?_⟩
  · rcases set_key q with ⟨rfl, e2⟩ | ⟨hj, q⟩
    · cases e2
      exact h.elim
    · rw [set_ne hj]
      exact f.val j e q
  · rcases set_key q with ⟨rfl, e2⟩ | ⟨hj, q2⟩
    · cases e2
      exact ⟨a, set_eq (by have := set_lt q; omega), h⟩
    · rw [set_ne hj]
      exact f.own j s1 q2 o
  · rcases set_key e1 with ⟨hj, _⟩ | ⟨hj, q1⟩
    · rcases set_key e2 with ⟨hk, _⟩ | ⟨hk, q2⟩
      · exact hj.symm.trans hk
      · subst hj
        rw [set_eq (by have := set_lt e1; omega)] at e3
        rw [set_ne hk] at e4
        cases e3
        exact absurd e4 (hn k s2 q2 o2)
    · rcases set_key e2 with ⟨hk, _⟩ | ⟨hk, q2⟩
      · subst hk
        rw [set_eq (by have := set_lt e2; omega)] at e4
        rw [set_ne hj] at e3
        cases e4
        exact absurd e3 (hn j s1 q1 o1)
      · rw [set_ne hj] at e3
        rw [set_ne hk] at e4
        exact f.dis j k s1 s2 b q1 o1 q2 o2 e3 e4
theorem Yg.setO {H0 : Hp} {i : Nat} {a : Addr} {sv : SV} (y : Yg H0 σ ρ) (h : H0 a = none) : Yg H0 (σ.set i (some (.ref a))) (ρ.set i (some sv)) := by
  intro j s2 b h1 o h2
  rcases set_key h1 with ⟨hj, _⟩ | ⟨hj, h1⟩
  · subst hj
    rw [List.getElem?_set, if_pos rfl] at h2
    split at h2
    · cases h2
      exact h
    · cases h2
  · rw [set_ne hj] at h2
    exact y j s2 b h1 o h2
/-- a new thing's address is in no slot of the frame's own -/
theorem FR.new_ne (f : FR K fa w σ ρ) {a : Addr} (h : w.H a = none) (j : Nat) (sv : SV) (e : ρ[j]? = some (some sv)) (o : sv.isOwn = true) : σ[j]? ≠ some (some (.ref a)) := by
  obtain ⟨b, h1, h2⟩ := f.own j sv e o
  intro z
  rw [h1] at z
  cases z
  cases sv with
  | val d => exact h2
  | own ds =>
    obtain ⟨vs, h2, _⟩ := h2
    rw [h] at h2
    cases h2
  | dic kvs =>
    obtain ⟨xs, vs, h2, _⟩ := h2
    rw [h] at h2
    cases h2

/-! ### lists of the frame's own are let stand -/
def Wd.fixS (w : Wd) (P : Addr → Prop) : Wd := { w with F := fun a => w.F a ∨ P a }
theorem fixS_kp (w : Wd) (P : Addr → Prop) : Kp w (w.fixS P) := ⟨fun _ _ e => e, fun _ _ _ e => e, fun _ _ f e => ⟨.inl f, e⟩, fun _ _ e => e⟩
theorem fixS_ok {P : Addr → Prop} (k : w.Ok) (h : ∀ a, P a → (∃ vs, w.H a = some (.lst vs)) ∧ a ∉ w.A) : (w.fixS P).Ok :=
  ⟨fun a f => f.elim (k.fz a) fun p => (h a p).1, k.ce, fun a m f => f.elim (k.cf a m) fun p => (h a p).2 m, k.nd⟩
theorem fixS_le {P : Addr → Prop} (l : w0.Le w) (h : ∀ a, P a → w0.H a = none) : w0.Le (w.fixS P) :=
  ⟨fun a f => .inl (l.f a f), fun a f => f.elim (l.fn a) fun p => .inr (h a p), l.a, fun b o e n nt => l.h b o e n nt, l.tb⟩
theorem fixS_sr {P : Addr → Prop} (r : SR K fa w S) : SR K fa (w.fixS P) S := r.keep (fixS_kp w P) rfl (fun _ _ => rfl) (fun _ _ e _ _ => e) fun _ _ e => e
theorem fixAll_get (ρ : Env) (i : Nat) : (fixAll ρ)[i]? = (ρ[i]?).map fun o => o.map SV.fix := by unfold fixAll; rw [List.getElem?_map]
theorem fixAll_key {j : Nat} {sv : SV} (e : (fixAll ρ)[j]? = some (some sv)) : ∃ s1, ρ[j]? = some (some s1) ∧ s1.fix = sv := by
  rw [fixAll_get] at e
  cases q : ρ[j]? with
  | none =>
    rw [q] at e
    cases e
  | some o =>
    rw [q] at e
    cases o with
    | none => cases e
    | some s1 => exact ⟨s1, rfl, Option.some.inj (Option.some.inj e)⟩
theorem FR.fixAll (f : FR K fa w σ ρ) (k : w.Ok) {P : Addr → Prop} (h : ∀ (i : Nat) ds a, ρ[i]? = some (some (.own ds)) → σ[i]? = some (some (.ref a)) → P a) (hP : ∀ a, P a → ∃ vs, w.H a = some (.lst vs)) : FR K fa (w.fixS P) σ (fixAll ρ) := by
  have kp := fixS_kp w P
  refine ⟨by unfold Ev.fixAll; rw [List.length_map]; exact f.len, fun i d e => ?_, fun i sv e o => ?_, fun i j s1 s2 a e1 o1 e2 o2 => ?_⟩
  · obtain ⟨s1, q, e1⟩ := fixAll_key e
    cases s1 with
    | val d' =>
      cases e1
      obtain ⟨v, h1, h2⟩ := f.val i _ q
      exact ⟨v, h1, h2.keep kp⟩
    | own xs =>
      cases e1
      obtain ⟨a, vs, h1, h2, h3, h4, h5, h6⟩ := f.ownL i xs q
      exact ⟨_, h1, .lst h2 (.inr (h i xs a q h1)) h5 (h6.keep kp)⟩
    | dic kvs => cases e1
  · obtain ⟨s1, q, e1⟩ := fixAll_key e
    cases s1 with
    | val d' =>
      cases e1
      cases o
    | own xs =>
      cases e1
      cases o
    | dic kvs =>
      cases e1
      obtain ⟨a, xs, vs, h1, h2, h3, h4, h5⟩ := f.dicL i kvs q
      exact ⟨a, h1, xs, vs, h2, h3, h4.keep kp, h5.keep kp⟩
  · obtain ⟨t1, q1, x1⟩ := fixAll_key e1
    obtain ⟨t2, q2, x2⟩ := fixAll_key e2
    have p1 : t1.isOwn = true := by cases t1 <;> first | rfl | (cases x1; cases o1)
    have p2 : t2.isOwn = true := by cases t2 <;> first | rfl | (cases x2; cases o2)
    exact f.dis i j t1 t2 a q1 p1 q2 p2
theorem Yg.fixAll {H0 : Hp} (y : Yg H0 σ ρ) : Yg H0 σ (fixAll ρ) := fun i sv a e o h => by
  obtain ⟨t1, q1, x1⟩ := fixAll_key e
  exact y i t1 a q1 (by cases t1 <;> first | rfl | (cases x1; cases o)) h
/-- a thing of one's own is let stand -/
theorem FR.fixX {i : Nat} {a : Addr} {sv : SV} {d : D} (f : FR K fa w σ ρ) (k : w.Ok) (e : ρ[i]? = some (some sv)) (o : sv.isOwn = true) (ha : σ[i]? = some (some (.ref a))) (kp : Kp w w') (r : Rp K fa w' (.ref a) d)
    (hH : ∀ b, b ≠ a → w'.H b = w.H b) (hF : ∀ b, b ≠ a → w'.F b → w.F b) (hA : w'.A = w.A) : FR K fa w' σ (ρ.set i (some (.val d))) := by
  refine ⟨by rw [List.length_set]; exact f.len, fun j d' q => ?_, fun j s1 q o1 => ?_, fun j m s1 s2 b e1 o1 e2 o2 e3 e4 => ?_⟩
  · rcases set_key q with ⟨rfl, x⟩ | ⟨hj, q⟩
    · cases x
      exact ⟨_, ha, r⟩
    · obtain ⟨v, g1, g2⟩ := f.val j d' q
      exact ⟨v, g1, g2.keep kp⟩
  · rcases set_key q with ⟨rfl, x⟩ | ⟨hj, q⟩
    · cases x
      cases o1
    · obtain ⟨b, g1, g2⟩ := f.own j s1 q o1
      have hb : b ≠ a := fun z => by
        subst z
        exact hj (f.dis i j sv s1 b e o q o1 ha g1)
      exact ⟨b, g1, g2.move kp (fun u q _ _ => by rw [hH b hb]; exact q) (fun u q nf z => nf (hF b hb z)) (fun u q na => by rw [hA]; exact na) k⟩
  · rcases set_key e1 with ⟨_, x⟩ | ⟨hj, q1⟩
    · cases x
      cases o1
    · rcases set_key e2 with ⟨_, x⟩ | ⟨hk, q2⟩
      · cases x
        cases o2
      · exact f.dis j m s1 s2 b q1 o1 q2 o2 e3 e4
/-- one list is let stand -/
theorem FR.fix1 {i : Nat} {a : Addr} {xs : List D} (f : FR K fa w σ ρ) (k : w.Ok) (e : ρ[i]? = some (some (.own xs))) (ha : σ[i]? = some (some (.ref a))) : FR K fa (w.fixS fun b => b = a) σ (ρ.set i (some (.val (.lst xs)))) := by
  obtain ⟨a', vs, h1, h2, h3, h4, h5, h6⟩ := f.ownL i xs e
  rw [ha] at h1
  cases h1
  have kp := fixS_kp w fun b => b = a
  exact f.fixX k e rfl ha kp (.lst h2 (.inr rfl) h5 (h6.keep kp)) (fun _ _ => rfl) (fun b hb z => z.elim (fun x => x) fun x => absurd x hb) rfl
theorem Yg.fix1 {H0 : Hp} {i : Nat} {d : D} (y : Yg H0 σ ρ) : Yg H0 σ (ρ.set i (some (.val d))) := by
  intro j sv a h1 o h2
  rcases set_key h1 with ⟨_, x⟩ | ⟨hj, h1⟩
  · cases x
    cases o
  · exact y j sv a h1 o h2
/-- a thing of the frame's own is written -/
theorem FR.putX {i : Nat} {a : Addr} {sv s' : SV} (f : FR K fa w σ ρ) (k : w.Ok) (e : ρ[i]? = some (some sv)) (o : sv.isOwn = true) (ha : σ[i]? = some (some (.ref a))) (kp : Kp w w') (h : SVOk K fa w' a s')
    (hH : ∀ b, b ≠ a → w'.H b = w.H b) (hF : w'.F = w.F) (hA : w'.A = w.A) : FR K fa w' σ (ρ.set i (some s')) := by
  have back : ∀ {j : Nat} {s1 : SV}, (ρ.set i (some s'))[j]? = some (some s1) → s1.isOwn = true → ∃ t, ρ[j]? = some (some t) ∧ t.isOwn = true := fun {j s1} q o1 => by
    rcases set_key q with ⟨rfl, x⟩ | ⟨hj, q⟩
    · exact ⟨sv, e, o⟩
    · exact ⟨s1, q, o1⟩
  refine ⟨by rw [List.length_set]; exact f.len, fun j d' q => ?_, fun j s1 q o1 => ?_, fun j m s1 s2 b e1 o1 e2 o2 e3 e4 => ?_⟩
  · rcases set_key q with ⟨rfl, x⟩ | ⟨hj, q⟩
    · cases x
      exact h.elim
    · obtain ⟨v, g1, g2⟩ := f.val j d' q
      exact ⟨v, g1, g2.keep kp⟩
  · rcases set_key q with ⟨rfl, x⟩ | ⟨hj, q⟩
    · cases x
      exact ⟨a, ha, h⟩
    · obtain ⟨b, g1, g2⟩ := f.own j s1 q o1
      have hb : b ≠ a := fun z => by
        subst z
        exact hj (f.dis i j sv s1 b e o q o1 ha g1)
      exact ⟨b, g1, g2.move kp (fun u q _ _ => by rw [hH b hb]; exact q) (fun u q nf => by rw [hF]; exact nf) (fun u q na => by rw [hA]; exact na) k⟩
  · obtain ⟨t1, q1, p1⟩ := back e1 o1
    obtain ⟨t2, q2, p2⟩ := back e2 o2
    exact f.dis j m t1 t2 b q1 p1 q2 p2 e3 e4
theorem FR.put {i : Nat} {a : Addr} {vs : List V} {xs ds : List D} (f : FR K fa w σ ρ) (k : w.Ok) (e : ρ[i]? = some (some (.own xs))) (ha : σ[i]? = some (some (.ref a))) (hl : vs.length ≤ sizeLine) (r : Rps K fa w vs ds) : FR K fa (w.put a vs) σ (ρ.set i (some (.own ds))) := by
  obtain ⟨a', us, h1, h2, h3, h4, h5, h6⟩ := f.ownL i xs e
  rw [ha] at h1
  cases h1
  have kp := put_kp (vs := vs) h2 h3
  exact f.putX k e rfl ha kp ⟨vs, upd_same, h3, h4, hl, r.keep kp⟩ (fun b hb => upd_ne hb) rfl rfl
theorem Yg.put {H0 : Hp} {i : Nat} {sv s' : SV} (y : Yg H0 σ ρ) (e : ρ[i]? = some (some sv)) (o : sv.isOwn = true) : Yg H0 σ (ρ.set i (some s')) := by
  intro j s1 a h1 o1 h2
  rcases set_key h1 with ⟨rfl, x⟩ | ⟨hj, h1⟩
  · exact y i sv a e o h2
  · exact y j s1 a h1 o1 h2
/-! ### a dict of one's own is written, locked -/
/-- a world in which one thing, known as such, is otherwise -/
def Wd.at (w : Wd) (a : Addr) (u : HO) : Wd := { w with H := upd w.H a u }
section
variable {a : Addr} {φ : Heap → Prop} {u : HO}
theorem at_ne' (h : w.H a = some (.ext φ)) : ∀ b o, w.H b = some o → (∀ φ, o ≠ .ext φ) → b ≠ a := fun b o q nz z => by
  subst z
  rw [h] at q
  exact nz _ (Option.some.inj q).symm
theorem at_kp (h : w.H a = some (.ext φ)) : Kp w (w.at a u) := by
  have ne := at_ne' h
  have st : ∀ b, b ≠ a → (w.at a u).H b = w.H b := fun b hb => upd_ne hb
  exact ⟨fun b ys q => by rw [st b (ne b _ q fun _ z => by cases z)]; exact q, fun b o u q => by rw [st b (ne b _ q fun _ z => by cases z)]; exact q,
    fun b ys f q => ⟨f, by rw [st b (ne b _ q fun _ z => by cases z)]; exact q⟩, fun _ _ q => q⟩
theorem at_ok (k : w.Ok) (h : w.H a = some (.ext φ)) : (w.at a u).Ok := by
  have ne := at_ne' h
  have st : ∀ b, b ≠ a → (w.at a u).H b = w.H b := fun b hb => upd_ne hb
  refine ⟨fun b f => ?_, fun b m => ?_, k.cf, k.nd⟩
  · obtain ⟨us, q⟩ := k.fz b f
    exact ⟨us, by rw [st b (ne b _ q fun _ z => by cases z)]; exact q⟩
  · obtain ⟨us, q⟩ := k.ce b m
    exact ⟨us, by rw [st b (ne b _ q fun _ z => by cases z)]; exact q⟩
theorem at_sr {xs : List (NestedKey × Addr)} {vs : List V} (k : w.Ok) (r : SR K fa w S) (h : w.H a = some (.ext (Dn a xs vs))) (hu : ∀ ps, u ≠ .tbl ps := by intro ps z; cases z) : SR K fa (w.at a u) S := r.keep (at_kp h) rfl (fun b m => by
  obtain ⟨us, q⟩ := k.ce b m
  exact upd_ne (at_ne' h b _ q fun _ z => by cases z)) (fun b o q _ n => by
  show upd w.H a u b = _
  rw [upd_ne fun z => by subst z; rw [h] at q; exact n _ _ (Option.some.inj q).symm]
  exact q) fun b ps e => upd_tbl hu e
theorem at_le (l : w0.Le w) (n : w0.H a = none) : w0.Le (w.at a u) := ⟨l.f, l.fn, l.a, fun b o e m nt => by
  show upd w.H a u b = _
  rw [upd_ne (ne_of_none e n)]
  exact l.h b o e m nt, fun b ps e => by
  show ∃ ps', upd w.H a u b = _
  rw [upd_ne (ne_of_none e n)]
  exact l.tb b ps e⟩
end
/-- a cell is written -/
theorem cell_kp {p : Addr} {us vs : List V} (k : w.Ok) (hp : p ∈ w.A) (h : w.H p = some (.lst us)) : Kp w (w.put p vs) := put_kp h (k.cf p hp)
theorem cell_sr {n : Nat} {p : Addr} {us vs : List V} {ds : List D} (k : w.Ok) (r : SR K fa w S) (hp : w.A[n]? = some p) (h : w.H p = some (.lst us)) (hl : vs.length ≤ sizeLine) (rr : Rps K fa w vs ds) : SR K fa (w.put p vs) (S.set n (.cell ds)) := by
  have kp := cell_kp (vs := vs) k (List.mem_of_getElem? hp) h
  refine ⟨by rw [List.length_set]; exact r.len, fun m a o e1 e2 => ?_, tabs_keep r.tb fun b o e n _ => by
    show upd w.H p _ b = _
    rw [upd_ne fun z => by subst z; rw [h] at e; exact n _ (Option.some.inj e).symm]
    exact e⟩
  have e1 : w.A[m]? = some a := e1
  rw [List.getElem?_set] at e2
  by_cases hm : n = m
  · subst hm
    rw [hp] at e1
    cases e1
    rw [if_pos rfl] at e2
    split at e2
    · cases e2
      exact ⟨vs, upd_same, hl, rr.keep kp⟩
    · cases e2
  · rw [if_neg hm] at e2
    have q := r.at_ m a o e1 e2
    cases o with
    | cell es =>
      obtain ⟨us', h1, h2, h3⟩ := q
      have ha : a ≠ p := fun z => by
        subst z
        have i1 := (List.getElem?_eq_some_iff.mp e1)
        have i2 := (List.getElem?_eq_some_iff.mp hp)
        obtain ⟨j1, j2⟩ := i1
        obtain ⟨j3, j4⟩ := i2
        exact hm ((List.getElem_inj k.nd).mp (j4.trans j2.symm))
      refine ⟨us', ?_, h2, h3.keep kp⟩
      show upd w.H p _ a = _
      rw [upd_ne ha]
      exact h1
theorem cell_le {p : Addr} {us vs : List V} (l : w0.Le w) (hp : p ∈ w.A) (h : w.H p = some (.lst us)) : w0.Le (w.put p vs) := by
  refine ⟨l.f, l.fn, l.a, fun b o e m nt => ?_, fun b ps e => ?_⟩
  · show upd w.H p _ b = _
    have hb : b ≠ p := fun z => by
      subst z
      obtain ⟨t, e1, ht⟩ := l.a
      rw [e1] at hp
      rcases List.mem_append.mp hp with q | q
      · exact m q
      · rw [ht b q] at e
        cases e
    rw [upd_ne hb]
    exact l.h b o e m nt
  · obtain ⟨ps', e'⟩ := l.tb b ps e
    refine ⟨ps', ?_⟩
    show upd w.H p _ b = _
    rw [upd_ne fun z => by subst z; rw [h] at e'; cases e']
    exact e'
theorem cell_fr {p : Addr} {us vs : List V} (f : FR K fa w σ ρ) (k : w.Ok) (hp : p ∈ w.A) (h : w.H p = some (.lst us)) : FR K fa (w.put p vs) σ ρ := by
  have kp := cell_kp (vs := vs) k hp h
  refine ⟨f.len, fun j d e => ?_, fun j sv e o => ?_, f.dis⟩
  · obtain ⟨v, g1, g2⟩ := f.val j d e
    exact ⟨v, g1, g2.keep kp⟩
  · obtain ⟨b, g1, g2⟩ := f.own j sv e o
    exact ⟨b, g1, g2.move kp (fun u q na _ => by show upd w.H p _ b = _; rw [upd_ne fun z => na (by rw [z]; exact hp)]; exact q) (fun _ _ nf => nf) (fun _ _ na => na) k⟩
end
end Ev

/-! Statements keep what the model does. -/
namespace Ev
open PySem PySem.Spec PyProof.Rows L2

/-- an error's class, as the top left it -/
structure XOk (K : PySem.W.Frag) (mg : Str → Option Value) (c : Nat) : Prop where
  mg : mg (xname c) = some (.ref (He.ga K (xname c)))
  ex : PySem.W.excIn K (He.ga K (xname c)) [.type "ValueError", .type "Exception", .type "BaseException", .type "object"] "ValueError.__new__" = true
  kp : PySem.W.keepIn K (.ref (He.ga K (xname c))) = true
  sb : PySem.W.subIn K (.ref (He.ga K (xname c))) (.type "BaseException") = some true
  ty : PySem.W.typeIn K (.ref (He.ga K (xname c))) = some (.type "type")
/-- .. one with an __init__ of its own -/
structure XIn (K : PySem.W.Frag) (mg : Str → Option Value) (c : Nat) (P : Program) (w : World) (base : Heap) : Prop where
  ex : ∃ (fI : Addr) (fd : FuncData), OexC K (He.ga K (xname c)) ∧ PySem.W.findIn K (.ref (He.ga K (xname c))) "__init__" = some (some (.ref fI)) ∧ PySem.W.typeIn K (.ref fI) = some (.type "function") ∧
    FnOk P w K mg base (L2N.CX P w) 1 fI fd (Hx.iNames (Hx.fname c)) (Hx.spI K (He.ga K (xname c)) (Hx.fname c)) ∧ Binds K fd (Hx.iNames (Hx.fname c)) [] ∧ mg (xname c) = some (.ref (He.ga K (xname c)))
structure GoodS (X : Cx) (cfg : Cfg) (fa : Fx) (fns gns : List Str) (EX : XK) : Prop where
  tk : L2N.Takes X (fun cls d _ H => EX cls d H)
  xc : ∀ c, ¬ (c = 5 ∨ c = 8) → xname c ∈ gns → XOk X.K X.mg c
  xi : ∀ c, (c = 5 ∨ c = 8) → xname c ∈ gns → XIn X.K X.mg c X.prog X.w X.base ∧ Room 2 X.A
  g : Good X cfg fa fns gns
  kind : X.env.scope.kind = .function
  fnt : ∀ x, X.fn x = true
  po : PassesOwn (model X.prog X.w) X.A X.env X.xe
section
variable {K : PySem.W.Frag} {fa : Fx} {X : Cx} {σ : L2.St} {H : Hp} {w0 : Wd} {EX : XK}
abbrev rdO (K : PySem.W.Frag) (fa : Fx) (m : Env → M (List D)) : TE := rdG K fa (fun w w' v ds => Fresh K fa w w' v ds) m
theorem r_val {m : Env → M D} {i : Nat} {D : Ends} (k0 : w0.Ok) (h : rs K fa w0 EX (fun ρ => M.bind (m ρ) fun x => M.pure (.nx (ρ.set i (some (.val x))))) D σ H) : rd K fa m σ H (fun x H1 => D.nx (σ.set i (some x)) H1) := by
  obtain ⟨w, ρ, S, fl, S', st, l, y, hm, ed⟩ := h
  obtain ⟨x, S1, h1, hm⟩ := bind_ok hm
  obtain ⟨e, rfl⟩ := pure_ok hm
  subst e
  exact ⟨w, ρ, S, x, S', st, h1, fun w1 v l1 k1 r1 rp => ed w1 (σ.set i (some v)) (l1.kp st.ok) (l.trans l1 k0 st.ok) ⟨rfl, k1, (st.fr.mono l1 st.ok).set' rp, r1⟩ y.set⟩
theorem r_own {m : Env → M (List D)} {i : Nat} {D : Ends} (k0 : w0.Ok) (h : rs K fa w0 EX (fun ρ => M.bind (m ρ) fun x => M.pure (.nx (ρ.set i (some (.own x))))) D σ H) : rdO K fa m σ H (fun x H1 => D.nx (σ.set i (some x)) H1) := by
  obtain ⟨w, ρ, S, fl, S', st, l, y, hm, ed⟩ := h
  obtain ⟨x, S1, h1, hm⟩ := bind_ok hm
  obtain ⟨e, rfl⟩ := pure_ok hm
  subst e
  refine ⟨w, ρ, S, x, S', st, h1, fun w1 v l1 k1 r1 fr => ?_⟩
  obtain ⟨a, vs, rfl, n, e1, nf, na, hl, rr⟩ := fr
  have f1 := st.fr.mono l1 st.ok
  exact ed w1 _ (l1.kp st.ok) (l.trans l1 k0 st.ok) ⟨rfl, k1, f1.setO (sv := .own x) ⟨vs, e1, nf, na, hl, rr⟩ (fun j es e o => st.fr.new_ne n j es e o), r1⟩ (y.setO (l.free k0 st.ok n))
theorem rdO_rdN {cfg : Cfg} {e : E} {Q : VK} (hf : isFr e = true) (h : rdO K fa (evF cfg e) σ H Q) : rdN K fa (ev cfg e) σ H Q := by
  obtain ⟨w, ρ, S, xs, S', st, hm, q⟩ := h
  have hm : M.bind (ev cfg e ρ) (fun x => M.opt (match x with
    | .lst xs => some xs
    | _ => none)) S = .ok xs S' := by
    cases e <;> first | exact hm | cases hf
  obtain ⟨x, S1, h1, hm2⟩ := bind_ok hm
  cases x <;> first | (cases hm2; done) | skip
  cases hm2
  exact ⟨w, ρ, S, _, S', st, h1, q⟩

/-! ### small texts -/
theorem sw_no {v : Expr} {t : Option Expr} {l : Nat} {env : PySem.Env} (h : noComp v = true) : swapsWith v t l env = pure false := by
  cases v <;> first | rfl | cases h
theorem loc_of {N : List Str} {i : Nat} {sc : Scope} {x : Str} (h : nmP N i sc x = true) : N[i]? = some x ∧ sc.names.lookup x = some .local := by
  obtain ⟨h1, h2⟩ := b2 h
  refine ⟨of_decide_eq_true h1, ?_⟩
  unfold locB at h2
  split at h2
  · assumption
  · cases h2
def isStar : Expr → Bool
  | .Starred _ _ => true
  | _ => false
theorem any2 {a b : Expr} (ha : isStar a = false) (hb : isStar b = false) (f : Expr → Bool) (hf : ∀ v, isStar v = false → f v = false) : [a, b].any f = false := by simp only [List.any_cons, List.any_nil, hf a ha, hf b hb, Bool.or_self]
theorem any3 {a b c : Expr} (ha : isStar a = false) (hb : isStar b = false) (hc : isStar c = false) (f : Expr → Bool) (hf : ∀ v, isStar v = false → f v = false) : [a, b, c].any f = false := by simp only [List.any_cons, List.any_nil, hf a ha, hf b hb, hf c hc, Bool.or_self]
theorem noStar {N fns gns : List Str} {e : E} {sc : Scope} {v : Expr} (h : okE N fns gns e sc v = true) : isStar v = false := by
  cases v <;> first | rfl | (rw [ok_noStar] at h; cases h)
theorem eraseDups2 {x y : Str} (h : (x == y) = false) : [x, y].eraseDups = [x, y] := by
  have h' : (y == x) = false := by
    rw [Bool.eq_false_iff] at h ⊢
    exact fun e => h (by rw [beq_iff_eq] at e ⊢; exact e.symm)
  simp [List.eraseDups_cons, h', h]
theorem eraseDups3 {x y z : Str} (h : (x == y) = false) (h2 : (x == z) = false) (h3 : (y == z) = false) : [x, y, z].eraseDups = [x, y, z] := by
  have sy : ∀ {x y : Str}, (x == y) = false → (y == x) = false := fun {x y} h => by
    rw [Bool.eq_false_iff] at h ⊢
    exact fun e => h (by rw [beq_iff_eq] at e ⊢; exact e.symm)
  simp [List.eraseDups_cons, sy h, sy h2, sy h3]
theorem swap2 {env : PySem.Env} {x y : Str} {px py pt pt2 : Pos} {kt k2 : Nat} {a b : Expr} (hk : env.scope.kind = .function) (hx : env.scope.names.lookup x = some .local) (hy : env.scope.names.lookup y = some .local) (hl : (py.line == px.line) = true) (hne : (x == y) = false)
    (ha : isStar a = false) (hb : isStar b = false) (hf : (foldedForSure 8 a && foldedForSure 8 b) = false) (hc : (constantsAlone 8 a && constantsAlone 8 b) = false) :
    swappedStores [.Tuple [.Name x px, .Name y py] kt pt] (.Tuple [a, b] k2 pt2) env = pure (some [x, y]) := by
  have kx : env.kindOf x = some .local := hx
  have ky : env.kindOf y = some .local := hy
  have hbk : env.blockKind = .function := by unfold Env.blockKind; rw [hk]; rfl
  have h2 : [a, b].all (foldedForSure 8) = false := by
    show (foldedForSure 8 a && (foldedForSure 8 b && true)) = false
    rw [Bool.and_true]
    exact hf
  have h3 : [a, b].all (constantsAlone 8) = false := by
    show (constantsAlone 8 a && (constantsAlone 8 b && true)) = false
    rw [Bool.and_true]
    exact hc
  unfold swappedStores
  simp only [h2, h3, hbk, List.filterMap_cons, List.filterMap_nil, kx, ky, Expr.pos, List.head?_cons, Option.map_some, Option.getD_some, hl, beq_self_eq_true, Bool.and_self, if_true, eraseDups2 hne]
  rw [any2 ha hb]
  · rfl
  · intro v h
    cases v <;> first | rfl | cases h
theorem swap3 {env : PySem.Env} {x y z : Str} {px py pz pt pt2 : Pos} {kt k2 : Nat} {a b c : Expr} (hk : env.scope.kind = .function) (hx : env.scope.names.lookup x = some .local) (hy : env.scope.names.lookup y = some .local) (hz : env.scope.names.lookup z = some .local) (hl : (py.line == px.line) = true) (hlz : (pz.line == px.line) = true)
    (hne : (x == y) = false) (hne2 : (x == z) = false) (hne3 : (y == z) = false)
    (ha : isStar a = false) (hb : isStar b = false) (hcs : isStar c = false)
    (hf : (foldedForSure 8 a && (foldedForSure 8 b && foldedForSure 8 c)) = false) (hc : (constantsAlone 8 a && (constantsAlone 8 b && constantsAlone 8 c)) = false) :
    swappedStores [.Tuple [.Name x px, .Name y py, .Name z pz] kt pt] (.Tuple [a, b, c] k2 pt2) env = pure (some [x, y, z]) := by
  have kx : env.kindOf x = some .local := hx
  have ky : env.kindOf y = some .local := hy
  have kz : env.kindOf z = some .local := hz
  have hbk : env.blockKind = .function := by unfold Env.blockKind; rw [hk]; rfl
  have h2 : [a, b, c].all (foldedForSure 8) = false := by
    show (foldedForSure 8 a && (foldedForSure 8 b && (foldedForSure 8 c && true))) = false
    rw [Bool.and_true]
    exact hf
  have h3 : [a, b, c].all (constantsAlone 8) = false := by
    show (constantsAlone 8 a && (constantsAlone 8 b && (constantsAlone 8 c && true))) = false
    rw [Bool.and_true]
    exact hc
  unfold swappedStores
  simp only [h2, h3, hbk, List.filterMap_cons, List.filterMap_nil, kx, ky, kz, Expr.pos, List.head?_cons, Option.map_some, Option.getD_some, hl, hlz, beq_self_eq_true, Bool.and_self, if_true, eraseDups3 hne hne2 hne3]
  rw [any3 ha hb hcs]
  · rfl
  · intro v h
    cases v <;> first | rfl | cases h
theorem lc_of {X : Cx} {i : Nat} {x : Str} (hf : ∀ x, X.fn x = true) (h : nmL X.N i X.env.scope x = true) : X.N[i]? = some x ∧ Loc X.env.scope x ∧ Vis X.env.scope x ∧ (X.fn x = true ∨ X.env.scope.names.lookup x = some .local) := by
  obtain ⟨h1, h2⟩ := b2 h
  obtain ⟨h3, h4⟩ := lcB_ok h2 fun _ => hf
  exact ⟨of_decide_eq_true h1, h3, h3.elim (fun z => .inl z) (fun z => .inr (.inl z)), h4⟩
theorem filterMap_all {α β : Type} (f : α → Option β) : ∀ l : List α, (l.filterMap f).length = l.length → ∀ x ∈ l, (f x).isSome = true
  | [], _, x, hx => nomatch hx
  | a :: l, h, x, hx => by
    cases q : f a with
    | none =>
      rw [List.filterMap_cons, q] at h
      have := List.length_filterMap_le f l
      have h : (l.filterMap f).length = l.length + 1 := h
      omega
    | some b =>
      rw [List.filterMap_cons, q] at h
      rcases List.mem_cons.mp hx with e | hx
      · rw [e, q] <;> rfl
      · exact filterMap_all f l (by simpa using h) x hx
theorem swapN1 {env : PySem.Env} {ts : List Expr} {kt : Nat} {pt : Pos} {v : Expr} (h : noSwapV v = true) : swappedStores [.Tuple ts kt pt] v env = pure none := by
  cases v <;> first | rfl | skip
  case Tuple vs k p =>
    have h : (vs.all (foldedForSure 8) || !(vs.length == 2 || vs.length == 3)) = true := h
    unfold swappedStores
    by_cases c1 : (!(ts.length == 2 || ts.length == 3) || vs.length != ts.length || env.blockKind != .function) = true
    · simp only [c1, if_true]
    · rw [Bool.not_eq_true] at c1
      have hall : vs.all (foldedForSure 8) = true := by
        rw [Bool.or_eq_true] at h
        rcases h with h | h
        · exact h
        · simp only [Bool.or_eq_false_iff, bne_eq_false_iff_eq, Bool.not_eq_false'] at c1
          rw [c1.1.2, c1.1.1] at h
          cases h
      simp only [c1, hall, Bool.false_eq_true, if_false, if_true]
      first | rfl | (split <;> first | rfl | (split <;> rfl)) | skip
theorem swapN2 {env : PySem.Env} {ts : List Expr} {kt : Nat} {pt : Pos} {v : Expr} (h : noSwapT env.scope ts = true) : swappedStores [.Tuple ts kt pt] v env = pure none := by
  cases v <;> first | rfl | skip
  case Tuple vs k p =>
    obtain ⟨t, ht, hb⟩ := List.any_eq_true.mp h
    unfold swappedStores
    dsimp only
    split
    · rfl
    · split
      · rfl
      · split
        · rfl
        · rename_i hne
          exfalso
          rw [Bool.not_eq_true, Bool.or_eq_false_iff, bne_eq_false_iff_eq] at hne
          have q := filterMap_all _ ts hne.1 t ht
          cases t <;> first | (cases q; done) | skip
          case Name x px =>
            have hb : (!locB env.scope x) = true := hb
            have hk : (env.kindOf x == some .local) = false := by
              show (env.scope.names.lookup x == some .local) = false
              unfold locB at hb
              cases q2 : env.scope.names.lookup x with
              | none => rfl
              | some k =>
                rw [q2] at hb
                cases k <;> first | rfl | cases hb
            simp [hk] at q
theorem swapN {env : PySem.Env} {ts : List Expr} {kt : Nat} {pt : Pos} {v : Expr} (h : (noSwapV v || noSwapT env.scope ts) = true) : swappedStores [.Tuple ts kt pt] v env = pure none := by
  rcases Bool.or_eq_true_iff.mp h with h | h
  · exact swapN1 h
  · exact swapN2 h
end
end Ev

/-! Statements keep what the model does: every form. -/
namespace Ev
open PySem PySem.Spec PyProof.Rows L2
section
variable (cfg : Cfg) (fa : Fx) {fns gns : List Str} {X : Cx} {EX : XK}
/-- a call, with what it hands back -/
theorem sndC {es : Es} {f : Nat} {py : Expr} (G : Good X cfg fa fns gns) (h : okE X.N fns gns (.call f es) X.env.scope py = true) : PE X py (rdR X.K fa (fun ρ => M.bind (evs cfg es ρ) fun xs => M.val (cfg.C f xs))) := by
  cases py <;> first | (cases h; done) | skip
  case Call g xs kw p =>
    cases g <;> first | (cases h; done) | skip
    case Name x p2 =>
      cases kw <;> first | (cases h; done) | skip
      obtain ⟨h1, k2⟩ := b2 (show (decide (fns[f]? = some x) && (glB X.env.scope x && (nmB x && okEs X.N fns gns es X.env.scope xs))) = true from h)
      obtain ⟨j2, k3⟩ := b2 k2
      obtain ⟨j3, k4⟩ := b2 k3
      obtain ⟨n1, n2, _⟩ := nm_of j3
      by_cases hne : xs = []
      · subst hne
        cases es with
        | nil => exact s_call0 G (of_decide_eq_true h1) (gl_of j2) n1
        | cons _ _ => cases k4
      · refine s_call G (of_decide_eq_true h1) (gl_of j2) n1 (sndEs cfg fa fns gns es X xs G k4).1 hne fun e r er => ?_
        subst er
        cases es with
        | nil => cases k4
        | cons e2 es =>
          obtain ⟨k1, k2⟩ := b2 (show (okE X.N fns gns e2 X.env.scope e && okEs X.N fns gns es X.env.scope r) = true from k4)
          exact ⟨ok_star k1, ok_any k2⟩
theorem sndX {es : Es} {f : Nat} {g : Str} {y : Expr} {ys : List Expr} {p2 p : Pos} (G : GoodS X cfg fa fns gns EX) (h : (decide (fns[f]? = some g) && (glB X.env.scope g && (nmB g && okEs X.N fns gns es X.env.scope (y :: ys)))) = true) :
    PE X (.Call (.Name g p2) (y :: ys) [] p) (rdX X.K fa EX (fun ρ => M.bind (evs cfg es ρ) fun xs => cfg.C f xs)) := by
  obtain ⟨h1, k2⟩ := b2 h
  obtain ⟨j2, k3⟩ := b2 k2
  obtain ⟨j3, k4⟩ := b2 k3
  obtain ⟨n1, n2, _⟩ := nm_of j3
  have hf := of_decide_eq_true h1
  obtain ⟨fd, ps, k, hr, hk, hb, F⟩ := G.g.fn f g hf
  have hm := G.g.fnv f g hf
  obtain ⟨st1, st2⟩ : starEach (y :: ys) X.env = (false, eval y X.env) :: starEach ys X.env ∧ (backTo p (starEach ys X.env)).any (·.1) = false := by
    cases es with
    | nil => cases k4
    | cons e2 es =>
      obtain ⟨k1, k2⟩ := b2 (show (okE X.N fns gns e2 X.env.scope y && okEs X.N fns gns es X.env.scope ys) = true from k4)
      exact ⟨ok_star k1, ok_any k2⟩
  refine (pe_callS F hr (gl_of j2) hm hk hb (fun σ => L2N.passAt G.tk σ) (sndEs cfg fa fns gns es X (y :: ys) G.g k4).1 n1 st1 st2).conv fun σ H Q hq => ?_
  obtain ⟨w, ρ, S, r, S', st, hm, q, qe⟩ := hq
  obtain ⟨xs, S1, h1, hm⟩ := bind_ok hm
  refine ⟨w, ρ, S, xs, S1, st, h1, fun w1 vs l1 k1 r1 rp1 => ?_⟩
  exact ⟨w1, S1, xs, r, S', rfl, k1, r1, Rps.of_paired rp1, hm, fun w' v l k rr rn => q w' v (l1.trans l st.ok k1) k rr (rn.back l1 st.ok k1),
    fun c d e w' cls dd l k rr xr => qe c d e w' cls dd (l1.trans l st.ok k1) k rr xr⟩
/-- an expression whose list nobody else holds -/
theorem sndF {e : E} {py : Expr} (G : Good X cfg fa fns gns) (hf : (isFr e || isCallE e) = true) (h : okE X.N fns gns e X.env.scope py = true) : PE X py (rdO X.K fa (evF cfg e)) := by
  by_cases hc : isFr e = true
  · exact ((sndE cfg fa fns gns e X py G h).2 hc).conv fun σ H Q q => rdO_rdN hc q
  · cases e <;> first | (exact absurd rfl hc) | (cases hf; done) | skip
    case meth m i b =>
      cases m <;> first | (exact absurd rfl hc) | cases hf
    case call f es =>
      refine (sndC cfg fa G h).conv fun σ H Q hq => ?_
      obtain ⟨w, ρ, S, xs, S', st, hm, q⟩ := hq
      obtain ⟨ys, S1, g1, g2⟩ := bind_ok (show M.bind (evs cfg es ρ) (fun xs => M.bind (cfg.C f xs) fun r => M.opt (match r with
        | .own ys => some ys
        | _ => none)) S = .ok xs S' from hm)
      obtain ⟨r, S2, g3, g4⟩ := bind_ok g2
      cases r <;> first | (cases g4; done) | skip
      cases g4
      refine ⟨w, ρ, S, .own xs, S', st, ?_, q⟩
      show M.bind (evs cfg es ρ) (fun xs => M.val (cfg.C f xs)) S = _
      rw [bind_eq g1]
      show M.bind (cfg.C f ys) _ S1 = _
      rw [bind_eq g3]
      rfl
/-- a comprehension that a name gets -/
theorem sndLc {e : E} {i : Nat} {x : Str} {elt : Expr} {gs : List Comprehension} {scope : Scope} {p pos spos : Pos} (G : GoodS X cfg fa fns gns EX) (hn : nmL X.N i X.env.scope x = true) (hlb : locB X.env.scope x = true) (hb : compB X.env.scope x p (.ListComp elt gs scope pos) = true) (h : okE X.N fns gns e X.env.scope (.ListComp elt gs scope pos) = true) :
    PS X (.Assign [.Name x p] (.ListComp elt gs scope pos) spos) (tAsg (rdN X.K fa (ev cfg e)) (gName i)) := by
  have hi := (lc_of G.fnt hn).1
  have hl : X.env.scope.names.lookup x = some .local := by
    unfold locB at hlb
    split at hlb
    · assumption
    · cases hlb
  have hb : (!locB X.env.scope x || (p.line == pos.line) && !(scope.names.any fun (n, k) => n == x && (k == .local || k == .cell))) = true := hb
  rw [hlb] at hb
  obtain ⟨hb1, hb2⟩ := b2 (show ((p.line == pos.line) && !(scope.names.any fun (n, k) => n == x && (k == .local || k == .cell))) = true from hb)
  have hsw : swapsWith (.ListComp elt gs scope pos) (some (.Name x p)) spos.line X.env = pure true := sw_true G.kind hl hb1 (Bool.not_eq_true' _ ▸ hb2)
  cases e <;> first | (cases h; done) | (rename_i a; cases a <;> cases h; done) | skip
  case lc t s e vs =>
    obtain _ | ⟨⟨tg, it, ifs, as⟩, _ | ⟨g2, gs⟩⟩ := gs <;> first | (cases h; done) | skip
    all_goals obtain _ | ⟨c1, ifs⟩ := ifs <;> obtain (_ | as) | as := as <;> first | (cases h; done) | (simp [okE] at h; done) | skip
    obtain ⟨h1, k2⟩ := b2 (show ((blkC X.N X.env.scope scope (ownOf X.N vs) && noTell (relS scope X.env.scope)) && (okTg X.N false vs t (relS scope X.env.scope) tg && (okI X.N fns gns s X.env.scope it && okE X.N fns gns e (relS scope X.env.scope) elt))) = true from h)
    obtain ⟨j2, k3⟩ := b2 k2
    obtain ⟨j3, k4⟩ := b2 k3
    obtain ⟨i1, i2⟩ := sndI cfg fa fns gns s X tg it G.g j3
    have eq : ev cfg (.lc t s e vs) = fun ρ => M.bind (its cfg s ρ) fun xs => M.guard (decide (xs.length ≤ LIM)) (M.bind (mapF' (fun d => M.bind (M.opt (bindT t d (Ev.wipe ρ vs))) fun _ => M.pure true) (fun d => M.bind (M.opt (bindT t d (Ev.wipe ρ vs))) fun ρ' => ev cfg e ρ') xs) fun ys => M.pure (.lst ys)) := by
      funext ρ
      show (M.bind (its cfg s ρ) fun xs => M.guard (decide (xs.length ≤ LIM)) (M.bind (mapF' (fun _ => M.pure true) (fun d => M.bind (M.opt (bindT t d (Ev.wipe ρ vs))) fun ρ' => ev cfg e ρ') xs) fun ys => M.pure (D.lst ys))) = _
      simp only [mapF_tr]
    rw [eq]
    refine (ps_setLc (te := rd X.K fa (ev cfg e)) (g := gT X.K fa vs t) (tt := rdT X.K fa fun _ => M.pure true) G.g.calm G.g.nd hi hl hsw i1 (blkOk_by (b2 h1).1) (fun s H C cl fp => s_tg (cb := false) (X := X.blk s H scope (compEnvC scope cl C X.env) fp) G.g.nd G.g.calm (fun z => by cases z) t tg j2)
      (fun s H C cl fp => ⟨fun pins s2 σ H2 Q I hq => pts_nil.run pins s2 σ H2 Q I (by
        obtain ⟨w, ρ, S, d, S', st, hm, q⟩ := hq
        obtain ⟨e1, rfl⟩ := pure_ok hm
        subst e1
        have := q w (.refl w) st.ok st.sr
        rw [st.h] at this
        exact this)⟩)
      (fun s H C cl fp => (sndE cfg fa fns gns e (X.blk s H scope (compEnvC scope cl C X.env) fp) elt (G.g.blk s H scope _ fp (b2 h1).2) k4).1) i2).conv fun D σ H hq => ?_
    rw [ownOf_snd]
    exact lcf_read hq
  case lcf t s c e vs =>
    obtain _ | ⟨⟨tg, it, ifs, as⟩, _ | ⟨g2, gs⟩⟩ := gs <;> first | (cases h; done) | skip
    all_goals obtain _ | ⟨c1, _ | ⟨c2, ifs⟩⟩ := ifs <;> obtain (_ | as) | as := as <;> first | (cases h; done) | (simp [okE] at h; done) | skip
    obtain ⟨h1, k2⟩ := b2 (show ((blkC X.N X.env.scope scope (ownOf X.N vs) && noTell (relS scope X.env.scope)) && (okTg X.N false vs t (relS scope X.env.scope) tg && (okI X.N fns gns s X.env.scope it && (okB X.N fns gns c (relS scope X.env.scope) c1 && okE X.N fns gns e (relS scope X.env.scope) elt)))) = true from h)
    obtain ⟨j2, k3⟩ := b2 k2
    obtain ⟨j3, k4⟩ := b2 k3
    obtain ⟨j4, k5⟩ := b2 k4
    obtain ⟨i1, i2⟩ := sndI cfg fa fns gns s X tg it G.g j3
    refine (ps_setLc (te := rd X.K fa (ev cfg e)) (g := gT X.K fa vs t) (tt := rdT X.K fa (tst cfg c)) G.g.calm G.g.nd hi hl hsw i1 (blkOk_by (b2 h1).1) (fun s H C cl fp => s_tg (cb := false) (X := X.blk s H scope (compEnvC scope cl C X.env) fp) G.g.nd G.g.calm (fun z => by cases z) t tg j2)
      (fun s H C cl fp => pts_one (sndB cfg fa fns gns c (X.blk s H scope (compEnvC scope cl C X.env) fp) c1 (G.g.blk s H scope _ fp (b2 h1).2) j4))
      (fun s H C cl fp => (sndE cfg fa fns gns e (X.blk s H scope (compEnvC scope cl C X.env) fp) elt (G.g.blk s H scope _ fp (b2 h1).2) k5).1) i2).conv fun D σ H hq => ?_
    rw [ownOf_snd]
    exact lcf_read hq
theorem sw_cel {env : PySem.Env} {v : Expr} {x : Str} {p : Pos} {l : Nat} (h : locB env.scope x = false) (hc : compB env.scope x p v = true) : swapsWith v (some (.Name x p)) l env = pure false := by
  have hk : (env.kindOf x == some .local) = false := by
    show (env.scope.names.lookup x == some .local) = false
    unfold locB at h
    cases q2 : env.scope.names.lookup x with
    | none => rfl
    | some k =>
      rw [q2] at h
      cases k <;> first | rfl | cases h
  cases v <;> first | rfl | (cases hc; done) | skip
  unfold swapsWith
  simp only [hk, Bool.and_false, Bool.false_and]
theorem comp_cases {sc : Scope} {x : Str} {p : Pos} {v : Expr} (h : compB sc x p v = true) : noComp v = true ∨ ∃ elt gs scope pos, v = .ListComp elt gs scope pos := by
  cases v <;> first | (exact .inl rfl) | (cases h; done) | exact .inr ⟨_, _, _, _, rfl⟩
theorem s_asg {e : E} {i : Nat} {x : Str} {v : Expr} {p spos : Pos} {w0 : Wd} (k0 : w0.Ok) (G : GoodS X cfg fa fns gns EX) (hn : nmL X.N i X.env.scope x = true) (hb : compB X.env.scope x p v = true) (h : okE X.N fns gns e X.env.scope v = true) :
    PS X (.Assign [.Name x p] v spos) (rs X.K fa w0 EX (ex cfg (.asg i e))) := by
  obtain ⟨hi, hl, hv, hf⟩ := lc_of G.fnt hn
  by_cases hloc : locB X.env.scope x = true
  · rcases comp_cases hb with hc | ⟨elt, gs, scope, pos, rfl⟩
    · exact (ps_set G.g.nd hi hl (sndE cfg fa fns gns e X v G.g h).1 (sw_no hc) hf).conv fun D σ H q => r_val k0 q
    · exact (sndLc cfg fa G hn hloc hb h).conv fun D σ H q => rdN_rd (r_val k0 q)
  · exact (ps_set G.g.nd hi hl (sndE cfg fa fns gns e X v G.g h).1 (sw_cel (by simpa using hloc) hb) hf).conv fun D σ H q => r_val k0 q
theorem lc_isFr {e : E} {N : List Str} {sc : Scope} {elt : Expr} {gs : List Comprehension} {scope : Scope} {pos : Pos} (h : okE N fns gns e sc (.ListComp elt gs scope pos) = true) : isFr e = true := by
  cases e <;> first | (cases h; done) | rfl | (rename_i a; cases a <;> cases h)
theorem s_asgO {e : E} {i : Nat} {x : Str} {v : Expr} {p spos : Pos} {w0 : Wd} (k0 : w0.Ok) (G : GoodS X cfg fa fns gns EX) (hn : nmL X.N i X.env.scope x = true) (hb : compB X.env.scope x p v = true) (hf : (isFr e || isCallE e) = true) (h : okE X.N fns gns e X.env.scope v = true) :
    PS X (.Assign [.Name x p] v spos) (rs X.K fa w0 EX (ex cfg (.asgO i e))) := by
  obtain ⟨hi, hl, hv, hfn⟩ := lc_of G.fnt hn
  by_cases hloc : locB X.env.scope x = true
  · rcases comp_cases hb with hc | ⟨elt, gs, scope, pos, rfl⟩
    · exact (ps_set G.g.nd hi hl (sndF cfg fa G.g hf h) (sw_no hc) hfn).conv fun D σ H q => r_own k0 q
    · exact (sndLc cfg fa G hn hloc hb h).conv fun D σ H q => rdO_rdN (lc_isFr h) (r_own k0 q)
  · exact (ps_set G.g.nd hi hl (sndF cfg fa G.g hf h) (sw_cel (by simpa using hloc) hb) hfn).conv fun D σ H q => r_own k0 q
theorem s_par2 {a b : E} {i j : Nat} {x y : Str} {v1 v2 : Expr} {px py pt pt2 spos : Pos} {kt k2 : Nat} {w0 : Wd} (k0 : w0.Ok) (G : GoodS X cfg fa fns gns EX) (hx : nmP X.N i X.env.scope x = true) (hy : nmP X.N j X.env.scope y = true) (hij : i ≠ j) (hl : (py.line == px.line) = true) (hne : (x == y) = false)
    (hf : (foldedForSure 8 v1 && foldedForSure 8 v2) = false) (hc : (constantsAlone 8 v1 && constantsAlone 8 v2) = false) (h1 : okE X.N fns gns a X.env.scope v1 = true) (h2 : okE X.N fns gns b X.env.scope v2 = true) :
    PS X (.Assign [.Tuple [.Name x px, .Name y py] kt pt] (.Tuple [v1, v2] k2 pt2) spos) (rs X.K fa w0 EX (ex cfg (.par2 i j a b))) := by
  obtain ⟨hi, lx⟩ := loc_of hx
  obtain ⟨hj, ly⟩ := loc_of hy
  refine (ps_par (ta := tCons (rd X.K fa (ev cfg a)) (tCons (rd X.K fa (ev cfg b)) tNil)) G.g.calm G.g.nd hi hj hij lx ly (pa_cons (sndE cfg fa fns gns a X v1 G.g h1).1 (pa_cons (sndE cfg fa fns gns b X v2 G.g h2).1 pa_nil (ok_star h2)) (ok_star h1)) (swap2 G.kind lx ly hl hne (noStar h1) (noStar h2) hf hc)).conv fun D σ H q => ?_
  obtain ⟨w, ρ, S, fl, S', st, l, y, hm, ed⟩ := q
  obtain ⟨d1, S1, g1, hm⟩ := bind_ok (show M.bind (ev cfg a ρ) (fun x => M.bind (ev cfg b ρ) fun y => M.pure (.nx ((ρ.set i (some (.val x))).set j (some (.val y))))) S = .ok fl S' from hm)
  obtain ⟨d2, S2, g2, hm⟩ := bind_ok hm
  obtain ⟨e, rfl⟩ := pure_ok hm
  subst e
  refine ⟨w, ρ, S, d1, S1, st, g1, fun w1 u1 l1 k1 r1 rp1 => ?_⟩
  refine ⟨w1, ρ, S1, d2, S', st.next l1 k1 r1, g2, fun w2 u2 l2 k2 r2 rp2 => ?_⟩
  have l12 := l1.trans l2 st.ok k1
  exact ⟨u1, u2, rfl, ed w2 _ (l12.kp st.ok) (l.trans l12 k0 st.ok) ⟨rfl, k2, ((st.fr.mono l12 st.ok).set' (rp1.keep (l2.kp k1))).set' rp2, r2⟩ y.set.set⟩
theorem Fresh.le {K : PySem.W.Frag} {fa : Fx} {w w1 w2 : Wd} {v : V} {ds : List D} (h : Fresh K fa w w1 v ds) (l : w1.Le w2) (k : w1.Ok) : Fresh K fa w w2 v ds := by
  obtain ⟨a, vs, e, n, e1, nf, na, hl, rr⟩ := h
  exact ⟨a, vs, e, n, l.h a _ e1 na, l.nF e1 nf, l.nA e1 na, hl, rr.keep (l.kp k)⟩
theorem s_par3 {oi : Bool} {a b c : E} {i j k : Nat} {x y z : Str} {v1 v2 v3 : Expr} {px py pz pt pt2 spos : Pos} {kt k2 : Nat} {w0 : Wd} (k0 : w0.Ok) (G : GoodS X cfg fa fns gns EX) (hx : nmP X.N i X.env.scope x = true) (hy : nmP X.N j X.env.scope y = true) (hz : nmP X.N k X.env.scope z = true) (hij : i ≠ j) (hik : i ≠ k) (hjk : j ≠ k)
    (hl : (py.line == px.line) = true) (hlz : (pz.line == px.line) = true) (hne : (x == y) = false) (hne2 : (x == z) = false) (hne3 : (y == z) = false)
    (hf : (foldedForSure 8 v1 && (foldedForSure 8 v2 && foldedForSure 8 v3)) = false) (hc : (constantsAlone 8 v1 && (constantsAlone 8 v2 && constantsAlone 8 v3)) = false) (ho : (!oi || (isFr a || isCallE a)) = true)
    (h1 : okE X.N fns gns a X.env.scope v1 = true) (h2 : okE X.N fns gns b X.env.scope v2 = true) (h3 : okE X.N fns gns c X.env.scope v3 = true) :
    PS X (.Assign [.Tuple [.Name x px, .Name y py, .Name z pz] kt pt] (.Tuple [v1, v2, v3] k2 pt2) spos) (rs X.K fa w0 EX (ex cfg (.par3 i j k oi a b c))) := by
  obtain ⟨hi, lx⟩ := loc_of hx
  obtain ⟨hj, ly⟩ := loc_of hy
  obtain ⟨hk, lz⟩ := loc_of hz
  have sw := swap3 (env := X.env) (kt := kt) (k2 := k2) (pt := pt) (pt2 := pt2) G.kind lx ly lz hl hlz hne hne2 hne3 (noStar h1) (noStar h2) (noStar h3) hf hc
  have pb := pa_cons (sndE cfg fa fns gns b X v2 G.g h2).1 (pa_cons (sndE cfg fa fns gns c X v3 G.g h3).1 pa_nil (ok_star h3)) (ok_star h2)
  cases oi with
  | false =>
    refine (ps_par3 G.g.calm G.g.nd hi hj hk hij hik hjk lx ly lz (pa_cons (sndE cfg fa fns gns a X v1 G.g h1).1 pb (ok_star h1)) sw).conv fun D σ H q => ?_
    obtain ⟨w, ρ, S, fl, S', st, l, y, hm, ed⟩ := q
    obtain ⟨d1, S1, g1, hm⟩ := bind_ok (show M.bind (ev cfg a ρ) (fun x => M.bind (ev cfg b ρ) fun y => M.bind (ev cfg c ρ) fun z => M.pure (.nx (((ρ.set i (some (.val x))).set j (some (.val y))).set k (some (.val z))))) S = .ok fl S' from hm)
    obtain ⟨d2, S2, g2, hm⟩ := bind_ok hm
    obtain ⟨d3, S3, g3, hm⟩ := bind_ok hm
    obtain ⟨e, rfl⟩ := pure_ok hm
    subst e
    refine ⟨w, ρ, S, d1, S1, st, g1, fun w1 u1 l1 k1 r1 rp1 => ?_⟩
    refine ⟨w1, ρ, S1, d2, S2, st.next l1 k1 r1, g2, fun w2 u2 l2 k2 r2 rp2 => ?_⟩
    have l12 := l1.trans l2 st.ok k1
    refine ⟨w2, ρ, S2, d3, S', st.next l12 k2 r2, g3, fun w3 u3 l3 k3 r3 rp3 => ?_⟩
    have l13 := l12.trans l3 st.ok k2
    exact ⟨u1, u2, u3, rfl, ed w3 _ (l13.kp st.ok) (l.trans l13 k0 st.ok) ⟨rfl, k3, (((st.fr.mono l13 st.ok).set' ((rp1.keep (l2.kp k1)).keep (l3.kp k2))).set' (rp2.keep (l3.kp k2))).set' rp3, r3⟩ y.set.set.set⟩
  | true =>
    refine (ps_par3 G.g.calm G.g.nd hi hj hk hij hik hjk lx ly lz (pa_cons (sndF cfg fa G.g ho h1) pb (ok_star h1)) sw).conv fun D σ H q => ?_
    obtain ⟨w, ρ, S, fl, S', st, l, y, hm, ed⟩ := q
    obtain ⟨d1, S1, g1, hm⟩ := bind_ok (show M.bind (evF cfg a ρ) (fun xs => M.bind (ev cfg b ρ) fun y => M.bind (ev cfg c ρ) fun z => M.pure (.nx (((ρ.set i (some (.own xs))).set j (some (.val y))).set k (some (.val z))))) S = .ok fl S' from hm)
    obtain ⟨d2, S2, g2, hm⟩ := bind_ok hm
    obtain ⟨d3, S3, g3, hm⟩ := bind_ok hm
    obtain ⟨e, rfl⟩ := pure_ok hm
    subst e
    refine ⟨w, ρ, S, d1, S1, st, g1, fun w1 u1 l1 k1 r1 rp1 => ?_⟩
    refine ⟨w1, ρ, S1, d2, S2, st.next l1 k1 r1, g2, fun w2 u2 l2 k2 r2 rp2 => ?_⟩
    have l12 := l1.trans l2 st.ok k1
    refine ⟨w2, ρ, S2, d3, S', st.next l12 k2 r2, g3, fun w3 u3 l3 k3 r3 rp3 => ?_⟩
    have l13 := l12.trans l3 st.ok k2
    obtain ⟨a, vs, rfl, n, e1, nf, na, hl, rr⟩ := (Fresh.le rp1 l2 k1).le l3 k2
    have f1 := (st.fr.mono l13 st.ok).setO (i := i) (sv := .own d1) ⟨vs, e1, nf, na, hl, rr⟩ (fun j es e o => st.fr.new_ne n j es e o)
    exact ⟨_, u2, u3, rfl, ed w3 _ (l13.kp st.ok) (l.trans l13 k0 st.ok) ⟨rfl, k3, (f1.set' (rp2.keep (l3.kp k2))).set' rp3, r3⟩ (y.setO (l.free k0 st.ok n)).set.set⟩
end
end Ev

/-! Every statement keeps what the model does. -/
namespace Ev
open PySem PySem.Spec PyProof.Rows L2
/-! ### what a loop walks, let stand -/
inductive SrcF (K : PySem.W.Frag) (w : Wd) : It → List V → Prop
  | lst {a : Addr} {vs : List V} : w.H a = some (.lst vs) → w.F a → SrcF K w (Itl K a) vs
  | tup {a : Addr} {vs : List V} : SqT K w.H a vs → SrcF K w (Itt K a) vs
  | dic {a : Addr} {o : Obj} {xs : List (NestedKey × Addr)} {us : List V} : w.H a = some (.frz o (.ext (Dn a xs us))) → SrcF K w (ItN a o xs us) (xs.map fun p => V.ref p.2)
  | rng (n : Nat) : SrcF K w (Itr 0 n) ((List.range n).map fun (k : Nat) => V.int (k : Int))
  | rng2 (lo : Int) (n : Nat) : SrcF K w (Itr lo n) ((List.range n).map fun (k : Nat) => V.int (lo + (k : Int)))
  | sgn (cs : List Nat) : SrcF K w (Its (tx cs)) (cs.map fun c => V.str ⟨#[c]⟩)
section
variable {K : PySem.W.Frag} {fa : Fx} {w w' : Wd} {J : It} {vs : List V}
theorem SrcF.kp (s : SrcF K w J vs) (k : Kp w w') : SrcF K w' J vs := by
  cases s with
  | lst h n => exact .lst (k.lst _ _ n h).2 (k.lst _ _ n h).1
  | tup h => exact .tup (k.sqt h)
  | dic h => exact .dic (k.frz _ _ _ h)
  | rng n => exact .rng n
  | rng2 lo n => exact .rng2 lo n
  | sgn cs => exact .sgn cs
theorem SrcF.go (s : SrcF K w J vs) {i : Nat} (h : i < vs.length) : J.go i w.H := by
  cases s with
  | lst e n => exact ⟨vs, vs[i], .of e, List.getElem?_eq_getElem h⟩
  | tup e => exact ⟨vs, vs[i], e, List.getElem?_eq_getElem h⟩
  | dic e => exact ⟨e, by simpa using h⟩
  | rng n =>
    show i < n
    simpa using h
  | rng2 lo n =>
    show i < n
    simpa using h
  | sgn cs =>
    show i < (tx cs).cps.size
    simpa [tx] using h
theorem SrcF.stop (s : SrcF K w J vs) {i : Nat} (h : vs.length ≤ i) : J.stop i w.H := by
  cases s with
  | lst e n => exact ⟨vs, .of e, h⟩
  | tup e => exact ⟨vs, e, h⟩
  | dic e => exact ⟨e, by simpa using h⟩
  | rng n =>
    show n ≤ i
    simpa using h
  | rng2 lo n =>
    show n ≤ i
    simpa using h
  | sgn cs =>
    show (tx cs).cps.size ≤ i
    simpa [tx] using h
theorem SrcF.yld (s : SrcF K w J vs) {i : Nat} {x : V} {H' : Hp} (y : J.yld i w.H x H') (hi : i < vs.length) : H' = w.H ∧ vs[i]? = some x := by
  cases s with
  | lst e n => exact ⟨y.1, y.2 _ (.of e)⟩
  | tup e => exact ⟨y.1, y.2 _ e⟩
  | dic e =>
    obtain ⟨e1, p, e2, e3⟩ := y
    refine ⟨e1, ?_⟩
    rw [List.getElem?_map, e2, e3]
    rfl
  | rng n =>
    obtain ⟨e1, e2⟩ := y
    refine ⟨e1, ?_⟩
    have hn : i < n := by simpa using hi
    rw [e2, List.getElem?_map, List.getElem?_range hn, Int.zero_add]
    rfl
  | rng2 lo n =>
    obtain ⟨e1, e2⟩ := y
    refine ⟨e1, ?_⟩
    have hn : i < n := by simpa using hi
    rw [e2, List.getElem?_map, List.getElem?_range hn]
    rfl
  | sgn cs =>
    obtain ⟨e1, c, e2, e3⟩ := y
    refine ⟨e1, ?_⟩
    have e4 : cs[i]? = some c := by simpa [tx] using e2
    rw [e3, List.getElem?_map, e4]
    rfl
end
/-- what a loop begins with -/
def rdF (K : PySem.W.Frag) (fa : Fx) (cfg : Cfg) (w0 : Wd) (s : I) : TI := fun σ H R => ∃ w ρ S ds S', Sit K fa w H σ ρ S ∧ w0.Le w ∧ Yg w0.H σ ρ ∧ its cfg s ρ S = .ok ds S' ∧
  ∀ w' J vs, Kp w w' → w0.Le w' → Sit K fa w' w'.H σ (fixI s ρ) S' → Yg w0.H σ (fixI s ρ) → Rps K fa w' vs ds → SrcF K w' J vs → R J w'.H
section
variable (cfg : Cfg) (fa : Fx) (fns gns : List Str) {X : Cx} {w0 : Wd} {EX : XK}
theorem fixI_e {e : E} (h : ∀ i, e ≠ .var i) (ρ : Env) : fixI (.seq e) ρ = ρ := by
  cases e <;> first | rfl | exact absurd rfl (h _)
theorem pkOf_e {e : E} (h : ∀ i, e ≠ .var i) (m : M D) (ρ : Env) : pkL m e ρ = m := by
  cases e <;> first | rfl | exact absurd rfl (h _)
theorem i_for {s : I} {tg py : Expr} (k0 : w0.Ok) (G : Good X cfg fa fns gns) (h : okI X.N fns gns s X.env.scope py = true) : PI X tg py (rdF X.K fa cfg w0 s) := by
  cases s with
  | rng e =>
    cases py <;> first | (cases h; done) | skip
    case Call g xs kw pos =>
      cases g <;> first | (cases h; done) | skip
      case Name x p2 =>
        obtain _ | ⟨a, _ | ⟨z, r⟩⟩ := xs <;> cases kw <;> first | (cases h; done) | skip
        obtain ⟨h1, k2⟩ := b2 (show (decide (x = ("range" : Str)) && (glB X.env.scope x && okE X.N fns gns e X.env.scope a)) = true from h)
        obtain ⟨j2, k3⟩ := b2 k2
        have e1 : x = ("range" : Str) := of_decide_eq_true h1
        subst e1
        refine (pi_range1 (gl_of j2) (G.bl _ (by decide +kernel)) (pa_cons (sndE cfg fa fns gns e X a G k3).1 pa_nil (ok_star k3)) (ok_star k3)).conv fun σ H R h => ?_
        obtain ⟨w, ρ, S, ds, S', st, l, y, hm, q⟩ := h
        obtain ⟨x, S1, h1, hm1⟩ := bind_ok (show M.bind (ev cfg e ρ) (fun x => M.opt (rngO x)) S = .ok ds S' from hm)
        obtain ⟨e, rfl⟩ := opt_ok hm1
        refine ⟨w, ρ, S, x, S', st, h1, fun w1 v1 l1 k1 r1 rp1 => ?_⟩
        cases x <;> first | (cases e; done) | skip
        case int j =>
          obtain ⟨c, e⟩ := ite_someB e
          subst e
          simp only [Bool.and_eq_true, decide_eq_true_eq] at c
          cases rp1
          exact ⟨j, rfl, by omega, by omega, q w1 _ _ (l1.kp st.ok) (l.trans l1 k0 st.ok) ⟨rfl, k1, st.fr.mono l1 st.ok, r1⟩ y (rng_rps j) (.rng _)⟩
  | rng2 ea eb =>
    cases py <;> first | (cases h; done) | skip
    case Call g xs kw pos =>
      cases g <;> first | (cases h; done) | skip
      case Name x p2 =>
        obtain _ | ⟨a, _ | ⟨b, _ | ⟨z, r⟩⟩⟩ := xs <;> cases kw <;> first | (cases h; done) | skip
        obtain ⟨h1, k2⟩ := b2 (show (decide (x = ("range" : Str)) && (glB X.env.scope x && (okE X.N fns gns ea X.env.scope a && okE X.N fns gns eb X.env.scope b))) = true from h)
        obtain ⟨j2, k3⟩ := b2 k2
        obtain ⟨k4, k5⟩ := b2 k3
        have e1 : x = ("range" : Str) := of_decide_eq_true h1
        subst e1
        refine (pi_range2 (gl_of j2) (G.bl _ (by decide +kernel)) (pa_cons (sndE cfg fa fns gns ea X a G k4).1 (pa_cons (sndE cfg fa fns gns eb X b G k5).1 pa_nil (ok_star k5)) (ok_star k4)) (by rw [ok_star k4, ok_star k5] <;> rfl) (ok_star k5)).conv fun σ H R h => ?_
        obtain ⟨w, ρ, S, ds, S', st, l, y, hm, q⟩ := h
        obtain ⟨x, S1, h1, hm1⟩ := bind_ok (show M.bind (ev cfg ea ρ) (fun x => M.bind (ev cfg eb ρ) fun y => M.opt (rngO2 x y)) S = .ok ds S' from hm)
        obtain ⟨x2, S2, h2, hm2⟩ := bind_ok hm1
        obtain ⟨e, rfl⟩ := opt_ok hm2
        refine ⟨w, ρ, S, x, S1, st, h1, fun w1 v1 l1 k1 r1 rp1 => ?_⟩
        refine ⟨w1, ρ, S1, x2, S', st.next l1 k1 r1, h2, fun w2 v2 l2 k2 r2 rp2 => ?_⟩
        have l12 := l1.trans l2 st.ok k1
        cases x <;> cases x2 <;> first | (cases e; done) | skip
        case int.int i j =>
          obtain ⟨c, e⟩ := ite_someB e
          subst e
          simp only [Bool.and_eq_true, decide_eq_true_eq] at c
          cases rp1
          cases rp2
          exact ⟨i, j, rfl, ⟨by omega, by omega, by omega, by omega⟩, q w2 _ _ (l12.kp st.ok) (l.trans l12 k0 st.ok) ⟨rfl, k2, st.fr.mono l12 st.ok, r2⟩ y (rng_rps2 i j) (.rng2 _ _)⟩
  | seq e =>
    change okE X.N fns gns e X.env.scope py = true at h
    by_cases hv : ∃ i, e = .var i
    · obtain ⟨i, rfl⟩ := hv
      cases py <;> first | (cases h; done) | skip
      case Name x p =>
        obtain ⟨o1, o2⟩ := b2 (show (decide (X.N[i]? = some x) && (visB X.env.scope x && nmB x)) = true from h)
        obtain ⟨o2, o3⟩ := b2 o2
        obtain ⟨n1, n2, _⟩ := nm_of o3
        refine (pi_seq (pe_var (of_decide_eq_true o1) (vis_of o2) n1 n2)).conv fun σ H R hq => ?_
        obtain ⟨w, ρ, S, ds, S', st, l, y, hm, q⟩ := hq
        obtain ⟨x, S1, h1, hm1⟩ := bind_ok (show M.bind (M.opt (peekL ρ i)) (fun x => M.opt (itemsD x)) S = .ok ds S' from hm)
        obtain ⟨e, rfl⟩ := opt_ok hm1
        obtain ⟨e2, rfl⟩ := opt_ok h1
        unfold peekL at e2
        split at e2
        · rename_i d' hd'
          cases (Option.some.inj e2)
          obtain ⟨v, g1, g2⟩ := st.fr.val i _ hd'
          refine ⟨v, g1, ?_⟩
          have hfix : fixI (.seq (.var i)) ρ = ρ := by
            show fixAt ρ i = ρ
            unfold fixAt
            rw [hd']
          have hs := st.h
          subst hs
          have go := fun J vs rr src => q w J vs (Kp.refl w) l (by rw [hfix]; exact st) (by rw [hfix]; exact y) rr src
          cases x <;> first | (cases e; done) | skip
          case tup xs =>
            cases (Option.some.inj e)
            cases g2 with
            | tup s1 _ rr => exact .inr (.inl ⟨_, _, rfl, s1, go _ _ rr (.tup s1)⟩)
          case lst xs =>
            cases (Option.some.inj e)
            cases g2 with
            | lst s1 f1 _ rr => exact .inl ⟨_, _, rfl, .of s1, go _ _ rr (.lst s1 f1)⟩
          case dic ks ds =>
            cases (Option.some.inj e)
            cases g2 with
            | dic a b c e => exact .inr (.inr (.inl ⟨_, _, _, _, rfl, a, go _ _ c.refs (.dic a)⟩))
          case str cs =>
            cases (Option.some.inj e)
            cases g2 with
            | str t1 => exact .inr (.inr (.inr ⟨_, rfl, go _ _ (sgn_rps t1.ok) (.sgn _)⟩))
        · rename_i xs hd'
          cases (Option.some.inj e2)
          cases (Option.some.inj e)
          obtain ⟨a, vs, g1, g2, g3, g4, g5, g6⟩ := st.fr.ownL i _ hd'
          refine ⟨_, g1, .inl ⟨a, vs, rfl, .of (by rw [← st.h]; exact g2), ?_⟩⟩
          have hfix : fixI (.seq (.var i)) ρ = ρ.set i (some (.val (.lst ds))) := by
            show fixAt ρ i = _
            unfold fixAt
            rw [hd']
          have kp := fixS_kp w fun b => b = a
          have := q (w.fixS fun b => b = a) (Itl X.K a) vs kp (fixS_le l fun b z => by subst z; exact y i _ _ hd' rfl g1) (by rw [hfix]; exact ⟨rfl, fixS_ok st.ok fun b z => by subst z; exact ⟨⟨vs, g2⟩, g4⟩, st.fr.fix1 st.ok hd' g1, fixS_sr st.sr⟩) (by rw [hfix]; exact y.fix1) (g6.keep kp) (.lst g2 (.inr rfl))
          rw [← st.h]
          exact this
        · cases e2
    · have hv : ∀ i, e ≠ .var i := fun i z => hv ⟨i, z⟩
      refine (pi_seq (sndE cfg fa fns gns e X py G h).1).conv fun σ H R hq => ?_
      obtain ⟨w, ρ, S, ds, S', st, l, y, hm, q⟩ := hq
      obtain ⟨x, S1, h1, hm1⟩ := bind_ok (show M.bind (pkL (ev cfg e ρ) e ρ) (fun x => M.opt (itemsD x)) S = .ok ds S' from hm)
      obtain ⟨e2, rfl⟩ := opt_ok hm1
      rw [pkOf_e hv] at h1
      refine ⟨w, ρ, S, x, S', st, h1, fun w1 v1 l1 k1 r1 rp1 => ?_⟩
      have go := fun J vs rr src => q w1 J vs (l1.kp st.ok) (l.trans l1 k0 st.ok) (by rw [fixI_e hv]; exact ⟨rfl, k1, st.fr.mono l1 st.ok, r1⟩) (by rw [fixI_e hv]; exact y) rr src
      cases x <;> first | (cases e2; done) | skip
      case tup xs =>
        cases (Option.some.inj e2)
        cases rp1 with
        | tup s1 _ rr => exact .inr (.inl ⟨_, _, rfl, s1, go _ _ rr (.tup s1)⟩)
      case lst xs =>
        cases (Option.some.inj e2)
        cases rp1 with
        | lst s1 f1 _ rr => exact .inl ⟨_, _, rfl, .of s1, go _ _ rr (.lst s1 f1)⟩
      case dic ks ds =>
        cases (Option.some.inj e2)
        cases rp1 with
        | dic a b c e => exact .inr (.inr (.inl ⟨_, _, _, _, rfl, a, go _ _ c.refs (.dic a)⟩))
      case str cs =>
        cases (Option.some.inj e2)
        cases rp1 with
        | str t1 => exact .inr (.inr (.inr ⟨_, rfl, go _ _ (sgn_rps t1.ok) (.sgn _)⟩))

/-! ### loops -/
theorem for_read {t : Tg} {s : I} {m : Env → M Fl} {vs : List Nat} {D : Ends} {σ : L2.St} {H : Hp} (k0 : w0.Ok) (h : rs X.K fa w0 EX (fun ρ => M.bind (its cfg s ρ) fun xs => forL (fun d ρ' => M.bind (M.opt (bindT t d ρ')) fun ρ'' => m ρ'') xs (fixI s ρ)) D σ H) :
    tFor (rdF X.K fa cfg w0 s) (gT X.K fa vs t) (rs X.K fa w0 EX m) D σ H := by
  obtain ⟨w, ρ, S, fl, S', st, l, y, hm, ed⟩ := h
  obtain ⟨ds, S1, h1, hm⟩ := bind_ok hm
  refine ⟨w, ρ, S, ds, S1, st, l, y, h1, fun w1 J us kp1 l1 st1 y1 rr src => ?_⟩
  have hlen := rr.len
  have ed := ed.kp kp1
  refine ⟨fun i n σ H => n = us.length - i ∧ i ≤ us.length ∧ ∃ (w2 : Wd) (ρ2 : Env) (S2 : Sto), Sit X.K fa w2 H σ ρ2 S2 ∧ w0.Le w2 ∧ Yg w0.H σ ρ2 ∧ Kp w1 w2 ∧ forL (fun d ρ' => M.bind (M.opt (bindT t d ρ')) fun ρ'' => m ρ'') (ds.drop i) ρ2 S2 = .ok fl S',
    ⟨us.length, by simp, Nat.zero_le _, w1, _, S1, st1, l1, y1, Kp.refl w1, by rw [List.drop_zero]; exact hm⟩, ?_⟩
  rintro i n σ H ⟨rfl, hi', w2, ρ2, S2, st2, l2, y2, kp2, hrun⟩
  have src2 := src.kp kp2
  have hH := st2.h
  subst hH
  by_cases hlt : i < us.length
  · right
    refine ⟨src2.go hlt, fun σ' H' => ∃ m', m' < us.length - i ∧ (m' = us.length - (i + 1) ∧ i + 1 ≤ us.length ∧ ∃ (w2 : Wd) (ρ2 : Env) (S2 : Sto), Sit X.K fa w2 H' σ' ρ2 S2 ∧ w0.Le w2 ∧ Yg w0.H σ' ρ2 ∧ Kp w1 w2 ∧ forL (fun d ρ' => M.bind (M.opt (bindT t d ρ')) fun ρ'' => m ρ'') (ds.drop (i + 1)) ρ2 S2 = .ok fl S'), fun σ' H' ⟨m', g1, g2⟩ => ⟨m', g1, g2⟩, fun x H' yl => ?_⟩
    obtain ⟨rfl, hx⟩ := src2.yld yl hlt
    obtain ⟨dx, hdx, rx⟩ := (rr.keep kp2).getV hx
    have hxi : i < ds.length := by rw [← hlen]; exact hlt
    have ed0 : ds.drop i = dx :: ds.drop (i + 1) := by
      rw [List.drop_eq_getElem_cons hxi]
      rw [List.getElem?_eq_getElem hxi] at hdx
      rw [Option.some.inj hdx]
    rw [ed0] at hrun
    obtain ⟨f1, S3, hb, hrest⟩ := bind_ok (show M.bind (M.bind (M.opt (bindT t dx ρ2)) fun ρ'' => m ρ'') (fun f => match f with
      | .nx ρ' => forL (fun d ρ' => M.bind (M.opt (bindT t d ρ')) fun ρ'' => m ρ'') (ds.drop (i + 1)) ρ'
      | .rt r => M.pure (.rt r)
      | .ex c d => M.pure (.ex c d)) S2 = .ok fl S' from hrun)
    obtain ⟨ρ3, S4, hb1, hb2⟩ := bind_ok hb
    obtain ⟨eb, rfl⟩ := opt_ok hb1
    refine ⟨w2, ρ2, dx, ρ3, rfl, st2.ok, st2.fr, rx, eb, fun σ2 fr2 x2 => ?_⟩
    refine ⟨w2, ρ3, S4, f1, S3, ⟨rfl, st2.ok, fr2, st2.sr⟩, l2, y2.eqx x2, hb2, ?_⟩
    cases f1 with
    | nx ρ' => exact fun w' σ' k' l' st' y' => ⟨us.length - (i + 1), by omega, rfl, hlt, w', ρ', S3, st', l', y', kp2.trans k', hrest⟩
    | rt r =>
      obtain ⟨e1, rfl⟩ := pure_ok (show M.pure (Fl.rt r) S3 = .ok fl S' from hrest)
      subst e1
      exact ed
    | ex c d =>
      obtain ⟨e1, rfl⟩ := pure_ok (show M.pure (Fl.ex c d) S3 = .ok fl S' from hrest)
      subst e1
      exact ed
  · left
    refine ⟨src2.stop (by omega), ?_⟩
    rw [List.drop_eq_nil_of_le (by omega)] at hrun
    obtain ⟨e1, rfl⟩ := pure_ok (show M.pure (Fl.nx ρ2) S2 = .ok fl S' from hrun)
    subst e1
    exact ed w2 σ kp2 l2 st2 y2
theorem whl_read {c : Env → M Bool} {m : Env → M Fl} {n : Nat} {D : Ends} {σ : L2.St} {H : Hp} (k0 : w0.Ok) (h : rs X.K fa w0 EX (fun ρ => whlL c m n ρ) D σ H) : tWhile (rdT X.K fa c) (rs X.K fa w0 EX m) D σ H := by
  obtain ⟨w, ρ, S, fl, S', st, l, y, hm, ed⟩ := h
  refine ⟨fun n σ H => ∃ (w2 : Wd) (ρ2 : Env) (S2 : Sto), Sit X.K fa w2 H σ ρ2 S2 ∧ w0.Le w2 ∧ Yg w0.H σ ρ2 ∧ Kp w w2 ∧ whlL c m n ρ2 S2 = .ok fl S', ⟨n, w, ρ, S, st, l, y, Kp.refl w, hm⟩, ?_⟩
  rintro n σ H ⟨w2, ρ2, S2, st2, l2, y2, kp2, hrun⟩
  cases n with
  | zero => cases hrun
  | succ n =>
    obtain ⟨k, S3, hc, hrest⟩ := bind_ok (show M.bind (c ρ2) (fun k => match k with
      | false => M.pure (.nx ρ2)
      | true => M.bind (m ρ2) fun f => match f with
        | .nx ρ' => whlL c m n ρ'
        | .rt r => M.pure (.rt r)
        | .ex c d => M.pure (.ex c d)) S2 = .ok fl S' from hrun)
    refine ⟨w2, ρ2, S2, k, S3, st2, hc, fun w3 l3 k3 r3 => ?_⟩
    have kp3 := kp2.trans (l3.kp st2.ok)
    have l03 := l2.trans l3 k0 st2.ok
    have st3 : Sit X.K fa w3 w3.H σ ρ2 S3 := ⟨rfl, k3, st2.fr.mono l3 st2.ok, r3⟩
    cases k with
    | false =>
      refine iteF ?_
      obtain ⟨e1, rfl⟩ := pure_ok (show M.pure (Fl.nx ρ2) S3 = .ok fl S' from hrest)
      subst e1
      exact ed w3 σ kp3 l03 st3 y2
    | true =>
      refine iteT ?_
      obtain ⟨f1, S4, hb, hr2⟩ := bind_ok (show M.bind (m ρ2) (fun f => match f with
        | .nx ρ' => whlL c m n ρ'
        | .rt r => M.pure (.rt r)
        | .ex c d => M.pure (.ex c d)) S3 = .ok fl S' from hrest)
      refine ⟨fun σ' H' => ∃ m', m' < n + 1 ∧ ∃ (w2 : Wd) (ρ2 : Env) (S2 : Sto), Sit X.K fa w2 H' σ' ρ2 S2 ∧ w0.Le w2 ∧ Yg w0.H σ' ρ2 ∧ Kp w w2 ∧ whlL c m m' ρ2 S2 = .ok fl S', fun σ' H' ⟨m', g1, g2⟩ => ⟨m', g1, g2⟩, w3, ρ2, S3, f1, S4, st3, l03, y2, hb, ?_⟩
      cases f1 with
      | nx ρ' => exact fun w' σ' k' l' st' y' => ⟨n, Nat.lt_succ_self n, w', ρ', S4, st', l', y', kp3.trans k', hr2⟩
      | rt r =>
        obtain ⟨e1, rfl⟩ := pure_ok (show M.pure (Fl.rt r) S4 = .ok fl S' from hr2)
        subst e1
        exact ed
      | ex c d =>
        obtain ⟨e1, rfl⟩ := pure_ok (show M.pure (Fl.ex c d) S4 = .ok fl S' from hr2)
        subst e1
        exact ed
end
end Ev

/-! Every statement keeps what the model does. -/
namespace Ev
open PySem PySem.Spec PyProof.Rows L2
section
variable (cfg : Cfg) (fa : Fx) (fns gns : List Str) {X : Cx} {w0 : Wd} {EX : XK}
theorem frz_ok {cfg : Cfg} {i : Nat} {ts : Ts} {ρ : Env} {S S' : Sto} {fl : Fl} (h : exs cfg (.frz i ts) ρ S = .ok fl S') : ∃ kvs, ρ[i]? = some (some (.dic kvs)) ∧ exs cfg ts (ρ.set i (some (.val (.dic (kvs.map (·.1)) (kvs.map (·.2)))))) S = .ok fl S' := by
  unfold exs at h
  cases hr : ρ[i]? with
  | none =>
    rw [hr] at h
    cases h
  | some o =>
    rw [hr] at h
    obtain _ | sv := o
    · cases h
    · cases sv <;> first | (cases h; done) | exact ⟨_, rfl, h⟩
theorem set_orN {X : Cx} {r r' : V → V → V → Hp → (Hp → Prop) → Prop} (h : PSet X r) (h' : PSet X r') : PSet X (fun o i v H Q => r o i v H Q ∨ r' o i v H Q) := fun pins s σ H o i v ov iv u Q I ro ri rv q => q.elim (h pins s σ H o i v ov iv u Q I ro ri rv) (h' pins s σ H o i v ov iv u Q I ro ri rv)
theorem s_unp {t : Tg} {e : E} {ts : List Expr} {k : Nat} {p spos : Pos} {v : Expr} (k0 : w0.Ok) (G : GoodS X cfg fa fns gns EX) (ht : okTg X.N true (List.range X.N.length) t X.env.scope (.Tuple ts k p) = true) (hn : (noSwapV v || noSwapT X.env.scope ts) = true) (h : okE X.N fns gns e X.env.scope v = true) :
    PS X (.Assign [.Tuple ts k p] v spos) (rs X.K fa w0 EX (ex cfg (.unp t e))) := by
  have hs : swapsWithSole [.Tuple ts k p] v spos.line X.env = pure false := by
    show swapsWith v (some (.Tuple ts k p)) spos.line X.env = pure false
    cases v <;> rfl
  have h1 : (assignEach [.Tuple ts k p] X.env).map (·.2) = [assign (.Tuple ts k p) X.env] := rfl
  refine (ps_asg (sndE cfg fa fns gns e X v G.g h).1 (s_tg (fa := fa) G.g.nd G.g.calm (fun _ => G.fnt) t _ ht) hs (swapN hn) h1).conv fun D σ H q => ?_
  obtain ⟨w, ρ, S, fl, S', st, l, y, hm, ed⟩ := q
  obtain ⟨x, S1, g1, hm⟩ := bind_ok (show M.bind (ev cfg e ρ) (fun x => M.bind (M.opt (bindT t x ρ)) fun ρ' => M.pure (.nx ρ')) S = .ok fl S' from hm)
  obtain ⟨ρ', S2, g2, hm1⟩ := bind_ok hm
  obtain ⟨e2, rfl⟩ := opt_ok g2
  obtain ⟨e3, rfl⟩ := pure_ok hm1
  subst e3
  refine ⟨w, ρ, S, x, S', st, g1, fun w1 v1 l1 k1 r1 rp1 => ?_⟩
  have f1 := st.fr.mono l1 st.ok
  exact ⟨w1, ρ, x, ρ', rfl, k1, f1, rp1, e2, fun σ' f2 x2 => ed w1 σ' (l1.kp st.ok) (l.trans l1 k0 st.ok) ⟨rfl, k1, f2, r1⟩ (y.eqx x2)⟩
theorem s_setI {i : Nat} {k v : E} {x : Str} {ix v' : Expr} {px p2 spos : Pos} (k0 : w0.Ok) (G : GoodS X cfg fa fns gns EX) (hn : nmL X.N i X.env.scope x = true) (hb : nmB x = true) (hv : okE X.N fns gns v X.env.scope v' = true) (hk : okE X.N fns gns k X.env.scope ix = true) :
    PS X (.Assign [.Subscript (.Name x px) ix p2] v' spos) (rs X.K fa w0 EX (ex cfg (.setI i k v))) := by
  obtain ⟨hi, hl, hvi, _⟩ := lc_of G.fnt hn
  obtain ⟨n1, n2, _⟩ := nm_of hb
  have hs : swapsWithSole [.Subscript (.Name x px) ix p2] v' spos.line X.env = pure false := by
    show swapsWith v' (some (.Subscript (.Name x px) ix p2)) spos.line X.env = pure false
    cases v' <;> rfl
  have ha : ∀ u, assign (.Subscript (.Name x px) ix p2) X.env u = (do
      let ov ← holding [u] (eval (.Name x px) X.env)
      let iv ← holding [u, ov] (eval ix X.env)
      standAt p2
      holding [u, ov, iv] (setItem ov iv u)
      release [u, ov, iv] []) := fun u => by
    cases ix <;> first | rfl | (rw [ok_noSlice] at hk; cases hk)
  refine (ps_asg (sndE cfg fa fns gns v X v' G.g hv).1 (pg_sub (pe_var hi hvi n1 n2) (sndE cfg fa fns gns k X ix G.g hk).1 (set_orN set_list (set_d (Nat.lt_trans (Nat.lt_succ_self _) G.g.units))) ha) hs rfl rfl).conv fun D σ H q => ?_
  obtain ⟨w, ρ, S, fl, S', st, l, y, h00, ed⟩ := q
  obtain ⟨d, S1, g1, hm⟩ := bind_ok (show M.bind (ev cfg v ρ) (fun x => M.bind (ev cfg k ρ) fun j => setM ρ i j x) S = .ok fl S' from h00)
  obtain ⟨j, S2, g2, hm1⟩ := bind_ok hm
  refine ⟨w, ρ, S, d, S1, st, g1, fun w1 v1 l1 k1 r1 rp1 => ?_⟩
  have f1 := st.fr.mono l1 st.ok
  unfold setM at hm1
  split at hm1
  · rename_i kvs hr
    split at hm1
    · rename_i hc
      cases hm1
      rw [Bool.and_eq_true, decide_eq_true_eq] at hc
      obtain ⟨c1, c2⟩ := hc
      obtain ⟨a, xs, vs, s1, s2, s3, s4, s5⟩ := f1.dicL i kvs hr
      refine ⟨_, s1, ?_⟩
      refine ⟨w1, ρ, S1, _, _, ⟨rfl, k1, f1, r1⟩, g2, fun w2 v2 l2 k2 r2 rp2 => ?_⟩
      have l12 := l1.trans l2 st.ok k1
      have f2 := f1.mono l2 k1
      have e2 := l2.h _ _ s2 (k1.nAx s2)
      have kp2 := l2.kp k1
      obtain ⟨b, rfl⟩ := key_ref c1 rp2
      obtain ⟨kn, e3, _⟩ := key_nk c1
      have ks := s4.keep kp2
      have vs2 := s5.keep kp2
      refine .inr ⟨a, b, xs, vs, kn, rfl, rfl, e2, ⟨.inl e2, s3, ks.is⟩, key_is c1 e3 rp2, ?_⟩
      obtain ⟨q1, q2⟩ := st_rep c1 e3 rp2 (rp1.keep kp2) ks vs2
      have hw : upd w2.H a (.ext (Dn a (kSt xs vs kn b) (vSt xs vs kn v1))) = (w2.at a (.ext (Dn a (kSt xs vs kn b) (vSt xs vs kn v1)))).H := rfl
      rw [hw]
      have kpa := at_kp (u := .ext (Dn a (kSt xs vs kn b) (vSt xs vs kn v1))) e2
      have hlen : (kSt xs vs kn b).length ≤ sizeLine := by
        have h1 := kSt_len (ps := xs) (vs := vs) (k := kn) (b := b)
        have h2 : xs.length = kvs.length := by rw [s4.len, List.length_map]
        have h3 : LIM = sizeLine := lim_eq
        omega
      exact ed _ σ ((l12.kp st.ok).trans kpa) (at_le (l.trans l12 k0 st.ok) (y i _ a hr rfl s1)) ⟨rfl, at_ok k2 e2, f2.putX k2 hr rfl s1 kpa ⟨_, _, upd_same, hlen, q1.keep kpa, q2.keep kpa⟩ (fun b hb => upd_ne hb) rfl rfl, at_sr k2 r2 e2⟩ (y.put hr rfl)
    · cases hm1
  · rename_i xs kk hr
    obtain ⟨a, us, s1, s2, s3, s4, s5, s6⟩ := f1.ownL i xs hr
    refine ⟨_, s1, ?_⟩
    refine ⟨w1, ρ, S1, _, S2, ⟨rfl, k1, f1, r1⟩, g2, fun w2 v2 l2 k2 r2 rp2 => ?_⟩
    cases rp2
    split at hm1
    · rename_i p hp
      cases hm1
      have l12 := l1.trans l2 st.ok k1
      have f2 := f1.mono l2 k1
      have e2 := l2.h _ _ s2 s4
      have nf2 := l2.nF s2 s3
      have na2 := l2.nA s2 s4
      have rr2 := s6.keep (l2.kp k1)
      refine .inl ⟨a, us, kk, p, rfl, rfl, e2, by rw [rr2.len]; exact hp, ?_⟩
      have rd := rp1.keep (l2.kp k1)
      refine ed (w2.put a (us.set p v1)) σ ((l12.kp st.ok).trans (put_kp e2 nf2)) (put_le (l.trans l12 k0 st.ok) (y i _ a hr rfl s1)) ⟨rfl, put_ok k2 e2 nf2, f2.put k2 hr s1 (by rw [List.length_set]; exact s5) (rr2.set rd p), put_sr r2 e2 nf2 na2⟩ (y.put hr rfl)
    · cases hm1
  · rename_i n kk hr
    obtain ⟨u, s1, s2⟩ := f1.val i _ hr
    refine ⟨_, s1, ?_⟩
    refine ⟨w1, ρ, S1, _, S2, ⟨rfl, k1, f1, r1⟩, g2, fun w2 v2 l2 k2 r2 rp2 => ?_⟩
    cases rp2
    have hu := s2.keep (l2.kp k1)
    cases hu with
    | loc hA =>
      split at hm1
      · rename_i xs hS
        split at hm1
        · rename_i p hp
          cases hm1
          have l12 := l1.trans l2 st.ok k1
          have f2 := f1.mono l2 k1
          obtain ⟨us, e2, hz, rr2⟩ := r2.at_ _ _ _ hA hS
          have mA := List.mem_of_getElem? hA
          have rd := rp1.keep (l2.kp k1)
          refine .inl ⟨_, us, kk, p, rfl, rfl, e2, by rw [rr2.len]; exact hp, ?_⟩
          exact ed (w2.put _ (us.set p v1)) σ ((l12.kp st.ok).trans (cell_kp k2 mA e2)) (cell_le (l.trans l12 k0 st.ok) mA e2) ⟨rfl, put_ok k2 e2 (k2.cf _ mA), cell_fr f2 k2 mA e2, cell_sr k2 r2 hA e2 (by rw [List.length_set]; exact hz) (rr2.set rd p)⟩ y
        · cases hm1
      · cases hm1
  · cases hm1
theorem s_app {i : Nat} {e : E} {x m : Str} {v : Expr} {px apos cpos spos : Pos} (k0 : w0.Ok) (G : GoodS X cfg fa fns gns EX) (hn : nmL X.N i X.env.scope x = true) (hb : nmB x = true) (hm : m = ("append" : Str)) (hl : (apos.endLine == cpos.line) = true) (hv : okE X.N fns gns e X.env.scope v = true) :
    PS X (.Expr (.Call (.Attribute (.Name x px) m apos) [v] [] cpos) spos) (rs X.K fa w0 EX (ex cfg (.app i e))) := by
  subst hm
  obtain ⟨hi, hlo, hvi, _⟩ := lc_of G.fnt hn
  obtain ⟨n1, n2, _⟩ := nm_of hb
  have hst : ∀ r, starEach (v :: r) X.env = (false, eval v X.env) :: starEach r X.env := fun r => ok_star hv
  have hfew : ((backTo cpos (starEach [v] X.env)).all (fun x => !x.1) && (backToKw cpos (keywordEach [] X.env)).all (fun x => x.1.isSome)
      && decide (([v] : List Expr).length + ([] : List Keyword).length + (if ([] : List Keyword).isEmpty then 0 else 1) < 30)) = true := by
    rw [hst] <;> rfl
  refine (ps_expr (pe_bm PySem.F.plainAttrs_list PySem.F.slot_list_append PySem.F.type_list_append mt_append (pe_var hi hvi n1 n2) (pa_cons (sndE cfg fa fns gns e X v G.g hv).1 pa_nil (hst [])) rfl hfew hl (hst []) rfl)).conv fun D σ H q => ?_
  obtain ⟨w, ρ, S, fl, S', st, l, y, h00, ed⟩ := q
  obtain ⟨d, S1, g1, hm⟩ := bind_ok (show M.bind (ev cfg e ρ) (fun x => appM ρ i x) S = .ok fl S' from h00)
  have hq : (match ρ[i]? with
    | some (some (.own xs)) => if xs.length < LIM then Res.ok (Fl.nx (ρ.set i (some (.own (xs ++ [d]))))) S1 else .stk
    | _ => .stk) = .ok fl S' := hm
  split at hq
  · rename_i xs hr
    obtain ⟨a, us, s1, s2, s3, s4, s5, s6⟩ := st.fr.ownL i xs hr
    have hH := st.h
    subst hH
    refine ⟨_, s1, .inl ⟨rfl, us, .of s2⟩, w, ρ, S, d, S1, st, g1, fun w1 v1 l1 k1 r1 rp1 => ?_⟩
    split at hq
    · rename_i hlt
      cases hq
      have e1 := l1.h _ _ s2 s4
      have nf1 := l1.nF s2 s3
      have na1 := l1.nA s2 s4
      have rr1 := s6.keep (l1.kp st.ok)
      have hlen := rr1.len
      have hz : us.length + 1 ≤ sizeLine := by have hL : LIM = sizeLine := lim_eq; omega
      refine ⟨a, us, v1, rfl, rfl, e1, by omega, ?_⟩
      exact ed (w1.put a (us ++ [v1])) σ ((l1.kp st.ok).trans (put_kp e1 nf1)) (put_le (l.trans l1 k0 st.ok) (y i _ a hr rfl s1)) ⟨rfl, put_ok k1 e1 nf1, (st.fr.mono l1 st.ok).put k1 hr s1 (by rw [List.length_append, List.length_singleton]; exact hz) (rr1.snoc rp1), put_sr r1 e1 nf1 na1⟩ (y.put hr rfl)
    · cases hq
  · cases hq
theorem s_ret {e : E} {v : Expr} {spos : Pos} (k0 : w0.Ok) (G : GoodS X cfg fa fns gns EX) (hv : okE X.N fns gns e X.env.scope v = true) : PS X (.Return (some v) spos) (rs X.K fa w0 EX (ex cfg (.ret e))) := by
  refine (ps_ret (sndE cfg fa fns gns e X v G.g hv).1).conv fun D σ H q => ?_
  obtain ⟨w, ρ, S, fl, S', st, l, y, hm, ed⟩ := q
  obtain ⟨d, S1, g1, hm⟩ := bind_ok (show M.bind (ev cfg e (fixAll ρ)) (fun x => M.pure (.rt (.val x))) S = .ok fl S' from hm)
  obtain ⟨e3, rfl⟩ := pure_ok hm
  subst e3
  have hH := st.h
  subst hH
  let P : Addr → Prop := fun a => ∃ (i : Nat) (ds : List Ev.D), ρ[i]? = some (some (.own ds)) ∧ σ[i]? = some (some (.ref a))
  have hP : ∀ a, P a → (∃ vs, w.H a = some (.lst vs)) ∧ a ∉ w.A := fun a ⟨i, ds, e1, e2⟩ => by
    obtain ⟨b, vs, s1, s2, s3, s4, s5, s6⟩ := st.fr.ownL i ds e1
    rw [e2] at s1
    cases s1
    exact ⟨⟨vs, s2⟩, s4⟩
  have l0 : w0.Le (w.fixS P) := fixS_le l fun a ⟨i, ds, e1, e2⟩ => y i _ a e1 rfl e2
  refine ⟨w.fixS P, fixAll ρ, S, d, S', ⟨rfl, fixS_ok st.ok hP, st.fr.fixAll st.ok (fun i ds a e1 e2 => ⟨i, ds, e1, e2⟩) (fun a h => (hP a h).1), fixS_sr st.sr⟩, g1, fun w1 v1 l1 k1 r1 rp1 => ?_⟩
  exact ed w1 v1 (l0.trans l1 k0 (fixS_ok st.ok hP)) k1 r1 rp1
theorem s_reto {i : Nat} {x : Str} {px spos : Pos} (k0 : w0.Ok) (G : GoodS X cfg fa fns gns EX) (hn : nmL X.N i X.env.scope x = true) (hb : nmB x = true) : PS X (.Return (some (.Name x px)) spos) (rs X.K fa w0 EX (ex cfg (.reto i))) := by
  obtain ⟨hi, hl, hvi, _⟩ := lc_of G.fnt hn
  obtain ⟨n1, n2, _⟩ := nm_of hb
  refine (ps_ret (pe_var hi hvi n1 n2)).conv fun D σ H q => ?_
  obtain ⟨w, ρ, S, fl, S', st, l, y, h00, ed⟩ := q
  obtain ⟨hm, rfl⟩ := opt_ok h00
  have hH := st.h
  subst hH
  split at hm
  · rename_i xs hr
    cases hm
    obtain ⟨a, us, s1, s2, s3, s4, s5, s6⟩ := st.fr.ownL i xs hr
    exact ⟨_, s1, ed w _ l st.ok st.sr ⟨a, us, rfl, y i _ a hr rfl s1, s2, s3, s4, s5, s6⟩⟩
  · rename_i kvs hr
    cases hm
    obtain ⟨a, xs, vs, s1, s2, s3, s4, s5⟩ := st.fr.dicL i kvs hr
    exact ⟨_, s1, ed w _ l st.ok st.sr ⟨a, xs, vs, rfl, y i _ a hr rfl s1, s2, s3, s4, s5⟩⟩
  · cases hm
/-! ### dicts, errors -/
theorem s_asgD {i : Nat} {x : Str} {px p spos : Pos} (k0 : w0.Ok) (G : GoodS X cfg fa fns gns EX) (hn : nmL X.N i X.env.scope x = true) : PS X (.Assign [.Name x px] (.Dict [] [] p) spos) (rs X.K fa w0 EX (ex cfg (.asgD i))) := by
  obtain ⟨hi, hl, hv, hf⟩ := lc_of G.fnt hn
  refine (ps_set G.g.nd hi hl pe_dnewN (sw_no rfl) hf).conv fun D σ H q => ?_
  obtain ⟨w, ρ, S, fl, S', st, l, y, hm, ed⟩ := q
  obtain ⟨e, rfl⟩ := pure_ok (show M.pure (Fl.nx (ρ.set i (some (.dic [])))) S = .ok fl S' from hm)
  subst e
  have hH := st.h
  subst hH
  intro p hp
  have l1 := Wd.new_le (o := .ext (Dn p [] [])) hp
  have k1 := Wd.new_ok (o := .ext (Dn p [] [])) st.ok hp
  exact ed (w.new p (.ext (Dn p [] []))) _ (l1.kp st.ok) (l.trans l1 k0 st.ok) ⟨rfl, k1, (st.fr.mono l1 st.ok).setO (sv := .dic []) ⟨[], [], upd_same, Nat.zero_le _, .nil, .nil⟩ (fun j es e o => st.fr.new_ne hp j es e o), st.sr.new st.ok hp⟩ (y.setO (l.free k0 st.ok hp))
theorem s_asgC {i f : Nat} {es : Es} {x g : Str} {z : Expr} {zs : List Expr} {px p2 p spos : Pos} (k0 : w0.Ok) (G : GoodS X cfg fa fns gns EX) (hn : nmL X.N i X.env.scope x = true) (h : (decide (fns[f]? = some g) && (glB X.env.scope g && (nmB g && okEs X.N fns gns es X.env.scope (z :: zs)))) = true) :
    PS X (.Assign [.Name x px] (.Call (.Name g p2) (z :: zs) [] p) spos) (rs X.K fa w0 EX (ex cfg (.asgC i f es))) := by
  obtain ⟨hi, hl, hv, hf⟩ := lc_of G.fnt hn
  refine (ps_set G.g.nd hi hl (sndX cfg fa G h) (sw_no rfl) hf).conv fun D σ H q => ?_
  obtain ⟨w, ρ, S, fl, S', st, l, y, h00, ed⟩ := q
  obtain ⟨xs, S1, h1, hm⟩ := bind_ok (show M.bind (evs cfg es ρ) (fun xs => M.bind (cfg.C f xs) fun r => M.pure (match r with
    | .exc c d => .ex c d
    | .val d => .nx (ρ.set i (some (.val d)))
    | .own xs => .nx (ρ.set i (some (.own xs)))
    | .dic kvs => .nx (ρ.set i (some (.dic kvs))))) S = .ok fl S' from h00)
  obtain ⟨r, S2, h2, hm⟩ := bind_ok hm
  obtain ⟨e, rfl⟩ := pure_ok hm
  refine ⟨w, ρ, S, r, S', st, by (first | (show M.bind (evs cfg es ρ) (fun xs => cfg.C f xs) S = _; rw [bind_eq h1]; exact h2) | (show M.bind (evs cfg es (fixAll ρ)) (fun xs => cfg.C f xs) S = _; rw [bind_eq h1]; exact h2)), fun w1 v l1 k1 r1 rr => ?_, fun c d er w1 cls dd l1 k1 r1 xr => ?_⟩
  · have f1 := st.fr.mono l1 st.ok
    have l01 := l.trans l1 k0 st.ok
    cases r with
    | val d =>
      subst e
      exact ed w1 _ (l1.kp st.ok) l01 ⟨rfl, k1, f1.set' rr, r1⟩ y.set
    | own ds =>
      subst e
      obtain ⟨a, vs, rfl, n, rest⟩ := (show Fresh X.K fa w w1 v ds from rr)
      exact ed w1 _ (l1.kp st.ok) l01 ⟨rfl, k1, f1.setO (sv := .own ds) ⟨vs, rest⟩ (fun j es e o => st.fr.new_ne n j es e o), r1⟩ (y.setO (l.free k0 st.ok n))
    | dic kvs =>
      subst e
      obtain ⟨a, xs, vs, rfl, n, rest⟩ := (show FreshD X.K fa w w1 v kvs from rr)
      exact ed w1 _ (l1.kp st.ok) l01 ⟨rfl, k1, f1.setO (sv := .dic kvs) ⟨xs, vs, rest⟩ (fun j es e o => st.fr.new_ne n j es e o), r1⟩ (y.setO (l.free k0 st.ok n))
    | exc c d => exact (show False from rr).elim
  · subst er
    subst e
    exact ed w1 cls dd (l.trans l1 k0 st.ok) k1 r1 xr
theorem s_exX {f : Nat} {es : Es} {g : Str} {z : Expr} {zs : List Expr} {p2 p spos : Pos} (k0 : w0.Ok) (G : GoodS X cfg fa fns gns EX) (h : (decide (fns[f]? = some g) && (glB X.env.scope g && (nmB g && okEs X.N fns gns es X.env.scope (z :: zs)))) = true) :
    PS X (.Expr (.Call (.Name g p2) (z :: zs) [] p) spos) (rs X.K fa w0 EX (ex cfg (.exX f es))) := by
  refine (ps_expr (sndX cfg fa G h) (sw_no rfl)).conv fun D σ H q => ?_
  obtain ⟨w, ρ, S, fl, S', st, l, y, h00, ed⟩ := q
  obtain ⟨xs, S1, h1, hm⟩ := bind_ok (show M.bind (evs cfg es ρ) (fun xs => M.bind (cfg.C f xs) fun r => M.pure (match r with
    | .exc c d => .ex c d
    | _ => .nx ρ)) S = .ok fl S' from h00)
  obtain ⟨r, S2, h2, hm⟩ := bind_ok hm
  obtain ⟨e, rfl⟩ := pure_ok hm
  refine ⟨w, ρ, S, r, S', st, by (first | (show M.bind (evs cfg es ρ) (fun xs => cfg.C f xs) S = _; rw [bind_eq h1]; exact h2) | (show M.bind (evs cfg es (fixAll ρ)) (fun xs => cfg.C f xs) S = _; rw [bind_eq h1]; exact h2)), fun w1 v l1 k1 r1 rr => ?_, fun c d er w1 cls dd l1 k1 r1 xr => ?_⟩
  · have fin : fl = .nx ρ → D.nx σ w1.H := fun e => by
      subst e
      exact ed w1 σ (l1.kp st.ok) (l.trans l1 k0 st.ok) (st.next l1 k1 r1) y
    cases r <;> first | exact fin e.symm | exact (show False from rr).elim
  · subst er
    subst e
    exact ed w1 cls dd (l.trans l1 k0 st.ok) k1 r1 xr
theorem s_retX {f : Nat} {es : Es} {g : Str} {z : Expr} {zs : List Expr} {p2 p spos : Pos} (k0 : w0.Ok) (G : GoodS X cfg fa fns gns EX) (h : (decide (fns[f]? = some g) && (glB X.env.scope g && (nmB g && okEs X.N fns gns es X.env.scope (z :: zs)))) = true) :
    PS X (.Return (some (.Call (.Name g p2) (z :: zs) [] p)) spos) (rs X.K fa w0 EX (ex cfg (.retX f es))) := by
  refine (ps_ret (sndX cfg fa G h)).conv fun D σ H q => ?_
  obtain ⟨w, ρ, S, fl, S', st, l, y, h00, ed⟩ := q
  obtain ⟨xs, S1, h1, hm⟩ := bind_ok (show M.bind (evs cfg es (fixAll ρ)) (fun xs => M.bind (cfg.C f xs) fun r => M.pure (match r with
    | .exc c d => .ex c d
    | r => .rt r)) S = .ok fl S' from h00)
  obtain ⟨r, S2, h2, hm⟩ := bind_ok hm
  obtain ⟨e, rfl⟩ := pure_ok hm
  have hH := st.h
  subst hH
  let P : Addr → Prop := fun a => ∃ (i : Nat) (ds : List Ev.D), ρ[i]? = some (some (.own ds)) ∧ σ[i]? = some (some (.ref a))
  have hP : ∀ a, P a → (∃ vs, w.H a = some (.lst vs)) ∧ a ∉ w.A := fun a ⟨i, ds, e1, e2⟩ => by
    obtain ⟨b, vs, s1, s2, s3, s4, s5, s6⟩ := st.fr.ownL i ds e1
    rw [e2] at s1
    cases s1
    exact ⟨⟨vs, s2⟩, s4⟩
  have l0 : w0.Le (w.fixS P) := fixS_le l fun a ⟨i, ds, e1, e2⟩ => y i _ a e1 rfl e2
  have kP := fixS_ok st.ok hP
  refine ⟨w.fixS P, fixAll ρ, S, r, S', ⟨rfl, kP, st.fr.fixAll st.ok (fun i ds a e1 e2 => ⟨i, ds, e1, e2⟩) (fun a h => (hP a h).1), fixS_sr st.sr⟩, by (first | (show M.bind (evs cfg es ρ) (fun xs => cfg.C f xs) S = _; rw [bind_eq h1]; exact h2) | (show M.bind (evs cfg es (fixAll ρ)) (fun xs => cfg.C f xs) S = _; rw [bind_eq h1]; exact h2)), fun w1 v l1 k1 r1 rr => ?_, fun c d er w1 cls dd l1 k1 r1 xr => ?_⟩
  · have fin : fl = .rt r → D.rt v w1.H := fun e => by
      subst e
      exact ed w1 v (l0.trans l1 k0 kP) k1 r1 (rr.back l0 k0 kP)
    cases r <;> first | exact fin e.symm | exact (show False from rr).elim
  · subst er
    subst e
    exact ed w1 cls dd (l0.trans l1 k0 kP) k1 r1 xr
theorem s_unpX {t : Tg} {f : Nat} {es : Es} {ts : List Expr} {k : Nat} {g : Str} {z : Expr} {zs : List Expr} {pt p2 p spos : Pos} (k0 : w0.Ok) (G : GoodS X cfg fa fns gns EX) (ht : okTg X.N true (List.range X.N.length) t X.env.scope (.Tuple ts k pt) = true)
    (h : (decide (fns[f]? = some g) && (glB X.env.scope g && (nmB g && okEs X.N fns gns es X.env.scope (z :: zs)))) = true) :
    PS X (.Assign [.Tuple ts k pt] (.Call (.Name g p2) (z :: zs) [] p) spos) (rs X.K fa w0 EX (ex cfg (.unpX t f es))) := by
  have hs : swapsWithSole [.Tuple ts k pt] (.Call (.Name g p2) (z :: zs) [] p) spos.line X.env = pure false := rfl
  have h1 : (assignEach [.Tuple ts k pt] X.env).map (·.2) = [assign (.Tuple ts k pt) X.env] := rfl
  refine (ps_asg (sndX cfg fa G h) (s_tg (fa := fa) G.g.nd G.g.calm (fun _ => G.fnt) t _ ht) hs (swapN1 rfl) h1).conv fun D σ H q => ?_
  obtain ⟨w, ρ, S, fl, S', st, l, y, h00, ed⟩ := q
  obtain ⟨xs, S1, h1, hm⟩ := bind_ok (show M.bind (evs cfg es ρ) (fun xs => M.bind (cfg.C f xs) fun r => (match r with
    | .exc c d => M.pure (.ex c d)
    | .val d => M.bind (M.opt (bindT t d ρ)) fun ρ' => M.pure (.nx ρ')
    | _ => M.stk)) S = .ok fl S' from h00)
  obtain ⟨r, S2, h2, hm⟩ := bind_ok hm
  refine ⟨w, ρ, S, r, S2, st, by (first | (show M.bind (evs cfg es ρ) (fun xs => cfg.C f xs) S = _; rw [bind_eq h1]; exact h2) | (show M.bind (evs cfg es (fixAll ρ)) (fun xs => cfg.C f xs) S = _; rw [bind_eq h1]; exact h2)), fun w1 v l1 k1 r1 rr => ?_, fun c d er w1 cls dd l1 k1 r1 xr => ?_⟩
  · cases r with
    | val d =>
      obtain ⟨ρ', S3, g2, hm1⟩ := bind_ok (show M.bind (M.opt (bindT t d ρ)) (fun ρ' => M.pure (.nx ρ')) S2 = .ok fl S' from hm)
      obtain ⟨e2, rfl⟩ := opt_ok g2
      obtain ⟨e3, rfl⟩ := pure_ok hm1
      subst e3
      exact ⟨w1, ρ, d, ρ', rfl, k1, st.fr.mono l1 st.ok, rr, e2, fun σ' f2 x2 => ed w1 σ' (l1.kp st.ok) (l.trans l1 k0 st.ok) ⟨rfl, k1, f2, r1⟩ (y.eqx x2)⟩
    | own ds => cases hm
    | dic kvs => cases hm
    | exc c d => exact (show False from rr).elim
  · subst er
    obtain ⟨e, rfl⟩ := pure_ok (show M.pure (Fl.ex c d) S2 = .ok fl S' from hm)
    subst e
    exact ed w1 cls dd (l.trans l1 k0 st.ok) k1 r1 xr
theorem s_rse {c : Nat} {x m : Str} {j : Nat} {p1 p2 p3 spos : Pos} (k0 : w0.Ok) (G : GoodS X cfg fa fns gns EX) (h : ((decide (x = xname c) && (decide (x ∈ gns) && glB X.env.scope x)) && !(c == 5 || c == 8)) = true) :
    PS X (.Raise (some (.Call (.Name x p1) [.Constant (.str m) j p2] [] p3)) none spos) (rs X.K fa w0 EX (ex cfg (.rse c))) := by
  obtain ⟨h, h58⟩ := b2 h
  have n58 : ¬ (c = 5 ∨ c = 8) := fun z => by
    have q : (c == 5 || c == 8) = true := by simpa using z
    rw [q] at h58
    cases h58
  obtain ⟨h1, h2⟩ := b2 h
  obtain ⟨h2, h3⟩ := b2 h2
  have e1 : x = xname c := of_decide_eq_true h1
  have hx := G.xc c n58 (by rw [← e1]; exact of_decide_eq_true h2)
  have hd : (x == ("__debug__" : Str)) = false := by
    rw [e1]
    unfold xname
    split <;> decide +kernel
  refine (L2N.ps_raise G.g.calm G.tk (L2N.pmk_own PySem.F.excBase_ValueError hx.ex (by rw [e1]; exact hx.mg) hx.kp (raises_own hx.sb hx.ty) (gl_of h3) hd)).conv fun D σ H q => ?_
  obtain ⟨w, ρ, S, fl, S', st, l, y, hm, ed⟩ := q
  obtain ⟨e, rfl⟩ := pure_ok (show M.pure (Fl.ex c .non) S = .ok fl S' from hm)
  subst e
  have hH := st.h
  subst hH
  exact ed w _ _ l st.ok st.sr ⟨rfl, .inl ⟨rfl, rfl⟩⟩
theorem s_rsv {c : Nat} {e : E} {x : Str} {y : Expr} {p1 p3 spos : Pos} (k0 : w0.Ok) (G : GoodS X cfg fa fns gns EX) (h : (decide (x = xname c) && (decide (x ∈ gns) && (glB X.env.scope x && ((c == 5 || c == 8) && okE X.N fns gns e X.env.scope y)))) = true) :
    PS X (.Raise (some (.Call (.Name x p1) [y] [] p3)) none spos) (rs X.K fa w0 EX (ex cfg (.rsv c e))) := by
  obtain ⟨h1, h2⟩ := b2 h
  obtain ⟨h2, h3⟩ := b2 h2
  obtain ⟨h3, h4⟩ := b2 h3
  obtain ⟨h4, h5⟩ := b2 h4
  have e1 : x = xname c := of_decide_eq_true h1
  obtain ⟨⟨fI, fd, T, iC, tI, F1, hb, hmg⟩, hr⟩ := G.xi c (by simpa using h4) (by rw [← e1]; exact of_decide_eq_true h2)
  have hd : (x == ("__debug__" : Str)) = false := by
    rw [e1]
    unfold xname
    split <;> decide +kernel
  refine (L2N.ps_raise G.g.calm G.tk (Hx.pmk_ini T iC tI F1 hr hb (gl_of h3) (by rw [e1]; exact hmg) (sndE cfg fa fns gns e X y G.g h5).1 hd (ok_star h5))).conv fun D σ H q => ?_
  obtain ⟨w, ρ, S, fl, S', st, l, yg, hm, ed⟩ := q
  obtain ⟨d, S1, g1, hm1⟩ := bind_ok (show M.bind (ev cfg e ρ) (fun x => M.bind (M.opt (toI x)) fun i => M.pure (.ex c (.int i))) S = .ok fl S' from hm)
  obtain ⟨i, S2, g2, hm2⟩ := bind_ok hm1
  obtain ⟨e2, rfl⟩ := opt_ok g2
  obtain ⟨e3, rfl⟩ := pure_ok hm2
  subst e3
  cases d <;> first | (cases e2; done) | skip
  cases (Option.some.inj e2)
  refine ⟨w, ρ, S, .int i, S', st, g1, fun w1 v l1 k1 r1 rp dA hdA => ?_⟩
  cases rp
  have nl := Wd.new_le (w := w1) (p := dA) (o := .xd [(Hx.fname c, .int i)]) hdA
  have nk := Wd.new_ok (w := w1) (p := dA) (o := .xd [(Hx.fname c, .int i)]) k1 hdA
  exact ed (w1.new dA (.xd [(Hx.fname c, .int i)])) _ _ (l.trans (l1.trans nl st.ok k1) k0 st.ok) nk (r1.new k1 hdA) ⟨rfl, .inr ⟨i, dA, rfl, rfl, upd_same⟩⟩
theorem okT_two {N fns gns : List Str} {t : T} {sc : Scope} {a b : Expr} {r : List Expr} {v : Expr} {p : Pos} (h : okT N fns gns t sc (.Assign (a :: b :: r) v p) = true) : False := by
  cases t <;> cases a <;> first | (cases h; done) | skip
  case par2.Tuple ts _ _ =>
    obtain _ | ⟨n1, _ | ⟨n2, _ | ⟨n3, ts⟩⟩⟩ := ts <;> first | (cases h; done) | skip
    all_goals cases n1 <;> first | (cases h; done) | skip
    all_goals cases n2 <;> first | (cases h; done) | skip
  case par3.Tuple ts _ _ =>
    obtain _ | ⟨n1, _ | ⟨n2, _ | ⟨n3, _ | ⟨n4, ts⟩⟩⟩⟩ := ts <;> first | (cases h; done) | skip
    all_goals cases n1 <;> first | (cases h; done) | skip
    all_goals cases n2 <;> first | (cases h; done) | skip
    all_goals cases n3 <;> first | (cases h; done) | skip
  case setI.Subscript o _ _ =>
    cases o <;> first | (cases h; done) | skip
mutual
theorem sndT (k0 : w0.Ok) : ∀ (t : T) (X : Cx) (py : Stmt), GoodS X cfg fa fns gns EX → okT X.N fns gns t X.env.scope py = true → PS X py (rs X.K fa w0 EX (ex cfg t))
  | .asg i e, X, py, G, h => by
    cases py <;> first | (cases h; done) | skip
    case Assign tgs v p =>
      obtain _ | ⟨tg, _ | ⟨t2, tgs⟩⟩ := tgs <;> first | (cases h; done) | skip
      all_goals cases tg <;> first | (cases h; done) | (exact (okT_two h).elim) | skip
      case Name x px =>
        obtain ⟨h1, k2⟩ := b2 (show (nmL X.N i X.env.scope x && (compB X.env.scope x px v && okE X.N fns gns e X.env.scope v)) = true from h)
        obtain ⟨j2, k3⟩ := b2 k2
        exact s_asg cfg fa k0 G h1 j2 k3
  | .asgO i e, X, py, G, h => by
    cases py <;> first | (cases h; done) | skip
    case Assign tgs v p =>
      obtain _ | ⟨tg, _ | ⟨t2, tgs⟩⟩ := tgs <;> first | (cases h; done) | skip
      all_goals cases tg <;> first | (cases h; done) | (exact (okT_two h).elim) | skip
      case Name x px =>
        obtain ⟨h1, k2⟩ := b2 (show (nmL X.N i X.env.scope x && (compB X.env.scope x px v && ((isFr e || isCallE e) && okE X.N fns gns e X.env.scope v))) = true from h)
        obtain ⟨j2, k3⟩ := b2 k2
        obtain ⟨j3, k4⟩ := b2 k3
        exact s_asgO cfg fa k0 G h1 j2 j3 k4
  | .par2 i j a b, X, py, G, h => by
    cases py <;> first | (cases h; done) | skip
    case Assign tgs v p =>
      obtain _ | ⟨tg, _ | ⟨t2, tgs⟩⟩ := tgs <;> first | (cases h; done) | skip
      all_goals cases tg <;> first | (cases h; done) | (exact (okT_two h).elim) | skip
      case Tuple ts kt pt =>
        obtain _ | ⟨n1, _ | ⟨n2, _ | ⟨n3, ts⟩⟩⟩ := ts <;> first | (cases h; done) | skip
        all_goals cases n1 <;> first | (cases h; done) | skip
        all_goals cases n2 <;> first | (cases h; done) | skip
        all_goals cases v <;> first | (cases h; done) | skip
        rename_i x px y py vs k2 pt2
        obtain _ | ⟨v1, _ | ⟨v2, _ | ⟨v3, vs⟩⟩⟩ := vs <;> first | (cases h; done) | skip
        obtain ⟨h1, m⟩ := b2 (show (nmP X.N i X.env.scope x && (nmP X.N j X.env.scope y && (decide (i ≠ j) && ((py.line == px.line) && (!(x == y) && (!(foldedForSure 8 v1 && foldedForSure 8 v2) && (!(constantsAlone 8 v1 && constantsAlone 8 v2) && (okE X.N fns gns a X.env.scope v1 && okE X.N fns gns b X.env.scope v2)))))))) = true from h)
        obtain ⟨h2, m⟩ := b2 m
        obtain ⟨h3, m⟩ := b2 m
        obtain ⟨h4, m⟩ := b2 m
        obtain ⟨h5, m⟩ := b2 m
        obtain ⟨h6, m⟩ := b2 m
        obtain ⟨h7, m⟩ := b2 m
        obtain ⟨h8, h9⟩ := b2 m
        exact s_par2 cfg fa k0 G h1 h2 (of_decide_eq_true h3) h4 (Bool.not_eq_true' _ ▸ h5) (Bool.not_eq_true' _ ▸ h6) (Bool.not_eq_true' _ ▸ h7) h8 h9
  | .par3 i j k oi a b c, X, py, G, h => by
    cases py <;> first | (cases h; done) | skip
    case Assign tgs v p =>
      obtain _ | ⟨tg, _ | ⟨t2, tgs⟩⟩ := tgs <;> first | (cases h; done) | skip
      all_goals cases tg <;> first | (cases h; done) | (exact (okT_two h).elim) | skip
      case Tuple ts kt pt =>
        obtain _ | ⟨n1, _ | ⟨n2, _ | ⟨n3, _ | ⟨n4, ts⟩⟩⟩⟩ := ts <;> first | (cases h; done) | skip
        all_goals cases n1 <;> first | (cases h; done) | skip
        all_goals cases n2 <;> first | (cases h; done) | skip
        all_goals cases n3 <;> first | (cases h; done) | skip
        all_goals cases v <;> first | (cases h; done) | skip
        rename_i x px y py z pz vs k2 pt2
        obtain _ | ⟨v1, _ | ⟨v2, _ | ⟨v3, _ | ⟨v4, vs⟩⟩⟩⟩ := vs <;> first | (cases h; done) | skip
        obtain ⟨h1, m⟩ := b2 (show (nmP X.N i X.env.scope x && (nmP X.N j X.env.scope y && (nmP X.N k X.env.scope z && (decide (i ≠ j) && (decide (i ≠ k) && (decide (j ≠ k) && ((py.line == px.line) && ((pz.line == px.line) && (!(x == y) && (!(x == z) && (!(y == z) && (!(foldedForSure 8 v1 && (foldedForSure 8 v2 && foldedForSure 8 v3)) && (!(constantsAlone 8 v1 && (constantsAlone 8 v2 && constantsAlone 8 v3)) && ((!oi || (isFr a || isCallE a)) && (okE X.N fns gns a X.env.scope v1 && (okE X.N fns gns b X.env.scope v2 && okE X.N fns gns c X.env.scope v3)))))))))))))))) = true from h)
        obtain ⟨h2, m⟩ := b2 m
        obtain ⟨h3, m⟩ := b2 m
        obtain ⟨h4, m⟩ := b2 m
        obtain ⟨h5, m⟩ := b2 m
        obtain ⟨h6, m⟩ := b2 m
        obtain ⟨h7, m⟩ := b2 m
        obtain ⟨h8, m⟩ := b2 m
        obtain ⟨h9, m⟩ := b2 m
        obtain ⟨h10, m⟩ := b2 m
        obtain ⟨h11, m⟩ := b2 m
        obtain ⟨h12, m⟩ := b2 m
        obtain ⟨h13, m⟩ := b2 m
        obtain ⟨h14, m⟩ := b2 m
        obtain ⟨h15, m⟩ := b2 m
        obtain ⟨h16, h17⟩ := b2 m
        exact s_par3 cfg fa k0 G h1 h2 h3 (of_decide_eq_true h4) (of_decide_eq_true h5) (of_decide_eq_true h6) h7 h8 (Bool.not_eq_true' _ ▸ h9) (Bool.not_eq_true' _ ▸ h10) (Bool.not_eq_true' _ ▸ h11) (Bool.not_eq_true' _ ▸ h12) (Bool.not_eq_true' _ ▸ h13) h14 h15 h16 h17
  | .unp t e, X, py, G, h => by
    cases py <;> first | (cases h; done) | skip
    case Assign tgs v p =>
      obtain _ | ⟨tg, _ | ⟨t2, tgs⟩⟩ := tgs <;> first | (cases h; done) | skip
      all_goals cases tg <;> first | (cases h; done) | (exact (okT_two h).elim) | skip
      case Tuple ts kt pt =>
        obtain ⟨h1, m⟩ := b2 (show (okTg X.N true (List.range X.N.length) t X.env.scope (.Tuple ts kt pt) && ((noSwapV v || noSwapT X.env.scope ts) && okE X.N fns gns e X.env.scope v)) = true from h)
        obtain ⟨h2, h3⟩ := b2 m
        exact s_unp cfg fa fns gns k0 G h1 h2 h3
  | .setI i k v, X, py, G, h => by
    cases py <;> first | (cases h; done) | skip
    case Assign tgs v' p =>
      obtain _ | ⟨tg, _ | ⟨t2, tgs⟩⟩ := tgs <;> first | (cases h; done) | skip
      all_goals cases tg <;> first | (cases h; done) | (exact (okT_two h).elim) | skip
      case Subscript o ix p2 =>
        cases o <;> first | (cases h; done) | skip
        case Name x px =>
          obtain ⟨h1, m⟩ := b2 (show (nmL X.N i X.env.scope x && (nmB x && (okE X.N fns gns v X.env.scope v' && okE X.N fns gns k X.env.scope ix))) = true from h)
          obtain ⟨h2, m⟩ := b2 m
          obtain ⟨h3, h4⟩ := b2 m
          exact s_setI cfg fa fns gns k0 G h1 h2 h3 h4
  | .app i e, X, py, G, h => by
    cases py <;> first | (cases h; done) | skip
    case Expr c p =>
      cases c <;> first | (cases h; done) | skip
      case Call g xs kw cp =>
        cases g <;> first | (cases h; done) | skip
        case Attribute o m ap =>
          cases o <;> first | (cases h; done) | skip
          case Name x px =>
            obtain _ | ⟨v, _ | ⟨v2, xs⟩⟩ := xs <;> cases kw <;> first | (cases h; done) | skip
            obtain ⟨h1, m1⟩ := b2 (show (nmL X.N i X.env.scope x && (nmB x && (decide (m = ("append" : Str)) && ((ap.endLine == cp.line) && okE X.N fns gns e X.env.scope v)))) = true from h)
            obtain ⟨h2, m1⟩ := b2 m1
            obtain ⟨h3, m1⟩ := b2 m1
            obtain ⟨h4, h5⟩ := b2 m1
            exact s_app cfg fa fns gns k0 G h1 h2 (of_decide_eq_true h3) h4 h5
  | .ret e, X, py, G, h => by
    cases py <;> first | (cases h; done) | skip
    case Return v p =>
      cases v <;> first | (cases h; done) | skip
      exact s_ret cfg fa fns gns k0 G h
  | .reto i, X, py, G, h => by
    cases py <;> first | (cases h; done) | skip
    case Return v p =>
      obtain _ | v := v <;> first | (cases h; done) | skip
      cases v <;> first | (cases h; done) | skip
      case Name x px =>
        obtain ⟨h1, h2⟩ := b2 (show (nmL X.N i X.env.scope x && nmB x) = true from h)
        exact s_reto cfg fa fns gns k0 G h1 h2
  | .ifs c a b, X, py, G, h => by
    cases py <;> first | (cases h; done) | skip
    case If v p q pos =>
      obtain ⟨h1, m⟩ := b2 (show (okB X.N fns gns c X.env.scope v && (okTs X.N fns gns a X.env.scope p && okTs X.N fns gns b X.env.scope q)) = true from h)
      obtain ⟨h2, h3⟩ := b2 m
      refine (ps_if (sndB cfg fa fns gns c X v G.g h1) (sndTs k0 a X p G h2) (sndTs k0 b X q G h3)).conv fun D σ H hq => ?_
      obtain ⟨w, ρ, S, fl, S', st, l, y, hm, ed⟩ := hq
      obtain ⟨k, S1, g1, hm⟩ := bind_ok (show M.bind (tst cfg c ρ) (fun k => match k with
        | true => exs cfg a ρ
        | false => exs cfg b ρ) S = .ok fl S' from hm)
      refine ⟨w, ρ, S, k, S1, st, g1, fun w1 l1 k1 r1 => ?_⟩
      have st1 := st.next l1 k1 r1
      cases k with
      | true => exact iteT ⟨w1, ρ, S1, fl, S', st1, l.trans l1 k0 st.ok, y, hm, ed.kp (l1.kp st.ok)⟩
      | false => exact iteF ⟨w1, ρ, S1, fl, S', st1, l.trans l1 k0 st.ok, y, hm, ed.kp (l1.kp st.ok)⟩
  | .fors t s b, X, py, G, h => by
    cases py <;> first | (cases h; done) | skip
    case For tg it p orelse pos =>
      cases orelse <;> first | (cases h; done) | skip
      obtain ⟨h1, m⟩ := b2 (show (okTg X.N true (List.range X.N.length) t X.env.scope tg && (okI X.N fns gns s X.env.scope it && okTs X.N fns gns b X.env.scope p)) = true from h)
      obtain ⟨h2, h3⟩ := b2 m
      exact (ps_for G.po G.g.calm (i_for cfg fa fns gns k0 G.g h2) (s_tg (fa := fa) G.g.nd G.g.calm (fun _ => G.fnt) t tg h1) (sndTs k0 b X p G h3) (sndI cfg fa fns gns s X tg it G.g h2).2).conv fun D σ H hq => for_read cfg fa k0 hq
  | .whl c b, X, py, G, h => by
    cases py <;> first | (cases h; done) | skip
    case While v p orelse pos =>
      cases orelse <;> first | (cases h; done) | skip
      obtain ⟨h1, h2⟩ := b2 (show (okB X.N fns gns c X.env.scope v && okTs X.N fns gns b X.env.scope p) = true from h)
      exact (ps_while G.po (sndB cfg fa fns gns c X v G.g h1) (sndTs k0 b X p G h2)).conv fun D σ H hq => whl_read fa k0 hq
  | .exp e, X, py, G, h => by
    cases py <;> first | (cases h; done) | skip
    case Expr v p =>
      obtain ⟨h1, h2⟩ := b2 (show (noComp v && okE X.N fns gns e X.env.scope v) = true from h)
      refine (ps_expr (sndE cfg fa fns gns e X v G.g h2).1 (sw_no h1)).conv fun D σ H hq => ?_
      obtain ⟨w, ρ, S, fl, S', st, l, y, hm, ed⟩ := hq
      obtain ⟨x, S1, g1, hm⟩ := bind_ok (show M.bind (ev cfg e ρ) (fun _ => M.pure (.nx ρ)) S = .ok fl S' from hm)
      obtain ⟨e1, rfl⟩ := pure_ok hm
      subst e1
      exact ⟨w, ρ, S, x, S', st, g1, fun w1 v1 l1 k1 r1 rp1 => ed w1 σ (l1.kp st.ok) (l.trans l1 k0 st.ok) (st.next l1 k1 r1) y⟩
  | .asgD i, X, py, G, h => by
    cases py <;> first | (cases h; done) | skip
    case Assign tgs v p =>
      obtain _ | ⟨tg, _ | ⟨t2, tgs⟩⟩ := tgs <;> first | (cases h; done) | skip
      all_goals cases tg <;> first | (cases h; done) | (exact (okT_two h).elim) | skip
      case Name x px =>
        cases v <;> first | (cases h; done) | skip
        case Dict ks vs pd =>
          cases ks <;> cases vs <;> first | (cases h; done) | skip
          exact s_asgD cfg fa fns gns k0 G h
  | .asgC i f es, X, py, G, h => by
    cases py <;> first | (cases h; done) | skip
    case Assign tgs v p =>
      obtain _ | ⟨tg, _ | ⟨t2, tgs⟩⟩ := tgs <;> first | (cases h; done) | skip
      all_goals cases tg <;> first | (cases h; done) | (exact (okT_two h).elim) | skip
      case Name x px =>
        cases v <;> first | (cases h; done) | skip
        case Call g xs kw cp =>
          cases g <;> first | (cases h; done) | skip
          case Name g p2 =>
            cases xs <;> cases kw <;> first | (cases h; done) | skip
            obtain ⟨h1, m⟩ := b2 h
            exact s_asgC cfg fa fns gns k0 G h1 m
  | .exX f es, X, py, G, h => by
    cases py <;> first | (cases h; done) | skip
    case Expr c p =>
      cases c <;> first | (cases h; done) | skip
      case Call g xs kw cp =>
        cases g <;> first | (cases h; done) | skip
        case Name g p2 =>
          cases xs <;> cases kw <;> first | (cases h; done) | skip
          exact s_exX cfg fa fns gns k0 G h
  | .retX f es, X, py, G, h => by
    cases py <;> first | (cases h; done) | skip
    case Return v p =>
      obtain _ | v := v <;> first | (cases h; done) | skip
      cases v <;> first | (cases h; done) | skip
      case Call g xs kw cp =>
        cases g <;> first | (cases h; done) | skip
        case Name g p2 =>
          cases xs <;> cases kw <;> first | (cases h; done) | skip
          exact s_retX cfg fa fns gns k0 G h
  | .unpX t f es, X, py, G, h => by
    cases py <;> first | (cases h; done) | skip
    case Assign tgs v p =>
      obtain _ | ⟨tg, _ | ⟨t2, tgs⟩⟩ := tgs <;> first | (cases h; done) | skip
      all_goals cases tg <;> first | (cases h; done) | (exact (okT_two h).elim) | skip
      case Tuple ts k pt =>
        cases v <;> first | (cases h; done) | skip
        case Call g xs kw cp =>
          cases g <;> first | (cases h; done) | skip
          case Name g p2 =>
            cases xs <;> cases kw <;> first | (cases h; done) | skip
            obtain ⟨h1, m⟩ := b2 h
            exact s_unpX cfg fa fns gns k0 G h1 m
  | .rsv c e, X, py, G, h => by
    cases py <;> first | (cases h; done) | skip
    case Raise e0 fr p =>
      obtain _ | e0 := e0 <;> first | (cases h; done) | skip
      cases e0 <;> first | (cases h; done) | skip
      case Call g xs kw cp =>
        cases g <;> first | (cases h; done) | skip
        case Name g p2 =>
          obtain _ | ⟨a, _ | ⟨b, xs⟩⟩ := xs <;> first | (cases h; done) | skip
          all_goals cases kw <;> first | (cases h; done) | skip
          all_goals cases fr <;> first | (cases h; done) | skip
          exact s_rsv cfg fa fns gns k0 G h
  | .rse c, X, py, G, h => by
    cases py <;> first | (cases h; done) | skip
    case Raise e fr p =>
      obtain _ | e := e <;> first | (cases h; done) | skip
      cases e <;> first | (cases h; done) | skip
      case Call g xs kw cp =>
        cases g <;> first | (cases h; done) | skip
        case Name g p2 =>
          obtain _ | ⟨a, _ | ⟨b, xs⟩⟩ := xs <;> first | (cases h; done) | skip
          all_goals cases a <;> first | (cases h; done) | skip
          all_goals rename_i cc j pc
          all_goals cases cc <;> first | (cases h; done) | skip
          all_goals cases kw <;> first | (cases h; done) | skip
          all_goals cases fr <;> first | (cases h; done) | skip
          exact s_rse cfg fa fns gns k0 G h
  | .dead, X, py, G, h => ps_never.conv fun D σ H hq => by
    obtain ⟨w, ρ, S, fl, S', st, l, y, hm, ed⟩ := hq
    cases hm
theorem sndTs (k0 : w0.Ok) : ∀ (ts : Ts) (X : Cx) (pys : List Stmt), GoodS X cfg fa fns gns EX → okTs X.N fns gns ts X.env.scope pys = true → PSs X pys (rs X.K fa w0 EX (exs cfg ts))
  | .nil, X, [], G, h => pss_nil.conv fun D σ H hq => by
    obtain ⟨w, ρ, S, fl, S', st, l, y, hm, ed⟩ := hq
    obtain ⟨e1, rfl⟩ := pure_ok (show M.pure (Fl.nx ρ) S = .ok fl S' from hm)
    subst e1
    have hH := st.h
    subst hH
    exact ed w σ (Kp.refl w) l st y
  | .nil, X, _ :: _, G, h => by cases h
  | .cons _ _, X, [], G, h => by cases h
  | .cons t ts, X, p :: ps, G, h => by
    obtain ⟨h1, h2⟩ := b2 (show (okT X.N fns gns t X.env.scope p && okTs X.N fns gns ts X.env.scope ps) = true from h)
    refine (pss_cons (sndT k0 t X p G h1) (sndTs k0 ts X ps G h2)).conv fun D σ H hq => ?_
    obtain ⟨w, ρ, S, fl, S', st, l, y, hm, ed⟩ := hq
    obtain ⟨f1, S1, g1, hm⟩ := bind_ok (show M.bind (ex cfg t ρ) (fun f => match f with
      | .nx ρ' => exs cfg ts ρ'
      | .rt r => M.pure (.rt r)
      | .ex c d => M.pure (.ex c d)) S = .ok fl S' from hm)
    refine ⟨w, ρ, S, f1, S1, st, l, y, g1, ?_⟩
    cases f1 with
    | nx ρ' => exact fun w' σ' k' l' st' y' => ⟨w', ρ', S1, fl, S', st', l', y', hm, ed.kp k'⟩
    | rt r =>
      obtain ⟨e1, rfl⟩ := pure_ok (show M.pure (Fl.rt r) S1 = .ok fl S' from hm)
      subst e1
      exact ed
    | ex c d =>
      obtain ⟨e1, rfl⟩ := pure_ok (show M.pure (Fl.ex c d) S1 = .ok fl S' from hm)
      subst e1
      exact ed
  | .frz i ts, X, pys, G, h => by
    have ih := sndTs k0 ts X pys G (show okTs X.N fns gns ts X.env.scope pys = true by cases pys <;> exact h)
    refine ⟨fun pins s σ H D I hq => ?_⟩
    obtain ⟨w, ρ, S, fl, S', st, l, y, hm, ed⟩ := hq
    obtain ⟨kvs, hr, hm⟩ := frz_ok hm
    obtain ⟨a, xs, vs, s1, s2, s3, s4, s5⟩ := st.fr.dicL i kvs hr
    have hH := st.h
    subst hH
    obtain ⟨od, I2⟩ := I.lock s2 trivial
    have kpa := at_kp (u := .frz od (.ext (Dn a xs vs))) s2
    exact ih.run pins s σ _ D I2 ⟨w.at a (.frz od (.ext (Dn a xs vs))), _, S, fl, S', ⟨rfl, at_ok st.ok s2, st.fr.fixX st.ok hr rfl s1 kpa (.dic (o := od) upd_same s3 (s4.keep kpa) (s5.keep kpa)) (fun b hb => upd_ne hb) (fun b hb z => z) rfl, at_sr st.ok st.sr s2⟩, at_le l (y i _ a hr rfl s1), y.fix1, hm, ed.kp kpa⟩
end
end
end Ev

namespace Ev
open PySem PySem.Spec PyProof.Rows L2
def plainArgs (ps : List Str) (p : Arguments) : Bool := p.posonlyargs.isEmpty && (p.vararg.isNone && (p.kwonlyargs.isEmpty && (p.kw_defaults.isEmpty && (p.kwarg.isNone && (p.defaults.isEmpty && decide (p.args.map (·.arg) = ps))))))
theorem lookup_zip : ∀ {ps : List Str} {us : List Value} {i : Nat} {x : Str} {u : Value}, ps.Nodup → ps[i]? = some x → us[i]? = some u → (ps.zip us).lookup x = some u
  | [], _, _, _, _, _, h, _ => by simp at h
  | _ :: _, [], _, _, _, _, _, h => by simp at h
  | p :: ps, w :: us, 0, x, u, nd, h1, h2 => by
    simp at h1 h2
    subst h1 h2
    simp [List.lookup]
  | p :: ps, w :: us, i + 1, x, u, nd, h1, h2 => by
    have h1 : ps[i]? = some x := by simpa using h1
    have hx : x ∈ ps := List.mem_of_getElem? h1
    have hne : (x == p) = false := by
      rw [beq_eq_false_iff_ne]
      intro e
      subst e
      exact (List.nodup_cons.mp nd).1 hx
    rw [List.zip_cons_cons, List.lookup_cons, hne]
    exact lookup_zip (List.nodup_cons.mp nd).2 h1 (by simpa using h2)
theorem filter_look : ∀ {ps : List Str} {us : List Value} {f : Str → Option Value}, us.length = ps.length → (∀ (i : Nat) x u, ps[i]? = some x → us[i]? = some u → f x = some u) → ps.filterMap (fun n => (f n).map fun v => (n, v)) = ps.zip us
  | [], [], _, _, _ => rfl
  | [], _ :: _, _, h, _ => by cases h
  | _ :: _, [], _, h, _ => by cases h
  | p :: ps, w :: us, f, h, hf => by
    rw [List.filterMap_cons, hf 0 p w rfl rfl, List.zip_cons_cons]
    show (p, w) :: _ = _
    rw [filter_look (by simpa using h) fun i x u h1 h2 => hf (i + 1) x u (by simpa using h1) (by simpa using h2)]
theorem bind_plain {ps : List Str} {x qual : Str} {params : Arguments} {body : List Stmt} {scope : Scope} (nd : ps.Nodup) (hp : plainArgs ps params = true) (kV doc pm : Value) (an : Option Addr) (cdv ct : Value) (us : List Value) (hl : us.length = ps.length) :
    bindArgs (PySem.W.fnOf x qual params body scope .none kV doc pm an cdv ct) ⟨us, []⟩ = pure (ps.zip us) := by
  obtain ⟨po, as, va, ko, kd, kw, df⟩ := params
  obtain ⟨h1, m⟩ := b2 hp
  obtain ⟨h2, m⟩ := b2 m
  obtain ⟨h3, m⟩ := b2 m
  obtain ⟨h4, m⟩ := b2 m
  obtain ⟨h5, m⟩ := b2 m
  obtain ⟨h6, h7⟩ := b2 m
  cases po <;> first | (cases h1; done) | skip
  cases va <;> first | (cases h2; done) | skip
  cases ko <;> first | (cases h3; done) | skip
  cases kd <;> first | (cases h4; done) | skip
  cases kw <;> first | (cases h5; done) | skip
  cases df <;> first | (cases h6; done) | skip
  have hlook : ∀ (i : Nat) x u, ps[i]? = some x → us[i]? = some u → (ps.zip us).lookup x = some u := fun i x u e1 e2 => lookup_zip nd e1 e2
  have hmiss : (ps.take ps.length).filter (fun n => ((ps.zip us).lookup n).isNone) = [] := by
    rw [List.take_length, List.filter_eq_nil_iff]
    intro y hy
    obtain ⟨i, hi, e⟩ := List.mem_iff_getElem.mp hy
    rw [hlook i y us[i] (by rw [List.getElem?_eq_getElem hi, e]) (List.getElem?_eq_getElem (by omega))]
    simp
  have hfin := filter_look (f := fun n => (ps.zip us).lookup n) hl hlook
  have hgt : ¬ (us.length > ps.length) := by omega
  have hpa : (as.map fun a => a.arg) = ps := of_decide_eq_true h7
  unfold bindArgs PySem.W.fnOf
  simp only [List.map_nil, List.nil_append, List.append_nil, hpa, List.forIn_nil, pure_bind, bind_pure, seqItems?, notAStandIn, Option.getD_none, List.toList_toArray, List.length_nil, Nat.zero_sub, Nat.sub_zero, List.drop_nil, List.zip_nil_right, hmiss, List.isEmpty_nil]
  rw [if_neg (by rw [hl]; simp), if_neg (by decide), if_neg (by decide), hfin]

/-! ### a table of defs -/
/-- a def as the text has it, and its term: N its slots' names (the parameters ps first) -/
structure Df where
  name : Str
  qual : Str
  params : Arguments
  body : List Stmt
  scope : Scope
  N : List Str
  ps : List Str
  fd : FD
def scopeB (N P : List Str) (sc : Scope) : Bool := (match sc.kind with
  | .function => true
  | _ => false) && (!sc.isCoroutine && (!sc.isGenerator && (decide N.Nodup && (decide (N.take P.length = P) && ((P.all fun x => match sc.names.lookup x with
  | some .local => true
  | some .cell => true
  | _ => false) && sc.names.all fun y => match y.2 with
  | .free => false
  | _ => true)))))
theorem scopeB_ok {N P : List Str} {sc : Scope} (h : scopeB N P sc = true) : FnScope N P sc := by
  obtain ⟨h1, m⟩ := b2 h
  obtain ⟨h2, m⟩ := b2 m
  obtain ⟨h3, m⟩ := b2 m
  obtain ⟨h4, m⟩ := b2 m
  obtain ⟨h5, m⟩ := b2 m
  obtain ⟨h6, h7⟩ := b2 m
  refine ⟨?_, Bool.not_eq_true' _ ▸ h2, Bool.not_eq_true' _ ▸ h3, of_decide_eq_true h4, of_decide_eq_true h5, fun x hx => ?_, fun y hy => ?_⟩
  · split at h1
    · assumption
    · cases h1
  · have q := List.all_eq_true.mp h6 x hx
    split at q
    · exact .inl (by assumption)
    · exact .inr (by assumption)
    · cases q
  · have q := List.all_eq_true.mp h7 y hy
    intro e
    rw [e] at q
    cases q
def Df.ok (fns gns : List Str) (d : Df) : Bool := scopeB d.N d.ps d.scope && (plainArgs d.ps d.params && ((d.fd.ps == d.ps.length) && ((d.fd.n == d.N.length) && okTs d.N fns gns d.fd.body d.scope d.body)))
structure Facts (K : PySem.W.Frag) (mg : Str → Option Value) (fa : Fx) (fns gns : List Str) (tab : List Df) (G : List D) : Prop where
  xc : ∀ c, ¬ (c = 5 ∨ c = 8) → xname c ∈ gns → XOk K mg c
  xi : ∀ c, (c = 5 ∨ c = 8) → xname c ∈ gns → ∀ (P : Program) (w : World) (base : Heap), XIn K mg c P w base
  ok : ∀ d ∈ tab, d.ok fns gns = true
  nms : fns = tab.map (·.name)
  fn : ∀ (f : Nat) d, tab[f]? = some d → ∃ fdo, FunD K d.name d.qual d.params d.body d.scope [] [] (fa f) fdo
  mgf : ∀ (f : Nat) x, fns[f]? = some x → mg x = some (.ref (fa f))
  bl : ∀ x ∈ bnames, mg x = none
  glo : ∀ (k : Nat) d x, G[k]? = some d → gns[k]? = some x → ∃ u v, mg x = some u ∧ RelV v u ∧ ∀ w : Wd, Rp K fa w v d
section
variable {P : Program} {w : World} {K : PySem.W.Frag} {mg : Str → Option Value} {base : Heap} {fa : Fx} {fns gns : List Str} {tab : List Df} {G : List D}
theorem start_fr {N : List Str} {vs : List V} {ds : List D} {wd : Wd} {n : Nat} (hn : n = N.length) (r : Rps K fa wd vs ds) : FR K fa wd (L2.start N vs) (Ev.start n ds) := by
  have hl := r.len
  have key : ∀ (i : Nat) sv, (Ev.start n ds)[i]? = some (some sv) → i < ds.length ∧ ∃ d, ds[i]? = some d ∧ sv = .val d := fun i sv e => by
    unfold Ev.start at e
    by_cases hi : i < ds.length
    · rw [List.getElem?_append_left (by simpa using hi), List.getElem?_map, List.getElem?_eq_getElem hi] at e
      cases (Option.some.inj e)
      exact ⟨hi, _, List.getElem?_eq_getElem hi, rfl⟩
    · rw [List.getElem?_append_right (by simpa using hi), List.getElem?_replicate] at e
      split at e <;> cases e
  refine ⟨?_, fun i d e => ?_, fun i sv e o => ?_, fun i j s1 s2 a e o => ?_⟩
  · unfold L2.start Ev.start
    rw [List.length_append, List.length_append, List.length_map, List.length_map, List.length_replicate, List.length_replicate, hl, hn]
  · obtain ⟨hi, d', e1, e2⟩ := key i _ e
    cases e2
    obtain ⟨v, h1, h2⟩ := r.get e1
    refine ⟨v, ?_, h2⟩
    unfold L2.start
    rw [List.getElem?_append_left (by simpa [hl] using hi), List.getElem?_map, h1]
    rfl
  · obtain ⟨_, _, _, e2⟩ := key i _ e
    subst e2
    cases o
  · obtain ⟨_, _, _, e2⟩ := key i _ e
    subst e2
    cases o
theorem start_yg {N : List Str} {vs : List V} {ds : List D} {n : Nat} (H0 : Hp) : Yg H0 (L2.start N vs) (Ev.start n ds) := by
  intro i sv a e o
  unfold Ev.start at e
  by_cases hi : i < ds.length
  · rw [List.getElem?_append_left (by simpa using hi), List.getElem?_map, List.getElem?_eq_getElem hi] at e
    cases (Option.some.inj e)
    cases o
  · rw [List.getElem?_append_right (by simpa using hi), List.getElem?_replicate] at e
    split at e <;> cases e
theorem callN_ok {n f : Nat} {W : Nat} {ds : List D} {S S' : Sto} {r : RV} (h : callN (tab.map Df.fd) G W n f ds S = .ok r S') : ∃ m d, n = m + 1 ∧ tab[f]? = some d ∧ ds.length = d.fd.ps ∧ ∃ fl, exs ⟨G, callN (tab.map Df.fd) G W m, W⟩ d.fd.body (Ev.start d.fd.n ds) S = .ok fl S' ∧ r = fin fl := by
  cases n with
  | zero => cases h
  | succ m =>
    have h : (match (tab.map Df.fd)[f]? with
      | none => M.stk
      | some fd => M.guard (ds.length == fd.ps) (M.bind (exs ⟨G, callN (tab.map Df.fd) G W m, W⟩ fd.body (Ev.start fd.n ds)) fun fl => M.pure (fin fl))) S = .ok r S' := h
    rw [List.getElem?_map] at h
    cases q : tab[f]? with
    | none =>
      rw [q] at h
      cases h
    | some d =>
      rw [q] at h
      obtain ⟨h1, h2⟩ := guard_ok (show M.guard (ds.length == d.fd.ps) (M.bind (exs ⟨G, callN (tab.map Df.fd) G W m, W⟩ d.fd.body (Ev.start d.fd.n ds)) fun fl => M.pure (fin fl)) S = .ok r S' from h)
      obtain ⟨fl, S1, h3, h4⟩ := bind_ok h2
      obtain ⟨e1, rfl⟩ := pure_ok h4
      exact ⟨m, d, rfl, rfl, by simpa using h1, fl, h3, e1.symm⟩
/-- the law's own def that tells, at a base -/
structure Tel (P : Program) (w : World) (K : PySem.W.Frag) (mg : Str → Option Value) (base : Heap) : Prop where
  ex : ∃ (g LE : Addr) (pg : Arguments) (bg : List Stmt) (sg : Scope) (dV kV doc pm cdv ct oc : Value) (an od : Option Addr) (osl : Array (Option Value)),
    mg "_law_call" = some (.ref g) ∧ PySem.W.keepIn K (.ref g) = true ∧ K.lookup g = some ⟨oc, od, .func (PySem.W.fnOf "_law_call" "_law_call" pg bg sg dV kV doc pm an cdv ct), osl⟩ ∧ PySem.W.codeIn K cdv "_law_call" = true ∧
    L2.Binds K (PySem.W.fnOf "_law_call" "_law_call" pg bg sg dV kV doc pm an cdv ct) ["_law_call_so"] [] ∧ L2.FnScope Hx.cNames ["_law_call_so"] sg ∧ L2.Vis sg "_law_call_so" ∧
    (∀ Y : Cx, Y.prog = P → Y.w = w → Y.K = K → Y.mg = mg → Y.base = base → L2.Room 2 Y.A → ∀ q, Hx.GivesN Y Hx.cNames "_law_call" sg g cdv bg "_law_call_so" q (Hx.TTc K LE)) ∧
    (∀ e, tellB e = true → Hx.ErrK K e ∧ Hx.ExmK K LE e) ∧ ∀ e, (e = 5 ∨ e = 8) → Hx.ErrK K e ∧ Hx.FldK K e
/-- the tables of the defs that hand lambdas on -/
def TabF (K : PySem.W.Frag) (fa : Fx) (tab : List Df) (cs : List (Addr × Addr)) : Prop := ∀ (f : Nat) (d : Df), tab[f]? = some d → tellS d.scope → ∀ (oc : Value) (od : Option Addr) (fdo : FuncData) (osl : Array (Option Value)), K.lookup (fa f) = some ⟨oc, od, .func fdo, osl⟩ → ∀ c, fdo.code = .ref c →
  ∃ Pa, (c, Pa) ∈ cs ∧ (Pa, (d.qual ++ ".<locals>.") ++ "<lambda>") ∈ fa.T ∧ ∀ p ∈ fa.T, p.1 = Pa → p.2 = (d.qual ++ ".<locals>.") ++ "<lambda>"
/-- every def keeps what its term says -/
theorem tab_ok {ct : List (Addr × Addr)} (X : Facts K mg fa fns gns tab G) (TF : TabF K fa tab ct) (TB : ∀ p ∈ ct, LamX.TabB base mg p.1 p.2) (TL : ∀ d ∈ tab, tellS d.scope → Tel P w K mg base) (W : Nat) : ∀ (n f : Nat) (d : Df) (fdo : FuncData), tab[f]? = some d → FunD K d.name d.qual d.params d.body d.scope [] [] (fa f) fdo → Binds K fdo d.ps [] ∧ FnOk P w K mg base (L2N.CX P w) (3 * n) (fa f) fdo d.ps (spC K fa (callN (tab.map Df.fd) G W n f))
  | n, f, d, fdo, hd, F => by
    have ok := X.ok d (List.mem_of_getElem? hd)
    obtain ⟨k1, m⟩ := b2 ok
    obtain ⟨k2, m⟩ := b2 m
    obtain ⟨k3, m⟩ := b2 m
    obtain ⟨k4, k5⟩ := b2 m
    have sc := scopeB_ok k1
    have ndP : d.ps.Nodup := by rw [← sc.pre]; exact sc.nd.sublist (List.take_sublist _ _)
    have k3 : d.fd.ps = d.ps.length := by simpa using k3
    have k4 : d.fd.n = d.N.length := by simpa using k4
    refine ⟨F.bindsN fun kV doc pm an cdv ct us hl => bind_plain ndP k2 kV doc pm an cdv ct us hl, ?_⟩
    have len : ∀ {n : Nat} (vs : List V) (H : Hp) (Q : VK) (E : XK), spC K fa (callN (tab.map Df.fd) G W n f) vs H Q E → vs.length = d.ps.length := fun {n} vs H Q E h => by
      obtain ⟨wd, S, ds, r, S', e, ko, sr, rr, hc, q, qe⟩ := h
      obtain ⟨m, d', _, e1, e2, _⟩ := callN_ok hc
      rw [hd] at e1
      cases e1
      rw [rr.len, e2, k3]
    cases n with
    | zero =>
      refine ⟨len, fun A outer s H args us vs Q E _ _ _ _ h => ?_⟩
      obtain ⟨wd, S, ds, r, S', e, ko, sr, rr, hc, q, qe⟩ := h
      cases hc
    | succ n =>
      obtain ⟨oc, od, dV, kV, doc, pm, an, cdv, ctv, osl, efd, lk, hcd, _, _⟩ := F.ex
      have lk0 := lk
      rw [efd] at lk
      have lv : 3 * (n + 1) = (3 * n + 2) + 1 := by omega
      rw [lv, efd]
      refine fn_of lk hcd sc len fun A outer s H vs Q E hr h => ?_
      obtain ⟨wd, S, ds, r, S', e, ko, sr, rr, hc, q, qe⟩ := h
      obtain ⟨m, d', e0, e1, e2, fl, hrun, er⟩ := callN_ok hc
      cases e0
      rw [hd] at e1
      cases e1
      subst e
      let cfg : Cfg := ⟨G, callN (tab.map Df.fd) G W n, W⟩
      have hr0 : Room (3 * n) (A.deeper (envOfC d.qual d.scope s.heap.objs.size (fa f) cdv)) := hr.mono (by omega)
      have tlt : ∀ (g : Nat) x, fns[g]? = some x → ∃ dg, tab[g]? = some dg := fun g x hx => by
        rw [X.nms, List.getElem?_map] at hx
        cases q2 : tab[g]? with
        | none =>
          rw [q2] at hx
          cases hx
        | some dg => exact ⟨dg, rfl⟩
      have good : GoodS (cxOf (L2N.CX P w) P w K mg base d.N d.qual d.scope (fa f) cdv A outer s wd.H E) cfg fa fns gns E :=
        ⟨L2N.takes_of rfl rfl rfl rfl, X.xc, fun c h5 hc => ⟨X.xi c h5 hc P w base, hr.mono (by omega)⟩, ⟨sc.nd, rfl, by have := hr.un; show (A.deeper (envOfC d.qual d.scope s.heap.objs.size (fa f) cdv)).units + 65 < cLine; omega, X.bl, X.glo, X.mgf, fun g hg xs S => by
          have q2 : tab[g]? = none := List.getElem?_eq_none (by rw [X.nms, List.length_map] at hg; exact hg)
          show callN (tab.map Df.fd) G W n g xs S = .stk
          cases n with
          | zero => rfl
          | succ n =>
            show (match (tab.map Df.fd)[g]? with
              | none => M.stk
              | some fd => M.guard (xs.length == fd.ps) (M.bind (exs ⟨G, callN (tab.map Df.fd) G W n, W⟩ fd.body (Ev.start fd.n xs)) fun fl => M.pure (fin fl))) S = .stk
            rw [List.getElem?_map, q2]
            rfl, fun ht => by
          obtain ⟨c, ec⟩ := He.codeIn_ref hcd
          have ht : tellS d.scope := ht
          obtain ⟨g, LE, pg, bg, sg, dV', kV', doc', pm', cdv', ct', oc', an', od', osl', a1, a2, a3, a4, a5, a6, a7, a8, a9, a10⟩ := (TL d (List.mem_of_getElem? hd) ht).ex
          obtain ⟨Pa, t1, t2, t3⟩ := TF f d hd ht oc od fdo osl lk0 c (by rw [efd]; exact ec)
          exact ⟨3 * n, c, Pa, g, LE, pg, bg, sg, dV', kV', doc', pm', cdv', ct', oc', an', od', osl', hr, fun g x hx => by
            obtain ⟨dg, q2⟩ := tlt g x hx
            obtain ⟨fdg, Fg⟩ := X.fn g dg q2
            obtain ⟨a3, a4⟩ := tab_ok X TF TB TL W n g dg fdg q2 Fg
            exact ⟨fdg, dg.ps, Fg.kp, a3, a4⟩, ec, TB _ t1, t2, t3, a1, a2, a3, a4, a5, a6, a7, a8, a9, a10⟩, fun g x hx => by
          obtain ⟨dg, q2⟩ := tlt g x hx
          obtain ⟨fdg, Fg⟩ := X.fn g dg q2
          obtain ⟨a3, a4⟩ := tab_ok X TF TB TL W n g dg fdg q2 Fg
          exact ⟨fdg, dg.ps, 3 * n, hr0, Fg.kp, a3, a4⟩⟩, sc.kind, fun _ => rfl, passes_of rfl⟩
      refine ⟨rs K fa wd E (exs cfg d.fd.body), sndTs cfg fa fns gns ko d.fd.body _ d.body good k5, ?_⟩
      refine ⟨wd, Ev.start d.fd.n ds, S, fl, S', ⟨rfl, ko, start_fr k4 rr, sr⟩, .refl wd, start_yg _, hrun, ?_⟩
      subst er
      cases fl with
      | nx ρ' => exact fun w' σ' k' l' st' y' => q w' _ l' st'.ok st'.sr .non
      | rt r => exact fun w' v l' k' r' rr' => q w' v l' k' r' rr'
      | ex c d => exact fun w' cls dd l' k' r' xr => qe c d rfl w' cls dd l' k' r' xr
termination_by n => n
end
end Ev

/-! A law's end: the head's facts, the table, the run of the term. -/
namespace Ev
open PySem PySem.Spec PyProof.Rows L2
/-- a constant of the module -/
inductive GV where
  | int (i : Int) | str (x : Str) | tup (vs : List He.Dv)
structure Gk where
  name : Str
  val : GV
def txB (x : Str) : Bool := decide (x.cps.toList.length ≤ 100000) && x.cps.toList.all fun c => decide (c < 1114112)
def dvD : He.Dv → D
  | .non => .non
  | .bl b => .bl b
  | .int i => .int i
  | .str x => .str (codesOf x)
  | _ => .non
def dvB : He.Dv → Bool
  | .non => true
  | .bl _ => true
  | .int _ => true
  | .str x => txB x
  | _ => false
def GV.d : GV → D
  | .int i => .int i
  | .str x => .str (codesOf x)
  | .tup vs => .tup (vs.map dvD)
def GV.ok : GV → Bool
  | .int _ => true
  | .str x => txB x
  | .tup vs => vs.all dvB
def Gk.fas (g : Gk) : List He.Fa := match g.val with
  | .int i => [.int g.name i]
  | .str x => [.str g.name x]
  | .tup _ => [.glo g.name]
def Gk.exB (K : PySem.W.Frag) (g : Gk) : Bool := match g.val with
  | .tup vs => He.tupB K g.name vs
  | _ => true
def Df.hd (d : Df) : He.DefD := ⟨(d.name, none), d.name, d.qual, d.params, d.body, d.scope, [], []⟩
def tellsB (sc : Scope) : Bool := decide (sc.names.lookup ("_law_call" : Str) = some .globalImplicit)
/-- the defs that hand lambdas on -/
def telOf (tab : List Df) : List Df := tab.filter fun d => tellsB d.scope
def fasT : List He.Fa := ([.glo "_law_call", .glo "_law_kinds", .glo "LockError", .free "zip", .free "ValueError"] : List He.Fa) ++ (List.range 10).map fun c => He.Fa.glo (xname c)
def fasOf (tab : List Df) (cs : List Gk) (xs : List Nat) (tl : List He.DefD) : List He.Fa := (tab.map fun d => He.Fa.glo d.name) ++ (cs.flatMap Gk.fas ++ (bnames.map He.Fa.free ++ ((xs.map fun c => He.Fa.glo (xname c)) ++ if tl.isEmpty then [] else fasT)))
def fnOf (tab : List Df) (tl : List He.DefD) : List He.DefD := tab.map Df.hd ++ tl
def tfOf (tab : List Df) : List He.Defn := (telOf tab).map fun d => (d.name, none)
def lamQ (d : Df) : Str := (d.qual ++ ".<locals>.") ++ "<lambda>"
def ctOf (K : PySem.W.Frag) (tab : List Df) : List (Addr × Addr) := (telOf tab).map fun d => He.cT K (d.name, none)
def tabsOf (K : PySem.W.Frag) (tab : List Df) : List (Addr × Str) := (telOf tab).map fun d => ((He.cT K (d.name, none)).2, lamQ d)
/-- a table is one def's -/
def uniB (K : PySem.W.Frag) (tab : List Df) : Bool := (telOf tab).all fun d => (telOf tab).all fun e => !((He.cT K (d.name, none)).2 == (He.cT K (e.name, none)).2) || decide (lamQ d = lamQ e)
/-- an error's class, by the top's facts -/
def xB0 (K : PySem.W.Frag) (c : Nat) : Bool := PySem.W.excIn K (He.ga K (xname c)) [.type "ValueError", .type "Exception", .type "BaseException", .type "object"] "ValueError.__new__" &&
  (PySem.W.keepIn K (.ref (He.ga K (xname c))) && (decide (PySem.W.subIn K (.ref (He.ga K (xname c))) (.type "BaseException") = some true) && decide (PySem.W.typeIn K (.ref (He.ga K (xname c))) = some (.type "type"))))
/-- .. of one with an __init__ of its own -/
def oexB (K : PySem.W.Frag) (C : Addr) : Bool := match K.lookup C with
  | some ⟨.type "type", _, .cls cd, sl⟩ => (match cd.mro, sl.toList with
    | .ref C' :: bm, [_, _, _, _, some (.builtin n), _] => C' == C && (n == "ValueError.__new__" && (!cd.hasDel && (cd.hasDict && PySem.HandSPX.refsVE bm)))
    | _, _ => false)
  | _ => false
def valB : Option PySem.W.CFound → Bool
  | some (.val (.builtin s)) => decide (s = "ValueError.__init__")
  | _ => false
theorem valB_ok {o : Option PySem.W.CFound} (h : valB o = true) : o = some (.val (.builtin "ValueError.__init__")) := by
  unfold valB at h
  split at h
  · rw [of_decide_eq_true h]
  · cases h
def xiB (K : PySem.W.Frag) (c : Nat) : Bool := oexB K (He.ga K (xname c)) && (decide (PySem.W.findIn K (.ref (He.ga K (xname c))) "__setattr__" = some (some (.builtin "object.__setattr__"))) && (decide (PySem.W.subIn K (.ref (He.ga K (xname c))) (.type "BaseException") = some true) && (decide (PySem.W.typeIn K (.ref (He.ga K (xname c))) = some (.type "type")) && (PySem.W.keepIn K (.ref (He.ga K (xname c))) &&
  (decide (PySem.W.findIn K (.ref (He.ga K (xname c))) "__init__" = some (some (.ref (He.fAd K (xname c, some "__init__"))))) && (decide (PySem.W.typeIn K (.ref (He.fAd K (xname c, some "__init__"))) = some (.type "function")) && (decide (PySem.W.findIn K (.ref (He.ga K (xname c))) (Hx.fname c) = some none) &&
  (PySem.W.readsIn K (He.ga K "LockError") (.type "type") && (decide (PySem.W.specialIn K (.ref (He.ga K "LockError")) "__getattribute__" = some (some (.builtin "type.__getattribute__"))) && valB (PySem.W.findCls K (.ref (He.ga K "LockError")) (.type "type") "__init__"))))))))))
theorem oexB_ok {K : PySem.W.Frag} {C : Addr} (h : oexB K C = true) : ∃ nm q N bs bm sn sub ab col dd k0 k1 k2 k3 k5, K.lookup C = some (excClassObj nm q C N bs bm true sn sub ab col dd k0 k1 k2 k3 k5 "ValueError.__new__") ∧ PySem.HandSPX.refsVE bm = true := by
  unfold oexB at h
  split at h
  · rename_i dd cd sl ho
    split at h
    · rename_i C' bm k0 k1 k2 k3 n k5 hm hs
      simp only [Bool.and_eq_true, beq_iff_eq, Bool.not_eq_true'] at h
      obtain ⟨rfl, rfl, h3, h4, h5⟩ := h
      obtain ⟨nm, bs, mro, ns, qn, hd, sn, sub, ab, col, del⟩ := cd
      dsimp only at hm h3 h4
      subst hm h3 h4
      obtain ⟨l⟩ := sl
      dsimp only at hs
      subst hs
      exact ⟨nm, qn, ns, bs, bm, sn, sub, ab, col, dd, k0, k1, k2, k3, k5, ho, h5⟩
    · cases h
  · cases h
def xB (K : PySem.W.Frag) (c : Nat) : Bool := if c == 5 || c == 8 then xiB K c else xB0 K c
/-- what the errors that are told ask of the top -/
def errB (K : PySem.W.Frag) (c : Nat) : Bool := decide (PySem.W.findIn K (.ref (He.ga K (xname c))) "__getattribute__" = some (some (.builtin "BaseException.__getattribute__"))) && (decide (PySem.W.findIn K (.ref (He.ga K (xname c))) "__getattr__" = some none) && (decide (PySem.W.subIn K (.ref (He.ga K (xname c))) (.type "BaseException") = some true) && (PySem.W.hasDictIn K (He.ga K (xname c)) &&
  (decide (PySem.W.findIn K (.ref (He.ga K (xname c))) "__class__" = some (some (.builtin "object.__class__"))) && (decide (PySem.W.specialIn K (.builtin "object.__class__") "__get__" = some (some (.builtin "getset_descriptor.__get__"))) && (decide (PySem.W.takesIn K (.builtin "object.__class__") = some true) && (decide (PySem.W.mroIn K (He.ga K (xname c)) (.type "object") = some true) &&
  (((List.range 10).all fun j => decide (PySem.W.kitOne K (.ref (He.ga K (xname c))) (.ref (He.ga K (xname j))) = some (decide (c = j)))) && decide (PySem.W.kitOne K (.ref (He.ga K (xname c))) (.type "ValueError") = some true)))))))))
def exmB (K : PySem.W.Frag) (c : Nat) : Bool := decide (PySem.W.exmOne K (.ref (He.ga K (xname c))) (.ref (He.ga K (xname 8))) = some false) && (decide (PySem.W.exmOne K (.ref (He.ga K (xname c))) (.ref (He.ga K (xname 5))) = some false) && decide (PySem.W.exmOne K (.ref (He.ga K (xname c))) (.ref (He.ga K "LockError")) = some true))
def fldB (K : PySem.W.Frag) (c : Nat) : Bool := decide (PySem.W.exmOne K (.ref (He.ga K (xname c))) (.ref (He.ga K (xname 8))) = some (decide (c = 8))) && (decide (PySem.W.exmOne K (.ref (He.ga K (xname c))) (.ref (He.ga K (xname 5))) = some (decide (c = 5))) && (PySem.W.hasDictIn K (He.ga K (xname c)) && decide (PySem.W.findIn K (.ref (He.ga K (xname c))) (Hx.fname c) = some none)))
def exOf (tab : List Df) (cs : List Gk) (xs : List Nat) (tl : List He.DefD) (K : PySem.W.Frag) : Bool := (cs.all (Gk.exB K) && xs.all (xB K)) && (uniB K tab && (tl.isEmpty || (List.range 10).all fun c => errB K c && if tellB c then exmB K c else fldB K c))
theorem errB_ok {K : PySem.W.Frag} {c : Nat} (h : errB K c = true) : Hx.ErrK K c := by
  obtain ⟨h1, h⟩ := b2 h
  obtain ⟨h2, h⟩ := b2 h
  obtain ⟨h3, h⟩ := b2 h
  obtain ⟨h4, h⟩ := b2 h
  obtain ⟨h5, h⟩ := b2 h
  obtain ⟨h6, h⟩ := b2 h
  obtain ⟨h7, h⟩ := b2 h
  obtain ⟨h8, h⟩ := b2 h
  obtain ⟨h9, h10⟩ := b2 h
  exact ⟨⟨of_decide_eq_true h1, of_decide_eq_true h2, of_decide_eq_true h3, h4, of_decide_eq_true h5, of_decide_eq_true h6, of_decide_eq_true h7, of_decide_eq_true h8⟩, fun j hj => of_decide_eq_true (List.all_eq_true.mp h9 j (List.mem_range.mpr hj)), of_decide_eq_true h10⟩
theorem exmB_ok {K : PySem.W.Frag} {c : Nat} (h : exmB K c = true) : Hx.ExmK K (He.ga K "LockError") c := by
  obtain ⟨h1, h⟩ := b2 h
  obtain ⟨h2, h3⟩ := b2 h
  exact ⟨of_decide_eq_true h1, of_decide_eq_true h2, of_decide_eq_true h3⟩
theorem fldB_ok {K : PySem.W.Frag} {c : Nat} (h : fldB K c = true) : Hx.FldK K c := by
  obtain ⟨h1, h⟩ := b2 h
  obtain ⟨h2, h⟩ := b2 h
  obtain ⟨h3, h4⟩ := b2 h
  exact ⟨of_decide_eq_true h1, of_decide_eq_true h2, h3, of_decide_eq_true h4⟩
def gnOf (cs : List Gk) (xs : List Nat) : List Str := cs.map (·.name) ++ xs.map xname
theorem xn_58 {c c' : Nat} (h : xname c' = xname c) (h58 : c = 5 ∨ c = 8) : c' = c := by
  have key : ∀ a, a < 11 → ∀ b, (b = 5 ∨ b = 8) → xname a = xname b → a = b := fun a ha b hb => by
    rcases hb with rfl | rfl
    · revert a
      decide +kernel
    · revert a
      decide +kernel
  by_cases hc : c' < 11
  · exact key c' hc c h58 h
  · have e : xname c' = xname 10 := by
      unfold xname
      split <;> first | rfl | omega
    rw [e] at h
    have := key 10 (by omega) c h58 h
    omega
/-- no constant is named as an error -/
def xnB (cs : List Gk) : Bool := (List.range 10).all fun c => !(cs.map (·.name)).contains (xname c)
theorem xname_9 {c : Nat} (h : 10 ≤ c) : xname c = xname 9 := by
  unfold xname
  split <;> first | rfl | omega
theorem xn_not {cs : List Gk} (h : xnB cs = true) (c : Nat) : xname c ∉ cs.map (·.name) := by
  have key : ∀ c, c < 10 → xname c ∉ cs.map (·.name) := fun c hc m => by
    have q := List.all_eq_true.mp h c (List.mem_range.mpr hc)
    rw [List.contains_iff_mem.mpr m] at q
    cases q
  by_cases hc : c < 10
  · exact key c hc
  · rw [xname_9 (by omega)]
    exact key 9 (by omega)
theorem txB_ok {x : Str} (h : txB x = true) : TxOk (codesOf x) := by
  obtain ⟨h1, h2⟩ := b2 h
  exact ⟨Nat.le_trans (of_decide_eq_true h1) (by rw [sizeLine_eq]; decide), fun c hc => of_decide_eq_true (List.all_eq_true.mp h2 c hc)⟩
def faOf (K : PySem.W.Frag) (tab : List Df) (f : Nat) : Addr := match tab[f]? with
  | some d => He.ga K d.name
  | none => 0
def fxOf (K : PySem.W.Frag) (tab : List Df) : Fx := ⟨faOf K tab, tabsOf K tab⟩
/-- the law's two defs: what their bodies do -/
def KindB (body : List Stmt) (sc csc : Scope) : Prop := ∀ (Y : Cx) (c : Nat) (p : Addr × Obj) (H : Hp) (Q : VK) (D : Ends), Y.N = Hx.kNames → Hx.ErrK Y.K c → Hx.KMg Y.K Y.mg → Hx.KSc Y.env.scope csc → (∀ x, Y.fn x = true) → L2H.Hot1 Y.A p → p ∈ Y.pn → p.2.cls = .ref (He.ga Y.K (xname c)) → Hx.DctOk H p.2 → (∃ vs, p.2.data = .fields vs) → (∀ H', (∀ b o, H b = some o → H' b = some o) → D.rt (.str (Hx.kText c)) H') →
      ∃ t, PSs Y body t ∧ t D (L2.start Hx.kNames [.ref p.1]) H
def CallB (body : List Stmt) : Prop := ∀ {X : Cx} {sg : Scope} {g LE fk : Addr} {cdg : Value} {fdk : FuncData} {q : Str}, Hx.CSc sg → (∀ j, j < 10 → X.mg (xname j) = some (.ref (He.ga X.K (xname j)))) → X.mg "LockError" = some (.ref LE) → X.mg "_law_kinds" = some (.ref fk) → PySem.W.keepIn X.K (.ref fk) = true →
    Hx.FnP X.prog X.w X.K X.mg X.base C8.CX0 1 fk fdk ["_law_e"] (Hx.spK X.K) → L2.Binds X.K fdk ["_law_e"] [] → Room 2 X.A → Hx.GivesN X Hx.cNames "_law_call" sg g cdg body "_law_call_so" q (Hx.TTc X.K LE)
structure IniD where
  c : Nat
  p : Arguments
  b : List Stmt
  s : Scope
def IniD.hd (i : IniD) : He.DefD := ⟨(xname i.c, some "__init__"), "__init__", xname i.c ++ ".__init__", i.p, i.b, i.s, [], []⟩
def IniD.ok (i : IniD) : Bool := plainArgs (Hx.iNames (Hx.fname i.c)) i.p && (scopeB (Hx.iNames (Hx.fname i.c)) (Hx.iNames (Hx.fname i.c)) i.s && (decide (i.s.names.lookup ("LockError" : Str) = some .globalImplicit) && (Hx.iNames (Hx.fname i.c)).all fun x => decide (i.s.names.lookup x = some .local)))
def IniB (i : IniD) : Prop := ∃ (m : Str) (j : Nat) (q1 q2 q3 q4 q5 q6 q7 q8 q9 q10 : Pos), i.b = Hx.iBody m (Hx.fname i.c) j q1 q2 q3 q4 q5 q6 q7 q8 q9 q10 ∧ (q2.endLine == q5.line) = true
structure TwoD where
  cp : Arguments
  cb : List Stmt
  cs : Scope
  kp : Arguments
  kb : List Stmt
  ks : Scope
  kc : Scope
  is : List IniD
def TwoD.ds (t : TwoD) : List He.DefD := ⟨("_law_call", none), "_law_call", "_law_call", t.cp, t.cb, t.cs, [], []⟩ :: ⟨("_law_kinds", none), "_law_kinds", "_law_kinds", t.kp, t.kb, t.ks, [], []⟩ :: t.is.map IniD.hd
def gloB (sc : Scope) (x : Str) : Bool := decide (sc.names.lookup x = some .globalImplicit)
def TwoD.ok (t : TwoD) : Bool := plainArgs ["_law_call_so"] t.cp && (plainArgs ["_law_e"] t.kp && (scopeB Hx.cNames ["_law_call_so"] t.cs && (scopeB Hx.kNames ["_law_e"] t.ks && ((["TooMany", "InvalidText", "LockError", "_law_kinds"] : List Str).all (gloB t.cs) && (Hx.cNames.all (fun x => decide (t.cs.names.lookup x = some .local)) &&
  (Hx.kGl.all (gloB t.ks) && ((["_law_e", "_law_some", "_law_words"] : List Str).all (fun x => decide (t.ks.names.lookup x = some .local)) && (blkC Hx.kNames t.ks t.kc [(("_law_word" : Str), 3), (("_law_good" : Str), 4)] && (decide ((relS t.kc t.ks).names.lookup ("_law_word" : Str) = some .local) && decide ((relS t.kc t.ks).names.lookup ("_law_good" : Str) = some .local))))))))))
section
variable {K : PySem.W.Frag} {mg : Str → Option Value} {h : Heap} {w : World} {tab : List Df} {cs : List Gk} {xs : List Nat} {tl : List He.DefD}
theorem rp_dv {fa : Fx} (wd : Wd) : ∀ {vs : List He.Dv}, vs.all dvB = true → Rps K fa wd (vs.map (He.Dv.v K)) (vs.map dvD)
  | [], _ => .nil
  | v :: vs, hv => by
    obtain ⟨h1, h2⟩ := b2 (show (dvB v && vs.all dvB) = true from hv)
    refine .cons ?_ (rp_dv wd h2)
    cases v <;> first | (cases h1; done) | skip
    case non => exact .non
    case bl b => exact .bl b
    case int i => exact .int i
    case str x =>
      have := Rp.str (K := K) (fa := fa) (w := wd) (txB_ok h1)
      rw [tx_codes] at this
      exact this
theorem facts_of (KX : K.In h) (G : h.Ns mainGlobals mg) (c : He.SaysX (fasOf tab cs xs tl) (fnOf tab tl) [] (tfOf tab) (exOf tab cs xs tl) w h K)
    (hini : ∀ c, (c = 5 ∨ c = 8) → c ∈ xs → ∀ (P : Program) (w : World) (base : Heap), XIn K mg c P w base)
    (ht : tab.all (Df.ok (tab.map (·.name)) (gnOf cs xs)) = true) (hc : cs.all (fun g => g.val.ok) = true) (hx : xnB cs = true) :
    Facts K mg (fxOf K tab) (tab.map (·.name)) (gnOf cs xs) tab (cs.map fun g => g.val.d) := by
  have cd := c.t.d
  have fac : ∀ f ∈ fasOf tab cs xs tl, f.ok K = true := fun f hf => He.SaysD.facts cd hf
  obtain ⟨more1, more2⟩ := b2 (b2 (show ((cs.all (Gk.exB K) && xs.all (xB K)) && (uniB K tab && (tl.isEmpty || (List.range 10).all fun c => errB K c && if tellB c then exmB K c else fldB K c))) = true from c.more)).1
  refine ⟨fun c n58 hc => ?_, fun c h58 hc => ?_, fun d hd => List.all_eq_true.mp ht d hd, rfl, fun f d hd => ?_, fun f x hx => ?_, fun x hx => ?_, fun k d x hd hx => ?_⟩
  · rcases List.mem_append.mp hc with hc | hc
    · exact (xn_not hx c hc).elim
    · obtain ⟨c', hc', en⟩ := List.mem_map.mp hc
      have g := He.glo_ok KX G (fac (.glo (xname c')) (List.mem_append_right _ (List.mem_append_right _ (List.mem_append_right _ (List.mem_append_left _ (List.mem_map.mpr ⟨c', hc', rfl⟩))))))
      have n2 : (c' == 5 || c' == 8) = false := by
        rw [Bool.eq_false_iff]
        intro z
        rcases (show c' = 5 ∨ c' = 8 by simpa using z) with e | e
        · rw [e] at en
          exact n58 (.inl (xn_58 en.symm (.inl rfl)))
        · rw [e] at en
          exact n58 (.inr (xn_58 en.symm (.inr rfl)))
      have mb := List.all_eq_true.mp more2 c' hc'
      unfold xB at mb
      rw [n2] at mb
      obtain ⟨q1, q⟩ := b2 (show xB0 K c' = true from mb)
      obtain ⟨q2, q⟩ := b2 q
      obtain ⟨q3, q4⟩ := b2 q
      rw [en] at g q1 q2 q3 q4
      exact ⟨g, q1, q2, of_decide_eq_true q3, of_decide_eq_true q4⟩
  · rcases List.mem_append.mp hc with hc | hc
    · exact (xn_not hx c hc).elim
    · obtain ⟨c', hc', en⟩ := List.mem_map.mp hc
      have e := xn_58 en h58
      rw [e] at hc'
      exact hini c h58 hc'
  · obtain ⟨fdo, F⟩ := cd.def_ f (d := d.hd) (by unfold fnOf; rw [List.getElem?_append_left (by rw [List.length_map]; exact (List.getElem?_eq_some_iff.mp hd).1), List.getElem?_map, hd]; rfl)
    refine ⟨fdo, ?_⟩
    have e : (fxOf K tab) f = He.fAd K d.hd.at_ := by
      show faOf K tab f = _
      unfold faOf
      rw [hd]
      rfl
    rw [e]
    exact F
  · rw [List.getElem?_map] at hx
    cases q : tab[f]? with
    | none =>
      rw [q] at hx
      cases hx
    | some d =>
      rw [q] at hx
      cases (Option.some.inj hx)
      have e : (fxOf K tab) f = He.ga K d.name := by
        show faOf K tab f = _
        unfold faOf
        rw [q]
      rw [e]
      exact He.glo_ok KX G (fac _ (List.mem_append_left _ (List.mem_map.mpr ⟨d, List.mem_of_getElem? q, rfl⟩)))
  · exact He.free_ok KX G (fac _ (List.mem_append_right _ (List.mem_append_right _ (List.mem_append_left _ (List.mem_map.mpr ⟨x, hx, rfl⟩)))))
  · rw [List.getElem?_map] at hd
    cases q : cs[k]? with
    | none =>
      rw [q] at hd
      cases hd
    | some g =>
      have hk : k < cs.length := (List.getElem?_eq_some_iff.mp q).1
      unfold gnOf at hx
      rw [List.getElem?_append_left (by simpa using hk), List.getElem?_map] at hx
      rw [q] at hd hx
      cases (Option.some.inj hd)
      cases (Option.some.inj hx)
      have gm := List.mem_of_getElem? q
      have fa : ∀ f ∈ g.fas, f.ok K = true := fun f hf => fac f (List.mem_append_right _ (List.mem_append_left _ (List.mem_flatMap.mpr ⟨g, gm, hf⟩)))
      have ok : g.val.ok = true := List.all_eq_true.mp hc g gm
      have exb : g.exB K = true := List.all_eq_true.mp more1 g gm
      obtain ⟨nm, v⟩ := g
      cases v with
      | int i =>
        obtain ⟨t, e⟩ := He.int_ok KX G (fa (.int nm i) (List.mem_singleton.mpr rfl))
        exact ⟨_, .int i, e, ⟨t, rfl⟩, fun _ => .int i⟩
      | str x =>
        obtain ⟨t, e⟩ := He.str_ok KX G (fa (.str nm x) (List.mem_singleton.mpr rfl))
        refine ⟨_, .str x, e, ⟨t, rfl⟩, fun wd => ?_⟩
        have := Rp.str (K := K) (fa := fxOf K tab) (w := wd) (txB_ok ok)
        rw [tx_codes] at this
        exact this
      | tup vs =>
        have e := He.glo_ok KX G (fa (.glo nm) (List.mem_singleton.mpr rfl))
        refine ⟨_, .ref (He.ga K nm), e, rfl, fun wd => .tup (He.tupB_ok exb wd.H) ?_ (rp_dv wd ok)⟩
        rcases He.tupB_ok exb (fun _ => none) with (z | ⟨o, z⟩) | ⟨ob, its, n, e1, e2, e3, e4, e5⟩
        · cases z
        · cases z
        · rw [e5.length]
          simpa using e4
theorem rps_ints6 {fa : Fx} (wd : Wd) : ∀ ns : List Int, Rps K fa wd (ns.map V.int) (ns.map D.int)
  | [] => .nil
  | n :: ns => .cons (.int n) (rps_ints6 wd ns)
/-- the tables of the defs that hand lambdas on -/
theorem tabF_of (c : He.SaysX (fasOf tab cs xs tl) (fnOf tab tl) [] (tfOf tab) (exOf tab cs xs tl) w h K) : TabF K (fxOf K tab) tab (ctOf K tab) := by
  intro f d hd ht oc od fdo osl lk cc ec
  have e0 : (fxOf K tab) f = He.fAd K (d.name, none) := by
    show faOf K tab f = _
    unfold faOf
    rw [hd]
    rfl
  rw [e0] at lk
  have hc := He.codeOf_eq lk ec
  have mm : d ∈ telOf tab := List.mem_filter.mpr ⟨List.mem_of_getElem? hd, decide_eq_true ht⟩
  have un := (b2 (b2 (show ((cs.all (Gk.exB K) && xs.all (xB K)) && (uniB K tab && (tl.isEmpty || (List.range 10).all fun c => errB K c && if tellB c then exmB K c else fldB K c))) = true from c.more)).2).1
  refine ⟨(He.cT K (d.name, none)).2, ?_, List.mem_map.mpr ⟨d, mm, rfl⟩, fun p hp hq => ?_⟩
  · have e : He.cT K (d.name, none) = (cc, (He.cT K (d.name, none)).2) := Prod.ext hc rfl
    rw [← e]
    exact List.mem_map.mpr ⟨d, mm, rfl⟩
  · obtain ⟨d', m', e'⟩ := List.mem_map.mp hp
    have q := List.all_eq_true.mp (List.all_eq_true.mp un d' m') d mm
    have e1 : (He.cT K (d'.name, none)).2 = (He.cT K (d.name, none)).2 := by rw [← e'] at hq; exact hq
    rw [e1, beq_self_eq_true] at q
    have q2 : decide (lamQ d' = lamQ d) = true := by simpa using q
    rw [← e']
    exact of_decide_eq_true q2
theorem glo_mem {x : Str} (hm : x ∈ (["_law_call", "_law_kinds", "LockError"] : List Str)) (hne : tl.isEmpty = false) : He.Fa.glo x ∈ fasOf tab cs xs tl := by
  unfold fasOf
  rw [hne]
  refine List.mem_append_right _ (List.mem_append_right _ (List.mem_append_right _ (List.mem_append_right _ (List.mem_append_left _ ?_))))
  rcases List.mem_cons.mp hm with e | hm
  · rw [e]; exact List.mem_cons_self
  rcases List.mem_cons.mp hm with e | hm
  · rw [e]; exact List.mem_cons_of_mem _ List.mem_cons_self
  rcases List.mem_cons.mp hm with e | hm
  · rw [e]; exact List.mem_cons_of_mem _ (List.mem_cons_of_mem _ List.mem_cons_self)
  · cases hm
/-- the law's def that tells, at every base -/
theorem tel_of {P : Program} {t : TwoD} (KX : K.In h) (G : h.Ns mainGlobals mg) (c : He.SaysX (fasOf tab cs xs t.ds) (fnOf tab t.ds) [] (tfOf tab) (exOf tab cs xs t.ds) w h K) (ok : t.ok = true) (hk : KindB t.kb t.ks t.kc) (hc : CallB t.cb) (base : Heap) : Tel P w K mg base := by
  have cd := c.t.d
  have fac : ∀ f ∈ fasOf tab cs xs t.ds, f.ok K = true := fun f hf => He.SaysD.facts cd hf
  have gl : ∀ x ∈ (["_law_call", "_law_kinds", "LockError"] : List Str), mg x = some (.ref (He.ga K x)) := fun x hx => He.glo_ok KX G (fac _ (glo_mem hx rfl))
  have xg : ∀ j, j < 10 → mg (xname j) = some (.ref (He.ga K (xname j))) := fun j hj => He.glo_ok KX G (fac (.glo (xname j)) (List.mem_append_right _ (List.mem_append_right _ (List.mem_append_right _ (List.mem_append_right _ (List.mem_append_right _ (List.mem_map.mpr ⟨j, List.mem_range.mpr hj, rfl⟩)))))))
  have fr : ∀ x ∈ (["zip", "ValueError"] : List Str), mg x = none := fun x hx => He.free_ok KX G (fac (.free x) (List.mem_append_right _ (List.mem_append_right _ (List.mem_append_right _ (List.mem_append_right _ (List.mem_append_left _ (by
    rcases List.mem_cons.mp hx with e | hx
    · rw [e]; exact List.mem_cons_of_mem _ (List.mem_cons_of_mem _ (List.mem_cons_of_mem _ List.mem_cons_self))
    rcases List.mem_cons.mp hx with e | hx
    · rw [e]; exact List.mem_cons_of_mem _ (List.mem_cons_of_mem _ (List.mem_cons_of_mem _ (List.mem_cons_of_mem _ List.mem_cons_self)))
    · cases hx)))))))
  have fb : ∀ x ∈ bnames, mg x = none := fun x hx => He.free_ok KX G (fac _ (List.mem_append_right _ (List.mem_append_right _ (List.mem_append_left _ (List.mem_map.mpr ⟨x, hx, rfl⟩)))))
  obtain ⟨k1, m⟩ := b2 ok
  obtain ⟨k2, m⟩ := b2 m
  obtain ⟨k3, m⟩ := b2 m
  obtain ⟨k4, m⟩ := b2 m
  obtain ⟨k5, m⟩ := b2 m
  obtain ⟨k6, m⟩ := b2 m
  obtain ⟨k7, m⟩ := b2 m
  obtain ⟨k8, m⟩ := b2 m
  obtain ⟨k9, m⟩ := b2 m
  obtain ⟨k10, k11⟩ := b2 m
  obtain ⟨fdc, Fc⟩ := cd.def_ tab.length (d := ⟨("_law_call", none), "_law_call", "_law_call", t.cp, t.cb, t.cs, [], []⟩) (by unfold fnOf; rw [List.getElem?_append_right (by rw [List.length_map]; exact Nat.le_refl _), List.length_map, Nat.sub_self]; rfl)
  obtain ⟨fdk, Fk⟩ := cd.def_ (tab.length + 1) (d := ⟨("_law_kinds", none), "_law_kinds", "_law_kinds", t.kp, t.kb, t.ks, [], []⟩) (by unfold fnOf; rw [List.getElem?_append_right (by rw [List.length_map]; omega), List.length_map, Nat.add_sub_cancel_left]; rfl)
  have err : ∀ e, e < 10 → (errB K e && if tellB e then exmB K e else fldB K e) = true := fun e lt => by
    have q := (b2 (b2 (show ((cs.all (Gk.exB K) && xs.all (xB K)) && (uniB K tab && (t.ds.isEmpty || (List.range 10).all fun c => errB K c && if tellB c then exmB K c else fldB K c))) = true from c.more)).2).2
    have q : ((List.range 10).all fun c => errB K c && if tellB c then exmB K c else fldB K c) = true := q
    exact List.all_eq_true.mp q e (List.mem_range.mpr lt)
  have err1 : ∀ e, tellB e = true → Hx.ErrK K e ∧ Hx.ExmK K (He.ga K "LockError") e := fun e he => by
    obtain ⟨q1, q2⟩ := b2 (err e (of_decide_eq_true (Bool.and_eq_true_iff.mp he).1))
    rw [he] at q2
    exact ⟨errB_ok q1, exmB_ok q2⟩
  have err2 : ∀ e, (e = 5 ∨ e = 8) → Hx.ErrK K e ∧ Hx.FldK K e := fun e he => by
    obtain ⟨q1, q2⟩ := b2 (err e (by omega))
    have z : tellB e = false := by rcases he with z | z <;> rw [z] <;> rfl
    rw [z] at q2
    exact ⟨errB_ok q1, fldB_ok q2⟩
  have M : Hx.KMg K mg := ⟨fun x hx => by
    rcases List.mem_cons.mp hx with e | hx
    · rw [e]; exact fb _ (by decide)
    · exact fr x hx, xg⟩
  have SC : Hx.KSc t.ks t.kc := ⟨fun x hx => of_decide_eq_true (List.all_eq_true.mp k7 x hx), fun x hx => of_decide_eq_true (List.all_eq_true.mp k8 x hx), blkOk_by k9, of_decide_eq_true k10, of_decide_eq_true k11⟩
  have CS : Hx.CSc t.cs := ⟨fun x hx => of_decide_eq_true (List.all_eq_true.mp k5 x hx), fun x hx => of_decide_eq_true (List.all_eq_true.mp k6 x hx)⟩
  have Sk := scopeB_ok k4
  have Sc := scopeB_ok k3
  have bk : L2.Binds K fdk ["_law_e"] [] := Fk.bindsN fun kV doc pm an cdv ct us hl => bind_plain (by decide) k2 kV doc pm an cdv ct us hl
  have bc : L2.Binds K fdc ["_law_call_so"] [] := Fc.bindsN fun kV doc pm an cdv ct us hl => bind_plain (by decide) k1 kV doc pm an cdv ct us hl
  obtain ⟨oc, od, dV, kV, doc, pm, an, cdv, ctv, osl, efd, lk, hcd, _, _⟩ := Fc.ex
  obtain ⟨oc2, od2, dV2, kV2, doc2, pm2, an2, cdv2, ctv2, osl2, efd2, lk2, hcd2, _, _⟩ := Fk.ex
  subst efd
  subst efd2
  have Fp := fun base => Hx.kinds_fn (P := P) (w := w) (mg := mg) (base := base) (csc := t.kc) lk2 hcd2 Sk M SC fun Y c p H Q D hN C M2 hsc hfn hot hp hz hd hf q => hk Y c p H Q D hN C M2 (by rw [hsc]; exact SC) hfn hot hp hz hd hf q
  refine ⟨He.ga K "_law_call", He.ga K "LockError", t.cp, t.cb, t.cs, dV, kV, doc, pm, cdv, ctv, oc, an, od, osl, gl _ (by decide), Fc.kp, lk, hcd, bc, Sc, .inl (CS.lo _ (by decide)), fun Y eP ew eK emg eb hr q => ?_, err1, err2⟩
  subst eP
  subst ew
  subst eK
  subst emg
  subst eb
  exact hc CS xg (gl _ (by decide)) (gl "_law_kinds" (by decide)) Fk.kp (Fp _) bk hr
/-- an error with an __init__ of its own -/
theorem ini_of {P : Program} {t : TwoD} {e : Nat} (KX : K.In h) (G : h.Ns mainGlobals mg) (c : He.SaysX (fasOf tab cs xs t.ds) (fnOf tab t.ds) [] (tfOf tab) (exOf tab cs xs t.ds) w h K) (ok : t.is.all IniD.ok = true) (hB : ∀ i ∈ t.is, IniB i) (h58 : e = 5 ∨ e = 8) (he : e ∈ xs) (hi : ∃ i ∈ t.is, i.c = e) (w' : World) (base : Heap) : XIn K mg e P w' base := by
  obtain ⟨i, mi, rfl⟩ := hi
  have cd := c.t.d
  have fac : ∀ f ∈ fasOf tab cs xs t.ds, f.ok K = true := fun f hf => He.SaysD.facts cd hf
  have gl : mg "LockError" = some (.ref (He.ga K "LockError")) := He.glo_ok KX G (fac _ (glo_mem (by decide) rfl))
  have xg : mg (xname i.c) = some (.ref (He.ga K (xname i.c))) := He.glo_ok KX G (fac (.glo (xname i.c)) (List.mem_append_right _ (List.mem_append_right _ (List.mem_append_right _ (List.mem_append_left _ (List.mem_map.mpr ⟨i.c, he, rfl⟩))))))
  have mb := List.all_eq_true.mp (b2 (b2 (show ((cs.all (Gk.exB K) && xs.all (xB K)) && (uniB K tab && (t.ds.isEmpty || (List.range 10).all fun c => errB K c && if tellB c then exmB K c else fldB K c))) = true from c.more)).1).2 i.c he
  unfold xB at mb
  rw [if_pos (by simpa using h58)] at mb
  obtain ⟨k1, m⟩ := b2 mb
  obtain ⟨k2, m⟩ := b2 m
  obtain ⟨k3, m⟩ := b2 m
  obtain ⟨k4, m⟩ := b2 m
  obtain ⟨k5, m⟩ := b2 m
  obtain ⟨k6, m⟩ := b2 m
  obtain ⟨k7, m⟩ := b2 m
  obtain ⟨k8, m⟩ := b2 m
  obtain ⟨k9, m⟩ := b2 m
  obtain ⟨k10, k11⟩ := b2 m
  obtain ⟨j1, m⟩ := b2 (List.all_eq_true.mp ok i mi)
  obtain ⟨j2, m⟩ := b2 m
  obtain ⟨j3, j4⟩ := b2 m
  have T : OexC K (He.ga K (xname i.c)) := ⟨oexB_ok k1, of_decide_eq_true k2, of_decide_eq_true k3, of_decide_eq_true k4, k5⟩
  have R : Hx.ParK K (He.ga K "LockError") := ⟨k9, of_decide_eq_true k10, valB_ok k11⟩
  have S := scopeB_ok j2
  have nd : (Hx.iNames (Hx.fname i.c)).Nodup := S.nd
  obtain ⟨fd, Fd⟩ := He.SaysD.defs cd (d := i.hd) (List.mem_append_right _ (List.mem_cons_of_mem _ (List.mem_cons_of_mem _ (List.mem_map.mpr ⟨i, mi, rfl⟩))))
  obtain ⟨mm, j, q1, q2, q3, q4, q5, q6, q7, q8, q9, q10, eb, hl⟩ := hB i mi
  have Fd : FunD K "__init__" (xname i.c ++ ".__init__") i.p i.b i.s [] [] (He.fAd K (xname i.c, some "__init__")) fd := Fd
  have bi := Fd.bindsN (ps := Hx.iNames (Hx.fname i.c)) fun kV doc pm an cdv ct us hl => bind_plain nd j1 kV doc pm an cdv ct us hl
  rw [eb] at Fd
  exact ⟨_, fd, T, of_decide_eq_true k6, of_decide_eq_true k7, Hx.init_fn Fd S ⟨of_decide_eq_true j3, fun x hx => of_decide_eq_true (List.all_eq_true.mp j4 x hx)⟩ gl R T (of_decide_eq_true k8) (by
    rcases h58 with z | z
    · left
      rw [z] <;> rfl
    · right
      rw [z] <;> rfl) hl, bi, xg⟩
/-- the law's script, read only -/
theorem law_sp {fa : Fx} {C : List D → M RV} {H : Hp} {a : Addr} {ns : List Int} {E : XK} (hl : ns.length ≤ sizeLine) (hT : LamX.Tabs fa.T H) (hs : SqL K H a (ns.map V.int)) (hp : ∃ S', C [.rol (ns.map .int)] [] = .ok (.val (.bl true)) S') :
    spC K fa C [.ref a] H (fun v _ => v = .bl true) E := by
  obtain ⟨S', hp⟩ := hp
  let wd : Wd := ⟨fun b => b = a ∧ H a = some (.lst (ns.map V.int)), [], H⟩
  have ro : RoL K wd a (ns.map V.int) := by
    rcases hs with (hs | hs) | hs
    · exact .inl (.inr ⟨⟨rfl, hs⟩, hs⟩)
    · exact .inl (.inl hs)
    · exact .inr hs
  refine ⟨wd, [], [.rol (ns.map .int)], _, S', rfl, ⟨fun b ⟨e, f⟩ => ⟨ns.map V.int, by rw [e]; exact f⟩, (fun _ m => by simp [wd] at m), (fun _ m => by simp [wd] at m), List.nodup_nil⟩, ⟨rfl, fun n a o e => by simp [wd] at e, hT⟩, .cons (.rol ro (by rw [List.length_map]; exact hl) (rps_ints6 _ ns)) .nil, hp, fun w' v l k r rr => ?_, fun c d e => by cases e⟩
  cases (show Rp K fa w' v (.bl true) from rr)
  rfl
/-- what flies out, the world left open -/
def CXe (P : Program) : CXT := fun o H s E u s' => ∃ w, L2N.CX P w o H s E u s'
theorem CXe.no {P : Program} (w : World) (H : Hp) (s : Shared) (e : Value) (s' : Shared) (h : CXe P [] H s (fun _ _ _ => False) e s') : False := by
  obtain ⟨w, _, _, _, _, _, _, _, _, _, _, _, _, z⟩ := h
  exact z
theorem fn_open {P : Program} {w : World} {K : PySem.W.Frag} {mg : Str → Option Value} {base : Heap} {k : Nat} {f : Addr} {fd : FuncData} {ps : List Str} {sp : Sp} (F : FnOk P w K mg base (L2N.CX P w) k f fd ps sp) : FnOk P w K mg base (CXe P) k f fd ps sp :=
  ⟨F.len, fun A outer s H args us vs Q E hr e0 hb r hsp => codeAny_mono (F.run A outer s H args us vs Q E hr e0 hb r hsp) fun r s' hq => by
    cases r with
    | error e => exact ⟨w, hq⟩
    | ok fl => cases fl <;> exact hq⟩
/-- what walk_ofTsE asks of a law's def -/
theorem law_F {l : PySem.W.OpenLaw} {n k W f : Nat} {d : Df} {x : Str} {a : Addr} (KX : K.In h) (G : h.Ns mainGlobals mg) (c : He.SaysX (fasOf tab cs xs tl) (fnOf tab tl) [] (tfOf tab) (exOf tab cs xs tl) w h K)
    (tel : ∀ d ∈ tab, tellS d.scope → ∀ base, Tel l.prog w K mg base) (hini : ∀ c, (c = 5 ∨ c = 8) → c ∈ xs → ∀ (P : Program) (w : World) (base : Heap), XIn K mg c P w base)
    (ht : tab.all (Df.ok (tab.map (·.name)) (gnOf cs xs)) = true) (hc : cs.all (fun g => g.val.ok) = true) (hx : xnB cs = true) (hn : n ≤ sizeLine) (hd : tab[f]? = some d) (hps : d.ps = [x]) (hmg : mg d.name = some (.ref a))
    (hp : ∀ ns : List Int, ns.length ≤ n → ∃ S', callN (tab.map Df.fd) (cs.map fun g => g.val.d) W k f [.rol (ns.map .int)] [] = .ok (.val (.bl true)) S') :
    ∃ K : PySem.W.Frag, K.In h ∧ LamX.LawAtS l w K (CXe l.prog) (3 * k) n x mg a h := by
  have X := facts_of KX G c hini ht hc hx
  obtain ⟨fdo, F⟩ := X.fn f d hd
  have e : a = (fxOf K tab) f := by
    have := X.mgf f d.name (by rw [List.getElem?_map, hd]; rfl)
    rw [hmg] at this
    cases this
    rfl
  subst e
  have ok := X.ok d (List.mem_of_getElem? hd)
  obtain ⟨k1, m⟩ := b2 ok
  obtain ⟨k2, m⟩ := b2 m
  have b : ∀ (s : Shared) (us : List Value), us.length = d.ps.length → BindsTo s fdo ⟨us, []⟩ (d.ps.zip us) := fun s us hl => by
    have sc := scopeB_ok k1
    have ndP : d.ps.Nodup := by rw [← sc.pre]; exact sc.nd.sublist (List.take_sublist _ _)
    exact F.bindsA (fun kV doc pm an cdv ct us hl => bind_plain ndP k2 kV doc pm an cdv ct us hl) s us hl
  rw [hps] at b
  have mm : ∀ p ∈ ctOf K tab, ∃ q ∈ tfOf tab, p = He.cT K q := fun p hp => by
    obtain ⟨d', m', e'⟩ := List.mem_map.mp hp
    exact ⟨(d'.name, none), List.mem_map.mpr ⟨d', m', rfl⟩, e'.symm⟩
  refine ⟨K, KX, fdo, ctOf K tab, spC K (fxOf K tab) (callN (tab.map Df.fd) (cs.map fun g => g.val.d) W k f), fun p hp => ?_, fun p hp => ?_, fun p hp => ?_, fun s u => b s [u] rfl, fun H a ns hl _ ho hs => law_sp (Nat.le_trans hl hn) (fun p hp => ?_) hs (hp ns hl), fun base hb hb2 TB => ?_⟩
  · obtain ⟨q, hq, e⟩ := mm p hp
    rw [e]
    exact c.empty q hq
  · obtain ⟨q, hq, e⟩ := mm p hp
    rw [e]
    exact c.out q hq
  · obtain ⟨q, hq, e⟩ := mm p hp
    rw [e]
    exact PySem.W.codeHd_of_K KX (c.hd q hq)
  · obtain ⟨d', m', e'⟩ := List.mem_map.mp hp
    rw [← e']
    exact LamX.TabS.nil (ho _ (List.mem_map.mpr ⟨d', m', rfl⟩))
  · have q := (tab_ok (P := l.prog) (w := w) (base := base) X (tabF_of c) TB (fun d hd ht => tel d hd ht base) W k f d fdo hd F).2
    rw [hps] at q
    exact fn_open q
end
/-! ### the head's Hook: the interpreter's own statics are looked at too -/
section
variable {n : Nat} {fas : List He.Fa} {fns : List He.DefD} {ts : List He.Tab} {tf : List He.Defn} {xf : PySem.W.Frag → Bool}
def asY (g : Addr → Option Obj) (n : Nat) : List Addr := He.asD g n ++ [cStatics]
abbrev frY (g : Addr → Option Obj) (n : Nat) : PySem.W.Frag := He.frT g (asY g n)
def obsY (n : Nat) (fas : List He.Fa) (fns : List He.DefD) (ts : List He.Tab) (tf : List He.Defn) (xf : PySem.W.Frag → Bool) (g : Addr → Option Obj) : He.AlX :=
  (He.obsT fas fns ts (frY g n), xf (frY g n) && He.tabsB g tf (frY g n))
theorem tabs_at {g : Addr → Option Obj} {K : PySem.W.Frag} (h : He.tabsB g tf K = true) : ∀ p ∈ tf, PySem.W.codeHdIn K (He.cT K p).1 (He.cT K p).2 = true ∧ ∃ o, g (He.cT K p).2 = some o ∧ He.emptyTab o = true := fun p hp => by
  obtain ⟨h1, h2⟩ := b2 (List.all_eq_true.mp h p hp)
  refine ⟨h1, ?_⟩
  split at h2
  · rename_i o e
    exact ⟨o, e, h2⟩
  · cases h2
theorem saysY {w : World} {h : Heap} (e : obsY n fas fns ts tf xf h.get? = He.valX fns ts w) : He.SaysX fas fns ts tf xf w h (frY h.get? n) := by
  have two : (He.obsT fas fns ts (frY h.get? n) = He.valT fns ts w) ∧ (xf (frY h.get? n) && He.tabsB h.get? tf (frY h.get? n)) = true := Prod.mk.inj e
  obtain ⟨h1, h2⟩ := b2 two.2
  have at_ := tabs_at h2
  refine ⟨two.1, h1, fun p hp => (at_ p hp).1, fun p hp => ?_, fun p hp => ?_⟩
  · obtain ⟨_, o, q, z⟩ := at_ p hp
    exact He.frT_none q z
  · obtain ⟨_, o, q, z⟩ := at_ p hp
    rw [q, He.emptyTab_eq z]
def hookY (n : Nat) (fas : List He.Fa) (fns : List He.DefD) (ts : List He.Tab) (tf : List He.Defn) (xf : PySem.W.Frag → Bool) : PySem.W.Hook where
  α := He.AlX
  obs := fun s => obsY n fas fns ts tf xf s.heap.get?
  val := fun w => He.valX fns ts w
  says := fun w h => ∃ K : PySem.W.Frag, K.In h ∧ He.SaysX fas fns ts tf xf w h K
  of := fun _ _ e => ⟨_, He.frT_in, saysY e⟩
  keeps := fun _ _ _ ⟨K, kin, c⟩ k => ⟨K, PySem.W.Frag.In.keeps kin k, ⟨c.t, c.more, c.hd, c.out, fun p hp => k _ _ (c.empty p hp)⟩⟩
theorem obsY_eq {g : Addr → Option Obj} {s : Shared} (h : ∀ a, g a = s.heap.get? a) : obsY n fas fns ts tf xf g = (hookY n fas fns ts tf xf).obs s := by
  rw [show g = s.heap.get? from funext h] <;> rfl
end
end Ev

/-! Runs of the small machine, step by step. -/
namespace Ev
open PySem
@[simp] theorem lim_lit : LIM = 16777216 := (rfl)
section
variable {α β : Type} {S S' : Sto}
@[simp ↓] theorem bind_ap (m : M α) (f : α → M β) (S : Sto) : M.bind m f S = (match m S with | .stk => .stk | .ok a S' => f a S') := (rfl)
@[simp] theorem opt_some (a : α) (S : Sto) : M.opt (some a) S = .ok a S := (rfl)
@[simp] theorem opt_none (S : Sto) : (M.opt none : M α) S = .stk := (rfl)
@[simp] theorem pure_ap (a : α) (S : Sto) : M.pure a S = .ok a S := (rfl)
@[simp] theorem guard_t (m : M α) (S : Sto) : M.guard true m S = m S := (rfl)
@[simp] theorem guard_f (m : M α) (S : Sto) : M.guard false m S = .stk := (rfl)
@[simp] theorem stk_ap (S : Sto) : (M.stk : M α) S = .stk := (rfl)
theorem callN_succ {tab : List FD} {G : List D} {W n f : Nat} {ds : List D} {S : Sto} {fd : FD} (h : tab[f]? = some fd) (hl : (ds.length == fd.ps) = true) :
    callN tab G W (n + 1) f ds S = (match exs ⟨G, callN tab G W n, W⟩ fd.body (start fd.n ds) S with | .stk => .stk | .ok fl S' => .ok (fin fl) S') := by
  show (match tab[f]? with
      | none => M.stk
      | some fd => M.guard (ds.length == fd.ps) (M.bind (exs ⟨G, callN tab G W n, W⟩ fd.body (start fd.n ds)) fun fl => M.pure (fin fl))) S = _
  rw [h]
  show M.guard (ds.length == fd.ps) _ S = _
  rw [hl, guard_t, bind_ap]
  cases exs ⟨G, callN tab G W n, W⟩ fd.body (start fd.n ds) S <;> rfl
end
/-! ### operations on values of known kinds -/
section
variable (i j : Int) (a b : Bool) (s t : List Nat) (xs ys : List D) (x : D)
@[simp] theorem tru_non : D.tru .non = some false := (rfl)
@[simp] theorem tru_bl : D.tru (.bl b) = some b := (rfl)
@[simp] theorem tru_int : D.tru (.int i) = some (i != 0) := (rfl)
@[simp] theorem tru_str : D.tru (.str s) = some (!s.isEmpty) := (rfl)
@[simp] theorem tru_tup : D.tru (.tup xs) = some (!xs.isEmpty) := (rfl)
@[simp] theorem tru_lst : D.tru (.lst xs) = some (!xs.isEmpty) := (rfl)
@[simp] theorem add_ii : bop .add (.int i) (.int j) = some (.int (i + j)) := (rfl)
@[simp] theorem add_bi : bop .add (.bl b) (.int j) = some (.int (b2i b + j)) := (rfl)
@[simp] theorem sub_ii : bop .sub (.int i) (.int j) = some (.int (i - j)) := (rfl)
@[simp] theorem sub_bi : bop .sub (.bl b) (.int j) = some (.int (b2i b - j)) := (rfl)
@[simp] theorem mod_ii : bop .mod (.int i) (.int j) = if 0 < j then some (.int (i % j)) else none := (rfl)
theorem mul_ii : bop .mul (.int i) (.int j) = if mulOk i j then some (.int (i * j)) else none := (rfl)
theorem fdiv_ii : bop .fdiv (.int i) (.int j) = if divOk j then some (.int (i / j)) else none := (rfl)
@[simp] theorem pow_ii : bop .pow (.int i) (.int j) = if decide (0 ≤ j) && decide (j ≤ 1000) && sm64 i then some (.int (i ^ j.toNat)) else none := (rfl)
@[simp] theorem add_ll : bop .add (.lst xs) (.lst ys) = if xs.length + ys.length ≤ LIM then some (.lst (xs ++ ys)) else none := (rfl)
@[simp] theorem add_tt : bop .add (.tup xs) (.tup ys) = if xs.length + ys.length ≤ LIM then some (.tup (xs ++ ys)) else none := (rfl)
@[simp] theorem add_ss : bop .add (.str s) (.str t) = if s.length + t.length ≤ LIM then some (.str (s ++ t)) else none := (rfl)
@[simp] theorem mul_ti : bop .mul (.tup xs) (.int j) = if decide (2 ≤ j) && decide (j ≤ 1000) && !xs.isEmpty && decide (xs.length ≤ 1000) then some (.tup (rep j.toNat xs)) else none := (rfl)
@[simp] theorem mul_li : bop .mul (.lst xs) (.int j) = if decide (0 ≤ j) && decide (j ≤ 1000) && decide (xs.length ≤ 1000) then some (.lst (rep j.toNat xs)) else none := (rfl)
@[simp] theorem lt_ii : cop .lt (.int i) (.int j) = some (decide (i < j)) := (rfl)
@[simp] theorem le_ii : cop .le (.int i) (.int j) = some (decide (i ≤ j)) := (rfl)
@[simp] theorem gt_ii : cop .gt (.int i) (.int j) = some (decide (j < i)) := (rfl)
@[simp] theorem ge_ii : cop .ge (.int i) (.int j) = some (decide (j ≤ i)) := (rfl)
@[simp] theorem eqv_ii : D.eqv (.int i) (.int j) = (i == j) := (rfl)
@[simp] theorem eqv_ss : D.eqv (.str s) (.str t) = (s == t) := (rfl)
@[simp] theorem eqv_bb : D.eqv (.bl a) (.bl b) = (a == b) := (rfl)
@[simp] theorem eqv_tt : D.eqv (.tup xs) (.tup ys) = D.eqvs xs ys := (rfl)
@[simp] theorem eqv_ll : D.eqv (.lst xs) (.lst ys) = D.eqvs xs ys := (rfl)
@[simp] theorem eqvs_nn : D.eqvs [] [] = true := (rfl)
@[simp] theorem eqvs_cn : D.eqvs (x :: xs) [] = false := (rfl)
@[simp] theorem eqvs_nc : D.eqvs [] (x :: xs) = false := (rfl)
@[simp] theorem eqvs_cc (y : D) : D.eqvs (x :: xs) (y :: ys) = (D.eqv x y && D.eqvs xs ys) := (rfl)
@[simp] theorem cmpb_non : D.cmpb .non = true := (rfl)
@[simp] theorem cmpb_int : D.cmpb (.int i) = true := (rfl)
@[simp] theorem cmpb_bl : D.cmpb (.bl b) = true := (rfl)
@[simp] theorem cmpb_str : D.cmpb (.str s) = true := (rfl)
@[simp] theorem cmpb_tup : D.cmpb (.tup xs) = D.cmpbs xs := (rfl)
@[simp] theorem cmpb_lst : D.cmpb (.lst xs) = D.cmpbs xs := (rfl)
@[simp] theorem cmpb_rol : D.cmpb (.rol xs) = false := (rfl)
@[simp] theorem cmpb_loc (n : Nat) : D.cmpb (.loc n) = false := (rfl)
@[simp] theorem cmpb_fn (n : Nat) : D.cmpb (.fn n) = false := (rfl)
@[simp] theorem cmpb_dic (ks vs : List D) : D.cmpb (.dic ks vs) = false := (rfl)
@[simp] theorem cmpbs_n : D.cmpbs [] = true := (rfl)
@[simp] theorem cmpbs_c : D.cmpbs (x :: xs) = (D.cmpb x && D.cmpbs xs) := (rfl)
@[simp] theorem dep_non : D.dep .non = 0 := (rfl)
@[simp] theorem dep_int : D.dep (.int i) = 0 := (rfl)
@[simp] theorem dep_bl : D.dep (.bl b) = 0 := (rfl)
@[simp] theorem dep_str : D.dep (.str s) = 0 := (rfl)
@[simp] theorem dep_tup : D.dep (.tup xs) = D.deps xs + 1 := (rfl)
@[simp] theorem dep_lst : D.dep (.lst xs) = D.deps xs + 1 := (rfl)
@[simp] theorem deps_n : D.deps [] = 0 := (rfl)
@[simp] theorem deps_c : D.deps (x :: xs) = max (D.dep x) (D.deps xs) := (rfl)
@[simp] theorem cop_eq (y : D) : cop .eq x y = if D.cmpb x && D.cmpb y && (decide (D.dep y ≤ 60) || decide (D.dep x ≤ 60)) then some (D.eqv x y) else none := (rfl)
@[simp] theorem cop_ne (y : D) : cop .ne x y = if D.cmpb x && D.cmpb y && (decide (D.dep y ≤ 60) || decide (D.dep x ≤ 60)) then some (!D.eqv x y) else none := (rfl)
@[simp] theorem flat_non : D.flat .non = true := (rfl)
@[simp] theorem flat_int : D.flat (.int i) = true := (rfl)
@[simp] theorem flat_bl : D.flat (.bl b) = true := (rfl)
@[simp] theorem flat_str : D.flat (.str s) = true := (rfl)
def flats : List D → Bool
  | [] => true
  | y :: ys => D.flat y && flats ys
theorem flats_all : ∀ ys : List D, flats ys = ys.all D.flat
  | [] => rfl
  | y :: ys => by
    show (D.flat y && flats ys) = (D.flat y && ys.all D.flat)
    rw [flats_all ys]
@[simp] theorem flats_n : flats [] = true := (rfl)
@[simp] theorem flats_c : flats (x :: xs) = (D.flat x && flats xs) := (rfl)
@[simp] theorem in_t {x : D} {ys : List D} (h1 : D.flat x = true) (h2 : flats ys = true) : cop .isin x (.tup ys) = some (inD x ys) := by
  show (if (D.flat x && ys.all D.flat) = true then _ else _) = _
  rw [h1, ← flats_all, h2] <;> rfl
@[simp] theorem in_l {x : D} {ys : List D} (h1 : D.flat x = true) (h2 : flats ys = true) : cop .isin x (.lst ys) = some (inD x ys) := by
  show (if (D.flat x && ys.all D.flat) = true then _ else _) = _
  rw [h1, ← flats_all, h2] <;> rfl
@[simp] theorem nin_t {x : D} {ys : List D} (h1 : D.flat x = true) (h2 : flats ys = true) : cop .notin x (.tup ys) = some (!inD x ys) := by
  show (if (D.flat x && ys.all D.flat) = true then _ else _) = _
  rw [h1, ← flats_all, h2] <;> rfl
@[simp] theorem nin_l {x : D} {ys : List D} (h1 : D.flat x = true) (h2 : flats ys = true) : cop .notin x (.lst ys) = some (!inD x ys) := by
  show (if (D.flat x && ys.all D.flat) = true then _ else _) = _
  rw [h1, ← flats_all, h2] <;> rfl
@[simp] theorem inD_n : inD x [] = false := (rfl)
@[simp] theorem inD_c (y : D) : inD x (y :: ys) = (D.eqv y x || inD x ys) := (rfl)
@[simp] theorem len_s : blt .len [.str s] = some (.int s.length) := (rfl)
@[simp] theorem len_t : blt .len [.tup xs] = some (.int xs.length) := (rfl)
@[simp] theorem len_l : blt .len [.lst xs] = some (.int xs.length) := (rfl)
@[simp] theorem len_r : blt .len [.rol xs] = some (.int xs.length) := (rfl)
@[simp] theorem abs_i : blt .abs [.int i] = some (.int (if i < 0 then -i else i)) := (rfl)
@[simp] theorem int_i : blt .int [.int i] = some (.int i) := (rfl)
@[simp] theorem int_b : blt .int [.bl b] = some (.int (b2i b)) := (rfl)
@[simp] theorem min_ii : blt .min2 [.int i, .int j] = some (.int (if j < i then j else i)) := (rfl)
@[simp] theorem max_ii : blt .max2 [.int i, .int j] = some (.int (if j > i then j else i)) := (rfl)
@[simp] theorem tuple_t : blt .tuple [.tup xs] = some (.tup xs) := (rfl)
@[simp] theorem tuple_l : blt .tuple [.lst xs] = some (.tup xs) := (rfl)
@[simp] theorem list_t : blt .list [.tup xs] = some (.lst xs) := (rfl)
@[simp] theorem list_l : blt .list [.lst xs] = some (.lst xs) := (rfl)
@[simp] theorem str_b : blt .str [.bl b] = some (.str (sBool b)) := (rfl)
@[simp] theorem min_iii (k : Int) : blt .min3 [.int i, .int j, .int k] = some (.int (if k < (if j < i then j else i) then k else (if j < i then j else i))) := (rfl)
@[simp] theorem sum_l : blt .sum [.lst xs] = (intsOf xs).map fun ns => .int ns.sum := (rfl)
@[simp] theorem rng_ii : rngO2 (.int i) (.int j) = if decide (-1000000 ≤ i) && decide (i ≤ 1000000) && decide (-1000000 ≤ j) && decide (j ≤ 1000000) then some (rngD2 i j) else none := (rfl)
@[simp] theorem all_l : blt .all [.lst xs] = (boolsOf xs).map fun bs => .bl (bs.all id) := (rfl)
@[simp] theorem b2i_t : b2i true = 1 := (rfl)
@[simp] theorem b2i_f : b2i false = 0 := (rfl)
@[simp] theorem rvd_v : RV.d (.val x) = some x := (rfl)
@[simp] theorem rvd_o : RV.d (.own xs) = some (.lst xs) := (rfl)
@[simp] theorem rvd_d (kvs : List (D × D)) : RV.d (.dic kvs) = some (.dic (kvs.map (·.1)) (kvs.map (·.2))) := (rfl)
@[simp] theorem fin_x (c : Nat) (d : D) : fin (.ex c d) = .exc c d := (rfl)
@[simp] theorem items_d (ks vs : List D) : itemsD (.dic ks vs) = some ks := (rfl)
@[simp] theorem list_d (ks vs : List D) : blt .list [.dic ks vs] = some (.lst ks) := (rfl)
@[simp] theorem maxL_l : blt .maxL [.lst xs] = (match intsOf xs with | some (n :: ns) => some (.int (maxI n ns)) | _ => none) := (rfl)
@[simp] theorem minL_l : blt .minL [.lst xs] = (match intsOf xs with | some (n :: ns) => some (.int (minI n ns)) | _ => none) := (rfl)
@[simp] theorem minL_t : blt .minL [.tup xs] = (match intsOf xs with | some (n :: ns) => some (.int (minI n ns)) | _ => none) := (rfl)
@[simp] theorem kyb_non : D.kyb .non = true := (rfl)
@[simp] theorem kyb_int : D.kyb (.int i) = true := (rfl)
@[simp] theorem kyb_bl : D.kyb (.bl b) = true := (rfl)
@[simp] theorem kyb_tup : D.kyb (.tup xs) = D.kybs xs := (rfl)
@[simp] theorem kybs_n : D.kybs [] = true := (rfl)
@[simp] theorem kybs_c : D.kybs (x :: xs) = (D.kyb x && D.kybs xs) := (rfl)
@[simp] theorem key_tup : D.key (.tup xs) = (D.kybs xs && decide (D.deps xs ≤ 7)) := (rfl)
theorem in_d {x : D} {ks vs : List D} (h : x.key = true) : cop .isin x (.dic ks vs) = some (dAt2 ks vs x).isSome := if_pos h
theorem nin_d {x : D} {ks vs : List D} (h : x.key = true) : cop .notin x (.dic ks vs) = some (!(dAt2 ks vs x).isSome) := if_pos h
theorem ix_d {x : D} {ks vs : List D} (S : Sto) (h : x.key = true) : idxM (.dic ks vs) x S = M.opt (dAt2 ks vs x) S := by
  show (if x.key = true then M.opt (dAt2 ks vs x) S else .stk) = _
  exact if_pos h
@[simp] theorem fin_r (r : RV) : fin (.rt r) = r := (rfl)
@[simp] theorem fin_n (ρ : Env) : fin (.nx ρ) = .val .non := (rfl)
@[simp] theorem neg_i : negD (.int i) = some (.int (-i)) := (rfl)
@[simp] theorem toI_i : toI (.int i) = some i := (rfl)
@[simp] theorem rev_l : revD (.lst xs) = some (.lst xs.reverse) := (rfl)
@[simp] theorem items_t : itemsD (.tup xs) = some xs := (rfl)
@[simp] theorem items_l : itemsD (.lst xs) = some xs := (rfl)
@[simp] theorem rng_i : rngO (.int j) = if decide (-1000000 ≤ j) && decide (j ≤ 1000000) then some (rngD j) else none := (rfl)
@[simp] theorem sl_t (lo hi : Option Int) : slD (.tup xs) lo hi = some (.tup (cut xs lo hi)) := (rfl)
@[simp] theorem sl_l (lo hi : Option Int) : slD (.lst xs) lo hi = some (.lst (cut xs lo hi)) := (rfl)
theorem idx_t (S : Sto) : idxM (.tup xs) (.int j) S = M.opt (L2.atI xs j) S := (rfl)
theorem idx_l (S : Sto) : idxM (.lst xs) (.int j) S = M.opt (L2.atI xs j) S := (rfl)
theorem idx_r (S : Sto) : idxM (.rol xs) (.int j) S = M.opt (L2.atI xs j) S := (rfl)
@[simp] theorem isN_non : D.isNon .non = true := (rfl)
@[simp] theorem isN_int : D.isNon (.int i) = false := (rfl)
@[simp] theorem isN_bl : D.isNon (.bl b) = false := (rfl)
@[simp] theorem isN_str : D.isNon (.str s) = false := (rfl)
@[simp] theorem isN_tup : D.isNon (.tup xs) = false := (rfl)
@[simp] theorem isN_lst : D.isNon (.lst xs) = false := (rfl)
@[simp] theorem isi_non : D.isiOk .non = true := (rfl)
@[simp] theorem isi_int : D.isiOk (.int i) = true := (rfl)
@[simp] theorem isi_bl : D.isiOk (.bl b) = true := (rfl)
@[simp] theorem isi_str : D.isiOk (.str s) = true := (rfl)
@[simp] theorem isi_tup : D.isiOk (.tup xs) = true := (rfl)
@[simp] theorem isi_lst : D.isiOk (.lst xs) = true := (rfl)
@[simp] theorem has_ii : Ty.has .int (.int i) = true := (rfl)
@[simp] theorem has_ib : Ty.has .int (.bl b) = true := (rfl)
@[simp] theorem has_is : Ty.has .int (.str s) = false := (rfl)
@[simp] theorem has_it : Ty.has .int (.tup xs) = false := (rfl)
@[simp] theorem has_il : Ty.has .int (.lst xs) = false := (rfl)
@[simp] theorem has_in : Ty.has .int .non = false := (rfl)
@[simp] theorem has_bi : Ty.has .bool (.int i) = false := (rfl)
@[simp] theorem has_bb : Ty.has .bool (.bl b) = true := (rfl)
@[simp] theorem has_bs : Ty.has .bool (.str s) = false := (rfl)
@[simp] theorem has_bt : Ty.has .bool (.tup xs) = false := (rfl)
@[simp] theorem has_bll : Ty.has .bool (.lst xs) = false := (rfl)
@[simp] theorem has_bn : Ty.has .bool .non = false := (rfl)
@[simp] theorem has_si : Ty.has .str (.int i) = false := (rfl)
@[simp] theorem has_sb : Ty.has .str (.bl b) = false := (rfl)
@[simp] theorem has_ss : Ty.has .str (.str s) = true := (rfl)
@[simp] theorem has_st : Ty.has .str (.tup xs) = false := (rfl)
@[simp] theorem has_sl : Ty.has .str (.lst xs) = false := (rfl)
@[simp] theorem has_sn : Ty.has .str .non = false := (rfl)
@[simp] theorem has_ti : Ty.has .tup (.int i) = false := (rfl)
@[simp] theorem has_tb : Ty.has .tup (.bl b) = false := (rfl)
@[simp] theorem has_ts : Ty.has .tup (.str s) = false := (rfl)
@[simp] theorem has_tt : Ty.has .tup (.tup xs) = true := (rfl)
@[simp] theorem has_tl : Ty.has .tup (.lst xs) = false := (rfl)
@[simp] theorem has_tn : Ty.has .tup .non = false := (rfl)
@[simp] theorem has_li : Ty.has .lst (.int i) = false := (rfl)
@[simp] theorem has_lb : Ty.has .lst (.bl b) = false := (rfl)
@[simp] theorem has_ls : Ty.has .lst (.str s) = false := (rfl)
@[simp] theorem has_lt : Ty.has .lst (.tup xs) = false := (rfl)
@[simp] theorem has_ll : Ty.has .lst (.lst xs) = true := (rfl)
@[simp] theorem has_ln : Ty.has .lst .non = false := (rfl)
end
theorem divOk_lt {j : Int} (h1 : 0 < j) (h2 : j ≤ 1000000000000000000000000000000000000) : divOk j = true := by
  have h3 : j.natAbs < 2 ^ 4000 := Nat.lt_of_le_of_lt (show j.natAbs ≤ 1000000000000000000000000000000000000 by omega) (by decide +kernel)
  unfold divOk
  rw [decide_eq_true h1, decide_eq_true h3] <;> rfl
@[simp] theorem sm64_lt {j : Int} (h1 : -1000000000000000000 ≤ j) (h2 : j ≤ 1000000000000000000) : sm64 j = true := by
  unfold sm64
  rw [decide_eq_true (by omega)]
/-- a product with a small factor -/
@[simp] theorem mul_r {i j : Int} (h1 : -1000000000000000000 ≤ j) (h2 : j ≤ 1000000000000000000) : bop .mul (.int i) (.int j) = some (.int (i * j)) := by
  rw [mul_ii]
  unfold mulOk
  rw [sm64_lt h1 h2] <;> rfl
@[simp] theorem mul_l {i j : Int} (h1 : -1000000000000000000 ≤ i) (h2 : i ≤ 1000000000000000000) : bop .mul (.int i) (.int j) = some (.int (i * j)) := by
  rw [mul_ii]
  unfold mulOk
  rw [sm64_lt h1 h2, Bool.true_or, Bool.or_true] <;> rfl
@[simp] theorem fdiv_lt {i j : Int} (h1 : 0 < j) (h2 : j ≤ 1000000000000000000000000000000000000) : bop .fdiv (.int i) (.int j) = some (.int (i / j)) := by
  rw [fdiv_ii, divOk_lt h1 h2] <;> rfl
theorem atI_nn {α : Type} {xs : List α} {i : Int} (h : 0 ≤ i) (h2 : i < xs.length) : L2.atI xs i = xs[i.toNat]? := by
  unfold L2.atI L2.ixN
  rw [if_pos h, if_pos h2] <;> rfl
@[simp] theorem ix_t {xs : List D} {j : Int} (S : Sto) (h : 0 ≤ j) (h2 : j < xs.length) : idxM (.tup xs) (.int j) S = M.opt (xs[j.toNat]?) S := by rw [idx_t, atI_nn h h2]
@[simp] theorem ix_l {xs : List D} {j : Int} (S : Sto) (h : 0 ≤ j) (h2 : j < xs.length) : idxM (.lst xs) (.int j) S = M.opt (xs[j.toNat]?) S := by rw [idx_l, atI_nn h h2]
@[simp] theorem ix_r {xs : List D} {j : Int} (S : Sto) (h : 0 ≤ j) (h2 : j < xs.length) : idxM (.rol xs) (.int j) S = M.opt (xs[j.toNat]?) S := by rw [idx_r, atI_nn h h2]
@[simp] theorem ix_t0 (x0 : D) (r : List D) (S : Sto) : idxM (.tup (x0 :: r)) (.int 0) S = .ok x0 S := by
  rw [idx_t, atI_nn (by decide) (by simp only [List.length_cons]; omega)]
  rfl
@[simp] theorem ix_t1 (x0 x1 : D) (r : List D) (S : Sto) : idxM (.tup (x0 :: x1 :: r)) (.int 1) S = .ok x1 S := by
  rw [idx_t, atI_nn (by decide) (by simp only [List.length_cons]; omega)]
  rfl
@[simp] theorem ix_t2 (x0 x1 x2 : D) (r : List D) (S : Sto) : idxM (.tup (x0 :: x1 :: x2 :: r)) (.int 2) S = .ok x2 S := by
  rw [idx_t, atI_nn (by decide) (by simp only [List.length_cons]; omega)]
  rfl
@[simp] theorem ix_t3 (x0 x1 x2 x3 : D) (r : List D) (S : Sto) : idxM (.tup (x0 :: x1 :: x2 :: x3 :: r)) (.int 3) S = .ok x3 S := by
  rw [idx_t, atI_nn (by decide) (by simp only [List.length_cons]; omega)]
  rfl
@[simp] theorem ix_t4 (x0 x1 x2 x3 x4 : D) (r : List D) (S : Sto) : idxM (.tup (x0 :: x1 :: x2 :: x3 :: x4 :: r)) (.int 4) S = .ok x4 S := by
  rw [idx_t, atI_nn (by decide) (by simp only [List.length_cons]; omega)]
  rfl
@[simp] theorem ix_t5 (x0 x1 x2 x3 x4 x5 : D) (r : List D) (S : Sto) : idxM (.tup (x0 :: x1 :: x2 :: x3 :: x4 :: x5 :: r)) (.int 5) S = .ok x5 S := by
  rw [idx_t, atI_nn (by decide) (by simp only [List.length_cons]; omega)]
  rfl
@[simp] theorem ix_t6 (x0 x1 x2 x3 x4 x5 x6 : D) (r : List D) (S : Sto) : idxM (.tup (x0 :: x1 :: x2 :: x3 :: x4 :: x5 :: x6 :: r)) (.int 6) S = .ok x6 S := by
  rw [idx_t, atI_nn (by decide) (by simp only [List.length_cons]; omega)]
  rfl
@[simp] theorem ix_t7 (x0 x1 x2 x3 x4 x5 x6 x7 : D) (r : List D) (S : Sto) : idxM (.tup (x0 :: x1 :: x2 :: x3 :: x4 :: x5 :: x6 :: x7 :: r)) (.int 7) S = .ok x7 S := by
  rw [idx_t, atI_nn (by decide) (by simp only [List.length_cons]; omega)]
  rfl
@[simp] theorem ix_l0 (x0 : D) (r : List D) (S : Sto) : idxM (.lst (x0 :: r)) (.int 0) S = .ok x0 S := by
  rw [idx_l, atI_nn (by decide) (by simp only [List.length_cons]; omega)]
  rfl
@[simp] theorem ix_l1 (x0 x1 : D) (r : List D) (S : Sto) : idxM (.lst (x0 :: x1 :: r)) (.int 1) S = .ok x1 S := by
  rw [idx_l, atI_nn (by decide) (by simp only [List.length_cons]; omega)]
  rfl
@[simp] theorem ix_l2 (x0 x1 x2 : D) (r : List D) (S : Sto) : idxM (.lst (x0 :: x1 :: x2 :: r)) (.int 2) S = .ok x2 S := by
  rw [idx_l, atI_nn (by decide) (by simp only [List.length_cons]; omega)]
  rfl
@[simp] theorem ix_l3 (x0 x1 x2 x3 : D) (r : List D) (S : Sto) : idxM (.lst (x0 :: x1 :: x2 :: x3 :: r)) (.int 3) S = .ok x3 S := by
  rw [idx_l, atI_nn (by decide) (by simp only [List.length_cons]; omega)]
  rfl
@[simp] theorem ix_l4 (x0 x1 x2 x3 x4 : D) (r : List D) (S : Sto) : idxM (.lst (x0 :: x1 :: x2 :: x3 :: x4 :: r)) (.int 4) S = .ok x4 S := by
  rw [idx_l, atI_nn (by decide) (by simp only [List.length_cons]; omega)]
  rfl
@[simp] theorem ix_l5 (x0 x1 x2 x3 x4 x5 : D) (r : List D) (S : Sto) : idxM (.lst (x0 :: x1 :: x2 :: x3 :: x4 :: x5 :: r)) (.int 5) S = .ok x5 S := by
  rw [idx_l, atI_nn (by decide) (by simp only [List.length_cons]; omega)]
  rfl
@[simp] theorem ix_l6 (x0 x1 x2 x3 x4 x5 x6 : D) (r : List D) (S : Sto) : idxM (.lst (x0 :: x1 :: x2 :: x3 :: x4 :: x5 :: x6 :: r)) (.int 6) S = .ok x6 S := by
  rw [idx_l, atI_nn (by decide) (by simp only [List.length_cons]; omega)]
  rfl
@[simp] theorem ix_l7 (x0 x1 x2 x3 x4 x5 x6 x7 : D) (r : List D) (S : Sto) : idxM (.lst (x0 :: x1 :: x2 :: x3 :: x4 :: x5 :: x6 :: x7 :: r)) (.int 7) S = .ok x7 S := by
  rw [idx_l, atI_nn (by decide) (by simp only [List.length_cons]; omega)]
  rfl
theorem ix_c {S : Sto} {n : Nat} {xs : List D} {j : Int} (hS : S[n]? = some (.cell xs)) (h : 0 ≤ j) (h2 : j < xs.length) : idxM (.loc n) (.int j) S = M.opt (xs[j.toNat]?) S := by
  show (match S[n]? with
    | some (.cell xs) => M.opt (L2.atI xs j) S
    | _ => .stk) = _
  rw [hS]
  show M.opt (L2.atI xs j) S = _
  rw [atI_nn h h2]
/-! ### the terms, step by step -/
@[simp ↓] theorem e_non (X : Cfg)  (ρ : Env) (S : Sto) : ev X (.non) ρ S = .ok (.non) S := (rfl)
@[simp ↓] theorem e_bl (X : Cfg) (b : Bool) (ρ : Env) (S : Sto) : ev X (.bl b) ρ S = .ok (.bl b) S := (rfl)
@[simp ↓] theorem e_int (X : Cfg) (i : Int) (ρ : Env) (S : Sto) : ev X (.int i) ρ S = .ok (.int i) S := (rfl)
@[simp ↓] theorem e_str (X : Cfg) (cs : List Nat) (ρ : Env) (S : Sto) : ev X (.str cs) ρ S = .ok (.str cs) S := (rfl)
@[simp ↓] theorem e_fnv (X : Cfg) (f : Nat) (ρ : Env) (S : Sto) : ev X (.fnv f) ρ S = .ok (.fn f) S := (rfl)
@[simp ↓] theorem e_var (X : Cfg) (i : Nat) (ρ : Env) (S : Sto) : ev X (.var i) ρ S = (M.opt (getV ρ i)) S := (rfl)
@[simp ↓] theorem e_glo (X : Cfg) (k : Nat) (ρ : Env) (S : Sto) : ev X (.glo k) ρ S = (M.opt (X.G[k]?)) S := (rfl)
@[simp ↓] theorem e_bin (X : Cfg) (op : BOp) (a b : E) (ρ : Env) (S : Sto) : ev X (.bin op a b) ρ S = (M.bind (pkOf (ev X a ρ) a ρ) (fun x => M.bind (pkOf (ev X b ρ) b ρ) (fun y => M.opt (bop op x y)))) S := (rfl)
@[simp ↓] theorem e_neg (X : Cfg) (a : E) (ρ : Env) (S : Sto) : ev X (.neg a) ρ S = (M.bind (ev X a ρ) (fun x => M.opt (negD x))) S := (rfl)
@[simp ↓] theorem e_cmp (X : Cfg) (op : COp) (a b : E) (ρ : Env) (S : Sto) : ev X (.cmp op a b) ρ S = (M.bind (pkOf (ev X a ρ) a ρ) (fun x => M.bind (pkOf (ev X b ρ) b ρ) (fun y => M.opt ((cop op x y).map .bl)))) S := (rfl)
@[simp ↓] theorem e_isN (X : Cfg) (a : E) (ρ : Env) (S : Sto) : ev X (.isN a) ρ S = (M.bind (ev X a ρ) (fun x => M.pure (.bl x.isNon))) S := (rfl)
@[simp ↓] theorem e_ntN (X : Cfg) (a : E) (ρ : Env) (S : Sto) : ev X (.ntN a) ρ S = (M.bind (ev X a ρ) (fun x => M.pure (.bl (!x.isNon)))) S := (rfl)
@[simp ↓] theorem e_chn (X : Cfg) (o1 o2 : COp) (a b c : E) (ρ : Env) (S : Sto) : ev X (.chn o1 o2 a b c) ρ S = (M.bind (ev X a ρ) (fun x => M.bind (ev X b ρ) (fun y => M.bind (M.opt (cop o1 x y)) (fun k => match k with | true => M.bind (ev X c ρ) (fun z => M.opt ((cop o2 y z).map .bl)) | false => M.pure (.bl false))))) S := (rfl)
@[simp ↓] theorem e_and (X : Cfg) (a b : E) (ρ : Env) (S : Sto) : ev X (.and a b) ρ S = (M.bind (ev X a ρ) (fun x => M.bind (M.opt x.tru) (fun k => match k with | true => ev X b ρ | false => M.pure x))) S := (rfl)
@[simp ↓] theorem e_or (X : Cfg) (a b : E) (ρ : Env) (S : Sto) : ev X (.or a b) ρ S = (M.bind (ev X a ρ) (fun x => M.bind (M.opt x.tru) (fun k => match k with | true => M.pure x | false => ev X b ρ))) S := (rfl)
@[simp ↓] theorem e_not (X : Cfg) (a : E) (ρ : Env) (S : Sto) : ev X (.not a) ρ S = (M.bind (ev X a ρ) (fun x => M.bind (M.opt x.tru) (fun k => M.pure (.bl (!k))))) S := (rfl)
@[simp ↓] theorem e_ife (X : Cfg) (c : B) (a b : E) (ρ : Env) (S : Sto) : ev X (.ife c a b) ρ S = (M.bind (tst X c ρ) (fun k => match k with | true => ev X a ρ | false => ev X b ρ)) S := (rfl)
@[simp ↓] theorem e_tup (X : Cfg) (es : Es) (ρ : Env) (S : Sto) : ev X (.tup es) ρ S = (M.bind (evs X es ρ) (fun xs => M.guard (decide (xs.length ≤ 100)) (M.pure (.tup xs)))) S := (rfl)
@[simp ↓] theorem e_lst (X : Cfg) (es : Es) (ρ : Env) (S : Sto) : ev X (.lst es) ρ S = (M.bind (evs X es ρ) (fun xs => M.guard (decide (xs.length ≤ 100)) (M.pure (.lst xs)))) S := (rfl)
@[simp ↓] theorem e_cell (X : Cfg) (es : Es) (ρ : Env) (S : Sto) : ev X (.cell es) ρ S = (M.bind (evs X es ρ) (fun xs => M.guard (decide (xs.length ≤ 100)) (fun S => .ok (.loc S.length) (S ++ [.cell xs])))) S := (rfl)
@[simp ↓] theorem e_call (X : Cfg) (f : Nat) (es : Es) (ρ : Env) (S : Sto) : ev X (.call f es) ρ S = (M.bind (evs X es ρ) (fun xs => M.bind (X.C f xs) (fun r => M.opt r.d))) S := (rfl)
@[simp ↓] theorem e_blt (X : Cfg) (f : Bl) (es : Es) (ρ : Env) (S : Sto) : ev X (.blt f es) ρ S = (M.bind (pks X es ρ) (fun xs => M.opt (blt f xs))) S := (rfl)
@[simp ↓] theorem e_isi (X : Cfg) (a : E) (ts : List Ty) (ρ : Env) (S : Sto) : ev X (.isi a ts) ρ S = (M.bind (ev X a ρ) (fun x => M.guard x.isiOk (M.pure (.bl (ts.any fun t => t.has x))))) S := (rfl)
@[simp ↓] theorem e_idx (X : Cfg) (a i : E) (ρ : Env) (S : Sto) : ev X (.idx a i) ρ S = (M.bind (pkOf (ev X a ρ) a ρ) (fun x => M.bind (ev X i ρ) (fun j => idxM x j))) S := (rfl)
@[simp ↓] theorem e_slN (X : Cfg) (a : E) (ρ : Env) (S : Sto) : ev X (.slN a) ρ S = (M.bind (pkOf (ev X a ρ) a ρ) (fun x => M.opt (slD x none none))) S := (rfl)
@[simp ↓] theorem e_slL (X : Cfg) (a lo : E) (ρ : Env) (S : Sto) : ev X (.slL a lo) ρ S = (M.bind (pkOf (ev X a ρ) a ρ) (fun x => M.bind (ev X lo ρ) (fun l => M.bind (M.opt (toI l)) (fun l => M.opt (slD x (some l) none))))) S := (rfl)
@[simp ↓] theorem e_slU (X : Cfg) (a hi : E) (ρ : Env) (S : Sto) : ev X (.slU a hi) ρ S = (M.bind (pkOf (ev X a ρ) a ρ) (fun x => M.bind (ev X hi ρ) (fun u => M.bind (M.opt (toI u)) (fun u => M.opt (slD x none (some u)))))) S := (rfl)
@[simp ↓] theorem e_slB (X : Cfg) (a lo hi : E) (ρ : Env) (S : Sto) : ev X (.slB a lo hi) ρ S = (M.bind (pkOf (ev X a ρ) a ρ) (fun x => M.bind (ev X lo ρ) (fun l => M.bind (M.opt (toI l)) (fun l => M.bind (ev X hi ρ) (fun u => M.bind (M.opt (toI u)) (fun u => M.opt (slD x (some l) (some u)))))))) S := (rfl)
@[simp ↓] theorem e_rev (X : Cfg) (a : E) (ρ : Env) (S : Sto) : ev X (.rev a) ρ S = (M.bind (pkOf (ev X a ρ) a ρ) (fun x => M.opt (revD x))) S := (rfl)
@[simp ↓] theorem e_sst (X : Cfg) (a : E) (ρ : Env) (S : Sto) : ev X (.sst a) ρ S = (M.bind (M.bind (pkOf (ev X a ρ) a ρ) fun x => M.pure [x]) (fun xs => M.opt (sstD xs))) S := (rfl)
@[simp ↓] theorem e_upper (X : Cfg) (a : E) (ρ : Env) (S : Sto) : ev X (.upper a) ρ S = (M.bind (ev X a ρ) (fun x => M.opt (upD x))) S := (rfl)
@[simp ↓] theorem es_n (X : Cfg)  (ρ : Env) (S : Sto) : evs X .nil ρ S = (M.pure []) S := (rfl)
@[simp ↓] theorem es_c (X : Cfg) (e : E) (es : Es) (ρ : Env) (S : Sto) : evs X (.cons e es) ρ S = (M.bind (ev X e ρ) (fun x => M.bind (evs X es ρ) (fun xs => M.pure (x :: xs)))) S := (rfl)
@[simp ↓] theorem ps_n (X : Cfg)  (ρ : Env) (S : Sto) : pks X .nil ρ S = (M.pure []) S := (rfl)
@[simp ↓] theorem ps_c (X : Cfg) (e : E) (es : Es) (ρ : Env) (S : Sto) : pks X (.cons e es) ρ S = (M.bind (pkOf (ev X e ρ) e ρ) (fun x => M.bind (pks X es ρ) (fun xs => M.pure (x :: xs)))) S := (rfl)
@[simp ↓] theorem t_andB (X : Cfg) (a b : B) (ρ : Env) (S : Sto) : tst X (.and a b) ρ S = (M.bind (tst X a ρ) (fun k => match k with | true => tst X b ρ | false => M.pure false)) S := (rfl)
@[simp ↓] theorem t_orB (X : Cfg) (a b : B) (ρ : Env) (S : Sto) : tst X (.or a b) ρ S = (M.bind (tst X a ρ) (fun k => match k with | true => M.pure true | false => tst X b ρ)) S := (rfl)
@[simp ↓] theorem t_notB (X : Cfg) (a : B) (ρ : Env) (S : Sto) : tst X (.not a) ρ S = (M.bind (tst X a ρ) (fun k => M.pure (!k))) S := (rfl)
@[simp ↓] theorem t_e (X : Cfg) (e : E) (ρ : Env) (S : Sto) : tst X (.e e) ρ S = (M.bind (pkOf (ev X e ρ) e ρ) (fun x => M.opt x.tru)) S := (rfl)
@[simp ↓] theorem t_cmp (X : Cfg) (op : COp) (a b : E) (ρ : Env) (S : Sto) : tst X (.cmp op a b) ρ S = (M.bind (pkOf (ev X a ρ) a ρ) (fun x => M.bind (pkOf (ev X b ρ) b ρ) (fun y => M.opt (cop op x y)))) S := (rfl)
@[simp ↓] theorem t_chn (X : Cfg) (o1 o2 : COp) (a b c : E) (ρ : Env) (S : Sto) : tst X (.chn o1 o2 a b c) ρ S = (M.bind (ev X a ρ) (fun x => M.bind (ev X b ρ) (fun y => M.bind (M.opt (cop o1 x y)) (fun k => match k with | true => M.bind (ev X c ρ) (fun z => M.opt (cop o2 y z)) | false => M.pure false)))) S := (rfl)
@[simp ↓] theorem t_isN (X : Cfg) (a : E) (ρ : Env) (S : Sto) : tst X (.isN a) ρ S = (M.bind (ev X a ρ) (fun x => M.pure x.isNon)) S := (rfl)
@[simp ↓] theorem t_ntN (X : Cfg) (a : E) (ρ : Env) (S : Sto) : tst X (.ntN a) ρ S = (M.bind (ev X a ρ) (fun x => M.pure (!x.isNon))) S := (rfl)
@[simp ↓] theorem i_seqE (X : Cfg) (e : E) (ρ : Env) (S : Sto) : its X (.seq e) ρ S = (M.bind (pkL (ev X e ρ) e ρ) (fun x => M.opt (itemsD x))) S := (rfl)
@[simp ↓] theorem i_rngE (X : Cfg) (e : E) (ρ : Env) (S : Sto) : its X (.rng e) ρ S = (M.bind (ev X e ρ) (fun x => M.opt (rngO x))) S := (rfl)
@[simp ↓] theorem i_rngE2 (X : Cfg) (a b : E) (ρ : Env) (S : Sto) : its X (.rng2 a b) ρ S = (M.bind (ev X a ρ) (fun x => M.bind (ev X b ρ) (fun y => M.opt (rngO2 x y)))) S := (rfl)
@[simp ↓] theorem x_asg (X : Cfg) (i : Nat) (e : E) (ρ : Env) (S : Sto) : ex X (.asg i e) ρ S = (M.bind (ev X e ρ) (fun x => M.pure (.nx (ρ.set i (some (.val x)))))) S := (rfl)
@[simp ↓] theorem x_asgO (X : Cfg) (i : Nat) (e : E) (ρ : Env) (S : Sto) : ex X (.asgO i e) ρ S = (M.bind (evF X e ρ) (fun x => M.pure (.nx (ρ.set i (some (.own x)))))) S := (rfl)
@[simp ↓] theorem x_par2 (X : Cfg) (i j : Nat) (a b : E) (ρ : Env) (S : Sto) : ex X (.par2 i j a b) ρ S = (M.bind (ev X a ρ) (fun x => M.bind (ev X b ρ) (fun y => M.pure (.nx ((ρ.set i (some (.val x))).set j (some (.val y))))))) S := (rfl)
@[simp ↓] theorem x_par3f (X : Cfg) (i j k : Nat) (a b c : E) (ρ : Env) (S : Sto) : ex X (.par3 i j k false a b c) ρ S = (M.bind (ev X a ρ) (fun x => M.bind (ev X b ρ) (fun y => M.bind (ev X c ρ) (fun z => M.pure (.nx (((ρ.set i (some (.val x))).set j (some (.val y))).set k (some (.val z)))))))) S := (rfl)
@[simp ↓] theorem x_par3t (X : Cfg) (i j k : Nat) (a b c : E) (ρ : Env) (S : Sto) : ex X (.par3 i j k true a b c) ρ S = (M.bind (evF X a ρ) (fun x => M.bind (ev X b ρ) (fun y => M.bind (ev X c ρ) (fun z => M.pure (.nx (((ρ.set i (some (.own x))).set j (some (.val y))).set k (some (.val z)))))))) S := (rfl)
@[simp ↓] theorem x_unp (X : Cfg) (t : Tg) (e : E) (ρ : Env) (S : Sto) : ex X (.unp t e) ρ S = (M.bind (ev X e ρ) (fun x => M.bind (M.opt (bindT t x ρ)) (fun ρ' => M.pure (.nx ρ')))) S := (rfl)
@[simp ↓] theorem x_setI (X : Cfg) (i : Nat) (k v : E) (ρ : Env) (S : Sto) : ex X (.setI i k v) ρ S = (M.bind (ev X v ρ) (fun x => M.bind (ev X k ρ) (fun j => setM ρ i j x))) S := (rfl)
@[simp ↓] theorem x_app (X : Cfg) (i : Nat) (e : E) (ρ : Env) (S : Sto) : ex X (.app i e) ρ S = (M.bind (ev X e ρ) (fun x => appM ρ i x)) S := (rfl)
@[simp ↓] theorem x_ret (X : Cfg) (e : E) (ρ : Env) (S : Sto) : ex X (.ret e) ρ S = (M.bind (ev X e (fixAll ρ)) (fun x => M.pure (.rt (.val x)))) S := (rfl)
@[simp ↓] theorem x_ifs (X : Cfg) (c : B) (a b : Ts) (ρ : Env) (S : Sto) : ex X (.ifs c a b) ρ S = (M.bind (tst X c ρ) (fun k => match k with | true => exs X a ρ | false => exs X b ρ)) S := (rfl)
@[simp ↓] theorem x_fors (X : Cfg) (t : Tg) (s : I) (b : Ts) (ρ : Env) (S : Sto) : ex X (.fors t s b) ρ S = (M.bind (its X s ρ) (fun xs => forL (fun d ρ' => M.bind (M.opt (bindT t d ρ')) fun ρ'' => exs X b ρ'') xs (fixI s ρ))) S := (rfl)
@[simp ↓] theorem x_whl (X : Cfg) (c : B) (b : Ts) (ρ : Env) (S : Sto) : ex X (.whl c b) ρ S = whlL (fun ρ' => tst X c ρ') (fun ρ' => exs X b ρ') X.W ρ S := (rfl)
@[simp ↓] theorem x_exp (X : Cfg) (e : E) (ρ : Env) (S : Sto) : ex X (.exp e) ρ S = (M.bind (ev X e ρ) (fun x => M.pure (.nx ρ))) S := (rfl)
@[simp ↓] theorem xs_n (X : Cfg)  (ρ : Env) (S : Sto) : exs X .nil ρ S = (M.pure (.nx ρ)) S := (rfl)
@[simp ↓] theorem xs_c (X : Cfg) (t : T) (ts : Ts) (ρ : Env) (S : Sto) : exs X (.cons t ts) ρ S = (M.bind (ex X t ρ) (fun f => match f with | .nx ρ' => exs X ts ρ' | .rt r => M.pure (.rt r) | .ex c d => M.pure (.ex c d))) S := (rfl)
@[simp ↓] theorem x_asgD (X : Cfg) (i : Nat) (ρ : Env) (S : Sto) : ex X (.asgD i) ρ S = M.pure (.nx (ρ.set i (some (.dic [])))) S := (rfl)
@[simp ↓] theorem x_asgC (X : Cfg) (i f : Nat) (es : Es) (ρ : Env) (S : Sto) : ex X (.asgC i f es) ρ S = (M.bind (evs X es ρ) (fun xs => M.bind (X.C f xs) (fun r => M.pure (match r with
    | .exc c d => .ex c d
    | .val d => .nx (ρ.set i (some (.val d)))
    | .own xs => .nx (ρ.set i (some (.own xs)))
    | .dic kvs => .nx (ρ.set i (some (.dic kvs))))))) S := (rfl)
@[simp ↓] theorem x_exX (X : Cfg) (f : Nat) (es : Es) (ρ : Env) (S : Sto) : ex X (.exX f es) ρ S = (M.bind (evs X es ρ) (fun xs => M.bind (X.C f xs) (fun r => M.pure (match r with
    | .exc c d => .ex c d
    | _ => .nx ρ)))) S := (rfl)
@[simp ↓] theorem x_retX (X : Cfg) (f : Nat) (es : Es) (ρ : Env) (S : Sto) : ex X (.retX f es) ρ S = (M.bind (evs X es (fixAll ρ)) (fun xs => M.bind (X.C f xs) (fun r => M.pure (match r with
    | .exc c d => .ex c d
    | r => .rt r)))) S := (rfl)
@[simp ↓] theorem x_unpX (X : Cfg) (t : Tg) (f : Nat) (es : Es) (ρ : Env) (S : Sto) : ex X (.unpX t f es) ρ S = (M.bind (evs X es ρ) (fun xs => M.bind (X.C f xs) (fun r => match r with
    | .exc c d => M.pure (.ex c d)
    | .val d => M.bind (M.opt (bindT t d ρ)) fun ρ' => M.pure (.nx ρ')
    | _ => M.stk))) S := (rfl)
@[simp ↓] theorem x_rse (X : Cfg) (c : Nat) (ρ : Env) (S : Sto) : ex X (.rse c) ρ S = .ok (.ex c .non) S := (rfl)
theorem xs_frz {X : Cfg} {i : Nat} {ts : Ts} {ρ : Env} {S : Sto} {kvs : List (D × D)} (h : ρ[i]? = some (some (.dic kvs))) : exs X (.frz i ts) ρ S = exs X ts (ρ.set i (some (.val (.dic (kvs.map (·.1)) (kvs.map (·.2)))))) S := by
  have e : exs X (.frz i ts) ρ = (match ρ[i]? with
    | some (some (SV.dic kvs)) => exs X ts (ρ.set i (some (SV.val (D.dic (kvs.map fun p : D × D => p.1) (kvs.map fun p : D × D => p.2)))))
    | _ => M.stk) := rfl
  rw [e, h]
theorem set_dic {ρ : Env} {i : Nat} {k x : D} {S : Sto} {kvs : List (D × D)} (h : ρ[i]? = some (some (.dic kvs))) (hk : k.key = true) (hl : kvs.length < LIM) : setM ρ i k x S = .ok (.nx (ρ.set i (some (.dic (dPut k x kvs))))) S := by
  unfold setM
  rw [h]
  dsimp only
  rw [hk, decide_eq_true hl] <;> rfl
theorem x_reto {X : Cfg} {i : Nat} {ρ : Env} {S : Sto} {xs : List D} (h : ρ[i]? = some (some (.own xs))) : ex X (.reto i) ρ S = .ok (.rt (.own xs)) S := by
  show M.opt (match ρ[i]? with
    | some (some (.own xs)) => some (Fl.rt (.own xs))
    | some (some (.dic kvs)) => some (.rt (.dic kvs))
    | _ => none) S = _
  rw [h] <;> rfl
theorem x_retoD {X : Cfg} {i : Nat} {ρ : Env} {S : Sto} {kvs : List (D × D)} (h : ρ[i]? = some (some (.dic kvs))) : ex X (.reto i) ρ S = .ok (.rt (.dic kvs)) S := by
  show M.opt (match ρ[i]? with
    | some (some (.own xs)) => some (Fl.rt (.own xs))
    | some (some (.dic kvs)) => some (.rt (.dic kvs))
    | _ => none) S = _
  rw [h] <;> rfl
theorem e_lc (X : Cfg) (t : Tg) (s : I) (e : E) (vs : List Nat) (ρ : Env) (S : Sto) : ev X (.lc t s e vs) ρ S = (M.bind (its X s ρ) (fun xs => M.guard (decide (xs.length ≤ LIM)) (M.bind (mapF' (fun _ => M.pure true) (fun d => M.bind (M.opt (bindT t d (wipe ρ vs))) fun ρ' => ev X e ρ') xs) fun ys => M.pure (.lst ys)))) S := (rfl)
theorem e_lcf (X : Cfg) (t : Tg) (s : I) (c : B) (e : E) (vs : List Nat) (ρ : Env) (S : Sto) : ev X (.lcf t s c e vs) ρ S = (M.bind (its X s ρ) (fun xs => M.guard (decide (xs.length ≤ LIM)) (M.bind (mapF' (fun d => M.bind (M.opt (bindT t d (wipe ρ vs))) fun ρ' => tst X c ρ') (fun d => M.bind (M.opt (bindT t d (wipe ρ vs))) fun ρ' => ev X e ρ') xs) fun ys => M.pure (.lst ys)))) S := (rfl)
@[simp ↓] theorem p_var (m : M D) (i : Nat) (ρ : Env) (S : Sto) : pkOf m (.var i) ρ S = M.opt (peekV ρ i) S := (rfl)
@[simp ↓] theorem p_non (m : M D)  (ρ : Env) (S : Sto) : pkOf m (.non ) ρ S = m S := (rfl)
@[simp ↓] theorem p_bl (m : M D) (b : Bool) (ρ : Env) (S : Sto) : pkOf m (.bl b) ρ S = m S := (rfl)
@[simp ↓] theorem p_int (m : M D) (i : Int) (ρ : Env) (S : Sto) : pkOf m (.int i) ρ S = m S := (rfl)
@[simp ↓] theorem p_str (m : M D) (cs : List Nat) (ρ : Env) (S : Sto) : pkOf m (.str cs) ρ S = m S := (rfl)
@[simp ↓] theorem p_glo (m : M D) (k : Nat) (ρ : Env) (S : Sto) : pkOf m (.glo k) ρ S = m S := (rfl)
@[simp ↓] theorem p_fnv (m : M D) (f : Nat) (ρ : Env) (S : Sto) : pkOf m (.fnv f) ρ S = m S := (rfl)
@[simp ↓] theorem p_bin (m : M D) (op : BOp) (a b : E) (ρ : Env) (S : Sto) : pkOf m (.bin op a b) ρ S = m S := (rfl)
@[simp ↓] theorem p_neg (m : M D) (a : E) (ρ : Env) (S : Sto) : pkOf m (.neg a) ρ S = m S := (rfl)
@[simp ↓] theorem p_cmp (m : M D) (op : COp) (a b : E) (ρ : Env) (S : Sto) : pkOf m (.cmp op a b) ρ S = m S := (rfl)
@[simp ↓] theorem p_chn (m : M D) (o1 o2 : COp) (a b c : E) (ρ : Env) (S : Sto) : pkOf m (.chn o1 o2 a b c) ρ S = m S := (rfl)
@[simp ↓] theorem p_isN (m : M D) (a : E) (ρ : Env) (S : Sto) : pkOf m (.isN a) ρ S = m S := (rfl)
@[simp ↓] theorem p_ntN (m : M D) (a : E) (ρ : Env) (S : Sto) : pkOf m (.ntN a) ρ S = m S := (rfl)
@[simp ↓] theorem p_and (m : M D) (a b : E) (ρ : Env) (S : Sto) : pkOf m (.and a b) ρ S = m S := (rfl)
@[simp ↓] theorem p_or (m : M D) (a b : E) (ρ : Env) (S : Sto) : pkOf m (.or a b) ρ S = m S := (rfl)
@[simp ↓] theorem p_not (m : M D) (a : E) (ρ : Env) (S : Sto) : pkOf m (.not a) ρ S = m S := (rfl)
@[simp ↓] theorem p_ife (m : M D) (c : B) (a b : E) (ρ : Env) (S : Sto) : pkOf m (.ife c a b) ρ S = m S := (rfl)
@[simp ↓] theorem p_tup (m : M D) (es : Es) (ρ : Env) (S : Sto) : pkOf m (.tup es) ρ S = m S := (rfl)
@[simp ↓] theorem p_lst (m : M D) (es : Es) (ρ : Env) (S : Sto) : pkOf m (.lst es) ρ S = m S := (rfl)
@[simp ↓] theorem p_cell (m : M D) (es : Es) (ρ : Env) (S : Sto) : pkOf m (.cell es) ρ S = m S := (rfl)
@[simp ↓] theorem p_call (m : M D) (f : Nat) (es : Es) (ρ : Env) (S : Sto) : pkOf m (.call f es) ρ S = m S := (rfl)
@[simp ↓] theorem p_blt (m : M D) (f : Bl) (es : Es) (ρ : Env) (S : Sto) : pkOf m (.blt f es) ρ S = m S := (rfl)
@[simp ↓] theorem p_isi (m : M D) (a : E) (ts : List Ty) (ρ : Env) (S : Sto) : pkOf m (.isi a ts) ρ S = m S := (rfl)
@[simp ↓] theorem p_idx (m : M D) (a i : E) (ρ : Env) (S : Sto) : pkOf m (.idx a i) ρ S = m S := (rfl)
@[simp ↓] theorem p_slN (m : M D) (a : E) (ρ : Env) (S : Sto) : pkOf m (.slN a) ρ S = m S := (rfl)
@[simp ↓] theorem p_slL (m : M D) (a b : E) (ρ : Env) (S : Sto) : pkOf m (.slL a b) ρ S = m S := (rfl)
@[simp ↓] theorem p_slU (m : M D) (a b : E) (ρ : Env) (S : Sto) : pkOf m (.slU a b) ρ S = m S := (rfl)
@[simp ↓] theorem p_slB (m : M D) (a b c : E) (ρ : Env) (S : Sto) : pkOf m (.slB a b c) ρ S = m S := (rfl)
@[simp ↓] theorem p_rev (m : M D) (a : E) (ρ : Env) (S : Sto) : pkOf m (.rev a) ρ S = m S := (rfl)
@[simp ↓] theorem p_sst (m : M D) (a : E) (ρ : Env) (S : Sto) : pkOf m (.sst a) ρ S = m S := (rfl)
@[simp ↓] theorem p_upper (m : M D) (a : E) (ρ : Env) (S : Sto) : pkOf m (.upper a) ρ S = m S := (rfl)
@[simp ↓] theorem p_lc (m : M D) (t : Tg) (s : I) (e : E) (vs : List Nat) (ρ : Env) (S : Sto) : pkOf m (.lc t s e vs) ρ S = m S := (rfl)
@[simp ↓] theorem p_lcf (m : M D) (t : Tg) (s : I) (c : B) (e : E) (vs : List Nat) (ρ : Env) (S : Sto) : pkOf m (.lcf t s c e vs) ρ S = m S := (rfl)
@[simp ↓] theorem q_var (m : M D) (i : Nat) (ρ : Env) (S : Sto) : pkL m (.var i) ρ S = M.opt (peekL ρ i) S := (rfl)
@[simp ↓] theorem q_non (m : M D)  (ρ : Env) (S : Sto) : pkL m (.non ) ρ S = m S := (rfl)
@[simp ↓] theorem q_bl (m : M D) (b : Bool) (ρ : Env) (S : Sto) : pkL m (.bl b) ρ S = m S := (rfl)
@[simp ↓] theorem q_int (m : M D) (i : Int) (ρ : Env) (S : Sto) : pkL m (.int i) ρ S = m S := (rfl)
@[simp ↓] theorem q_str (m : M D) (cs : List Nat) (ρ : Env) (S : Sto) : pkL m (.str cs) ρ S = m S := (rfl)
@[simp ↓] theorem q_glo (m : M D) (k : Nat) (ρ : Env) (S : Sto) : pkL m (.glo k) ρ S = m S := (rfl)
@[simp ↓] theorem q_fnv (m : M D) (f : Nat) (ρ : Env) (S : Sto) : pkL m (.fnv f) ρ S = m S := (rfl)
@[simp ↓] theorem q_bin (m : M D) (op : BOp) (a b : E) (ρ : Env) (S : Sto) : pkL m (.bin op a b) ρ S = m S := (rfl)
@[simp ↓] theorem q_neg (m : M D) (a : E) (ρ : Env) (S : Sto) : pkL m (.neg a) ρ S = m S := (rfl)
@[simp ↓] theorem q_cmp (m : M D) (op : COp) (a b : E) (ρ : Env) (S : Sto) : pkL m (.cmp op a b) ρ S = m S := (rfl)
@[simp ↓] theorem q_chn (m : M D) (o1 o2 : COp) (a b c : E) (ρ : Env) (S : Sto) : pkL m (.chn o1 o2 a b c) ρ S = m S := (rfl)
@[simp ↓] theorem q_isN (m : M D) (a : E) (ρ : Env) (S : Sto) : pkL m (.isN a) ρ S = m S := (rfl)
@[simp ↓] theorem q_ntN (m : M D) (a : E) (ρ : Env) (S : Sto) : pkL m (.ntN a) ρ S = m S := (rfl)
@[simp ↓] theorem q_and (m : M D) (a b : E) (ρ : Env) (S : Sto) : pkL m (.and a b) ρ S = m S := (rfl)
@[simp ↓] theorem q_or (m : M D) (a b : E) (ρ : Env) (S : Sto) : pkL m (.or a b) ρ S = m S := (rfl)
@[simp ↓] theorem q_not (m : M D) (a : E) (ρ : Env) (S : Sto) : pkL m (.not a) ρ S = m S := (rfl)
@[simp ↓] theorem q_ife (m : M D) (c : B) (a b : E) (ρ : Env) (S : Sto) : pkL m (.ife c a b) ρ S = m S := (rfl)
@[simp ↓] theorem q_tup (m : M D) (es : Es) (ρ : Env) (S : Sto) : pkL m (.tup es) ρ S = m S := (rfl)
@[simp ↓] theorem q_lst (m : M D) (es : Es) (ρ : Env) (S : Sto) : pkL m (.lst es) ρ S = m S := (rfl)
@[simp ↓] theorem q_cell (m : M D) (es : Es) (ρ : Env) (S : Sto) : pkL m (.cell es) ρ S = m S := (rfl)
@[simp ↓] theorem q_call (m : M D) (f : Nat) (es : Es) (ρ : Env) (S : Sto) : pkL m (.call f es) ρ S = m S := (rfl)
@[simp ↓] theorem q_blt (m : M D) (f : Bl) (es : Es) (ρ : Env) (S : Sto) : pkL m (.blt f es) ρ S = m S := (rfl)
@[simp ↓] theorem q_isi (m : M D) (a : E) (ts : List Ty) (ρ : Env) (S : Sto) : pkL m (.isi a ts) ρ S = m S := (rfl)
@[simp ↓] theorem q_idx (m : M D) (a i : E) (ρ : Env) (S : Sto) : pkL m (.idx a i) ρ S = m S := (rfl)
@[simp ↓] theorem q_slN (m : M D) (a : E) (ρ : Env) (S : Sto) : pkL m (.slN a) ρ S = m S := (rfl)
@[simp ↓] theorem q_slL (m : M D) (a b : E) (ρ : Env) (S : Sto) : pkL m (.slL a b) ρ S = m S := (rfl)
@[simp ↓] theorem q_slU (m : M D) (a b : E) (ρ : Env) (S : Sto) : pkL m (.slU a b) ρ S = m S := (rfl)
@[simp ↓] theorem q_slB (m : M D) (a b c : E) (ρ : Env) (S : Sto) : pkL m (.slB a b c) ρ S = m S := (rfl)
@[simp ↓] theorem q_rev (m : M D) (a : E) (ρ : Env) (S : Sto) : pkL m (.rev a) ρ S = m S := (rfl)
@[simp ↓] theorem q_sst (m : M D) (a : E) (ρ : Env) (S : Sto) : pkL m (.sst a) ρ S = m S := (rfl)
@[simp ↓] theorem q_upper (m : M D) (a : E) (ρ : Env) (S : Sto) : pkL m (.upper a) ρ S = m S := (rfl)
@[simp ↓] theorem q_lc (m : M D) (t : Tg) (s : I) (e : E) (vs : List Nat) (ρ : Env) (S : Sto) : pkL m (.lc t s e vs) ρ S = m S := (rfl)
@[simp ↓] theorem q_lcf (m : M D) (t : Tg) (s : I) (c : B) (e : E) (vs : List Nat) (ρ : Env) (S : Sto) : pkL m (.lcf t s c e vs) ρ S = m S := (rfl)
@[simp ↓] theorem f_non (X : Cfg)  (ρ : Env) (S : Sto) : evF X (.non ) ρ S = M.bind (ev X (.non ) ρ) (fun x => M.opt (match x with | .lst xs => some xs | _ => none)) S := (rfl)
@[simp ↓] theorem f_bl (X : Cfg) (b : Bool) (ρ : Env) (S : Sto) : evF X (.bl b) ρ S = M.bind (ev X (.bl b) ρ) (fun x => M.opt (match x with | .lst xs => some xs | _ => none)) S := (rfl)
@[simp ↓] theorem f_int (X : Cfg) (i : Int) (ρ : Env) (S : Sto) : evF X (.int i) ρ S = M.bind (ev X (.int i) ρ) (fun x => M.opt (match x with | .lst xs => some xs | _ => none)) S := (rfl)
@[simp ↓] theorem f_str (X : Cfg) (cs : List Nat) (ρ : Env) (S : Sto) : evF X (.str cs) ρ S = M.bind (ev X (.str cs) ρ) (fun x => M.opt (match x with | .lst xs => some xs | _ => none)) S := (rfl)
@[simp ↓] theorem f_glo (X : Cfg) (k : Nat) (ρ : Env) (S : Sto) : evF X (.glo k) ρ S = M.bind (ev X (.glo k) ρ) (fun x => M.opt (match x with | .lst xs => some xs | _ => none)) S := (rfl)
@[simp ↓] theorem f_fnv (X : Cfg) (f : Nat) (ρ : Env) (S : Sto) : evF X (.fnv f) ρ S = M.bind (ev X (.fnv f) ρ) (fun x => M.opt (match x with | .lst xs => some xs | _ => none)) S := (rfl)
@[simp ↓] theorem f_bin (X : Cfg) (op : BOp) (a b : E) (ρ : Env) (S : Sto) : evF X (.bin op a b) ρ S = M.bind (ev X (.bin op a b) ρ) (fun x => M.opt (match x with | .lst xs => some xs | _ => none)) S := (rfl)
@[simp ↓] theorem f_neg (X : Cfg) (a : E) (ρ : Env) (S : Sto) : evF X (.neg a) ρ S = M.bind (ev X (.neg a) ρ) (fun x => M.opt (match x with | .lst xs => some xs | _ => none)) S := (rfl)
@[simp ↓] theorem f_cmp (X : Cfg) (op : COp) (a b : E) (ρ : Env) (S : Sto) : evF X (.cmp op a b) ρ S = M.bind (ev X (.cmp op a b) ρ) (fun x => M.opt (match x with | .lst xs => some xs | _ => none)) S := (rfl)
@[simp ↓] theorem f_chn (X : Cfg) (o1 o2 : COp) (a b c : E) (ρ : Env) (S : Sto) : evF X (.chn o1 o2 a b c) ρ S = M.bind (ev X (.chn o1 o2 a b c) ρ) (fun x => M.opt (match x with | .lst xs => some xs | _ => none)) S := (rfl)
@[simp ↓] theorem f_isN (X : Cfg) (a : E) (ρ : Env) (S : Sto) : evF X (.isN a) ρ S = M.bind (ev X (.isN a) ρ) (fun x => M.opt (match x with | .lst xs => some xs | _ => none)) S := (rfl)
@[simp ↓] theorem f_ntN (X : Cfg) (a : E) (ρ : Env) (S : Sto) : evF X (.ntN a) ρ S = M.bind (ev X (.ntN a) ρ) (fun x => M.opt (match x with | .lst xs => some xs | _ => none)) S := (rfl)
@[simp ↓] theorem f_and (X : Cfg) (a b : E) (ρ : Env) (S : Sto) : evF X (.and a b) ρ S = M.bind (ev X (.and a b) ρ) (fun x => M.opt (match x with | .lst xs => some xs | _ => none)) S := (rfl)
@[simp ↓] theorem f_or (X : Cfg) (a b : E) (ρ : Env) (S : Sto) : evF X (.or a b) ρ S = M.bind (ev X (.or a b) ρ) (fun x => M.opt (match x with | .lst xs => some xs | _ => none)) S := (rfl)
@[simp ↓] theorem f_not (X : Cfg) (a : E) (ρ : Env) (S : Sto) : evF X (.not a) ρ S = M.bind (ev X (.not a) ρ) (fun x => M.opt (match x with | .lst xs => some xs | _ => none)) S := (rfl)
@[simp ↓] theorem f_ife (X : Cfg) (c : B) (a b : E) (ρ : Env) (S : Sto) : evF X (.ife c a b) ρ S = M.bind (ev X (.ife c a b) ρ) (fun x => M.opt (match x with | .lst xs => some xs | _ => none)) S := (rfl)
@[simp ↓] theorem f_tup (X : Cfg) (es : Es) (ρ : Env) (S : Sto) : evF X (.tup es) ρ S = M.bind (ev X (.tup es) ρ) (fun x => M.opt (match x with | .lst xs => some xs | _ => none)) S := (rfl)
@[simp ↓] theorem f_lst (X : Cfg) (es : Es) (ρ : Env) (S : Sto) : evF X (.lst es) ρ S = M.bind (ev X (.lst es) ρ) (fun x => M.opt (match x with | .lst xs => some xs | _ => none)) S := (rfl)
@[simp ↓] theorem f_cell (X : Cfg) (es : Es) (ρ : Env) (S : Sto) : evF X (.cell es) ρ S = M.bind (ev X (.cell es) ρ) (fun x => M.opt (match x with | .lst xs => some xs | _ => none)) S := (rfl)
@[simp ↓] theorem f_blt (X : Cfg) (f : Bl) (es : Es) (ρ : Env) (S : Sto) : evF X (.blt f es) ρ S = M.bind (ev X (.blt f es) ρ) (fun x => M.opt (match x with | .lst xs => some xs | _ => none)) S := (rfl)
@[simp ↓] theorem f_isi (X : Cfg) (a : E) (ts : List Ty) (ρ : Env) (S : Sto) : evF X (.isi a ts) ρ S = M.bind (ev X (.isi a ts) ρ) (fun x => M.opt (match x with | .lst xs => some xs | _ => none)) S := (rfl)
@[simp ↓] theorem f_idx (X : Cfg) (a i : E) (ρ : Env) (S : Sto) : evF X (.idx a i) ρ S = M.bind (ev X (.idx a i) ρ) (fun x => M.opt (match x with | .lst xs => some xs | _ => none)) S := (rfl)
@[simp ↓] theorem f_slN (X : Cfg) (a : E) (ρ : Env) (S : Sto) : evF X (.slN a) ρ S = M.bind (ev X (.slN a) ρ) (fun x => M.opt (match x with | .lst xs => some xs | _ => none)) S := (rfl)
@[simp ↓] theorem f_slL (X : Cfg) (a b : E) (ρ : Env) (S : Sto) : evF X (.slL a b) ρ S = M.bind (ev X (.slL a b) ρ) (fun x => M.opt (match x with | .lst xs => some xs | _ => none)) S := (rfl)
@[simp ↓] theorem f_slU (X : Cfg) (a b : E) (ρ : Env) (S : Sto) : evF X (.slU a b) ρ S = M.bind (ev X (.slU a b) ρ) (fun x => M.opt (match x with | .lst xs => some xs | _ => none)) S := (rfl)
@[simp ↓] theorem f_slB (X : Cfg) (a b c : E) (ρ : Env) (S : Sto) : evF X (.slB a b c) ρ S = M.bind (ev X (.slB a b c) ρ) (fun x => M.opt (match x with | .lst xs => some xs | _ => none)) S := (rfl)
@[simp ↓] theorem f_rev (X : Cfg) (a : E) (ρ : Env) (S : Sto) : evF X (.rev a) ρ S = M.bind (ev X (.rev a) ρ) (fun x => M.opt (match x with | .lst xs => some xs | _ => none)) S := (rfl)
@[simp ↓] theorem f_sst (X : Cfg) (a : E) (ρ : Env) (S : Sto) : evF X (.sst a) ρ S = M.bind (ev X (.sst a) ρ) (fun x => M.opt (match x with | .lst xs => some xs | _ => none)) S := (rfl)
@[simp ↓] theorem f_upper (X : Cfg) (a : E) (ρ : Env) (S : Sto) : evF X (.upper a) ρ S = M.bind (ev X (.upper a) ρ) (fun x => M.opt (match x with | .lst xs => some xs | _ => none)) S := (rfl)
@[simp ↓] theorem f_lc (X : Cfg) (t : Tg) (s : I) (e : E) (vs : List Nat) (ρ : Env) (S : Sto) : evF X (.lc t s e vs) ρ S = M.bind (ev X (.lc t s e vs) ρ) (fun x => M.opt (match x with | .lst xs => some xs | _ => none)) S := (rfl)
@[simp ↓] theorem f_lcf (X : Cfg) (t : Tg) (s : I) (c : B) (e : E) (vs : List Nat) (ρ : Env) (S : Sto) : evF X (.lcf t s c e vs) ρ S = M.bind (ev X (.lcf t s c e vs) ρ) (fun x => M.opt (match x with | .lst xs => some xs | _ => none)) S := (rfl)
@[simp] theorem gv_v {ρ : Env} {i : Nat} {d : D} (h : ρ[i]? = some (some (.val d))) : getV ρ i = some d := by
  unfold getV
  rw [h]
@[simp] theorem pv_v {ρ : Env} {i : Nat} {d : D} (h : ρ[i]? = some (some (.val d))) : peekV ρ i = some d := by
  unfold peekV
  rw [h]
theorem pv_d {ρ : Env} {i : Nat} {kvs : List (D × D)} (h : ρ[i]? = some (some (.dic kvs))) : peekV ρ i = some (.dic (kvs.map (·.1)) (kvs.map (·.2))) := by
  unfold peekV
  rw [h]
@[simp] theorem pl_v {ρ : Env} {i : Nat} {d : D} (h : ρ[i]? = some (some (.val d))) : peekL ρ i = some d := by
  unfold peekL
  rw [h]
theorem pl_o {ρ : Env} {i : Nat} {xs : List D} (h : ρ[i]? = some (some (.own xs))) : peekL ρ i = some (.lst xs) := by
  unfold peekL
  rw [h]
@[simp] theorem fx_cd (kvs : List (D × D)) (ρ : Env) : fixAll (some (.dic kvs) :: ρ) = some (.dic kvs) :: fixAll ρ := (rfl)
theorem pv_o {ρ : Env} {i : Nat} {xs : List D} (h : ρ[i]? = some (some (.own xs))) : peekV ρ i = some (.lst xs) := by
  unfold peekV
  rw [h]
@[simp] theorem fx_n : fixAll [] = [] := (rfl)
@[simp] theorem fx_c0 (ρ : Env) : fixAll (none :: ρ) = none :: fixAll ρ := (rfl)
@[simp] theorem fx_cv (d : D) (ρ : Env) : fixAll (some (.val d) :: ρ) = some (.val d) :: fixAll ρ := (rfl)
@[simp] theorem fx_co (xs : List D) (ρ : Env) : fixAll (some (.own xs) :: ρ) = some (.val (.lst xs)) :: fixAll ρ := (rfl)
@[simp] theorem bt_nm (i : Nat) (d : D) (ρ : Env) : bindT (.nm i) d ρ = some (ρ.set i (some (.val d))) := (rfl)
@[simp] theorem bt_tp (ts : Tgs) (xs : List D) (ρ : Env) : bindT (.tp ts) (.tup xs) ρ = bindTs ts xs ρ := (rfl)
@[simp] theorem bts_n (ρ : Env) : bindTs .nil [] ρ = some ρ := (rfl)
@[simp] theorem bts_c (t : Tg) (ts : Tgs) (x : D) (xs : List D) (ρ : Env) : bindTs (.cons t ts) (x :: xs) ρ = (match bindT t x ρ with | some ρ' => bindTs ts xs ρ' | none => none) := (rfl)
@[simp] theorem wp_n (ρ : Env) : wipe ρ [] = ρ := (rfl)
@[simp] theorem wp_c (ρ : Env) (v : Nat) (vs : List Nat) : wipe ρ (v :: vs) = (wipe ρ vs).set v none := (rfl)
@[simp] theorem fi_rng2 (a b : E) (ρ : Env) : fixI (.rng2 a b) ρ = ρ := (rfl)
@[simp] theorem fi_rng (e : E) (ρ : Env) : fixI (.rng e) ρ = ρ := (rfl)
theorem fi_var {ρ : Env} {i : Nat} {d : D} (h : ρ[i]? = some (some (.val d))) : fixI (.seq (.var i)) ρ = ρ := by
  show fixAt ρ i = ρ
  unfold fixAt
  rw [h]
/-! ### comprehensions -/
theorem mapF_nil (c : D → M Bool) (f : D → M D) (S : Sto) : mapF' c f [] S = .ok [] S := rfl
theorem mapF_fil {c : D → M Bool} {f : D → M D} {p : D → Bool} {g : D → D} {S : Sto} : ∀ {xs : List D}, (∀ x ∈ xs, c x S = .ok (p x) S) → (∀ x ∈ xs, p x = true → f x S = .ok (g x) S) → mapF' c f xs S = .ok ((xs.filter p).map g) S
  | [], _, _ => rfl
  | x :: xs, hc, hf => by
    have ih := mapF_fil (xs := xs) (fun y hy => hc y (List.mem_cons_of_mem _ hy)) (fun y hy => hf y (List.mem_cons_of_mem _ hy))
    unfold mapF'
    rw [hc x List.mem_cons_self]
    cases hp : p x with
    | false =>
      rw [List.filter_cons, hp]
      exact ih
    | true =>
      have e := hf x List.mem_cons_self hp
      show (match f x S with | .stk => Res.stk | .ok y S2 => (match mapF' c f xs S2 with | .stk => Res.stk | .ok ys S3 => Res.ok (y :: ys) S3)) = _
      rw [e]
      show (match mapF' c f xs S with | .stk => Res.stk | .ok ys S3 => Res.ok (g x :: ys) S3) = _
      rw [ih, List.filter_cons, hp]
      rfl
theorem mapF_map {f : D → M D} {g : D → D} {S : Sto} {xs : List D} (hf : ∀ x ∈ xs, f x S = .ok (g x) S) : mapF' (fun _ => M.pure true) f xs S = .ok (xs.map g) S := by
  have := mapF_fil (c := fun _ => M.pure true) (p := fun _ => true) (f := f) (g := g) (S := S) (xs := xs) (fun _ _ => rfl) (fun x hx _ => hf x hx)
  rw [this, List.filter_eq_self.mpr fun _ _ => rfl]
theorem bools_map (g : D → Bool) : ∀ xs : List D, boolsOf (xs.map fun x => .bl (g x)) = some (xs.map g)
  | [] => rfl
  | x :: xs => by
    show (match boolsOf (xs.map fun x => D.bl (g x)) with | some bs => some (g x :: bs) | none => none) = _
    rw [bools_map g xs]
    rfl
/-- elements made one after another, each with some good, the store kept good -/
theorem mapF_any {f : D → M D} {P : Sto → Prop} {Q : D → Prop} : ∀ {xs : List D} {S : Sto}, P S → (∀ x ∈ xs, ∀ S, P S → ∃ d S', f x S = .ok d S' ∧ P S' ∧ Q d) → ∃ ds S', mapF' (fun _ => M.pure true) f xs S = .ok ds S' ∧ P S' ∧ (∀ d ∈ ds, Q d) ∧ ds.length = xs.length
  | [], S, h, _ => ⟨[], S, rfl, h, (fun _ z => by simp at z), rfl⟩
  | x :: xs, S, h, hf => by
    obtain ⟨d, S1, e1, h1, q1⟩ := hf x List.mem_cons_self S h
    obtain ⟨ds, S2, e2, h2, q2, l2⟩ := mapF_any (xs := xs) h1 fun y hy => hf y (List.mem_cons_of_mem _ hy)
    refine ⟨d :: ds, S2, ?_, h2, fun z hz => ?_, by rw [List.length_cons, List.length_cons, l2]⟩
    · unfold mapF'
      show (match f x S with | .stk => Res.stk | .ok y S2 => (match mapF' (fun _ => M.pure true) f xs S2 with | .stk => Res.stk | .ok ys S3 => Res.ok (y :: ys) S3)) = _
      rw [e1]
      show (match mapF' (fun _ => M.pure true) f xs S1 with | .stk => Res.stk | .ok ys S3 => Res.ok (d :: ys) S3) = _
      rw [e2]
    · rcases List.mem_cons.mp hz with e | hz
      · rw [e]
        exact q1
      · exact q2 z hz
/-- a loop that always goes on -/
theorem forL_inv {b : D → Env → M Fl} {P : Nat → Env → Sto → Prop} : ∀ {xs : List D} {i : Nat} {ρ : Env} {S : Sto}, P i ρ S → (∀ (j : Nat) x ρ S, xs[j]? = some x → P (i + j) ρ S → ∃ ρ' S', b x ρ S = .ok (.nx ρ') S' ∧ P (i + j + 1) ρ' S') → ∃ ρ' S', forL b xs ρ S = .ok (.nx ρ') S' ∧ P (i + xs.length) ρ' S'
  | [], i, ρ, S, h, _ => ⟨ρ, S, rfl, h⟩
  | x :: xs, i, ρ, S, h, hs => by
    obtain ⟨ρ1, S1, e1, h1⟩ := hs 0 x ρ S rfl h
    obtain ⟨ρ2, S2, e2, h2⟩ := forL_inv (xs := xs) (i := i + 1) h1 fun j y ρ S hy hp => by
      have := hs (j + 1) y ρ S (by simpa using hy) (by rw [show i + (j + 1) = i + 1 + j from by omega]; exact hp)
      rw [show i + 1 + j + 1 = i + (j + 1) + 1 from by omega]
      exact this
    refine ⟨ρ2, S2, ?_, by rw [List.length_cons, show i + (xs.length + 1) = i + 1 + xs.length from by omega]; exact h2⟩
    show M.bind (b x ρ) _ S = _
    rw [bind_ap, e1]
    exact e2
theorem ev_lc {X : Cfg} {t : Tg} {s : I} {e : E} {vs : List Nat} {ρ : Env} {S S1 S2 : Sto} {xs ys : List D} (hi : its X s ρ S = .ok xs S1) (hl : xs.length ≤ LIM)
    (hm : mapF' (fun _ => M.pure true) (fun d => M.bind (M.opt (bindT t d (wipe ρ vs))) fun ρ' => ev X e ρ') xs S1 = .ok ys S2) : ev X (.lc t s e vs) ρ S = .ok (.lst ys) S2 := by
  show M.bind (its X s ρ) (fun xs => M.guard (decide (xs.length ≤ LIM)) (M.bind (mapF' (fun _ => M.pure true) (fun d => M.bind (M.opt (bindT t d (wipe ρ vs))) fun ρ' => ev X e ρ') xs) fun ys => M.pure (D.lst ys))) S = _
  rw [bind_ap, hi]
  show M.guard (decide (xs.length ≤ LIM)) _ S1 = _
  rw [decide_eq_true hl, guard_t, bind_ap, hm]
  rfl
theorem ev_lcf {X : Cfg} {t : Tg} {s : I} {c : B} {e : E} {vs : List Nat} {ρ : Env} {S S1 S2 : Sto} {xs ys : List D} (hi : its X s ρ S = .ok xs S1) (hl : xs.length ≤ LIM)
    (hm : mapF' (fun d => M.bind (M.opt (bindT t d (wipe ρ vs))) fun ρ' => tst X c ρ') (fun d => M.bind (M.opt (bindT t d (wipe ρ vs))) fun ρ' => ev X e ρ') xs S1 = .ok ys S2) : ev X (.lcf t s c e vs) ρ S = .ok (.lst ys) S2 := by
  show M.bind (its X s ρ) (fun xs => M.guard (decide (xs.length ≤ LIM)) (M.bind (mapF' (fun d => M.bind (M.opt (bindT t d (wipe ρ vs))) fun ρ' => tst X c ρ') (fun d => M.bind (M.opt (bindT t d (wipe ρ vs))) fun ρ' => ev X e ρ') xs) fun ys => M.pure (D.lst ys))) S = _
  rw [bind_ap, hi]
  show M.guard (decide (xs.length ≤ LIM)) _ S1 = _
  rw [decide_eq_true hl, guard_t, bind_ap, hm]
  rfl
end Ev


/-! The laws' draws: a weir of two numbers. -/
namespace Ev
open PySem
/-- ten to the 240th -/
def eBig : E := (.bin .mul (.bin .mul (.bin .mul (.bin .pow (.int 10) (.int 60)) (.bin .pow (.int 10) (.int 60))) (.bin .pow (.int 10) (.int 60))) (.bin .pow (.int 10) (.int 60)))
def bWeir : Ts := .cons (.asg 2 (.bin .add (.bin .mul (.int 30011) (.var 1)) (.int 67))) (.cons (.ifs (.cmp .lt (.var 1) (.blt .len (.cons (.var 0) .nil))) (.cons (.asg 2 (.bin .mod (.blt .abs (.cons (.blt .int (.cons (.idx (.var 0) (.var 1)) .nil)) .nil)) eBig)) (.nil)) (.cons (.ifs (.cmp .gt (.blt .len (.cons (.var 0) .nil)) (.int 0)) (.cons (.asg 2 (.bin .add (.var 2) (.bin .mod (.blt .abs (.cons (.blt .int (.cons (.idx (.var 0) (.int 0)) .nil)) .nil)) (.int 1000367)))) (.nil)) (.nil)) (.nil))) (.cons (.ret (.cell (.cons (.ife (.cmp .ge (.var 2) (.bin .pow (.int 10) (.int 18))) (.var 2) (.int 0)) (.cons (.bin .add (.bin .mod (.blt .int (.cons (.bin .add (.bin .add (.bin .mul (.bin .mod (.var 2) (.int 2147483003)) (.int 11)) (.bin .mul (.int 79) (.var 1))) (.int 37)) .nil)) (.int 2147483003)) (.int 1)) .nil)))) (.nil)))
def lpC : B := (.or (.cmp .lt (.var 3) (.var 1)) (.cmp .eq (.var 3) (.int 1)))
def lpB : Ts := .cons (.setI 0 (.int 1) (.bin .mod (.blt .int (.cons (.bin .add (.bin .mul (.idx (.var 0) (.int 1)) (.int 23003)) (.int 89)) .nil)) (.int 2147483003))) (.cons (.asg 2 (.bin .add (.bin .mul (.var 2) (.int 8192)) (.bin .mod (.blt .int (.cons (.bin .fdiv (.idx (.var 0) (.int 1)) (.int 65629)) .nil)) (.int 8192)))) (.cons (.asg 3 (.bin .mul (.var 3) (.int 8192))) (.nil)))
def bDrop : Ts := .cons (.ifs (.cmp .gt (.idx (.var 0) (.int 0)) (.int 0)) (.cons (.asg 2 (.bin .mod (.blt .int (.cons (.idx (.var 0) (.int 0)) .nil)) (.var 1))) (.cons (.setI 0 (.int 0) (.bin .fdiv (.idx (.var 0) (.int 0)) (.var 1))) (.cons (.ret (.var 2)) (.nil)))) (.nil)) (.cons (.unp (.tp (.cons (.nm 2) (.cons (.nm 3) (.nil)))) (.tup (.cons (.int 0) (.cons (.int 1) .nil)))) (.cons (.whl lpC lpB) (.cons (.ret (.bin .mod (.blt .int (.cons (.var 2) .nil)) (.var 1))) (.nil))))

theorem big_ok (X : Cfg) (ρ : Env) : ev X eBig ρ = M.pure (.int (10 ^ 240)) := by
  funext S
  rfl

theorem ix_loc (n : Nat) (j : Int) (S : Sto) : idxM (.loc n) (.int j) S = (match S[n]? with | some (.cell xs) => M.opt (L2.atI xs j) S | _ => .stk) := (rfl)
@[simp] theorem atI_0 {α : Type} (x y : α) : L2.atI [x, y] 0 = some x := (rfl)
@[simp] theorem atI_1 {α : Type} (x y : α) : L2.atI [x, y] 1 = some y := (rfl)
@[simp] theorem ixN_0 : L2.ixN 2 0 = some 0 := (rfl)
@[simp] theorem ixN_1 : L2.ixN 2 1 = some 1 := (rfl)
local macro_rules
  | `(tactic| trivial) => `(tactic| simp [setM, ix_loc, *])
/-- a weir stands at n -/
def Wr (S : Sto) (n : Nat) : Prop := ∃ a b : Int, S[n]? = some (.cell [.int a, .int b]) ∧ 0 ≤ a ∧ 0 ≤ b
theorem whl_F {c : Env → M Bool} {b : Env → M Fl} {n : Nat} {ρ : Env} {S S' : Sto} (h : c ρ S = .ok false S') : whlL c b (n + 1) ρ S = .ok (.nx ρ) S' := by
  show M.bind (c ρ) _ S = _
  rw [bind_ap, h]
  rfl
theorem whl_T {c : Env → M Bool} {b : Env → M Fl} {n : Nat} {ρ ρ' : Env} {S S1 S' : Sto} (h : c ρ S = .ok true S1) (hb : b ρ S1 = .ok (.nx ρ') S') : whlL c b (n + 1) ρ S = whlL c b n ρ' S' := by
  show M.bind (c ρ) _ S = _
  rw [bind_ap, h]
  show M.bind (b ρ) _ S1 = _
  rw [bind_ap, hb]
theorem get_set {S : Sto} {n : Nat} {o o' : Ob} (h : S[n]? = some o) : (S.set n o')[n]? = some o' := by
  have := (List.getElem?_eq_some_iff.mp h).1
  rw [List.getElem?_set, if_pos rfl, if_pos this]
section
variable {X : Cfg} {n : Nat} {m a b f w : Int} {S : Sto}
theorem lp_c1 (hc : w < m ∨ w = 1) : tst X lpC [some (.val (.loc n)), some (.val (.int m)), some (.val (.int f)), some (.val (.int w))] S = .ok true S := by
  unfold lpC
  by_cases h1 : w < m
  · trivial
  · have h2 : w = 1 := by omega
    subst h2
    trivial
theorem lp_c0 (h1 : ¬ w < m) (h2 : ¬ w = 1) : tst X lpC [some (.val (.loc n)), some (.val (.int m)), some (.val (.int f)), some (.val (.int w))] S = .ok false S := by
  unfold lpC
  trivial
theorem lp_b (hS : S[n]? = some (.cell [.int a, .int b])) : exs X lpB [some (.val (.loc n)), some (.val (.int m)), some (.val (.int f)), some (.val (.int w))] S = .ok (.nx [some (.val (.loc n)), some (.val (.int m)), some (.val (.int (f * 8192 + (b * 23003 + 89) % 2147483003 / 65629 % 8192))), some (.val (.int (w * 8192)))]) (S.set n (.cell [.int a, .int ((b * 23003 + 89) % 2147483003)])) := by
  have hg := get_set (o' := .cell [.int a, .int ((b * 23003 + 89) % 2147483003)]) hS
  unfold lpB
  trivial
end
theorem lp_run {X : Cfg} {n : Nat} {m : Int} (t : Nat) : ∀ (a b f w : Int) (fuel : Nat) (S : Sto), S[n]? = some (.cell [.int a, .int b]) → 0 ≤ b → 0 ≤ f → 1 ≤ w → m ≤ w * 8192 ^ t → (t = 0 → w ≠ 1) → t + 1 ≤ fuel →
    ∃ b' f' w', whlL (fun ρ => tst X lpC ρ) (fun ρ => exs X lpB ρ) fuel [some (.val (.loc n)), some (.val (.int m)), some (.val (.int f)), some (.val (.int w))] S = .ok (.nx [some (.val (.loc n)), some (.val (.int m)), some (.val (.int f')), some (.val (.int w'))]) (S.set n (.cell [.int a, .int b'])) ∧ 0 ≤ b' ∧ 0 ≤ f' := by
  have stop : ∀ (a b f w : Int) (fuel : Nat) (S : Sto), S[n]? = some (.cell [.int a, .int b]) → 0 ≤ b → 0 ≤ f → ¬ w < m → ¬ w = 1 → 1 ≤ fuel →
    ∃ b' f' w', whlL (fun ρ => tst X lpC ρ) (fun ρ => exs X lpB ρ) fuel [some (.val (.loc n)), some (.val (.int m)), some (.val (.int f)), some (.val (.int w))] S = .ok (.nx [some (.val (.loc n)), some (.val (.int m)), some (.val (.int f')), some (.val (.int w'))]) (S.set n (.cell [.int a, .int b'])) ∧ 0 ≤ b' ∧ 0 ≤ f' := fun a b f w fuel S hS hb hf h1 h2 hfu => by
    cases fuel with
    | zero => omega
    | succ fuel =>
      rw [whl_F (lp_c0 h1 h2)]
      refine ⟨b, f, w, ?_, hb, hf⟩
      congr 1
      obtain ⟨hl, he⟩ := List.getElem?_eq_some_iff.mp hS
      rw [← he, List.set_getElem_self]
  induction t with
  | zero =>
    intro a b f w fuel S hS hb hf hw hm ht hfu
    rw [Int.pow_zero] at hm
    exact stop a b f w fuel S hS hb hf (by omega) (ht rfl) (by omega)
  | succ t ih =>
    intro a b f w fuel S hS hb hf hw hm ht hfu
    by_cases hc : w < m ∨ w = 1
    · cases fuel with
      | zero => omega
      | succ fuel =>
        rw [whl_T (lp_c1 hc) (lp_b hS)]
        have hn : 0 ≤ (b * 23003 + 89) % 2147483003 := Int.emod_nonneg _ (by omega)
        obtain ⟨b', f', w', e, i1, i2⟩ := ih a ((b * 23003 + 89) % 2147483003) (f * 8192 + (b * 23003 + 89) % 2147483003 / 65629 % 8192) (w * 8192) fuel (S.set n (.cell [.int a, .int ((b * 23003 + 89) % 2147483003)]))
          (get_set hS) hn (by have := Int.emod_nonneg ((b * 23003 + 89) % 2147483003 / 65629) (show (8192 : Int) ≠ 0 by decide); omega) (by omega) (by rw [Int.pow_succ, Int.mul_comm (8192 ^ t) 8192, ← Int.mul_assoc] at hm; exact hm) (fun _ => by omega) (by omega)
        rw [List.set_set] at e
        exact ⟨b', f', w', e, i1, i2⟩
    · exact stop a b f w fuel S hS hb hf (fun z => hc (.inl z)) (fun z => hc (.inr z)) (by omega)
theorem drop_run {X : Cfg} (hW : 10 ≤ X.W) {S : Sto} {n : Nat} {m : Int} (h : Wr S n) (hm : 0 < m) (hb : m ≤ 8192 ^ 9) : ∃ r a b, exs X bDrop [some (.val (.loc n)), some (.val (.int m)), none, none] S = .ok (.rt (.val (.int r))) (S.set n (.cell [.int a, .int b])) ∧ 0 ≤ r ∧ r < m ∧ 0 ≤ a ∧ 0 ≤ b := by
  obtain ⟨a, b, hS, ha, hb0⟩ := h
  by_cases hp : 0 < a
  · refine ⟨a % m, a / m, b, ?_, Int.emod_nonneg _ (by omega), Int.emod_lt_of_pos _ hm, Int.ediv_nonneg ha (by omega), hb0⟩
    have hg := get_set (o' := .cell [.int (a / m), .int b]) hS
    have hdv : m ≤ 1000000000000000000000000000000000000 := Int.le_trans hb (by decide +kernel)
    unfold bDrop
    trivial
  · obtain ⟨b', f', w', e, i1, i2⟩ := lp_run (X := X) (n := n) (m := m) 9 a b 0 1 X.W S hS hb0 (Int.le_refl 0) (Int.le_refl 1) (by rw [Int.one_mul]; exact hb) (fun z => by cases z) (by omega)
    refine ⟨f' % m, a, b', ?_, Int.emod_nonneg _ (by omega), Int.emod_lt_of_pos _ hm, ha, i1⟩
    unfold bDrop
    trivial
def bFin : Ts := (.cons (.ret (.cell (.cons (.ife (.cmp .ge (.var 2) (.bin .pow (.int 10) (.int 18))) (.var 2) (.int 0)) (.cons (.bin .add (.bin .mod (.blt .int (.cons (.bin .add (.bin .add (.bin .mul (.bin .mod (.var 2) (.int 2147483003)) (.int 11)) (.bin .mul (.int 79) (.var 1))) (.int 37)) .nil)) (.int 2147483003)) (.int 1)) .nil)))) (.nil))
theorem w_fin {X : Cfg} {S : Sto} {d : D} {k : Int} {c : Int} (hc : 0 ≤ c) : ∃ a b : Int, exs X bFin [some (.val d), some (.val (.int k)), some (.val (.int c))] S = .ok (.rt (.val (.loc S.length))) (S ++ [.cell [.int a, .int b]]) ∧ 0 ≤ a ∧ 0 ≤ b := by
  have h0 : 0 ≤ (c % 2147483003 * 11 + 79 * k + 37) % 2147483003 := Int.emod_nonneg _ (by omega)
  unfold bFin
  by_cases h1 : (1000000000000000000 : Int) ≤ c
  · refine ⟨c, (c % 2147483003 * 11 + 79 * k + 37) % 2147483003 + 1, ?_, hc, by omega⟩
    simp [h1]
  · refine ⟨0, (c % 2147483003 * 11 + 79 * k + 37) % 2147483003 + 1, ?_, Int.le_refl 0, by omega⟩
    simp [h1]
theorem w_abs (z : Int) : (if z < 0 then -z else z) = z.natAbs := by split <;> omega
theorem big_ex : ∃ B : Int, 0 < B ∧ ∀ (X : Cfg) (ρ : Env) (S : Sto), ev X eBig ρ S = .ok (.int B) S := ⟨10 ^ 240, by decide +kernel, fun X ρ S => by rw [big_ok]; exact pure_ap _ _⟩
theorem p_big (m : M D) (ρ : Env) (S : Sto) : pkOf m eBig ρ S = m S := (rfl)
theorem weir_run {X : Cfg} {S : Sto} {ns : List Int} {k : Int} (hk : 0 ≤ k) : ∃ a b : Int, exs X bWeir [some (.val (.rol (ns.map .int))), some (.val (.int k)), none] S = .ok (.rt (.val (.loc S.length))) (S ++ [.cell [.int a, .int b]]) ∧ 0 ≤ a ∧ 0 ≤ b := by
  obtain ⟨B, hB, hb⟩ := big_ex
  by_cases h1 : k < ns.length
  · have h3 : k.toNat < ns.length := by omega
    obtain ⟨a, b, e, i1, i2⟩ := w_fin (X := X) (S := S) (d := .rol (ns.map .int)) (k := k) (c := (ns[k.toNat].natAbs : Int) % B) (Int.emod_nonneg _ (by omega))
    refine ⟨a, b, ?_, i1, i2⟩
    rw [← e]
    unfold bWeir bFin
    simp [↓p_big, ↓hb, h1, w_abs, hB, hk, h3]
  · by_cases h2 : 0 < ns.length
    · obtain ⟨a, b, e, i1, i2⟩ := w_fin (X := X) (S := S) (d := .rol (ns.map .int)) (k := k) (c := 30011 * k + 67 + (ns[0].natAbs : Int) % 1000367) (by have := Int.emod_nonneg (ns[0].natAbs : Int) (show (1000367 : Int) ≠ 0 by decide); omega)
      refine ⟨a, b, ?_, i1, i2⟩
      rw [← e]
      unfold bWeir bFin
      simp [h1, h2, w_abs]
    · obtain ⟨a, b, e, i1, i2⟩ := w_fin (X := X) (S := S) (d := .rol (ns.map .int)) (k := k) (c := 30011 * k + 67) (by omega)
      refine ⟨a, b, ?_, i1, i2⟩
      rw [← e]
      unfold bWeir bFin
      simp [h1, h2, w_abs]
/-- what a draw leaves -/
theorem wr_set {S : Sto} {n : Nat} {a b : Int} (h : Wr S n) (ha : 0 ≤ a) (hb : 0 ≤ b) : Wr (S.set n (.cell [.int a, .int b])) n := by
  obtain ⟨a', b', h, _⟩ := h
  exact ⟨a, b, get_set h, ha, hb⟩
theorem wr_new {S : Sto} {a b : Int} (ha : 0 ≤ a) (hb : 0 ≤ b) : Wr (S ++ [.cell [.int a, .int b]]) S.length := ⟨a, b, by simp, ha, hb⟩
end Ev

/-! Texts of plain signs, slices. -/
namespace Ev
open PySem L2
theorem upper_as {cs : List Nat} (h : ∀ c ∈ cs, c < 128) : upper cs = cs.map PyProof.Rows.up1 := by
  unfold upper
  rw [PyProof.Rows.upper_ascii (x := ⟨cs.toArray⟩) (by simpa using h)]
  simp [codesOf]
theorem up1_lt {c : Nat} (h : c < 128) : PyProof.Rows.up1 c < 128 := by
  unfold PyProof.Rows.up1
  split <;> omega
theorem up_ok {cs : List Nat} (h : ∀ c ∈ cs, c < 128) (hl : cs.length ≤ 1000) : upD (.str cs) = some (.str (cs.map PyProof.Rows.up1)) := by
  show (if (decide (cs.length ≤ 1000) && (upper cs).all (fun c => decide (c < 1114112)) && decide ((upper cs).length ≤ 4000)) = true then some (D.str (upper cs)) else none) = _
  rw [upper_as h, if_pos]
  rw [decide_eq_true hl, Bool.true_and, Bool.and_eq_true, List.all_eq_true, decide_eq_true_eq, List.length_map]
  refine ⟨fun c hc => ?_, by omega⟩
  obtain ⟨x, hx, rfl⟩ := List.mem_map.mp hc
  have := up1_lt (h x hx)
  exact decide_eq_true (by omega)
theorem str_i {i : Int} (h1 : -1000000000000000000000000000000000000000000000000000000000000000000 < i) (h2 : i < 1000000000000000000000000000000000000000000000000000000000000000000) :
    ∃ ds, blt .str [.int i] = some (.str ds) ∧ ds.length ≤ 70 ∧ ∀ c ∈ ds, c < 128 := by
  have hn : i.natAbs < 10 ^ 66 := by omega
  have hn2 : i.natAbs < 2 ^ 1000 := Nat.lt_trans hn (by decide +kernel)
  refine ⟨codesOf (toString i : String), ?_, ?_, fun c hc => ?_⟩
  · show (if i.natAbs < 2 ^ 1000 then some (D.str (codesOf (toString i : String))) else none) = _
    rw [if_pos hn2]
  · have := int_text_length_le10 (a := i) (k := 66) (by omega) hn
    rw [cdsStr, List.length_map, String.length_toList]
    omega
  · rw [cdsStr] at hc
    obtain ⟨x, hx, rfl⟩ := List.mem_map.mp hc
    exact PySem.int_ascii i x hx
theorem sIx_s {n d : Nat} {k : Int} (h : 0 ≤ k) : HT.sIx n d (some k) = min k.toNat n := by
  show (if k < 0 then _ else _) = _
  rw [if_neg (by omega)]
theorem cut_to {xs : List D} {k : Int} (h : 0 ≤ k) : cut xs none (some k) = xs.take k.toNat := by
  unfold cut
  rw [sIx_s h, HT.sIx_none, List.drop_zero, Nat.sub_zero, ← List.take_take, List.take_length]
theorem cut_from {xs : List D} {k : Int} (h : 0 ≤ k) : cut xs (some k) none = xs.drop k.toNat := by
  unfold cut
  rw [sIx_s h, HT.sIx_none]
  by_cases hk : k.toNat ≤ xs.length
  · rw [Nat.min_eq_left hk, List.take_of_length_le (by rw [List.length_drop]; omega)]
  · rw [List.drop_eq_nil_of_le (by omega), List.drop_eq_nil_of_le (by omega), List.take_nil]
/-! ### suites -/
section
variable {X : Cfg} {c : B} {a b r : Ts} {t : T} {ρ ρ' : Env} {S S1 S2 : Sto} {v : RV}
theorem if_rt (ht : tst X c ρ S = .ok true S1) (h : exs X a ρ S1 = .ok (.rt v) S2) : exs X (.cons (.ifs c a b) r) ρ S = .ok (.rt v) S2 := by
  simp only [xs_c, bind_ap, x_ifs, ht, h, pure_ap]
theorem if_rtF (ht : tst X c ρ S = .ok false S1) (h : exs X b ρ S1 = .ok (.rt v) S2) : exs X (.cons (.ifs c a b) r) ρ S = .ok (.rt v) S2 := by
  simp only [xs_c, bind_ap, x_ifs, ht, h, pure_ap]
theorem if_nx (ht : tst X c ρ S = .ok true S1) (h : exs X a ρ S1 = .ok (.nx ρ') S2) : exs X (.cons (.ifs c a b) r) ρ S = exs X r ρ' S2 := by
  simp only [xs_c, bind_ap, x_ifs, ht, h, pure_ap]
theorem if_nxF (ht : tst X c ρ S = .ok false S1) (h : exs X b ρ S1 = .ok (.nx ρ') S2) : exs X (.cons (.ifs c a b) r) ρ S = exs X r ρ' S2 := by
  simp only [xs_c, bind_ap, x_ifs, ht, h, pure_ap]
theorem st_nx (h : ex X t ρ S = .ok (.nx ρ') S1) : exs X (.cons t r) ρ S = exs X r ρ' S1 := by
  rw [xs_c, bind_ap, h]
theorem st_rt (h : ex X t ρ S = .ok (.rt v) S1) : exs X (.cons t r) ρ S = .ok (.rt v) S1 := by
  rw [xs_c, bind_ap, h]
  rfl
end
/-- a loop that always goes on -/
theorem fors_inv {X : Cfg} {t : Tg} {s : I} {b : Ts} {ρ : Env} {S S1 : Sto} {xs : List D} {P : Nat → Env → Sto → Prop} (hi : its X s ρ S = .ok xs S1) (h0 : P 0 (fixI s ρ) S1)
    (hs : ∀ (j : Nat) x ρ S, xs[j]? = some x → P j ρ S → ∃ ρ1, bindT t x ρ = some ρ1 ∧ ∃ ρ' S', exs X b ρ1 S = .ok (.nx ρ') S' ∧ P (j + 1) ρ' S') : ∃ ρ' S', ex X (.fors t s b) ρ S = .ok (.nx ρ') S' ∧ P xs.length ρ' S' := by
  obtain ⟨ρ', S', e, h⟩ := forL_inv (b := fun d ρ' => M.bind (M.opt (bindT t d ρ')) fun ρ'' => exs X b ρ'') (P := P) (xs := xs) (i := 0) h0 (fun j x ρ S hx hp => by
    rw [Nat.zero_add] at hp ⊢
    obtain ⟨ρ1, e1, ρ', S', e2, h2⟩ := hs j x ρ S hx hp
    refine ⟨ρ', S', ?_, h2⟩
    show M.bind (M.opt (bindT t x ρ)) _ S = _
    rw [bind_ap, e1]
    exact e2)
  rw [Nat.zero_add] at h
  refine ⟨ρ', S', ?_, h⟩
  rw [x_fors, bind_ap, hi]
  exact e
/-- xs = xs + [..] -/
theorem asg_app {X : Cfg} {i : Nat} {es : Es} {ρ : Env} {S S1 : Sto} {xs ys : List D} (hg : peekV ρ i = some (.lst xs)) (he : ev X (.lst es) ρ S = .ok (.lst ys) S1) (hl : xs.length + ys.length ≤ 16000000) :
    ex X (.asg i (.bin .add (.var i) (.lst es))) ρ S = .ok (.nx (ρ.set i (some (.val (.lst (xs ++ ys)))))) S1 := by
  have q : xs.length + ys.length ≤ LIM := Nat.le_trans hl (by decide)
  simp only [x_asg, bind_ap, e_bin, p_var, hg, opt_some, p_lst, he, add_ll, if_pos q, pure_ap]
@[simp] theorem rev_t2 (x y : D) (r : List D) : revD (.tup (x :: y :: r)) = some (.tup (x :: y :: r).reverse) := by
  show (if decide (2 ≤ (x :: y :: r).length) = true then some (D.tup (x :: y :: r).reverse) else none) = _
  rw [if_pos (decide_eq_true (by simp))]
theorem rngD_get {m : Int} {j : Nat} {x : D} (h : (rngD m)[j]? = some x) : x = .int j := by
  unfold rngD at h
  rw [List.getElem?_map] at h
  cases q : (List.range m.toNat)[j]? with
  | none =>
    rw [q] at h
    cases h
  | some k =>
    rw [q] at h
    obtain ⟨h1, h2⟩ := List.getElem?_eq_some_iff.mp q
    rw [List.getElem_range] at h2
    subst h2
    exact (Option.some.inj h).symm
end Ev

/-! The terms on texts, step by step. -/
namespace Ev
open PySem
@[simp ↓] theorem e_join (X : Cfg) (cs : List Nat) (b : E) (ρ : Env) (S : Sto) : ev X (.join cs b) ρ S = (M.bind (pkOf (ev X b ρ) b ρ) (fun y => M.opt (methD .join (.str cs) y))) S := (rfl)
@[simp ↓] theorem p_join (w : M D) (cs : List Nat) (b : E) (ρ : Env) (S : Sto) : pkOf w (.join cs b) ρ S = w S := (rfl)
@[simp ↓] theorem q_join (w : M D) (cs : List Nat) (b : E) (ρ : Env) (S : Sto) : pkL w (.join cs b) ρ S = w S := (rfl)
@[simp ↓] theorem f_join (X : Cfg) (cs : List Nat) (b : E) (ρ : Env) (S : Sto) : evF X (.join cs b) ρ S = M.bind (ev X (.join cs b) ρ) (fun x => M.opt (match x with | .lst xs => some xs | _ => none)) S := (rfl)
@[simp ↓] theorem e_meth (X : Cfg) (m : Mt) (i : Nat) (b : E) (ρ : Env) (S : Sto) : ev X (.meth m i b) ρ S = (M.bind (M.opt (peekV ρ i)) (fun x => M.bind (pkOf (ev X b ρ) b ρ) (fun y => M.opt (methD m x y)))) S := (rfl)
@[simp ↓] theorem p_meth (w : M D) (m : Mt) (i : Nat) (b : E) (ρ : Env) (S : Sto) : pkOf w (.meth m i b) ρ S = w S := (rfl)
@[simp ↓] theorem q_meth (w : M D) (m : Mt) (i : Nat) (b : E) (ρ : Env) (S : Sto) : pkL w (.meth m i b) ρ S = w S := (rfl)
@[simp ↓] theorem f_meth (X : Cfg) (m : Mt) (i : Nat) (b : E) (ρ : Env) (S : Sto) : evF X (.meth m i b) ρ S = M.bind (ev X (.meth m i b) ρ) (fun x => M.opt (match x with | .lst xs => some xs | _ => none)) S := (rfl)
@[simp ↓] theorem e_told (X : Cfg) (f : Nat) (es : Es) (ρ : Env) (S : Sto) : ev X (.told f es) ρ S = (M.bind (evs X es ρ) (fun xs => M.bind (X.C f xs) (fun r => M.opt (toldD r)))) S := (rfl)
@[simp ↓] theorem p_told (w : M D) (f : Nat) (es : Es) (ρ : Env) (S : Sto) : pkOf w (.told f es) ρ S = w S := (rfl)
@[simp ↓] theorem q_told (w : M D) (f : Nat) (es : Es) (ρ : Env) (S : Sto) : pkL w (.told f es) ρ S = w S := (rfl)
@[simp ↓] theorem f_told (X : Cfg) (f : Nat) (es : Es) (ρ : Env) (S : Sto) : evF X (.told f es) ρ S = M.bind (ev X (.told f es) ρ) (fun x => M.opt (match x with | .lst xs => some xs | _ => none)) S := (rfl)
@[simp ↓] theorem e_toldV (X : Cfg) (i : Nat) (es : Es) (ρ : Env) (S : Sto) : ev X (.toldV i es) ρ S = (M.bind (M.opt ((getV ρ i).bind fnD)) (fun f => M.bind (evs X es ρ) (fun xs => M.bind (X.C f xs) (fun r => M.opt (toldD r))))) S := (rfl)
@[simp ↓] theorem p_toldV (w : M D) (i : Nat) (es : Es) (ρ : Env) (S : Sto) : pkOf w (.toldV i es) ρ S = w S := (rfl)
@[simp ↓] theorem q_toldV (w : M D) (i : Nat) (es : Es) (ρ : Env) (S : Sto) : pkL w (.toldV i es) ρ S = w S := (rfl)
@[simp ↓] theorem f_toldV (X : Cfg) (i : Nat) (es : Es) (ρ : Env) (S : Sto) : evF X (.toldV i es) ρ S = M.bind (ev X (.toldV i es) ρ) (fun x => M.opt (match x with | .lst xs => some xs | _ => none)) S := (rfl)
@[simp] theorem td_v (d : D) : toldD (.val d) = some (.tup [.str [116, 111, 108, 100], d]) := (rfl)
@[simp] theorem td_o (xs : List D) : toldD (.own xs) = some (.tup [.str [116, 111, 108, 100], .lst xs]) := (rfl)
@[simp] theorem items_s (cs : List Nat) : itemsD (.str cs) = some (cs.map fun c => .str [c]) := (rfl)
@[simp] theorem str_s (cs : List Nat) : blt .str [.str cs] = some (.str cs) := (rfl)
@[simp] theorem in_s (c : Nat) (cs : List Nat) : cop .isin (.str [c]) (.str cs) = some (cs.contains c) := (rfl)
@[simp] theorem sl_s (cs : List Nat) (lo hi : Option Int) : slD (.str cs) lo hi = some (.str (cut cs lo hi)) := (rfl)
@[simp] theorem forL_n (b : D → Env → M Fl) (ρ : Env) (S : Sto) : forL b [] ρ S = .ok (.nx ρ) S := (rfl)
theorem forL_c (b : D → Env → M Fl) (x : D) (xs : List D) (ρ : Env) (S : Sto) : forL b (x :: xs) ρ S = M.bind (b x ρ) (fun f => match f with
    | .nx ρ' => forL b xs ρ'
    | .rt r => M.pure (.rt r)
    | .ex c d => M.pure (.ex c d)) S := (rfl)
theorem int_s {cs : List Nat} (h : cs.length ≤ 600) (h2 : cs.isEmpty = false) (h3 : cs.all isDig = true) : blt .int [.str cs] = some (.int (dval cs : Nat)) := by
  show (if decide (cs.length ≤ 600) && (!cs.isEmpty && cs.all isDig) then some (D.int (dval cs : Nat)) else none) = _
  rw [decide_eq_true h, h2, h3] <;> rfl
end Ev

/-! Books as values. -/
namespace Lk
open Ev
inductive Wo where
  | always | here | there | full | empty | high
deriving DecidableEq
inductive En where
  | inn (m : Int) | turn | out | rest (m : Int) | go (w : Wo) (n : Nat) | fin
deriving DecidableEq
structure Lo where
  room : Int
  mins : Int
  water : Int
  less : Int
deriving DecidableEq
structure Bk where
  lock : Lo
  es : List En
deriving DecidableEq
def Lo.Ok (l : Lo) : Prop := 1 ≤ l.room ∧ l.room ≤ 4 ∧ 1 ≤ l.mins ∧ l.mins ≤ 20 ∧ 0 ≤ l.water ∧ l.water ≤ 100 ∧ 0 ≤ l.less ∧ l.less ≤ 10 ∧ l.room * l.less ≤ l.water
def En.Ok (n : Nat) : En → Prop
  | .inn m => 1 ≤ m ∧ m ≤ 4
  | .rest m => 1 ≤ m ∧ m ≤ 60
  | .go _ k => k < n
  | _ => True
structure Bk.Ok (k : Bk) : Prop where
  lock : k.lock.Ok
  pos : 0 < k.es.length
  le : k.es.length ≤ 8
  es : ∀ e ∈ k.es, e.Ok k.es.length
def Wo.d : Wo → D
  | .always => .str [97, 108, 119, 97, 121, 115] | .here => .str [104, 101, 114, 101] | .there => .str [116, 104, 101, 114, 101] | .full => .str [102, 117, 108, 108] | .empty => .str [101, 109, 112, 116, 121] | .high => .str [104, 105, 103, 104]
def En.d : En → D
  | .inn m => .tup [.str [105, 110], .int m]
  | .turn => .tup [.str [116, 117, 114, 110]]
  | .out => .tup [.str [111, 117, 116]]
  | .rest m => .tup [.str [114, 101, 115, 116], .int m]
  | .go w n => .tup [.str [103, 111], w.d, .int n]
  | .fin => .tup [.str [101, 110, 100]]
def Lo.d (l : Lo) : D := .tup [.int l.room, .int l.mins, .int l.water, .int l.less]
def Bk.d (k : Bk) : D := .tup [k.lock.d, .tup (k.es.map En.d)]
theorem cmpb_wo (w : Wo) : D.cmpb w.d = true := by cases w <;> rfl
theorem cmpb_en (e : En) : D.cmpb e.d = true := by cases e <;> simp [En.d, cmpb_wo]
theorem cmpbs_map {α : Type} (f : α → D) (h : ∀ x, D.cmpb (f x) = true) : ∀ l : List α, D.cmpbs (l.map f) = true
  | [] => rfl
  | x :: l => by rw [List.map_cons, cmpbs_c, h x, cmpbs_map f h l] <;> rfl
theorem cmpb_bk (k : Bk) : D.cmpb k.d = true := by simp [Bk.d, Lo.d, cmpbs_map En.d cmpb_en]
end Lk

/-! Texts of books. -/
namespace Ev
open PySem L2
theorem splt_none {c : Nat} : ∀ {w : List Nat}, c ∉ w → splt c w = [w]
  | [], _ => rfl
  | x :: w, h => by
    have hx : (x == c) = false := by
      rw [beq_eq_false_iff_ne]
      exact fun e => h (by rw [e]; exact List.mem_cons_self)
    unfold splt
    rw [hx, splt_none (w := w) fun m => h (List.mem_cons_of_mem _ m)]
    rfl
theorem splt_app {c : Nat} (r : List Nat) : ∀ {w : List Nat}, c ∉ w → splt c (w ++ c :: r) = w :: splt c r
  | [], _ => by
    show (if c == c then [] :: splt c r else _) = _
    rw [if_pos (beq_self_eq_true c)]
  | x :: w, h => by
    have hx : (x == c) = false := by
      rw [beq_eq_false_iff_ne]
      exact fun e => h (by rw [e]; exact List.mem_cons_self)
    show (if x == c then [] :: splt c (w ++ c :: r) else (match splt c (w ++ c :: r) with
      | h :: t => (x :: h) :: t
      | [] => [[x]])) = _
    rw [hx, splt_app r (w := w) fun m => h (List.mem_cons_of_mem _ m)]
    rfl
/-- parts without c, joined by c, are found again -/
theorem splt_join {c : Nat} : ∀ {l : List (List Nat)}, l ≠ [] → (∀ w ∈ l, c ∉ w) → splt c (joinS [c] l) = l
  | [], h, _ => absurd rfl h
  | [w], _, h => splt_none (h w List.mem_cons_self)
  | w :: v :: l, _, h => by
    show splt c (w ++ [c] ++ joinS [c] (v :: l)) = _
    rw [List.append_assoc, List.singleton_append, splt_app _ (h w List.mem_cons_self), splt_join (by simp) fun u m => h u (List.mem_cons_of_mem _ m)]
theorem sum_c (w : List Nat) (l : List (List Nat)) : sumLen (w :: l) = w.length + sumLen l := by
  unfold sumLen
  rw [List.map_cons, List.sum_cons]
theorem jn_len (s : List Nat) : ∀ l : List (List Nat), (joinS s l).length ≤ sumLen l + l.length * s.length
  | [] => by simp [joinS]
  | [w] => by
    show w.length ≤ _
    rw [sum_c]
    omega
  | w :: v :: l => by
    have ih := jn_len s (v :: l)
    show (w ++ s ++ joinS s (v :: l)).length ≤ _
    rw [sum_c, List.length_append, List.length_append, List.length_cons (a := w), Nat.succ_mul]
    omega
theorem sum_le {n : Nat} : ∀ {l : List (List Nat)}, (∀ w ∈ l, w.length ≤ n) → sumLen l ≤ n * l.length
  | [], _ => by simp [sumLen]
  | w :: l, h => by
    have ih := sum_le (l := l) fun v m => h v (List.mem_cons_of_mem _ m)
    have hw := h w List.mem_cons_self
    rw [sum_c, List.length_cons, Nat.mul_succ]
    omega
theorem join_mem {c d : Nat} (hc : c ≠ d) : ∀ {l : List (List Nat)}, (∀ w ∈ l, c ∉ w) → c ∉ joinS [d] l
  | [], _ => by simp [joinS]
  | [w], h => h w List.mem_cons_self
  | w :: v :: l, h => by
    show c ∉ w ++ [d] ++ joinS [d] (v :: l)
    have ih := join_mem hc (l := v :: l) fun u m => h u (List.mem_cons_of_mem _ m)
    simp only [List.mem_append, List.mem_singleton]
    rintro ((m | m) | m)
    · exact h w List.mem_cons_self m
    · exact hc m
    · exact ih m
theorem strs_map {α : Type} (f : α → List Nat) : ∀ l : List α, strsOf (l.map fun x => D.str (f x)) = some (l.map f)
  | [] => rfl
  | x :: l => by
    show (match strsOf (l.map fun x => D.str (f x)) with
      | some l => some (f x :: l)
      | none => none) = _
    rw [strs_map f l]
    rfl
theorem strs_c (w : List Nat) {xs : List D} {l : List (List Nat)} (h : strsOf xs = some l) : strsOf (.str w :: xs) = some (w :: l) := by
  show (match strsOf xs with
      | some l => some (w :: l)
      | none => none) = _
  rw [h]
theorem jo_ok {s : List Nat} {xs : List D} {l : List (List Nat)} (h : strsOf xs = some l) (hl : sumLen l + l.length * s.length ≤ 16777216) : methD .join (.str s) (.lst xs) = some (.str (joinS s l)) := by
  show (match strsOf xs with
    | some l => if decide (sumLen l + l.length * s.length ≤ LIM) then some (D.str (joinS s l)) else none
    | none => none) = _
  rw [h]
  exact if_pos (decide_eq_true hl)
theorem split_ok {c : Nat} {a : List Nat} (hc : c < 256) (ha : a.length ≤ 16000000) : methD .split (.str a) (.str [c]) = some (.lst ((splt c a).map .str)) := by
  show (if decide (c < 256) && decide (a.length + 2 ≤ LIM) then some (D.lst ((splt c a).map D.str)) else none) = _
  have h2 : a.length + 2 ≤ LIM := Nat.le_trans (Nat.add_le_add_right ha 2) (by decide)
  rw [decide_eq_true hc, decide_eq_true h2]
  rfl
/-! ### small numbers -/
def sN (i : Int) : List Nat := codesOf (toString i : String)
def sNB (n : Nat) : Bool := decide ((n : Int).natAbs < 2 ^ 1000) && (!(sN n).isEmpty && (decide ((sN n).length ≤ 3) && ((sN n).all isDig && decide (dval (sN n) = n))))
theorem sN_all : ∀ n, n < 101 → sNB n = true := by decide +kernel
theorem sN_ok {i : Int} (h0 : 0 ≤ i) (h1 : i ≤ 100) : blt .str [.int i] = some (.str (sN i)) ∧ (sN i).isEmpty = false ∧ (sN i).length ≤ 3 ∧ (sN i).all isDig = true ∧ (dval (sN i) : Int) = i := by
  obtain ⟨n, rfl⟩ : ∃ n : Nat, i = n := ⟨i.toNat, by omega⟩
  have q := sN_all n (by omega)
  unfold sNB at q
  simp only [Bool.and_eq_true, decide_eq_true_eq, Bool.not_eq_true'] at q
  obtain ⟨q1, q2, q3, q4, q5⟩ := q
  refine ⟨?_, q2, q3, q4, by rw [q5]⟩
  show (if (n : Int).natAbs < 2 ^ 1000 then some (D.str (codesOf (toString (n : Int) : String))) else none) = _
  rw [if_pos q1] <;> rfl
theorem dig_no {w : List Nat} (h : w.all isDig = true) {c : Nat} (hc : isDig c = false) : c ∉ w := fun m => by
  rw [List.all_eq_true.mp h c m] at hc
  cases hc
end Ev
namespace Lk
open Ev PySem
def Wo.s : Wo → List Nat
  | .always => [97, 108, 119, 97, 121, 115] | .here => [104, 101, 114, 101] | .there => [116, 104, 101, 114, 101] | .full => [102, 117, 108, 108] | .empty => [101, 109, 112, 116, 121] | .high => [104, 105, 103, 104]
theorem Wo.d_s (w : Wo) : w.d = .str w.s := by cases w <;> rfl
def En.w : En → List (List Nat)
  | .inn m => [[105, 110], sN m]
  | .turn => [[116, 117, 114, 110]]
  | .out => [[111, 117, 116]]
  | .rest m => [[114, 101, 115, 116], sN m]
  | .go w n => [[103, 111], w.s, sN n]
  | .fin => [[101, 110, 100]]
def Lo.w (l : Lo) : List (List Nat) := [[108, 111, 99, 107], sN l.room, sN l.mins, sN l.water, sN l.less]
/-- a word of a line: short, without the signs that part words and lines -/
def wordB (w : List Nat) : Bool := decide (w.length ≤ 6) && w.all fun c => !(c == 32) && !(c == 10)
theorem word_ok {w : List Nat} (h : wordB w = true) : w.length ≤ 6 ∧ 32 ∉ w ∧ 10 ∉ w := by
  unfold wordB at h
  rw [Bool.and_eq_true, decide_eq_true_eq, List.all_eq_true] at h
  refine ⟨h.1, fun m => ?_, fun m => ?_⟩
  · have := h.2 32 m
    simp at this
  · have := h.2 10 m
    simp at this
theorem word_n {i : Int} (h0 : 0 ≤ i) (h1 : i ≤ 100) : wordB (sN i) = true := by
  obtain ⟨_, _, h3, h4, _⟩ := sN_ok h0 h1
  unfold wordB
  rw [decide_eq_true (by omega), Bool.true_and, List.all_eq_true]
  intro c m
  have q := List.all_eq_true.mp h4 c m
  unfold isDig at q
  rw [Bool.and_eq_true, decide_eq_true_eq, decide_eq_true_eq] at q
  have e1 : (c == 32) = false := by rw [beq_eq_false_iff_ne]; omega
  have e2 : (c == 10) = false := by rw [beq_eq_false_iff_ne]; omega
  rw [e1, e2] <;> rfl
theorem word_w (w : Wo) : wordB w.s = true := by cases w <;> rfl
theorem En.word {e : En} {n : Nat} (h : e.Ok n) (hn : n ≤ 8) : ∀ w ∈ e.w, wordB w = true := by
  intro w hw
  cases e with
  | inn m =>
    have h : 1 ≤ m ∧ m ≤ 4 := h
    rcases List.mem_cons.mp hw with e | hw
    · rw [e] <;> rfl
    · rw [List.mem_singleton.mp hw]
      exact word_n (by omega) (by omega)
  | turn => rw [List.mem_singleton.mp hw] <;> rfl
  | out => rw [List.mem_singleton.mp hw] <;> rfl
  | rest m =>
    have h : 1 ≤ m ∧ m ≤ 60 := h
    rcases List.mem_cons.mp hw with e | hw
    · rw [e] <;> rfl
    · rw [List.mem_singleton.mp hw]
      exact word_n (by omega) (by omega)
  | go w k =>
    have h : k < n := h
    rcases List.mem_cons.mp hw with e | hw
    · rw [e] <;> rfl
    · rcases List.mem_cons.mp hw with e | hw
      · rw [e]
        exact word_w w
      · rw [List.mem_singleton.mp hw]
        exact word_n (by omega) (by omega)
  | fin => rw [List.mem_singleton.mp hw] <;> rfl
theorem En.w_len (e : En) : e.w.length ≤ 3 := by cases e <;> simp [En.w]
theorem En.w_ne (e : En) : e.w ≠ [] := by cases e <;> simp [En.w]
theorem Lo.word {l : Lo} (h : l.Ok) : ∀ w ∈ l.w, wordB w = true := by
  obtain ⟨h1, h2, h3, h4, h5, h6, h7, h8, h9⟩ := h
  intro w hw
  rcases List.mem_cons.mp hw with e | hw
  · rw [e] <;> rfl
  rcases List.mem_cons.mp hw with e | hw
  · rw [e]; exact word_n (by omega) (by omega)
  rcases List.mem_cons.mp hw with e | hw
  · rw [e]; exact word_n (by omega) (by omega)
  rcases List.mem_cons.mp hw with e | hw
  · rw [e]; exact word_n (by omega) (by omega)
  · rw [List.mem_singleton.mp hw]; exact word_n (by omega) (by omega)
def En.line (e : En) : List Nat := joinS [32] e.w
def Lo.line (l : Lo) : List Nat := joinS [32] l.w
def Bk.lines (k : Bk) : List (List Nat) := k.lock.line :: k.es.map En.line
def Bk.text (k : Bk) : List Nat := joinS [10] k.lines
/-- words of a line, joined: how long at most; no line's end within -/
theorem line_ok {l : List (List Nat)} (h : ∀ w ∈ l, wordB w = true) (hl : l.length ≤ 5) : sumLen l + l.length * [32].length ≤ 35 ∧ (joinS [32] l).length ≤ 35 ∧ 10 ∉ joinS [32] l := by
  have q := sum_le fun w m => (word_ok (h w m)).1
  have r := jn_len [32] l
  have e : ([32] : List Nat).length = 1 := rfl
  rw [e] at r ⊢
  refine ⟨by omega, by omega, join_mem (by decide) fun w m => (word_ok (h w m)).2.2⟩
section
variable {k : Bk} (hk : k.Ok)
include hk
theorem Bk.line_mem : ∀ x ∈ k.lines, x.length ≤ 35 ∧ 10 ∉ x := by
  intro x hx
  rcases List.mem_cons.mp hx with e | hx
  · rw [e]
    exact (line_ok (Lo.word hk.lock) (by show 5 ≤ 5; decide)).2
  · obtain ⟨e, he, rfl⟩ := List.mem_map.mp hx
    exact (line_ok (En.word (hk.es e he) hk.le) (by have := e.w_len; omega)).2
theorem Bk.lines_len : k.lines.length ≤ 9 := by
  show (k.lock.line :: k.es.map En.line).length ≤ 9
  rw [List.length_cons, List.length_map]
  have := hk.le
  omega
theorem Bk.text_ok : sumLen k.lines + k.lines.length * [10].length ≤ 1000 ∧ k.text.length ≤ 1000 ∧ splt 10 k.text = k.lines := by
  have q := sum_le fun w m => (Bk.line_mem hk w m).1
  have r := jn_len [10] k.lines
  have l := Bk.lines_len hk
  have e : ([10] : List Nat).length = 1 := rfl
  rw [e] at r ⊢
  refine ⟨by omega, ?_, splt_join (by unfold Bk.lines; simp) fun w m => (Bk.line_mem hk w m).2⟩
  show (joinS [10] k.lines).length ≤ 1000
  omega
theorem En.split {e : En} (he : e ∈ k.es) : splt 32 e.line = e.w := splt_join e.w_ne fun w m => (word_ok (En.word (hk.es e he) hk.le w m)).2.1
theorem Lo.split : splt 32 k.lock.line = k.lock.w := splt_join (by unfold Lo.w; simp) fun w m => (word_ok (Lo.word hk.lock w m)).2.1
end
/-- an item of a line -/
def tD : D → List Nat
  | .str cs => cs
  | .int i => sN i
  | _ => []
def itB : D → Bool
  | .str _ => true
  | .int i => decide (0 ≤ i) && decide (i ≤ 100)
  | _ => false
theorem it_int {i : Int} (h0 : 0 ≤ i) (h1 : i ≤ 100) : itB (.int i) = true := by
  show (decide (0 ≤ i) && decide (i ≤ 100)) = true
  rw [decide_eq_true h0, decide_eq_true h1] <;> rfl
theorem str_it {x : D} (h : itB x = true) : blt .str [x] = some (.str (tD x)) := by
  cases x <;> first | (cases h; done) | skip
  case str => rfl
  case int i =>
    have h : (decide (0 ≤ i) && decide (i ≤ 100)) = true := h
    rw [Bool.and_eq_true, decide_eq_true_eq, decide_eq_true_eq] at h
    exact (sN_ok h.1 h.2).1
def En.hd : En → List Nat
  | .inn _ => [105, 110] | .turn => [116, 117, 114, 110] | .out => [111, 117, 116] | .rest _ => [114, 101, 115, 116] | .go _ _ => [103, 111] | .fin => [101, 110, 100]
def En.its : En → List D
  | .inn m => [.int m] | .rest m => [.int m] | .go w n => [w.d, .int n] | _ => []
theorem En.d_c (e : En) : e.d = .tup (.str e.hd :: e.its) := by cases e <;> rfl
theorem En.w_c (e : En) : e.w = e.hd :: e.its.map tD := by
  cases e with
  | go w n => cases w <;> rfl
  | _ => rfl
theorem En.it {e : En} {n : Nat} (h : e.Ok n) (hn : n ≤ 8) : ∀ x ∈ e.its, itB x = true := by
  intro x hx
  cases e with
  | inn m =>
    have h : 1 ≤ m ∧ m ≤ 4 := h
    rw [List.mem_singleton.mp hx]
    exact it_int (by omega) (by omega)
  | rest m =>
    have h : 1 ≤ m ∧ m ≤ 60 := h
    rw [List.mem_singleton.mp hx]
    exact it_int (by omega) (by omega)
  | go w k =>
    have h : k < n := h
    rcases List.mem_cons.mp hx with e | hx
    · rw [e, Wo.d_s] <;> rfl
    · rw [List.mem_singleton.mp hx]
      exact it_int (by omega) (by omega)
  | _ => cases hx
def Lo.its (l : Lo) : List D := [.int l.room, .int l.mins, .int l.water, .int l.less]
theorem Lo.it {l : Lo} (h : l.Ok) : ∀ x ∈ l.its, itB x = true := by
  obtain ⟨h1, h2, h3, h4, h5, h6, h7, h8, h9⟩ := h
  intro x hx
  rcases List.mem_cons.mp hx with e | hx
  · rw [e]; exact it_int (by omega) (by omega)
  rcases List.mem_cons.mp hx with e | hx
  · rw [e]; exact it_int (by omega) (by omega)
  rcases List.mem_cons.mp hx with e | hx
  · rw [e]; exact it_int (by omega) (by omega)
  · rw [List.mem_singleton.mp hx]; exact it_int (by omega) (by omega)
theorem mapF_on {α : Type} {f : D → M D} {a b : α → D} {S : Sto} : ∀ {l : List α}, (∀ x ∈ l, f (a x) S = .ok (b x) S) → mapF' (fun _ => M.pure true) f (l.map a) S = .ok (l.map b) S
  | [], _ => rfl
  | x :: l, h => by
    have ih := mapF_on (f := f) (a := a) (b := b) (S := S) (l := l) fun y m => h y (List.mem_cons_of_mem _ m)
    show (match f (a x) S with | .stk => Res.stk | .ok y S2 => (match mapF' (fun _ => M.pure true) f (l.map a) S2 with | .stk => Res.stk | .ok ys S3 => Res.ok (y :: ys) S3)) = _
    rw [h x List.mem_cons_self]
    show (match mapF' (fun _ => M.pure true) f (l.map a) S with | .stk => Res.stk | .ok ys S3 => Res.ok (b x :: ys) S3) = _
    rw [ih]
    rfl
theorem En.mono {e : En} {n m : Nat} (h : e.Ok n) (hn : n ≤ m) : e.Ok m := by
  cases e with
  | go w k =>
    have h : k < n := h
    show k < m
    omega
  | _ => exact h
/-- an item: a word of a test, a small number -/
def ItE (x : D) : Prop := (∃ w : Wo, x = w.d) ∨ ∃ i : Int, x = .int i ∧ 0 ≤ i ∧ i ≤ 100
theorem En.itE {e : En} {n : Nat} (h : e.Ok n) (hn : n ≤ 8) : ∀ x ∈ e.its, ItE x := by
  intro x hx
  cases e with
  | inn m =>
    have h : 1 ≤ m ∧ m ≤ 4 := h
    exact .inr ⟨m, List.mem_singleton.mp hx, by omega, by omega⟩
  | rest m =>
    have h : 1 ≤ m ∧ m ≤ 60 := h
    exact .inr ⟨m, List.mem_singleton.mp hx, by omega, by omega⟩
  | go w k =>
    have h : k < n := h
    rcases List.mem_cons.mp hx with e | hx
    · exact .inl ⟨w, e⟩
    · exact .inr ⟨k, List.mem_singleton.mp hx, by omega, by omega⟩
  | _ => cases hx
theorem dep_en (e : En) : D.dep e.d = 1 := by
  cases e with
  | go w n => cases w <;> rfl
  | _ => rfl
end Lk
namespace Ev
mutual
theorem eqv_refl : ∀ {d : D}, D.cmpb d = true → D.eqv d d = true
  | .non, _ => rfl
  | .bl b, _ => by cases b <;> rfl
  | .int i, _ => by show (i == i) = true; exact beq_self_eq_true i
  | .str s, _ => by show (s == s) = true; exact beq_self_eq_true s
  | .tup xs, h => eqvs_refl (xs := xs) h
  | .lst xs, h => eqvs_refl (xs := xs) h
  | .rol _, h => by cases h
  | .loc _, h => by cases h
  | .fn _, h => by cases h
  | .dic _ _, h => by cases h
theorem eqvs_refl : ∀ {xs : List D}, D.cmpbs xs = true → D.eqvs xs xs = true
  | [], _ => rfl
  | x :: xs, h => by
    obtain ⟨h1, h2⟩ := Bool.and_eq_true_iff.mp (show (D.cmpb x && D.cmpbs xs) = true from h)
    show (D.eqv x x && D.eqvs xs xs) = true
    rw [eqv_refl h1, eqvs_refl h2] <;> rfl
end
theorem deps_le {m : Nat} : ∀ {xs : List D}, (∀ x ∈ xs, D.dep x ≤ m) → D.deps xs ≤ m
  | [], _ => Nat.zero_le _
  | x :: xs, h => Nat.max_le.mpr ⟨h x List.mem_cons_self, deps_le fun y hy => h y (List.mem_cons_of_mem _ hy)⟩
theorem rep1 (x : D) : ∀ n : Nat, rep n [x] = List.replicate n x
  | 0 => rfl
  | n + 1 => by
    unfold rep
    rw [List.replicate_succ, List.flatten_cons, List.replicate_succ, ← rep1 x n]
    rfl
end Ev

/-! Texts that may be no books. -/
namespace Ev
open PySem L2
theorem splt_hd (c : Nat) : ∀ t : List Nat, ∃ w ws, splt c t = w :: ws
  | [] => ⟨[], [], rfl⟩
  | x :: t => by
    obtain ⟨w, ws, e⟩ := splt_hd c t
    show ∃ v vs, (if x == c then [] :: splt c t else (match splt c t with
      | h :: t => (x :: h) :: t
      | [] => [[x]])) = v :: vs
    rw [e]
    by_cases h : (x == c) = true
    · rw [if_pos h]
      exact ⟨_, _, rfl⟩
    · rw [if_neg h]
      exact ⟨_, _, rfl⟩
theorem splt_c {c x : Nat} {t w : List Nat} {ws : List (List Nat)} (e : splt c t = w :: ws) : splt c (x :: t) = if x == c then [] :: w :: ws else (x :: w) :: ws := by
  show (if x == c then [] :: splt c t else (match splt c t with
      | h :: t => (x :: h) :: t
      | [] => [[x]])) = _
  rw [e]
theorem splt_len (c : Nat) : ∀ t : List Nat, sumLen (splt c t) + (splt c t).length = t.length + 1
  | [] => rfl
  | x :: t => by
    obtain ⟨w, ws, e⟩ := splt_hd c t
    have ih := splt_len c t
    rw [splt_c e]
    rw [e, sum_c, List.length_cons] at ih
    by_cases h : (x == c) = true
    · rw [if_pos h, sum_c, sum_c, List.length_cons, List.length_cons, List.length_nil, List.length_cons]
      omega
    · rw [if_neg h, sum_c, List.length_cons, List.length_cons, List.length_cons]
      omega
theorem join_c (c : Nat) (w : List Nat) {l : List (List Nat)} (h : l ≠ []) : joinS [c] (w :: l) = w ++ c :: joinS [c] l := by
  cases l with
  | nil => exact absurd rfl h
  | cons v l =>
    show w ++ [c] ++ joinS [c] (v :: l) = _
    rw [List.append_assoc]
    rfl
theorem join_splt (c : Nat) : ∀ t : List Nat, joinS [c] (splt c t) = t
  | [] => rfl
  | x :: t => by
    obtain ⟨w, ws, e⟩ := splt_hd c t
    have ih := join_splt c t
    rw [splt_c e]
    rw [e] at ih
    by_cases h : (x == c) = true
    · rw [if_pos h, join_c c [] (by simp), ih, beq_iff_eq.mp h]
      rfl
    · rw [if_neg h]
      cases ws with
      | nil =>
        have ih : w = t := ih
        show x :: w = x :: t
        rw [ih]
      | cons v ws =>
        rw [join_c c w (by simp)] at ih
        rw [join_c c (x :: w) (by simp), List.cons_append, ih]
theorem mem_sum {w : List Nat} : ∀ {l : List (List Nat)}, w ∈ l → w.length ≤ sumLen l
  | v :: l, h => by
    rw [sum_c]
    rcases List.mem_cons.mp h with e | h
    · rw [e]
      omega
    · have := mem_sum h
      omega
theorem splt_wd {c : Nat} {t w : List Nat} (h : w ∈ splt c t) : w.length ≤ t.length := by
  have h1 := mem_sum h
  have h2 := splt_len c t
  have h3 := List.length_pos_of_mem h
  omega
theorem splt_le (c : Nat) (t : List Nat) : (splt c t).length ≤ t.length + 1 := by
  have := splt_len c t
  omega
theorem sum_app (a b : List (List Nat)) : sumLen (a ++ b) = sumLen a + sumLen b := by
  unfold sumLen
  rw [List.map_append, List.sum_append]
/-- parts and their ends -/
def ms (l : List (List Nat)) : Nat := sumLen l + l.length
theorem ms_app (a b : List (List Nat)) : ms (a ++ b) = ms a + ms b := by
  unfold ms
  rw [sum_app, List.length_append]
  omega
theorem ms_cut (l : List (List Nat)) (n : Nat) : ms (l.take n) + ms (l.drop n) = ms l := by
  rw [← ms_app, List.take_append_drop]
theorem ms_rev (l : List (List Nat)) : ms l.reverse = ms l := by
  unfold ms sumLen
  rw [List.map_reverse, List.sum_reverse, List.length_reverse]
theorem jn_ms (c : Nat) : ∀ l : List (List Nat), (joinS [c] l).length ≤ ms l - 1
  | [] => Nat.zero_le _
  | [w] => by
    show w.length ≤ _
    unfold ms
    rw [sum_c]
    show _ ≤ w.length + sumLen [] + 1 - 1
    omega
  | w :: v :: l => by
    have ih := jn_ms c (v :: l)
    have p : 1 ≤ ms (v :: l) := by
      unfold ms
      rw [List.length_cons]
      omega
    rw [join_c c w (by simp), List.length_append, List.length_cons]
    have e : ms (w :: v :: l) = w.length + 1 + ms (v :: l) := by
      unfold ms
      rw [sum_c, List.length_cons]
      omega
    omega
theorem ms_splt (c : Nat) (t : List Nat) : ms (splt c t) = t.length + 1 := splt_len c t
theorem cutS_to {α : Type} {xs : List α} {k : Int} (h : 0 ≤ k) : cut xs none (some k) = xs.take k.toNat := by
  unfold cut
  rw [sIx_s h, HT.sIx_none, List.drop_zero, Nat.sub_zero, ← List.take_take, List.take_length]
theorem cutS_from {α : Type} {xs : List α} {k : Int} (h : 0 ≤ k) : cut xs (some k) none = xs.drop k.toNat := by
  unfold cut
  rw [sIx_s h, HT.sIx_none]
  by_cases hk : k.toNat ≤ xs.length
  · rw [Nat.min_eq_left hk, List.take_of_length_le (by rw [List.length_drop]; omega)]
  · rw [List.drop_eq_nil_of_le (by omega), List.drop_eq_nil_of_le (by omega), List.take_nil]
theorem cutS_mid {α : Type} {xs : List α} {k m : Int} (h : 0 ≤ k) (hm : 0 ≤ m) (hk : k.toNat ≤ xs.length) : cut xs (some k) (some m) = (xs.drop k.toNat).take (m.toNat - k.toNat) := by
  unfold cut
  rw [sIx_s h, sIx_s hm, Nat.min_eq_left hk]
  by_cases h2 : m.toNat ≤ xs.length
  · rw [Nat.min_eq_left h2]
  · rw [Nat.min_eq_right (by omega), List.take_of_length_le (by rw [List.length_drop]; omega), List.take_of_length_le (by rw [List.length_drop]; omega)]
/-! ### the words of a line -/
/-- a number as the program reads it -/
def numP (w : List Nat) : D := if w.isEmpty || (decide (3 < w.length) || !w.all isDig) then .non else if sN (dval w : Nat) == w then .int (dval w : Nat) else .non
/-- .. as the law looks for it -/
def numL (w : List Nat) : D := match (List.range 101).find? (fun i => sN (i : Nat) == w) with
  | some i => .int (i : Nat)
  | none => .str [110, 111, 110, 101]
theorem dval_le {w : List Nat} (h : w.length ≤ 3) (hd : w.all isDig = true) : dval w ≤ 999 := by
  have dg : ∀ x ∈ w, x ≤ 57 := fun x m => by
    have q := List.all_eq_true.mp hd x m
    unfold isDig at q
    rw [Bool.and_eq_true, decide_eq_true_eq, decide_eq_true_eq] at q
    exact q.2
  rcases w with _ | ⟨a, _ | ⟨b, _ | ⟨c, _ | ⟨d, r⟩⟩⟩⟩
  · show 0 ≤ 999
    decide
  · have := dg a (by simp)
    show 0 * 10 + (a - 48) ≤ 999
    omega
  · have := dg a (by simp)
    have := dg b (by simp)
    show (0 * 10 + (a - 48)) * 10 + (b - 48) ≤ 999
    omega
  · have := dg a (by simp)
    have := dg b (by simp)
    have := dg c (by simp)
    show ((0 * 10 + (a - 48)) * 10 + (b - 48)) * 10 + (c - 48) ≤ 999
    omega
  · simp at h
theorem str_n {n : Nat} (h : n ≤ 999) : blt .str [.int (n : Int)] = some (.str (sN n)) := by
  show (if (n : Int).natAbs < 2 ^ 1000 then some (D.str (codesOf (toString (n : Int) : String))) else none) = _
  have : (n : Int).natAbs < 2 ^ 1000 := Nat.lt_of_le_of_lt (show (n : Int).natAbs ≤ 999 by omega) (by decide +kernel)
  rw [if_pos this] <;> rfl
theorem numP_sN {n : Nat} (h : n ≤ 100) : numP (sN n) = .int n := by
  obtain ⟨_, h2, h3, h4, h5⟩ := sN_ok (i := n) (by omega) (by omega)
  have e : dval (sN n) = n := by omega
  unfold numP
  rw [h2, h4, decide_eq_false (by omega), e, beq_self_eq_true]
  rfl
theorem numL_sN {n : Nat} (h : n ≤ 100) : numL (sN n) = .int n := by
  unfold numL
  cases q : (List.range 101).find? (fun i => sN (i : Nat) == sN n) with
  | none =>
    have z := List.find?_eq_none.mp q n (List.mem_range.mpr (by omega))
    exact absurd (beq_self_eq_true _) z
  | some i =>
    have h1 := List.find?_some q
    have h2 := List.mem_range.mp (List.mem_of_find?_eq_some q)
    have e : sN (i : Nat) = sN n := by simpa using h1
    have a := (sN_ok (i := i) (by omega) (by omega)).2.2.2.2
    have b := (sN_ok (i := n) (by omega) (by omega)).2.2.2.2
    rw [e] at a
    have : (i : Int) = n := by omega
    rw [show i = n from by omega]
theorem numP_cases (w : List Nat) : numP w = .non ∨ (numP w = .int (dval w : Nat) ∧ w = sN (dval w : Nat)) := by
  unfold numP
  by_cases h : (w.isEmpty || (decide (3 < w.length) || !w.all isDig)) = true
  · exact .inl (if_pos h)
  · rw [if_neg h]
    by_cases h2 : (sN (dval w : Nat) == w) = true
    · exact .inr ⟨if_pos h2, (beq_iff_eq.mp h2).symm⟩
    · exact .inl (if_neg h2)
theorem numL_cases (w : List Nat) : numL w = .str [110, 111, 110, 101] ∨ ∃ n : Nat, n ≤ 100 ∧ w = sN n := by
  unfold numL
  cases q : (List.range 101).find? (fun i => sN (i : Nat) == w) with
  | none => exact .inl rfl
  | some i =>
    have h1 := List.find?_some q
    have h2 := List.mem_range.mp (List.mem_of_find?_eq_some q)
    exact .inr ⟨i, by omega, (beq_iff_eq.mp h1).symm⟩
@[simp ↓] theorem x_rsv (X : Cfg) (c : Nat) (e : E) (ρ : Env) (S : Sto) : ex X (.rsv c e) ρ S = (M.bind (ev X e ρ) (fun x => M.bind (M.opt (toI x)) (fun i => M.pure (.ex c (.int i))))) S := (rfl)
theorem if_ex {X : Cfg} {c : B} {a b r : Ts} {ρ : Env} {S S1 S2 : Sto} {k : Nat} {d : D} (ht : tst X c ρ S = .ok true S1) (h : exs X a ρ S1 = .ok (.ex k d) S2) : exs X (.cons (.ifs c a b) r) ρ S = .ok (.ex k d) S2 := by
  simp only [xs_c, bind_ap, x_ifs, ht, h, pure_ap]
end Ev

namespace Hd
open PySem PySem.Spec PyProof.Rows L2 Ev
def top (i : Nat) : Stmt := PySem.Challenge.pw_lockbooks_k12_strings_that_are_no_books.main.body.getD i (.Pass ⟨0, 0, 0, 0⟩)
def mk (x : Str) (i : Nat) (ps : List Str) (N : List Str) (n : Nat) (b : Ts) : Df := ⟨x, x, defArgs (top i), defBody (top i), defScope (top i), N, ps, ⟨ps.length, n, b⟩⟩
/-- is_int -/
def b_is_int : Ts := .cons (.ret (.and (.isi (.var 0) [.int]) (.and (.not (.isi (.var 0) [.bool])) (.chn .le .le (.var 1) (.var 0) (.var 2))))) (.nil)
def d_is_int : Df := mk "is_int" 15 ["value", "low", "high"] ["value", "low", "high"] 3 b_is_int
/-- is_one_of -/
def b_is_one_of : Ts := .cons (.ret (.and (.isi (.var 0) [.str]) (.cmp .isin (.var 0) (.var 1)))) (.nil)
def d_is_one_of : Df := mk "is_one_of" 16 ["value", "words"] ["value", "words"] 2 b_is_one_of
/-- is_lock -/
def b_is_lock : Ts := .cons (.ifs (.or (.not (.e (.isi (.var 0) [.tup]))) (.cmp .ne (.blt .len (.cons (.var 0) .nil)) (.int 4))) (.cons (.ret (.bl false)) (.nil)) (.nil)) (.cons (.ifs (.or (.not (.e (.call 0 (.cons (.idx (.var 0) (.int 0)) (.cons (.int 1) (.cons (.int 4) .nil)))))) (.or (.not (.e (.call 0 (.cons (.idx (.var 0) (.int 1)) (.cons (.int 1) (.cons (.int 20) .nil)))))) (.not (.e (.call 0 (.cons (.idx (.var 0) (.int 2)) (.cons (.int 0) (.cons (.int 100) .nil)))))))) (.cons (.ret (.bl false)) (.nil)) (.nil)) (.cons (.ret (.and (.call 0 (.cons (.idx (.var 0) (.int 3)) (.cons (.int 0) (.cons (.int 10) .nil)))) (.cmp .le (.bin .mul (.idx (.var 0) (.int 0)) (.idx (.var 0) (.int 3))) (.idx (.var 0) (.int 2))))) (.nil)))
def d_is_lock : Df := mk "is_lock" 17 ["value"] ["value"] 1 b_is_lock
/-- is_entry -/
def b_is_entry : Ts := .cons (.ifs (.or (.not (.e (.isi (.var 0) [.tup]))) (.or (.not (.chn .le .le (.int 1) (.blt .len (.cons (.var 0) .nil)) (.int 3))) (.not (.e (.isi (.idx (.var 0) (.int 0)) [.str]))))) (.cons (.ret (.bl false)) (.nil)) (.nil)) (.cons (.ifs (.cmp .isin (.idx (.var 0) (.int 0)) (.tup (.cons (.str [116, 117, 114, 110]) (.cons (.str [111, 117, 116]) (.cons (.str [101, 110, 100]) .nil))))) (.cons (.ret (.cmp .eq (.blt .len (.cons (.var 0) .nil)) (.int 1))) (.nil)) (.nil)) (.cons (.ifs (.cmp .eq (.idx (.var 0) (.int 0)) (.str [105, 110])) (.cons (.ret (.and (.cmp .eq (.blt .len (.cons (.var 0) .nil)) (.int 2)) (.call 0 (.cons (.idx (.var 0) (.int 1)) (.cons (.int 1) (.cons (.int 4) .nil)))))) (.nil)) (.nil)) (.cons (.ifs (.cmp .eq (.idx (.var 0) (.int 0)) (.str [114, 101, 115, 116])) (.cons (.ret (.and (.cmp .eq (.blt .len (.cons (.var 0) .nil)) (.int 2)) (.call 0 (.cons (.idx (.var 0) (.int 1)) (.cons (.int 1) (.cons (.int 60) .nil)))))) (.nil)) (.nil)) (.cons (.ret (.and (.cmp .eq (.idx (.var 0) (.int 0)) (.str [103, 111])) (.and (.cmp .eq (.blt .len (.cons (.var 0) .nil)) (.int 3)) (.and (.call 1 (.cons (.idx (.var 0) (.int 1)) (.cons (.glo 1) .nil))) (.call 0 (.cons (.idx (.var 0) (.int 2)) (.cons (.int 0) (.cons (.bin .sub (.var 1) (.int 1)) .nil)))))))) (.nil)))))
def d_is_entry : Df := mk "is_entry" 18 ["value", "many"] ["value", "many"] 2 b_is_entry
/-- is_book -/
def b_is_book : Ts := .cons (.ifs (.or (.not (.e (.isi (.var 0) [.tup]))) (.or (.cmp .ne (.blt .len (.cons (.var 0) .nil)) (.int 2)) (.not (.e (.call 2 (.cons (.idx (.var 0) (.int 0)) .nil)))))) (.cons (.ret (.bl false)) (.nil)) (.nil)) (.cons (.ifs (.or (.not (.e (.isi (.idx (.var 0) (.int 1)) [.tup]))) (.not (.chn .le .le (.int 1) (.blt .len (.cons (.idx (.var 0) (.int 1)) .nil)) (.glo 0)))) (.cons (.ret (.bl false)) (.nil)) (.nil)) (.cons (.ret (.blt .all (.cons (.lc (.nm 1) (.seq (.idx (.var 0) (.int 1))) (.call 3 (.cons (.var 1) (.cons (.blt .len (.cons (.idx (.var 0) (.int 1)) .nil)) .nil))) [1]) .nil))) (.nil)))
def d_is_book : Df := mk "is_book" 19 ["value"] ["value", "entry"] 2 b_is_book
/-- need_book -/
def b_need_book : Ts := .cons (.ifs (.not (.e (.call 4 (.cons (.var 0) .nil)))) (.cons (.rse 1) (.nil)) (.nil)) (.nil)
def d_need_book : Df := mk "need_book" 20 ["book"] ["book"] 1 b_need_book
/-- line_of -/
def b_line_of : Ts := .cons (.ret (.join [32] (.bin .add (.lst (.cons (.var 0) .nil)) (.lc (.nm 2) (.seq (.var 1)) (.blt .str (.cons (.var 2) .nil)) [2])))) (.nil)
def d_line_of : Df := mk "line_of" 23 ["word", "items"] ["word", "items", "item"] 3 b_line_of
/-- text_of -/
def b_text_of : Ts := .cons (.ret (.join [10] (.bin .add (.lst (.cons (.call 6 (.cons (.str [108, 111, 99, 107]) (.cons (.idx (.var 0) (.int 0)) .nil))) .nil)) (.lc (.nm 1) (.seq (.idx (.var 0) (.int 1))) (.call 6 (.cons (.idx (.var 1) (.int 0)) (.cons (.slL (.var 1) (.int 1)) .nil))) [1])))) (.nil)
def d_text_of : Df := mk "text_of" 24 ["book"] ["book", "entry"] 2 b_text_of
/-- number_in -/
def b_number_in : Ts := .cons (.ifs (.or (.cmp .eq (.var 0) (.str [])) (.or (.cmp .gt (.blt .len (.cons (.var 0) .nil)) (.int 3)) (.not (.e (.blt .all (.cons (.lc (.nm 1) (.seq (.var 0)) (.cmp .isin (.var 1) (.glo 2)) [1]) .nil)))))) (.cons (.ret (.non)) (.nil)) (.nil)) (.cons (.ret (.ife (.cmp .eq (.blt .str (.cons (.blt .int (.cons (.var 0) .nil)) .nil)) (.var 0)) (.blt .int (.cons (.var 0) .nil)) (.non))) (.nil))
def d_number_in : Df := mk "number_in" 25 ["word"] ["word", "sign"] 2 b_number_in
def b_line_in_1 : Ts := .cons (.app 2 (.ife (.cmp .isin (.var 3) (.glo 1)) (.var 3) (.call 8 (.cons (.var 3) .nil)))) (.nil)
/-- line_in -/
def b_line_in : Ts := .cons (.asg 1 (.meth .split 0 (.str [32]))) (.cons (.ifs (.cmp .eq (.idx (.var 1) (.int 0)) (.str [108, 111, 99, 107])) (.cons (.asg 5 (.blt .tuple (.cons (.lc (.nm 3) (.seq (.slL (.var 1) (.int 1))) (.call 8 (.cons (.var 3) .nil)) [3]) .nil))) (.cons (.ret (.ife (.e (.call 2 (.cons (.var 5) .nil))) (.tup (.cons (.str [108, 111, 99, 107]) (.cons (.var 5) .nil))) (.non))) (.nil))) (.nil)) (.cons (.asgO 2 (.lst (.cons (.idx (.var 1) (.int 0)) .nil))) (.cons (.fors (.nm 3) (.seq (.slL (.var 1) (.int 1))) b_line_in_1) (.cons (.asg 4 (.blt .tuple (.cons (.var 2) .nil))) (.cons (.ret (.ife (.e (.call 3 (.cons (.var 4) (.cons (.glo 0) .nil)))) (.tup (.cons (.str [101, 110, 116, 114, 121]) (.cons (.var 4) .nil))) (.non))) (.nil))))))
def d_line_in : Df := mk "line_in" 26 ["line"] ["line", "words", "items", "word", "entry", "lock"] 6 b_line_in
/-- read_so -/
def b_read_so : Ts := .cons (.ifs (.not (.e (.isi (.var 0) [.str]))) (.cons (.rsv 5 (.int 0)) (.nil)) (.nil)) (.cons (.asg 1 (.lc (.nm 3) (.seq (.meth .split 0 (.str [10]))) (.call 9 (.cons (.var 3) .nil)) [3])) (.cons (.ifs (.cmp .isin (.non) (.var 1)) (.cons (.rsv 5 (.bin .add (.meth .index 1 (.non)) (.int 1))) (.nil)) (.nil)) (.cons (.asg 2 (.blt .tuple (.cons (.lcf (.tp (.cons (.nm 4) (.cons (.nm 5) (.nil)))) (.seq (.var 1)) (.cmp .eq (.var 4) (.str [101, 110, 116, 114, 121])) (.var 5) [4, 5]) .nil))) (.cons (.ifs (.or (.cmp .ne (.lc (.tp (.cons (.nm 4) (.cons (.nm 5) (.nil)))) (.seq (.var 1)) (.var 4) [4, 5]) (.bin .add (.lst (.cons (.str [108, 111, 99, 107]) .nil)) (.bin .mul (.lst (.cons (.str [101, 110, 116, 114, 121]) .nil)) (.blt .len (.cons (.var 2) .nil))))) (.not (.e (.call 4 (.cons (.tup (.cons (.idx (.idx (.var 1) (.int 0)) (.int 1)) (.cons (.var 2) .nil))) .nil))))) (.cons (.rsv 5 (.bin .add (.blt .len (.cons (.var 1) .nil)) (.int 1))) (.nil)) (.nil)) (.cons (.ret (.tup (.cons (.idx (.idx (.var 1) (.int 0)) (.int 1)) (.cons (.var 2) .nil)))) (.nil))))))
def d_read_so : Df := mk "read_so" 27 ["value"] ["value", "rows", "entries", "line", "word", "found"] 6 b_read_so
/-- book_text -/
def b_book_text : Ts := .cons (.exX 5 (.cons (.var 0) .nil)) (.cons (.ret (.call 7 (.cons (.var 0) .nil))) (.nil))
def d_book_text : Df := mk "book_text" 28 ["book"] ["book"] 1 b_book_text
/-- read_book -/
def b_read_book : Ts := .cons (.retX 10 (.cons (.var 0) .nil)) (.nil)
def d_read_book : Df := mk "read_book" 29 ["value"] ["value"] 1 b_read_book
/-- _law_weir -/
def b__law_weir : Ts := .cons (.asg 2 (.bin .add (.bin .mul (.int 30011) (.var 1)) (.int 67))) (.cons (.ifs (.cmp .lt (.var 1) (.blt .len (.cons (.var 0) .nil))) (.cons (.asg 2 (.bin .mod (.blt .abs (.cons (.blt .int (.cons (.idx (.var 0) (.var 1)) .nil)) .nil)) (.bin .mul (.bin .mul (.bin .mul (.bin .pow (.int 10) (.int 60)) (.bin .pow (.int 10) (.int 60))) (.bin .pow (.int 10) (.int 60))) (.bin .pow (.int 10) (.int 60))))) (.nil)) (.cons (.ifs (.cmp .gt (.blt .len (.cons (.var 0) .nil)) (.int 0)) (.cons (.asg 2 (.bin .add (.var 2) (.bin .mod (.blt .abs (.cons (.blt .int (.cons (.idx (.var 0) (.int 0)) .nil)) .nil)) (.int 1000367)))) (.nil)) (.nil)) (.nil))) (.cons (.ret (.cell (.cons (.ife (.cmp .ge (.var 2) (.bin .pow (.int 10) (.int 18))) (.var 2) (.int 0)) (.cons (.bin .add (.bin .mod (.blt .int (.cons (.bin .add (.bin .add (.bin .mul (.bin .mod (.var 2) (.int 2147483003)) (.int 11)) (.bin .mul (.int 79) (.var 1))) (.int 37)) .nil)) (.int 2147483003)) (.int 1)) .nil)))) (.nil)))
def d__law_weir : Df := mk "_law_weir" 31 ["_law_script", "_law_k"] ["_law_script", "_law_k", "_law_cell"] 3 b__law_weir
def b__law_drop_1 : Ts := .cons (.setI 0 (.int 1) (.bin .mod (.blt .int (.cons (.bin .add (.bin .mul (.idx (.var 0) (.int 1)) (.int 23003)) (.int 89)) .nil)) (.int 2147483003))) (.cons (.asg 2 (.bin .add (.bin .mul (.var 2) (.int 8192)) (.bin .mod (.blt .int (.cons (.bin .fdiv (.idx (.var 0) (.int 1)) (.int 65629)) .nil)) (.int 8192)))) (.cons (.asg 3 (.bin .mul (.var 3) (.int 8192))) (.nil)))
/-- _law_drop -/
def b__law_drop : Ts := .cons (.ifs (.cmp .gt (.idx (.var 0) (.int 0)) (.int 0)) (.cons (.asg 2 (.bin .mod (.blt .int (.cons (.idx (.var 0) (.int 0)) .nil)) (.var 1))) (.cons (.setI 0 (.int 0) (.bin .fdiv (.idx (.var 0) (.int 0)) (.var 1))) (.cons (.ret (.var 2)) (.nil)))) (.nil)) (.cons (.unp (.tp (.cons (.nm 2) (.cons (.nm 3) (.nil)))) (.tup (.cons (.int 0) (.cons (.int 1) .nil)))) (.cons (.whl (.or (.cmp .lt (.var 3) (.var 1)) (.cmp .eq (.var 3) (.int 1))) b__law_drop_1) (.cons (.ret (.bin .mod (.blt .int (.cons (.var 2) .nil)) (.var 1))) (.nil))))
def d__law_drop : Df := mk "_law_drop" 32 ["_law_weir_here", "_law_many"] ["_law_weir_here", "_law_many", "_law_found", "_law_wide"] 4 b__law_drop
/-- _law_any -/
def b__law_any : Ts := .cons (.ret (.idx (.var 1) (.call 14 (.cons (.var 0) (.cons (.blt .len (.cons (.var 1) .nil)) .nil))))) (.nil)
def d__law_any : Df := mk "_law_any" 33 ["_law_weir_here", "_law_things"] ["_law_weir_here", "_law_things"] 2 b__law_any
/-- _law_one_entry -/
def b__law_one_entry : Ts := .cons (.asg 2 (.call 15 (.cons (.var 0) (.cons (.lst (.cons (.str [105, 110]) (.cons (.str [105, 110]) (.cons (.str [116, 117, 114, 110]) (.cons (.str [116, 117, 114, 110]) (.cons (.str [111, 117, 116]) (.cons (.str [111, 117, 116]) (.cons (.str [103, 111]) (.cons (.str [103, 111]) (.cons (.str [103, 111]) (.cons (.str [114, 101, 115, 116]) (.cons (.str [101, 110, 100]) .nil)))))))))))) .nil)))) (.cons (.ifs (.cmp .eq (.var 2) (.str [105, 110])) (.cons (.ret (.tup (.cons (.var 2) (.cons (.bin .add (.int 1) (.call 14 (.cons (.var 0) (.cons (.int 4) .nil)))) .nil)))) (.nil)) (.nil)) (.cons (.ifs (.cmp .eq (.var 2) (.str [114, 101, 115, 116])) (.cons (.ret (.tup (.cons (.var 2) (.cons (.call 15 (.cons (.var 0) (.cons (.lst (.cons (.int 1) (.cons (.int 2) (.cons (.int 7) (.cons (.int 60) .nil))))) .nil))) .nil)))) (.nil)) (.nil)) (.cons (.ifs (.cmp .eq (.var 2) (.str [103, 111])) (.cons (.asg 3 (.call 15 (.cons (.var 0) (.cons (.lst (.cons (.str [104, 101, 114, 101]) (.cons (.str [104, 101, 114, 101]) (.cons (.str [116, 104, 101, 114, 101]) (.cons (.str [116, 104, 101, 114, 101]) (.cons (.str [102, 117, 108, 108]) (.cons (.str [101, 109, 112, 116, 121]) (.cons (.str [104, 105, 103, 104]) (.cons (.str [97, 108, 119, 97, 121, 115]) .nil))))))))) .nil)))) (.cons (.ret (.tup (.cons (.var 2) (.cons (.var 3) (.cons (.call 14 (.cons (.var 0) (.cons (.var 1) .nil))) .nil))))) (.nil))) (.nil)) (.cons (.ret (.tup (.cons (.var 2) .nil))) (.nil)))))
def d__law_one_entry : Df := mk "_law_one_entry" 34 ["_law_weir_here", "_law_many"] ["_law_weir_here", "_law_many", "_law_word", "_law_test"] 4 b__law_one_entry
/-- _law_log_book -/
def b__law_log_book : Ts := .cons (.par2 4 5 (.call 15 (.cons (.var 0) (.cons (.lst (.cons (.int 1) (.cons (.int 1) (.cons (.int 2) (.cons (.int 3) (.cons (.int 4) .nil)))))) .nil))) (.call 14 (.cons (.var 0) (.cons (.int 4) .nil)))) (.cons (.asg 1 (.tup (.cons (.var 4) (.cons (.bin .add (.int 1) (.call 14 (.cons (.var 0) (.cons (.int 6) .nil)))) (.cons (.bin .add (.bin .mul (.var 4) (.var 5)) (.call 14 (.cons (.var 0) (.cons (.int 9) .nil)))) (.cons (.var 5) .nil)))))) (.cons (.asg 2 (.bin .add (.int 1) (.call 14 (.cons (.var 0) (.cons (.int 8) .nil))))) (.cons (.asg 3 (.blt .tuple (.cons (.lc (.nm 8) (.rng (.var 2)) (.call 16 (.cons (.var 0) (.cons (.var 2) .nil))) [8]) .nil))) (.cons (.ifs (.cmp .gt (.call 14 (.cons (.var 0) (.cons (.int 3) .nil))) (.int 0)) (.cons (.asg 6 (.lst (.cons (.tup (.cons (.str [105, 110]) (.cons (.bin .add (.int 1) (.call 14 (.cons (.var 0) (.cons (.int 3) .nil)))) .nil))) (.cons (.tup (.cons (.str [116, 117, 114, 110]) .nil)) (.cons (.tup (.cons (.str [111, 117, 116]) .nil)) .nil))))) (.cons (.asg 3 (.blt .tuple (.cons (.bin .add (.bin .add (.var 6) (.var 6)) (.lst (.cons (.tup (.cons (.str [103, 111]) (.cons (.str [104, 101, 114, 101]) (.cons (.int 0) .nil)))) (.cons (.tup (.cons (.str [103, 111]) (.cons (.str [116, 104, 101, 114, 101]) (.cons (.call 14 (.cons (.var 0) (.cons (.int 4) .nil))) .nil)))) .nil)))) .nil))) (.cons (.ifs (.cmp .eq (.call 14 (.cons (.var 0) (.cons (.int 2) .nil))) (.int 0)) (.cons (.asg 7 (.call 14 (.cons (.var 0) (.cons (.int 8) .nil)))) (.cons (.asg 3 (.bin .add (.bin .add (.slU (.var 3) (.var 7)) (.tup (.cons (.call 16 (.cons (.var 0) (.cons (.int 8) .nil))) .nil))) (.slL (.var 3) (.bin .add (.var 7) (.int 1))))) (.nil))) (.nil)) (.nil)))) (.nil)) (.cons (.ret (.tup (.cons (.var 1) (.cons (.var 3) .nil)))) (.nil))))))
def d__law_log_book : Df := mk "_law_log_book" 35 ["_law_weir_here"] ["_law_weir_here", "_law_lock", "_law_many", "_law_entries_so", "_law_room", "_law_less", "_law_side", "_law_spot", "_law_turn"] 9 b__law_log_book
/-- _law_is_whole -/
def b__law_is_whole : Ts := .cons (.ret (.and (.isi (.var 0) [.int]) (.and (.not (.isi (.var 0) [.bool])) (.chn .le .le (.var 1) (.var 0) (.var 2))))) (.nil)
def d__law_is_whole : Df := mk "_law_is_whole" 36 ["_law_thing", "_law_low", "_law_high"] ["_law_thing", "_law_low", "_law_high"] 3 b__law_is_whole
/-- _law_is_lock -/
def b__law_is_lock : Ts := .cons (.ifs (.or (.not (.e (.isi (.var 0) [.tup]))) (.cmp .ne (.blt .len (.cons (.var 0) .nil)) (.int 4))) (.cons (.ret (.bl false)) (.nil)) (.nil)) (.cons (.asg 1 (.tup (.cons (.int 4) (.cons (.int 20) (.cons (.int 100) (.cons (.int 10) .nil)))))) (.cons (.ifs (.cmp .ne (.lcf (.nm 2) (.rng (.int 4)) (.not (.e (.call 18 (.cons (.idx (.var 0) (.var 2)) (.cons (.ife (.cmp .gt (.var 2) (.int 1)) (.int 0) (.int 1)) (.cons (.idx (.var 1) (.var 2)) .nil)))))) (.var 2) [2]) (.lst (.nil))) (.cons (.ret (.bl false)) (.nil)) (.nil)) (.cons (.ret (.cmp .le (.bin .mul (.idx (.var 0) (.int 0)) (.idx (.var 0) (.int 3))) (.idx (.var 0) (.int 2)))) (.nil))))
def d__law_is_lock : Df := mk "_law_is_lock" 37 ["_law_thing"] ["_law_thing", "_law_tops", "_law_place"] 3 b__law_is_lock
/-- _law_is_entry -/
def b__law_is_entry : Ts := .cons (.ifs (.or (.not (.e (.isi (.var 0) [.tup]))) (.or (.cmp .eq (.var 0) (.tup (.nil))) (.not (.e (.isi (.idx (.var 0) (.int 0)) [.str]))))) (.cons (.ret (.bl false)) (.nil)) (.nil)) (.cons (.ifs (.cmp .isin (.idx (.var 0) (.int 0)) (.tup (.cons (.str [116, 117, 114, 110]) (.cons (.str [111, 117, 116]) (.cons (.str [101, 110, 100]) .nil))))) (.cons (.ret (.cmp .eq (.blt .len (.cons (.var 0) .nil)) (.int 1))) (.nil)) (.nil)) (.cons (.ifs (.cmp .isin (.idx (.var 0) (.int 0)) (.tup (.cons (.str [105, 110]) (.cons (.str [114, 101, 115, 116]) .nil)))) (.cons (.ret (.and (.cmp .eq (.blt .len (.cons (.var 0) .nil)) (.int 2)) (.call 18 (.cons (.idx (.var 0) (.int 1)) (.cons (.int 1) (.cons (.ife (.cmp .eq (.idx (.var 0) (.int 0)) (.str [105, 110])) (.int 4) (.int 60)) .nil)))))) (.nil)) (.nil)) (.cons (.ifs (.or (.cmp .ne (.idx (.var 0) (.int 0)) (.str [103, 111])) (.or (.cmp .ne (.blt .len (.cons (.var 0) .nil)) (.int 3)) (.not (.e (.isi (.idx (.var 0) (.int 1)) [.str]))))) (.cons (.ret (.bl false)) (.nil)) (.nil)) (.cons (.asg 2 (.lst (.cons (.str [97, 108, 119, 97, 121, 115]) (.cons (.str [104, 101, 114, 101]) (.cons (.str [116, 104, 101, 114, 101]) (.cons (.str [102, 117, 108, 108]) (.cons (.str [101, 109, 112, 116, 121]) (.cons (.str [104, 105, 103, 104]) .nil)))))))) (.cons (.ret (.and (.cmp .isin (.idx (.var 0) (.int 1)) (.var 2)) (.call 18 (.cons (.idx (.var 0) (.int 2)) (.cons (.int 0) (.cons (.bin .sub (.var 1) (.int 1)) .nil)))))) (.nil))))))
def d__law_is_entry : Df := mk "_law_is_entry" 38 ["_law_thing", "_law_many"] ["_law_thing", "_law_many", "_law_tests_so"] 3 b__law_is_entry
/-- _law_is_book -/
def b__law_is_book : Ts := .cons (.ifs (.or (.not (.e (.isi (.var 0) [.tup]))) (.or (.cmp .ne (.blt .len (.cons (.var 0) .nil)) (.int 2)) (.not (.e (.call 19 (.cons (.idx (.var 0) (.int 0)) .nil)))))) (.cons (.ret (.bl false)) (.nil)) (.nil)) (.cons (.ifs (.or (.not (.e (.isi (.idx (.var 0) (.int 1)) [.tup]))) (.not (.chn .le .le (.int 1) (.blt .len (.cons (.idx (.var 0) (.int 1)) .nil)) (.int 8)))) (.cons (.ret (.bl false)) (.nil)) (.nil)) (.cons (.ret (.cmp .eq (.lcf (.nm 1) (.seq (.idx (.var 0) (.int 1))) (.not (.e (.call 20 (.cons (.var 1) (.cons (.blt .len (.cons (.idx (.var 0) (.int 1)) .nil)) .nil))))) (.var 1) [1]) (.lst (.nil)))) (.nil)))
def d__law_is_book : Df := mk "_law_is_book" 39 ["_law_thing"] ["_law_thing", "_law_entry"] 2 b__law_is_book
/-- _law_lines -/
def b__law_lines : Ts := .cons (.asg 1 (.lst (.cons (.bin .add (.str [108, 111, 99, 107, 32]) (.join [32] (.lc (.nm 3) (.seq (.idx (.var 0) (.int 0))) (.blt .str (.cons (.var 3) .nil)) [3]))) .nil))) (.cons (.ret (.bin .add (.var 1) (.lc (.nm 2) (.seq (.idx (.var 0) (.int 1))) (.join [32] (.lc (.nm 4) (.seq (.var 2)) (.blt .str (.cons (.var 4) .nil)) [4])) [2]))) (.nil))
def d__law_lines : Df := mk "_law_lines" 42 ["_law_log_book_here"] ["_law_log_book_here", "_law_found", "_law_entry", "_law_number", "_law_item"] 5 b__law_lines
def b__law_number_in_1 : Ts := .cons (.ifs (.cmp .eq (.var 0) (.blt .str (.cons (.var 1) .nil))) (.cons (.ret (.var 1)) (.nil)) (.nil)) (.nil)
/-- _law_number_in -/
def b__law_number_in : Ts := .cons (.fors (.nm 1) (.rng (.int 101)) b__law_number_in_1) (.cons (.ret (.str [110, 111, 110, 101])) (.nil))
def d__law_number_in : Df := mk "_law_number_in" 43 ["_law_word"] ["_law_word", "_law_number"] 2 b__law_number_in
/-- _law_line_in -/
def b__law_line_in : Ts := .cons (.asg 1 (.meth .split 0 (.str [32]))) (.cons (.ifs (.cmp .eq (.idx (.var 1) (.int 0)) (.str [108, 111, 99, 107])) (.cons (.asg 4 (.blt .tuple (.cons (.lc (.nm 5) (.seq (.slL (.var 1) (.int 1))) (.call 23 (.cons (.var 5) .nil)) [5]) .nil))) (.cons (.ret (.ife (.e (.call 19 (.cons (.var 4) .nil))) (.tup (.cons (.str [108, 111, 99, 107]) (.cons (.var 4) .nil))) (.non))) (.nil))) (.nil)) (.cons (.asg 2 (.lst (.cons (.str [97, 108, 119, 97, 121, 115]) (.cons (.str [104, 101, 114, 101]) (.cons (.str [116, 104, 101, 114, 101]) (.cons (.str [102, 117, 108, 108]) (.cons (.str [101, 109, 112, 116, 121]) (.cons (.str [104, 105, 103, 104]) .nil)))))))) (.cons (.asg 3 (.blt .tuple (.cons (.bin .add (.slU (.var 1) (.int 1)) (.lc (.nm 5) (.seq (.slL (.var 1) (.int 1))) (.ife (.cmp .isin (.var 5) (.var 2)) (.var 5) (.call 23 (.cons (.var 5) .nil))) [5])) .nil))) (.cons (.ret (.ife (.e (.call 20 (.cons (.var 3) (.cons (.int 8) .nil)))) (.tup (.cons (.str [101, 110, 116, 114, 121]) (.cons (.var 3) .nil))) (.non))) (.nil)))))
def d__law_line_in : Df := mk "_law_line_in" 44 ["_law_line"] ["_law_line", "_law_words", "_law_some", "_law_entry", "_law_lock", "_law_word"] 6 b__law_line_in
/-- _law_due -/
def b__law_due : Ts := .cons (.asg 1 (.lc (.nm 3) (.seq (.meth .split 0 (.str [10]))) (.call 24 (.cons (.var 3) .nil)) [3])) (.cons (.ifs (.cmp .isin (.non) (.var 1)) (.cons (.ret (.bin .add (.meth .index 1 (.non)) (.int 1))) (.nil)) (.nil)) (.cons (.ifs (.cmp .ne (.lc (.nm 4) (.seq (.var 1)) (.idx (.var 4) (.int 0)) [4]) (.bin .add (.lst (.cons (.str [108, 111, 99, 107]) .nil)) (.bin .mul (.lst (.cons (.str [101, 110, 116, 114, 121]) .nil)) (.bin .sub (.blt .len (.cons (.var 1) .nil)) (.int 1))))) (.cons (.ret (.bin .add (.blt .len (.cons (.var 1) .nil)) (.int 1))) (.nil)) (.nil)) (.cons (.asg 2 (.tup (.cons (.idx (.idx (.var 1) (.int 0)) (.int 1)) (.cons (.blt .tuple (.cons (.lc (.nm 4) (.seq (.slL (.var 1) (.int 1))) (.idx (.var 4) (.int 1)) [4]) .nil)) .nil)))) (.cons (.ret (.ife (.e (.call 21 (.cons (.var 2) .nil))) (.non) (.bin .add (.blt .len (.cons (.var 1) .nil)) (.int 1)))) (.nil)))))
def d__law_due : Df := mk "_law_due" 45 ["_law_string"] ["_law_string", "_law_rows", "_law_log_book_here", "_law_line", "_law_pair"] 5 b__law_due
/-- _law_bent -/
def b__law_bent : Ts := .cons (.par2 3 4 (.meth .split 1 (.str [10])) (.call 14 (.cons (.var 0) (.cons (.bin .add (.blt .len (.cons (.var 1) .nil)) (.int 1)) .nil)))) (.cons (.par2 5 6 (.call 14 (.cons (.var 0) (.cons (.int 7) .nil))) (.call 14 (.cons (.var 0) (.cons (.blt .len (.cons (.var 3) .nil)) .nil)))) (.cons (.asg 2 (.lst (.cons (.str []) (.cons (.str [108, 111, 99, 107, 32, 49, 32, 53, 32, 49, 48]) (.cons (.str [108, 111, 99, 107, 32, 52, 32, 53, 32, 49, 48, 32, 51]) (.cons (.str [108, 111, 99, 107, 32, 49, 32, 53, 32, 49, 48, 32, 50]) (.cons (.str [105, 110, 32, 53]) (.cons (.str [105, 110, 32, 48, 49]) (.cons (.str [116, 117, 114, 110, 32, 49]) (.cons (.str [114, 101, 115, 116, 32, 48]) (.cons (.str [114, 101, 115, 116, 32, 54, 48]) (.cons (.str [101, 110, 100]) .nil)))))))))))) (.cons (.asg 2 (.bin .add (.var 2) (.lst (.cons (.str [103, 111, 32, 104, 101, 114, 101, 32, 55]) (.cons (.str [103, 111, 32, 104, 101, 114, 101, 32, 56]) (.cons (.str [103, 111, 32, 110, 111, 119, 104, 101, 114, 101, 32, 48]) (.cons (.str [103, 111, 32, 104, 101, 114, 101]) (.cons (.str [111, 117, 116, 32, 32]) (.cons (.str [84, 117, 114, 110]) (.cons (.str [103, 111, 32, 102, 117, 108, 108, 32, 48]) (.cons (.str [105, 110, 32, 104, 101, 114, 101]) .nil))))))))))) (.cons (.ifs (.cmp .eq (.var 5) (.int 0)) (.cons (.ret (.bin .add (.bin .add (.slU (.var 1) (.var 4)) (.call 15 (.cons (.var 0) (.cons (.lst (.cons (.str [32]) (.cons (.str [45]) (.cons (.str [49]) (.cons (.str [10]) (.cons (.str [48]) .nil)))))) .nil)))) (.slL (.var 1) (.var 4)))) (.nil)) (.nil)) (.cons (.ifs (.cmp .eq (.var 5) (.int 1)) (.cons (.ret (.bin .add (.slU (.var 1) (.var 4)) (.slL (.var 1) (.bin .add (.var 4) (.int 1))))) (.nil)) (.nil)) (.cons (.ifs (.cmp .eq (.var 5) (.int 2)) (.cons (.ret (.join [10] (.bin .add (.bin .add (.slU (.var 3) (.var 6)) (.lst (.cons (.call 15 (.cons (.var 0) (.cons (.var 2) .nil))) .nil))) (.slL (.var 3) (.var 6))))) (.nil)) (.nil)) (.cons (.ifs (.cmp .eq (.var 5) (.int 3)) (.cons (.ret (.join [10] (.bin .add (.bin .add (.slU (.var 3) (.var 6)) (.lst (.cons (.call 15 (.cons (.var 0) (.cons (.var 2) .nil))) .nil))) (.slL (.var 3) (.bin .add (.var 6) (.int 1)))))) (.nil)) (.nil)) (.cons (.ifs (.cmp .eq (.var 5) (.int 4)) (.cons (.ret (.join [10] (.bin .add (.slU (.var 3) (.var 6)) (.slL (.var 3) (.bin .add (.var 6) (.int 1)))))) (.nil)) (.nil)) (.cons (.ifs (.cmp .eq (.var 5) (.int 5)) (.cons (.asg 7 (.rev (.slB (.var 3) (.var 6) (.bin .add (.var 6) (.int 2))))) (.cons (.ret (.join [10] (.bin .add (.bin .add (.slU (.var 3) (.var 6)) (.var 7)) (.slL (.var 3) (.bin .add (.var 6) (.int 2)))))) (.nil))) (.nil)) (.cons (.ret (.join [10] (.bin .add (.var 3) (.slL (.var 3) (.var 6))))) (.nil)))))))))))
def d__law_bent : Df := mk "_law_bent" 46 ["_law_weir_here", "_law_string"] ["_law_weir_here", "_law_string", "_law_some", "_law_lines_here", "_law_spot", "_law_way", "_law_here", "_law_turned_so"] 8 b__law_bent
def b_law_1 : Ts := .cons (.ifs (.cmp .ne (.told 12 (.cons (.var 7) .nil)) (.tup (.cons (.str [73, 110, 118, 97, 108, 105, 100, 84, 101, 120, 116, 32, 43]) (.cons (.var 8) .nil)))) (.cons (.ret (.bl false)) (.nil)) (.nil)) (.nil)
def b_law_2 : Ts := .cons (.ifs (.cmp .ne (.told 12 (.cons (.var 6) .nil)) (.tup (.cons (.str [73, 110, 118, 97, 108, 105, 100, 84, 101, 120, 116, 32, 43]) (.cons (.int 0) .nil)))) (.cons (.ret (.bl false)) (.nil)) (.nil)) (.nil)
def b_law_3 : Ts := .cons (.asg 7 (.call 26 (.cons (.var 4) (.cons (.var 7) .nil)))) (.nil)
def b_law_4 : Ts := .cons (.asg 7 (.join [10] (.call 22 (.cons (.call 17 (.cons (.var 4) .nil)) .nil)))) (.cons (.fors (.nm 9) (.rng (.bin .add (.int 1) (.call 14 (.cons (.var 4) (.cons (.int 2) .nil))))) b_law_3) (.cons (.par2 10 11 (.call 25 (.cons (.var 7) .nil)) (.told 12 (.cons (.var 7) .nil))) (.cons (.ifs (.isN (.var 10)) (.cons (.ifs (.or (.cmp .ne (.idx (.var 11) (.int 0)) (.str [116, 111, 108, 100])) (.cmp .ne (.call 11 (.cons (.idx (.var 11) (.int 1)) .nil)) (.var 7))) (.cons (.ret (.bl false)) (.nil)) (.nil)) (.nil)) (.cons (.ifs (.cmp .ne (.var 11) (.tup (.cons (.str [73, 110, 118, 97, 108, 105, 100, 84, 101, 120, 116, 32, 43]) (.cons (.var 10) .nil)))) (.cons (.ret (.bl false)) (.nil)) (.nil)) (.nil))) (.nil))))
def b_law_5 : Ts := .cons (.asg 4 (.call 13 (.cons (.var 0) (.cons (.var 1) .nil)))) (.cons (.fors (.nm 5) (.rng (.int 10)) b_law_4) (.cons (.fors (.nm 6) (.seq (.lst (.cons (.non) (.cons (.int 5) (.cons (.lst (.cons (.str [108, 111, 99, 107, 32, 49, 32, 53, 32, 49, 48, 32, 50]) (.cons (.str [101, 110, 100]) .nil))) (.cons (.bl true) .nil)))))) b_law_2) (.nil)))
/-- law -/
def b_law : Ts := .cons (.fors (.nm 1) (.rng (.blt .max2 (.cons (.int 1) (.cons (.blt .min2 (.cons (.int 8) (.cons (.blt .len (.cons (.var 0) .nil)) .nil))) .nil)))) b_law_5) (.cons (.asg 2 (.str [108, 111, 99, 107, 32, 49, 32, 53, 32, 49, 48, 32, 50])) (.cons (.asg 3 (.lst (.cons (.tup (.cons (.str []) (.cons (.int 1) .nil))) (.cons (.tup (.cons (.var 2) (.cons (.int 2) .nil))) (.cons (.tup (.cons (.bin .add (.var 2) (.str [10, 103, 111, 32, 104, 101, 114, 101, 32, 49])) (.cons (.int 3) .nil))) (.cons (.tup (.cons (.bin .add (.var 2) (.str [10, 101, 110, 100, 10])) (.cons (.int 3) .nil))) (.cons (.tup (.cons (.bin .add (.var 2) (.bin .mul (.str [10, 101, 110, 100]) (.int 9))) (.cons (.int 11) .nil))) .nil))))))) (.cons (.fors (.tp (.cons (.nm 7) (.cons (.nm 8) (.nil)))) (.seq (.bin .add (.var 3) (.lst (.cons (.tup (.cons (.bin .add (.str [101, 110, 100, 10]) (.var 2)) (.cons (.int 3) .nil))) (.cons (.tup (.cons (.bin .add (.bin .add (.var 2) (.str [10])) (.var 2)) (.cons (.int 3) .nil))) (.cons (.tup (.cons (.bin .add (.var 2) (.str [10, 105, 110, 32, 53])) (.cons (.int 2) .nil))) .nil)))))) b_law_1) (.cons (.ret (.bl true)) (.nil)))))
def d_law : Df := mk "law" 47 ["_law_script"] ["_law_script", "_law_k", "_law_lock", "_law_rows", "_law_weir_here", "_law_turn", "_law_bad", "_law_string", "_law_number", "_law_change", "_law_due_here", "_law_found"] 12 b_law
def tab : List Df := ([d_is_int, d_is_one_of, d_is_lock, d_is_entry, d_is_book, d_need_book, d_line_of, d_text_of, d_number_in, d_line_in, d_read_so, d_book_text, d_read_book, d__law_weir, d__law_drop, d__law_any, d__law_one_entry, d__law_log_book, d__law_is_whole, d__law_is_lock, d__law_is_entry, d__law_is_book, d__law_lines, d__law_number_in, d__law_line_in] : List Df) ++ ([d__law_due, d__law_bent, d_law] : List Df)
def cs : List Gk := ([⟨"MOST_ENTRIES", .int (8)⟩, ⟨"TESTS", .tup [.str "always", .str "here", .str "there", .str "full", .str "empty", .str "high"]⟩, ⟨"FIGURES", .str "0123456789"⟩] : List Gk)
def xs : List Nat := [1, 5]
def loose : List Str := (["LockError", "InvalidBook", "InvalidNumber", "InvalidClaim", "InvalidWord", "InvalidHeard", "Unlike", "Ended", "NothingToUndo", "TooMany", "InvalidText", "MOST_ENTRIES", "TESTS", "is_int", "is_one_of", "is_lock", "is_entry", "is_book", "need_book", "FIGURES", "line_of", "text_of", "number_in", "line_in", "read_so"] : List Str) ++ (["book_text", "read_book", "_law_weir", "_law_drop", "_law_any", "_law_one_entry", "_law_log_book", "_law_is_whole", "_law_is_lock", "_law_is_entry", "_law_is_book", "_law_kinds", "_law_call", "_law_lines", "_law_number_in", "_law_line_in", "_law_due", "_law_bent"] : List Str)
theorem cs_good : cs.all (fun g => g.val.ok) = true := by decide +kernel
theorem xs_good : xnB cs = true := by decide +kernel
theorem tab_good : tab.all (Df.ok (tab.map (·.name)) (gnOf cs xs)) = true := by decide +kernel
def kcOf : List Stmt → Scope
  | [_, _, _, _, _, _, .Return (some (.Call _ [.ListComp _ _ sc _] _ _)) _] => sc
  | _ => defScope (top 41)
def clsDef (i j : Nat) : Stmt := match top i with
  | .ClassDef _ _ _ body _ _ _ _ _ _ _ => body.getD j (.Pass ⟨0, 0, 0, 0⟩)
  | _ => .Pass ⟨0, 0, 0, 0⟩
def two : TwoD := ⟨defArgs (top 41), defBody (top 41), defScope (top 41), defArgs (top 40), defBody (top 40), defScope (top 40), kcOf (defBody (top 40)), [⟨5, defArgs (clsDef 11 0), defBody (clsDef 11 0), defScope (clsDef 11 0)⟩]⟩
abbrev tl : List He.DefD := two.ds
theorem two_ok : two.ok = true := by decide +kernel
theorem two_k : KindB two.kb two.ks two.kc := fun Y c p H Q D hN C M S hfn hot hp hz hd hf q =>
  Hx.kinds_run (Q := Q) hN C M S hfn hot hp hz hd hf _ _ _ _ _ _ _ _ _ _ _ _ _ _ _ _ _ _ _ _ _ _ _ _ _ _ _ _ _ _ _ _ _ _ _ _ _ _ _ _ _ _ _ _ _ _ _ _ _ _ _ _ _ _ _ _ _ _ _ _ _ _ _ _ _ _ _ _ _ _ _ _ _ _ _ _ _ _ _ _ _ _ _ _ _ _ _ _ _ _ _ _ _ _ _ _ _ _ _ _ _ _ _ _ _ _ _ _ (by rfl) q
theorem two_c : CallB two.cb := fun SC hm hLE hk kk F hb hr =>
  Hx.gives_call SC hm hLE hk kk F hb hr _ _ _ _ _ _ _ _ _ _ _ _ _ _ _ _ _ _ _ _ _ _ _ _ _ _ _ _ _ _ _ _ _ _ _ _ _ _ _ _ _ _ _ _ _ _
theorem ini_ok : two.is.all IniD.ok = true := by decide +kernel
theorem ini_b : ∀ i ∈ two.is, IniB i := by
  intro i hi
  rcases List.mem_cons.mp hi with e | hi
  · rw [e]
    exact ⟨_, _, _, _, _, _, _, _, _, _, _, _, rfl, rfl⟩
  cases hi
theorem ini_has : ∀ e, (e = 5 ∨ e = 8) → e ∈ xs → ∃ i ∈ two.is, i.c = e := by
  rintro e (rfl | rfl) he
  · first | exact ⟨_, List.mem_cons_self, rfl⟩ | exact ⟨_, List.mem_cons_of_mem _ List.mem_cons_self, rfl⟩ | exact absurd he (by decide)
  · first | exact ⟨_, List.mem_cons_self, rfl⟩ | exact ⟨_, List.mem_cons_of_mem _ List.mem_cons_self, rfl⟩ | exact absurd he (by decide)
abbrev R : PySem.W.OpenRow := PySem.W.OpenLaw.row PySem.Challenge.rw_lockbooks_k12_strings_that_are_no_books
abbrev hk : PySem.W.Hook := Ev.hookY 5 (fasOf tab cs xs tl) (fnOf tab tl) [] (tfOf tab) (exOf tab cs xs tl)
def ob (s : PySem.W.SharedT) : He.AlX := Ev.obsY 5 (fasOf tab cs xs tl) (fnOf tab tl) [] (tfOf tab) (exOf tab cs xs tl) (HandSHeadRun.getT s)
theorem ob_eq (s : PySem.W.SharedT) : ob s = hk.obs s.abs := Ev.obsY_eq (HandSHeadRun.getT_eq s)
theorem run (w : World) : HandSHeadRun.RunEq R (PySem.W.view R.prog [47]) hk ob 4000 loose w := by
  intro os
  kernel_rfl
end Hd

namespace Hd
open PySem Ev
def GG : List D := cs.map fun g => g.val.d
abbrev C (n : Nat) : Calls := callN (tab.map Df.fd) GG 10000000 n
abbrev X (n : Nat) : Cfg := ⟨GG, C n, 10000000⟩
theorem c_is_int (n : Nat) (a0 a1 a2 : D) (S : Sto) : C (n+1) 0 [a0, a1, a2] S = (match exs (X n) b_is_int [some (.val a0), some (.val a1), some (.val a2)] S with | .stk => .stk | .ok fl S' => .ok (fin fl) S') := callN_succ (fd := d_is_int.fd) rfl rfl
theorem c_is_one_of (n : Nat) (a0 a1 : D) (S : Sto) : C (n+1) 1 [a0, a1] S = (match exs (X n) b_is_one_of [some (.val a0), some (.val a1)] S with | .stk => .stk | .ok fl S' => .ok (fin fl) S') := callN_succ (fd := d_is_one_of.fd) rfl rfl
theorem c_is_lock (n : Nat) (a0 : D) (S : Sto) : C (n+1) 2 [a0] S = (match exs (X n) b_is_lock [some (.val a0)] S with | .stk => .stk | .ok fl S' => .ok (fin fl) S') := callN_succ (fd := d_is_lock.fd) rfl rfl
theorem c_is_entry (n : Nat) (a0 a1 : D) (S : Sto) : C (n+1) 3 [a0, a1] S = (match exs (X n) b_is_entry [some (.val a0), some (.val a1)] S with | .stk => .stk | .ok fl S' => .ok (fin fl) S') := callN_succ (fd := d_is_entry.fd) rfl rfl
theorem c_is_book (n : Nat) (a0 : D) (S : Sto) : C (n+1) 4 [a0] S = (match exs (X n) b_is_book [some (.val a0), none] S with | .stk => .stk | .ok fl S' => .ok (fin fl) S') := callN_succ (fd := d_is_book.fd) rfl rfl
theorem c_need_book (n : Nat) (a0 : D) (S : Sto) : C (n+1) 5 [a0] S = (match exs (X n) b_need_book [some (.val a0)] S with | .stk => .stk | .ok fl S' => .ok (fin fl) S') := callN_succ (fd := d_need_book.fd) rfl rfl
theorem c_line_of (n : Nat) (a0 a1 : D) (S : Sto) : C (n+1) 6 [a0, a1] S = (match exs (X n) b_line_of [some (.val a0), some (.val a1), none] S with | .stk => .stk | .ok fl S' => .ok (fin fl) S') := callN_succ (fd := d_line_of.fd) rfl rfl
theorem c_text_of (n : Nat) (a0 : D) (S : Sto) : C (n+1) 7 [a0] S = (match exs (X n) b_text_of [some (.val a0), none] S with | .stk => .stk | .ok fl S' => .ok (fin fl) S') := callN_succ (fd := d_text_of.fd) rfl rfl
theorem c_number_in (n : Nat) (a0 : D) (S : Sto) : C (n+1) 8 [a0] S = (match exs (X n) b_number_in [some (.val a0), none] S with | .stk => .stk | .ok fl S' => .ok (fin fl) S') := callN_succ (fd := d_number_in.fd) rfl rfl
theorem c_line_in (n : Nat) (a0 : D) (S : Sto) : C (n+1) 9 [a0] S = (match exs (X n) b_line_in [some (.val a0), none, none, none, none, none] S with | .stk => .stk | .ok fl S' => .ok (fin fl) S') := callN_succ (fd := d_line_in.fd) rfl rfl
theorem c_read_so (n : Nat) (a0 : D) (S : Sto) : C (n+1) 10 [a0] S = (match exs (X n) b_read_so [some (.val a0), none, none, none, none, none] S with | .stk => .stk | .ok fl S' => .ok (fin fl) S') := callN_succ (fd := d_read_so.fd) rfl rfl
theorem c_book_text (n : Nat) (a0 : D) (S : Sto) : C (n+1) 11 [a0] S = (match exs (X n) b_book_text [some (.val a0)] S with | .stk => .stk | .ok fl S' => .ok (fin fl) S') := callN_succ (fd := d_book_text.fd) rfl rfl
theorem c_read_book (n : Nat) (a0 : D) (S : Sto) : C (n+1) 12 [a0] S = (match exs (X n) b_read_book [some (.val a0)] S with | .stk => .stk | .ok fl S' => .ok (fin fl) S') := callN_succ (fd := d_read_book.fd) rfl rfl
theorem c__law_weir (n : Nat) (a0 a1 : D) (S : Sto) : C (n+1) 13 [a0, a1] S = (match exs (X n) b__law_weir [some (.val a0), some (.val a1), none] S with | .stk => .stk | .ok fl S' => .ok (fin fl) S') := callN_succ (fd := d__law_weir.fd) rfl rfl
theorem c__law_drop (n : Nat) (a0 a1 : D) (S : Sto) : C (n+1) 14 [a0, a1] S = (match exs (X n) b__law_drop [some (.val a0), some (.val a1), none, none] S with | .stk => .stk | .ok fl S' => .ok (fin fl) S') := callN_succ (fd := d__law_drop.fd) rfl rfl
theorem c__law_any (n : Nat) (a0 a1 : D) (S : Sto) : C (n+1) 15 [a0, a1] S = (match exs (X n) b__law_any [some (.val a0), some (.val a1)] S with | .stk => .stk | .ok fl S' => .ok (fin fl) S') := callN_succ (fd := d__law_any.fd) rfl rfl
theorem c__law_one_entry (n : Nat) (a0 a1 : D) (S : Sto) : C (n+1) 16 [a0, a1] S = (match exs (X n) b__law_one_entry [some (.val a0), some (.val a1), none, none] S with | .stk => .stk | .ok fl S' => .ok (fin fl) S') := callN_succ (fd := d__law_one_entry.fd) rfl rfl
theorem c__law_log_book (n : Nat) (a0 : D) (S : Sto) : C (n+1) 17 [a0] S = (match exs (X n) b__law_log_book [some (.val a0), none, none, none, none, none, none, none, none] S with | .stk => .stk | .ok fl S' => .ok (fin fl) S') := callN_succ (fd := d__law_log_book.fd) rfl rfl
theorem c__law_is_whole (n : Nat) (a0 a1 a2 : D) (S : Sto) : C (n+1) 18 [a0, a1, a2] S = (match exs (X n) b__law_is_whole [some (.val a0), some (.val a1), some (.val a2)] S with | .stk => .stk | .ok fl S' => .ok (fin fl) S') := callN_succ (fd := d__law_is_whole.fd) rfl rfl
theorem c__law_is_lock (n : Nat) (a0 : D) (S : Sto) : C (n+1) 19 [a0] S = (match exs (X n) b__law_is_lock [some (.val a0), none, none] S with | .stk => .stk | .ok fl S' => .ok (fin fl) S') := callN_succ (fd := d__law_is_lock.fd) rfl rfl
theorem c__law_is_entry (n : Nat) (a0 a1 : D) (S : Sto) : C (n+1) 20 [a0, a1] S = (match exs (X n) b__law_is_entry [some (.val a0), some (.val a1), none] S with | .stk => .stk | .ok fl S' => .ok (fin fl) S') := callN_succ (fd := d__law_is_entry.fd) rfl rfl
theorem c__law_is_book (n : Nat) (a0 : D) (S : Sto) : C (n+1) 21 [a0] S = (match exs (X n) b__law_is_book [some (.val a0), none] S with | .stk => .stk | .ok fl S' => .ok (fin fl) S') := callN_succ (fd := d__law_is_book.fd) rfl rfl
theorem c__law_lines (n : Nat) (a0 : D) (S : Sto) : C (n+1) 22 [a0] S = (match exs (X n) b__law_lines [some (.val a0), none, none, none, none] S with | .stk => .stk | .ok fl S' => .ok (fin fl) S') := callN_succ (fd := d__law_lines.fd) rfl rfl
theorem c__law_number_in (n : Nat) (a0 : D) (S : Sto) : C (n+1) 23 [a0] S = (match exs (X n) b__law_number_in [some (.val a0), none] S with | .stk => .stk | .ok fl S' => .ok (fin fl) S') := callN_succ (fd := d__law_number_in.fd) rfl rfl
theorem c__law_line_in (n : Nat) (a0 : D) (S : Sto) : C (n+1) 24 [a0] S = (match exs (X n) b__law_line_in [some (.val a0), none, none, none, none, none] S with | .stk => .stk | .ok fl S' => .ok (fin fl) S') := callN_succ (fd := d__law_line_in.fd) rfl rfl
theorem c__law_due (n : Nat) (a0 : D) (S : Sto) : C (n+1) 25 [a0] S = (match exs (X n) b__law_due [some (.val a0), none, none, none, none] S with | .stk => .stk | .ok fl S' => .ok (fin fl) S') := callN_succ (fd := d__law_due.fd) rfl rfl
theorem c__law_bent (n : Nat) (a0 a1 : D) (S : Sto) : C (n+1) 26 [a0, a1] S = (match exs (X n) b__law_bent [some (.val a0), some (.val a1), none, none, none, none, none, none] S with | .stk => .stk | .ok fl S' => .ok (fin fl) S') := callN_succ (fd := d__law_bent.fd) rfl rfl
theorem c_law (n : Nat) (a0 : D) (S : Sto) : C (n+1) 27 [a0] S = (match exs (X n) b_law [some (.val a0), none, none, none, none, none, none, none, none, none, none, none] S with | .stk => .stk | .ok fl S' => .ok (fin fl) S') := callN_succ (fd := d_law.fd) rfl rfl
@[simp] theorem g_0 : GG[0]? = some (.int (8)) := rfl
@[simp] theorem g_1 : GG[1]? = some (.tup [.str [97, 108, 119, 97, 121, 115], .str [104, 101, 114, 101], .str [116, 104, 101, 114, 101], .str [102, 117, 108, 108], .str [101, 109, 112, 116, 121], .str [104, 105, 103, 104]]) := rfl
@[simp] theorem g_2 : GG[2]? = some (.str [48, 49, 50, 51, 52, 53, 54, 55, 56, 57]) := rfl
end Hd

namespace Hd
open PySem Ev Lk
local macro_rules
  | `(tactic| trivial) => `(tactic| simp [*])
def isI (d : D) (lo hi : Int) : Bool := match d with
  | .int i => decide (lo ≤ i) && decide (i ≤ hi)
  | _ => false
theorem isI_i (i lo hi : Int) : isI (.int i) lo hi = (decide (lo ≤ i) && decide (i ≤ hi)) := rfl
theorem isI_T {d : D} {lo hi : Int} (h : isI d lo hi = true) : ∃ i, d = .int i ∧ lo ≤ i ∧ i ≤ hi := by
  cases d <;> first | (cases h; done) | skip
  case int i =>
    rw [isI_i, Bool.and_eq_true, decide_eq_true_eq, decide_eq_true_eq] at h
    exact ⟨i, rfl, h⟩
@[simp] theorem is_int_ok (n : Nat) (d : D) (lo hi : Int) (S : Sto) (h : d.isiOk = true) : C (n+1) 0 [d, .int lo, .int hi] S = .ok (.val (.bl (isI d lo hi))) S := by
  rw [c_is_int, b_is_int]
  cases d <;> first | (cases h; done) | skip
  case int i =>
    rw [isI_i]
    by_cases h1 : lo ≤ i <;> by_cases h2 : i ≤ hi <;> trivial
  all_goals
    rw [show isI _ lo hi = false from rfl]
    trivial
def isS (d : D) (ws : List D) : Bool := match d with
  | .str cs => inD (.str cs) ws
  | _ => false
@[simp] theorem is_one_of_ok (n : Nat) (d : D) (ws : List D) (S : Sto) (h : d.isiOk = true) (hw : flats ws = true) : C (n+1) 1 [d, .tup ws] S = .ok (.val (.bl (isS d ws))) S := by
  rw [c_is_one_of, b_is_one_of]
  cases d <;> first | (cases h; done) | skip
  case str cs =>
    rw [show isS (.str cs) ws = inD (.str cs) ws from rfl]
    trivial
  all_goals
    rw [show isS _ ws = false from rfl]
    trivial
def mulLe (a e c : D) : Bool := match a, e, c with
  | .int a, .int e, .int c => decide (a * e ≤ c)
  | _, _, _ => false
@[simp] theorem mulLe_i (a e c : Int) : mulLe (.int a) (.int e) (.int c) = decide (a * e ≤ c) := rfl
def isLk (d : D) : Bool := match d with
  | .tup [a, b, c, e] => isI a 1 4 && (isI b 1 20 && (isI c 0 100 && (isI e 0 10 && mulLe a e c)))
  | _ => false
theorem isiOk_of {d : D} (h : d.cmpb = true) : d.isiOk = true := by
  cases d <;> first | rfl | cases h
@[simp] theorem is_lock_ok (n : Nat) (d : D) (S : Sto) (h : d.cmpb = true) : C (n+2) 2 [d] S = .ok (.val (.bl (isLk d))) S := by
  rw [c_is_lock, b_is_lock]
  cases d <;> first | (cases h; done) | skip
  case tup xs =>
    rcases xs with _ | ⟨a, _ | ⟨b, _ | ⟨c, _ | ⟨e, _ | ⟨f, r⟩⟩⟩⟩⟩
    case cons.cons.cons.cons.nil =>
      simp only [cmpb_tup, cmpbs_c, Bool.and_eq_true] at h
      obtain ⟨h1, h2, h3, h4, _⟩ := h
      have k1 := isiOk_of h1
      have k2 := isiOk_of h2
      have k3 := isiOk_of h3
      have k4 := isiOk_of h4
      rw [show isLk (.tup [a, b, c, e]) = (isI a 1 4 && (isI b 1 20 && (isI c 0 100 && (isI e 0 10 && mulLe a e c)))) from rfl]
      cases i1 : isI a 1 4
      · trivial
      · cases i2 : isI b 1 20
        · trivial
        · cases i3 : isI c 0 100
          · trivial
          · cases i4 : isI e 0 10
            · trivial
            · obtain ⟨i, rfl, j1, j2⟩ := isI_T i1
              obtain ⟨i', rfl, j3, j4⟩ := isI_T i3
              obtain ⟨i'', rfl, j5, j6⟩ := isI_T i4
              have t1 : -1000000000000000000 ≤ i := by omega
              have t2 : i ≤ 1000000000000000000 := by omega
              trivial
    case cons.cons.cons.cons.cons =>
      have hz : ((r.length : Int) + 1 + 1 + 1 + 1 + 1 == 4) = false := by rw [beq_eq_false_iff_ne]; omega
      rw [show isLk _ = false from rfl]
      trivial
    all_goals
      rw [show isLk _ = false from rfl]
      trivial
  all_goals
    rw [show isLk _ = false from rfl]
    trivial
def wT : List Nat := [116, 117, 114, 110]
def wO : List Nat := [111, 117, 116]
def wE : List Nat := [101, 110, 100]
def wI : List Nat := [105, 110]
def wR : List Nat := [114, 101, 115, 116]
def wG : List Nat := [103, 111]
theorem ne2 {x y : List Nat} (h : ¬ x = y) : (x == y) = false ∧ (y == x) = false := by
  constructor <;> rw [beq_eq_false_iff_ne]
  · exact h
  · exact fun e => h e.symm
/-- a word is one of the six or none -/
theorem words (w : List Nat) : w = [116, 117, 114, 110] ∨ w = [111, 117, 116] ∨ w = [101, 110, 100] ∨ w = [105, 110] ∨ w = [114, 101, 115, 116] ∨ w = [103, 111] ∨
    (((w == [116, 117, 114, 110]) = false ∧ ([116, 117, 114, 110] == w) = false) ∧ ((w == [111, 117, 116]) = false ∧ ([111, 117, 116] == w) = false) ∧ ((w == [101, 110, 100]) = false ∧ ([101, 110, 100] == w) = false) ∧
     ((w == [105, 110]) = false ∧ ([105, 110] == w) = false) ∧ ((w == [114, 101, 115, 116]) = false ∧ ([114, 101, 115, 116] == w) = false) ∧ ((w == [103, 111]) = false ∧ ([103, 111] == w) = false)) := by
  by_cases h1 : w = [116, 117, 114, 110]
  · exact .inl h1
  by_cases h2 : w = [111, 117, 116]
  · exact .inr (.inl h2)
  by_cases h3 : w = [101, 110, 100]
  · exact .inr (.inr (.inl h3))
  by_cases h4 : w = [105, 110]
  · exact .inr (.inr (.inr (.inl h4)))
  by_cases h5 : w = [114, 101, 115, 116]
  · exact .inr (.inr (.inr (.inr (.inl h5))))
  by_cases h6 : w = [103, 111]
  · exact .inr (.inr (.inr (.inr (.inr (.inl h6)))))
  exact .inr (.inr (.inr (.inr (.inr (.inr ⟨ne2 h1, ne2 h2, ne2 h3, ne2 h4, ne2 h5, ne2 h6⟩)))))
def tests : List D := [.str [97, 108, 119, 97, 121, 115], .str [104, 101, 114, 101], .str [116, 104, 101, 114, 101], .str [102, 117, 108, 108], .str [101, 109, 112, 116, 121], .str [104, 105, 103, 104]]
def isEn (d : D) (m : Int) : Bool := match d with
  | .tup [.str w] => w == [116, 117, 114, 110] || (w == [111, 117, 116] || w == [101, 110, 100])
  | .tup [.str w, x] => (w == [105, 110] && isI x 1 4) || (w == [114, 101, 115, 116] && isI x 1 60)
  | .tup [.str w, t, x] => w == [103, 111] && (isS t tests && isI x 0 (m - 1))
  | _ => false
theorem isEn_1 (w : List Nat) (m : Int) : isEn (.tup [.str w]) m = (w == [116, 117, 114, 110] || (w == [111, 117, 116] || w == [101, 110, 100])) := rfl
theorem isEn_2 (w : List Nat) (x : D) (m : Int) : isEn (.tup [.str w, x]) m = ((w == [105, 110] && isI x 1 4) || (w == [114, 101, 115, 116] && isI x 1 60)) := rfl
theorem isEn_3 (w : List Nat) (t x : D) (m : Int) : isEn (.tup [.str w, t, x]) m = (w == [103, 111] && (isS t tests && isI x 0 (m - 1))) := rfl
@[simp] theorem is_entry_ok (n : Nat) (d : D) (m : Int) (S : Sto) (h : d.cmpb = true) : C (n+2) 3 [d, .int m] S = .ok (.val (.bl (isEn d m))) S := by
  rw [c_is_entry, b_is_entry]
  cases d <;> first | (cases h; done) | skip
  case tup xs =>
    rcases xs with _ | ⟨a, xs⟩
    · rw [show isEn _ m = false from rfl]
      trivial
    · cases a <;> first | (simp at h; done) | skip
      case str w =>
        rcases xs with _ | ⟨x, _ | ⟨y, _ | ⟨z, r⟩⟩⟩
        · rw [isEn_1]
          rcases words w with rfl | rfl | rfl | rfl | rfl | rfl | ⟨⟨a1, a2⟩, ⟨a3, a4⟩, ⟨a5, a6⟩, ⟨a7, a8⟩, ⟨a9, a10⟩, ⟨a11, a12⟩⟩ <;> trivial
        · rw [isEn_2]
          simp only [cmpb_tup, cmpbs_c, Bool.and_eq_true] at h
          have k1 := isiOk_of h.2.1
          rcases words w with rfl | rfl | rfl | rfl | rfl | rfl | ⟨⟨a1, a2⟩, ⟨a3, a4⟩, ⟨a5, a6⟩, ⟨a7, a8⟩, ⟨a9, a10⟩, ⟨a11, a12⟩⟩ <;> trivial
        · rw [isEn_3]
          simp only [cmpb_tup, cmpbs_c, Bool.and_eq_true] at h
          have k1 := isiOk_of h.2.1
          have k2 := isiOk_of h.2.2.1
          have hf : flats tests = true := rfl
          have hg : GG[1]? = some (.tup tests) := g_1
          rcases words w with rfl | rfl | rfl | rfl | rfl | rfl | ⟨⟨a1, a2⟩, ⟨a3, a4⟩, ⟨a5, a6⟩, ⟨a7, a8⟩, ⟨a9, a10⟩, ⟨a11, a12⟩⟩
          case inr.inr.inr.inr.inr.inl => cases is : isS x tests <;> simp [-g_1, *]
          all_goals trivial
        · have hz : ¬ ((r.length : Int) + 1 + 1 + 1 + 1 ≤ 3) := by omega
          have hz0 : (1 : Int) ≤ (r.length : Int) + 1 + 1 + 1 + 1 := by omega
          rw [show isEn _ m = false from rfl]
          trivial
      all_goals
        rw [show isEn _ m = false from rfl]
        have hz0 : (1 : Int) ≤ (xs.length : Int) + 1 := by omega
        by_cases hl : (xs.length : Int) + 1 ≤ 3 <;> trivial
  all_goals
    rw [show isEn _ m = false from rfl]
    trivial
theorem cmpbs_mem : ∀ {xs : List D}, D.cmpbs xs = true → ∀ x ∈ xs, D.cmpb x = true
  | [], _, x, hx => by simp at hx
  | y :: ys, h, x, hx => by
    rw [cmpbs_c, Bool.and_eq_true] at h
    rcases List.mem_cons.mp hx with e | hx
    · rw [e]
      exact h.1
    · exact cmpbs_mem h.2 x hx
def isBk (d : D) : Bool := match d with
  | .tup [a, .tup es] => isLk a && (decide ((1 : Int) ≤ es.length) && (decide ((es.length : Int) ≤ 8) && es.all fun e => isEn e es.length))
  | _ => false
theorem isBk_t (a : D) (es : List D) : isBk (.tup [a, .tup es]) = (isLk a && (decide ((1 : Int) ≤ es.length) && (decide ((es.length : Int) ≤ 8) && es.all fun e => isEn e es.length))) := rfl
@[simp high] theorem lc_entries (n : Nat) (a : D) (es : List D) (S : Sto) (hl : (es.length : Int) ≤ 8) (h : D.cmpbs es = true) :
    ev (X (n+2)) (.lc (.nm 1) (.seq (.idx (.var 0) (.int 1))) (.call 3 (.cons (.var 1) (.cons (.blt .len (.cons (.idx (.var 0) (.int 1)) .nil)) .nil))) [1]) [some (.val (.tup [a, .tup es])), none] S = .ok (.lst (es.map fun e => .bl (isEn e es.length))) S := by
  refine ev_lc (xs := es) (S1 := S) (by trivial) (by rw [lim_lit]; omega) (mapF_map (g := fun e => .bl (isEn e es.length)) fun x hx => ?_)
  have hc := cmpbs_mem h x hx
  simp [*]
@[simp] theorem is_book_ok (n : Nat) (d : D) (S : Sto) (h : d.cmpb = true) : C (n+3) 4 [d] S = .ok (.val (.bl (isBk d))) S := by
  rw [c_is_book, b_is_book]
  cases d <;> first | (simp at h; done) | skip
  case tup xs =>
    rcases xs with _ | ⟨a, _ | ⟨b, _ | ⟨c, r⟩⟩⟩
    case cons.cons.nil =>
      simp only [cmpb_tup, cmpbs_c, Bool.and_eq_true] at h
      obtain ⟨h1, h2, _⟩ := h
      cases b <;> first | (simp at h2; done) | skip
      case tup es =>
        rw [isBk_t]
        rw [cmpb_tup] at h2
        cases i1 : isLk a
        · trivial
        · by_cases i2 : (1 : Int) ≤ es.length
          · by_cases i3 : (es.length : Int) ≤ 8
            · simp [bools_map, *]
            · trivial
          · trivial
      all_goals
        rw [show isBk _ = false from rfl]
        cases i1 : isLk a <;> trivial
    case cons.cons.cons =>
      have hz : ((r.length : Int) + 1 + 1 + 1 == 2) = false := by rw [beq_eq_false_iff_ne]; omega
      rw [show isBk (.tup (a :: b :: c :: r)) = false from by cases b <;> rfl]
      trivial
    all_goals
      rw [show isBk _ = false from rfl]
      trivial
  all_goals
    rw [show isBk _ = false from rfl]
    trivial

end Hd

namespace Hd
open PySem Ev Lk
local macro_rules
  | `(tactic| trivial) => `(tactic| simp [*])
theorem isI_of {i lo hi : Int} (h1 : lo ≤ i) (h2 : i ≤ hi) : isI (.int i) lo hi = true := by
  rw [isI_i, decide_eq_true h1, decide_eq_true h2] <;> rfl
theorem isLk_d {l : Lo} (h : l.Ok) : isLk l.d = true := by
  obtain ⟨h1, h2, h3, h4, h5, h6, h7, h8, h9⟩ := h
  show (isI (.int l.room) 1 4 && (isI (.int l.mins) 1 20 && (isI (.int l.water) 0 100 && (isI (.int l.less) 0 10 && decide (l.room * l.less ≤ l.water))))) = true
  rw [isI_of h1 h2, isI_of h3 h4, isI_of h5 h6, isI_of h7 h8, decide_eq_true h9] <;> rfl
theorem isS_wo (w : Wo) : isS w.d tests = true := by cases w <;> rfl
theorem isEn_d {e : En} {n : Nat} (h : e.Ok n) : isEn e.d n = true := by
  cases e with
  | inn m =>
    have h : 1 ≤ m ∧ m ≤ 4 := h
    show (((([105, 110] : List Nat) == [105, 110]) && isI (.int m) 1 4) || ((([105, 110] : List Nat) == [114, 101, 115, 116]) && isI (.int m) 1 60)) = true
    rw [isI_of h.1 h.2] <;> rfl
  | turn => rfl
  | out => rfl
  | rest m =>
    have h : 1 ≤ m ∧ m ≤ 60 := h
    show (((([114, 101, 115, 116] : List Nat) == [105, 110]) && isI (.int m) 1 4) || ((([114, 101, 115, 116] : List Nat) == [114, 101, 115, 116]) && isI (.int m) 1 60)) = true
    rw [isI_of h.1 h.2] <;> rfl
  | go w j =>
    have h : j < n := h
    show ((([103, 111] : List Nat) == [103, 111]) && (isS w.d tests && isI (.int j) 0 ((n : Int) - 1))) = true
    rw [isS_wo, isI_of (by omega) (by omega)] <;> rfl
  | fin => rfl
theorem isBk_d {k : Bk} (hk : k.Ok) : isBk k.d = true := by
  show (isLk k.lock.d && (decide ((1 : Int) ≤ ((k.es.map En.d).length : Nat)) && (decide (((k.es.map En.d).length : Int) ≤ 8) && (k.es.map En.d).all fun e => isEn e ((k.es.map En.d).length : Nat)))) = true
  have h1 := hk.pos
  have h2 := hk.le
  rw [isLk_d hk.lock, List.length_map, decide_eq_true (by omega), decide_eq_true (by omega)]
  show (k.es.map En.d).all _ = true
  rw [List.all_map, List.all_eq_true]
  intro e he
  exact isEn_d (hk.es e he)
@[simp] theorem need_book_ok (n : Nat) {k : Bk} (S : Sto) (hk : k.Ok) : C (n+4) 5 [k.d] S = .ok (.val .non) S := by
  have h1 := cmpb_bk k
  have h2 := isBk_d hk
  rw [c_need_book, b_need_book]
  trivial

end Hd

namespace Hd
open PySem Ev Lk
local macro_rules
  | `(tactic| trivial) => `(tactic| simp [*])
/-- a draw's state: the weir stands, the store is as long -/
def St (S : Sto) (c l : Nat) : Prop := Wr S c ∧ S.length = l
theorem drop_ok (n c l : Nat) (m : Int) (S : Sto) (h : St S c l) (hm : 0 < m) (hb : m ≤ 100000000000000000000000000000000000) : ∃ r S', C (n+1) 14 [.loc c, .int m] S = .ok (.val (.int r)) S' ∧ St S' c l ∧ 0 ≤ r ∧ r < m := by
  obtain ⟨r, a, b, e, h1, h2, h3, h4⟩ := drop_run (X := X n) (show 10 ≤ 10000000 by decide) h.1 hm (Int.le_trans hb (by decide))
  refine ⟨r, S.set c (.cell [.int a, .int b]), ?_, ⟨wr_set h.1 h3 h4, by rw [List.length_set]; exact h.2⟩, h1, h2⟩
  rw [c__law_drop, show b__law_drop = bDrop from rfl, e]
  rfl
theorem any_ok (n c l : Nat) (xs : List D) (S : Sto) (h : St S c l) (hx : xs ≠ []) (hl : xs.length ≤ 1000) : ∃ x S', C (n+2) 15 [.loc c, .lst xs] S = .ok (.val x) S' ∧ St S' c l ∧ x ∈ xs := by
  have hp : 0 < xs.length := List.length_pos_iff.mpr hx
  obtain ⟨r, S1, e, h1, h2, h3⟩ := drop_ok n c l xs.length S h (by omega) (by omega)
  have h4 : r.toNat < xs.length := by omega
  refine ⟨xs[r.toNat], S1, ?_, h1, List.getElem_mem h4⟩
  rw [c__law_any, b__law_any]
  have hg : xs[r.toNat]? = some xs[r.toNat] := List.getElem?_eq_getElem h4
  simp [e, h2, h3, hg]
theorem weir_ok (n : Nat) (ns : List Int) (k : Int) (S : Sto) (hk : 0 ≤ k) : ∃ S', C (n+1) 13 [.rol (ns.map .int), .int k] S = .ok (.val (.loc S.length)) S' ∧ St S' S.length (S.length + 1) := by
  obtain ⟨a, b, e, h1, h2⟩ := weir_run (X := X n) (S := S) (ns := ns) hk
  refine ⟨S ++ [.cell [.int a, .int b]], ?_, wr_new h1 h2, by simp⟩
  rw [c__law_weir, show b__law_weir = bWeir from rfl, e]
  rfl
/-! ### entries, books -/
def eWords : List D := [.str [105, 110], .str [105, 110], .str [116, 117, 114, 110], .str [116, 117, 114, 110], .str [111, 117, 116], .str [111, 117, 116], .str [103, 111], .str [103, 111], .str [103, 111], .str [114, 101, 115, 116], .str [101, 110, 100]]
theorem one_entry_ok (n c l : Nat) (m : Int) (S : Sto) (h : St S c l) (hm : 0 < m) (hb : m ≤ 100) : ∃ (e : En) (S' : Sto), C (n+3) 16 [.loc c, .int m] S = .ok (.val e.d) S' ∧ St S' c l ∧ e.Ok m.toNat := by
  obtain ⟨x, S1, e1, h1, hx⟩ := any_ok n c l eWords S h (by simp [eWords]) (by simp [eWords])
  unfold eWords at e1 hx
  rw [c__law_one_entry, b__law_one_entry]
  have hx2 : x = .str [105, 110] ∨ x = .str [103, 111] ∨ x = .str [114, 101, 115, 116] ∨ x = .str [116, 117, 114, 110] ∨ x = .str [111, 117, 116] ∨ x = .str [101, 110, 100] := by
    simp only [List.mem_cons, List.not_mem_nil, or_false] at hx
    rcases hx with z | z | z | z | z | z | z | z | z | z | z <;> simp [z]
  rcases hx2 with rfl | rfl | rfl | rfl | rfl | rfl
  · obtain ⟨r, S2, e2, h2, b1, b2⟩ := drop_ok (n+1) c l 4 S1 h1 (by decide) (by decide)
    exact ⟨.inn (1 + r), S2, by simp [e1, e2, En.d], h2, by show 1 ≤ 1 + r ∧ 1 + r ≤ 4; omega⟩
  · obtain ⟨t, S2, e2, h2, ht⟩ := any_ok n c l [.str [104, 101, 114, 101], .str [104, 101, 114, 101], .str [116, 104, 101, 114, 101], .str [116, 104, 101, 114, 101], .str [102, 117, 108, 108], .str [101, 109, 112, 116, 121], .str [104, 105, 103, 104], .str [97, 108, 119, 97, 121, 115]] S1 h1 (by simp) (by simp)
    obtain ⟨r, S3, e3, h3, b1, b2⟩ := drop_ok (n+1) c l m S2 h2 hm (by omega)
    obtain ⟨w, rfl⟩ : ∃ w : Wo, t = w.d := by
      simp only [List.mem_cons, List.not_mem_nil, or_false] at ht
      rcases ht with z | z | z | z | z | z | z | z
      · exact ⟨.here, z⟩
      · exact ⟨.here, z⟩
      · exact ⟨.there, z⟩
      · exact ⟨.there, z⟩
      · exact ⟨.full, z⟩
      · exact ⟨.empty, z⟩
      · exact ⟨.high, z⟩
      · exact ⟨.always, z⟩
    obtain ⟨k, rfl⟩ : ∃ k : Nat, r = k := ⟨r.toNat, by omega⟩
    refine ⟨.go w k, S3, by simp [e1, e2, e3, En.d], h3, ?_⟩
    show k < m.toNat
    omega
  · obtain ⟨t, S2, e2, h2, ht⟩ := any_ok n c l [.int 1, .int 2, .int 7, .int 60] S1 h1 (by simp) (by simp)
    obtain ⟨j, rfl, j1, j2⟩ : ∃ j : Int, t = .int j ∧ 1 ≤ j ∧ j ≤ 60 := by
      simp only [List.mem_cons, List.not_mem_nil, or_false] at ht
      rcases ht with z | z | z | z <;> exact ⟨_, z, by decide, by decide⟩
    exact ⟨.rest j, S2, by simp [e1, e2, En.d], h2, j1, j2⟩
  · exact ⟨.turn, S1, by simp [e1, En.d], h1, trivial⟩
  · exact ⟨.out, S1, by simp [e1, En.d], h1, trivial⟩
  · exact ⟨.fin, S1, by simp [e1, En.d], h1, trivial⟩
theorem ens_of {P : En → Prop} : ∀ {ds : List D}, (∀ d ∈ ds, ∃ e : En, d = e.d ∧ P e) → ∃ es : List En, ds = es.map En.d ∧ ∀ e ∈ es, P e
  | [], _ => ⟨[], rfl, fun _ z => nomatch z⟩
  | d :: ds, h => by
    obtain ⟨e, rfl, p⟩ := h d List.mem_cons_self
    obtain ⟨es, rfl, q⟩ := ens_of (ds := ds) fun x hx => h x (List.mem_cons_of_mem _ hx)
    refine ⟨e :: es, rfl, fun x hx => ?_⟩
    rcases List.mem_cons.mp hx with z | z
    · rw [z]; exact p
    · exact q x z
def e8s (v : Int) (u : Nat) : List En := [.inn (1 + v), .turn, .out, .inn (1 + v), .turn, .out, .go .here 0, .go .there u]
theorem log_book_ok (n c l : Nat) (S : Sto) (h : St S c l) : ∃ (k : Bk) (S' : Sto), C (n+4) 17 [.loc c] S = .ok (.val k.d) S' ∧ St S' c l ∧ k.Ok := by
  obtain ⟨x, S1, e1, h1, hx⟩ := any_ok (n+1) c l [.int 1, .int 1, .int 2, .int 3, .int 4] S h (by simp) (by simp)
  obtain ⟨rm, rfl, r1, r2⟩ : ∃ rm : Int, x = .int rm ∧ 1 ≤ rm ∧ rm ≤ 4 := by
    simp only [List.mem_cons, List.not_mem_nil, or_false] at hx
    rcases hx with z | z | z | z | z <;> exact ⟨_, z, by decide, by decide⟩
  obtain ⟨ls, S2, e2, h2, l1, l2⟩ := drop_ok (n+2) c l 4 S1 h1 (by decide) (by decide)
  obtain ⟨p, S3, e3, h3, p1, p2⟩ := drop_ok (n+2) c l 6 S2 h2 (by decide) (by decide)
  obtain ⟨q, S4, e4, h4, q1, q2⟩ := drop_ok (n+2) c l 9 S3 h3 (by decide) (by decide)
  obtain ⟨mn, S5, e5, h5, m1, m2⟩ := drop_ok (n+2) c l 8 S4 h4 (by decide) (by decide)
  have t1 : -1000000000000000000 ≤ rm := by omega
  have t2 : rm ≤ 1000000000000000000 := by omega
  have hlk : (⟨rm, 1 + p, rm * ls + q, ls⟩ : Lo).Ok := by
    have b1 : 0 ≤ rm * ls := Int.mul_nonneg (by omega) l1
    have b2 : rm * ls ≤ 4 * 3 := Int.mul_le_mul r2 (by omega) l1 (by omega)
    exact ⟨r1, r2, by show 1 ≤ 1 + p; omega, by show 1 + p ≤ 20; omega, by show 0 ≤ rm * ls + q; omega, by show rm * ls + q ≤ 100; omega, l1, by show ls ≤ 10; omega, by show rm * ls ≤ rm * ls + q; omega⟩
  have hlc : ∃ (es : List En) (S6 : Sto), ev (X (n+3)) (.lc (.nm 8) (.rng (.var 2)) (.call 16 (.cons (.var 0) (.cons (.var 2) .nil))) [8]) [some (.val (.loc c)), some (.val (.tup [.int rm, .int (1 + p), .int (rm * ls + q), .int ls])), some (.val (.int (1 + mn))), none, some (.val (.int rm)), some (.val (.int ls)), none, none, none] S5 = .ok (.lst (es.map En.d)) S6 ∧ St S6 c l ∧ (∀ e ∈ es, e.Ok (1 + mn).toNat) ∧ es.length = (1 + mn).toNat := by
    have hr : (rngD (1 + mn)).length = (1 + mn).toNat := by unfold rngD; simp
    obtain ⟨ds, S6, g1, g2, g3, g4⟩ := mapF_any (f := fun d => M.bind (M.opt (bindT (.nm 8) d (wipe [some (.val (.loc c)), some (.val (.tup [.int rm, .int (1 + p), .int (rm * ls + q), .int ls])), some (.val (.int (1 + mn))), none, some (.val (.int rm)), some (.val (.int ls)), none, none, none] [8]))) fun ρ' => ev (X (n+3)) (.call 16 (.cons (.var 0) (.cons (.var 2) .nil))) ρ')
      (P := fun S => St S c l) (Q := fun d => ∃ e : En, d = e.d ∧ e.Ok (1 + mn).toNat) (xs := rngD (1 + mn)) (S := S5) h5 (fun x hx S hS => by
        obtain ⟨d, S', e, k1, k2⟩ := one_entry_ok n c l (1 + mn) S hS (by omega) (by omega)
        exact ⟨d.d, S', by simp [e], k1, d, rfl, k2⟩)
    obtain ⟨es, rfl, g5⟩ := ens_of g3
    refine ⟨es, S6, ev_lc (xs := rngD (1 + mn)) (S1 := S5) (by
      have a1 : -1000000 ≤ 1 + mn := by omega
      have a2 : 1 + mn ≤ 1000000 := by omega
      trivial) (by rw [hr, lim_lit]; omega) g1, g2, g5, by rw [List.length_map] at g4; rw [g4, hr]⟩
  obtain ⟨es, S6, e6, h6, t6, l6⟩ := hlc
  obtain ⟨w, S7, e7, h7, w1, w2⟩ := drop_ok (n+2) c l 3 S6 h6 (by decide) (by decide)
  rw [c__law_log_book, b__law_log_book]
  by_cases hw : 0 < w
  · obtain ⟨v, S8, e8, h8, v1, v2⟩ := drop_ok (n+2) c l 3 S7 h7 (by decide) (by decide)
    obtain ⟨u', S9, e9, h9, u1, u2⟩ := drop_ok (n+2) c l 4 S8 h8 (by decide) (by decide)
    obtain ⟨u, rfl⟩ : ∃ u : Nat, u' = u := ⟨u'.toNat, by omega⟩
    obtain ⟨k, S10, e10, h10, k1, k2⟩ := drop_ok (n+2) c l 2 S9 h9 (by decide) (by decide)
    have hes8 : [D.tup [.str [105, 110], .int (1 + v)], .tup [.str [116, 117, 114, 110]], .tup [.str [111, 117, 116]], .tup [.str [105, 110], .int (1 + v)], .tup [.str [116, 117, 114, 110]], .tup [.str [111, 117, 116]], .tup [.str [103, 111], .str [104, 101, 114, 101], .int 0], .tup [.str [103, 111], .str [116, 104, 101, 114, 101], .int u]] = (e8s v u).map En.d := rfl
    have ok8 : ∀ e ∈ e8s v u, e.Ok 8 := by
      intro e he
      unfold e8s at he
      simp only [List.mem_cons, List.not_mem_nil, or_false] at he
      have hi : (En.inn (1 + v)).Ok 8 := by show 1 ≤ 1 + v ∧ 1 + v ≤ 4; omega
      have hu : (En.go .there u).Ok 8 := by show u < 8; omega
      rcases he with rfl | rfl | rfl | rfl | rfl | rfl | rfl | rfl <;> first | exact hi | exact hu | exact (show (0 : Nat) < 8 by decide) | exact True.intro
    have len8 : (e8s v u).length = 8 := rfl
    by_cases hk : k = 0
    · subst hk
      obtain ⟨sp, S11, e11, h11, s1, s2⟩ := drop_ok (n+2) c l 8 S10 h10 (by decide) (by decide)
      obtain ⟨oe, S12, e12, h12, t12⟩ := one_entry_ok n c l 8 S11 h11 (by decide) (by decide)
      generalize e8s v u = E8 at *
      have c1 : (cut (E8.map En.d) none (some sp)).length = sp.toNat := by rw [cut_to s1, List.length_take, List.length_map]; omega
      have c2 : (cut (E8.map En.d) (some (sp + 1)) none).length = 8 - (sp + 1).toNat := by rw [cut_from (by omega), List.length_drop, List.length_map, len8]
      have c3 : (cut (E8.map En.d) none (some sp)).length ≤ 16777215 := by omega
      have c4 : (cut (E8.map En.d) none (some sp)).length + 1 + (cut (E8.map En.d) (some (sp + 1)) none).length ≤ 16777216 := by omega
      have hm : cut (E8.map En.d) none (some sp) ++ (oe.d :: cut (E8.map En.d) (some (sp + 1)) none) = (E8.take sp.toNat ++ oe :: E8.drop (sp + 1).toNat).map En.d := by
        rw [cut_to s1, cut_from (by omega), List.map_append, List.map_cons, List.map_take, List.map_drop]
      have hlen : (E8.take sp.toNat ++ oe :: E8.drop (sp + 1).toNat).length = 8 := by
        rw [List.length_append, List.length_take, List.length_cons, List.length_drop, len8]; omega
      refine ⟨⟨⟨rm, 1 + p, rm * ls + q, ls⟩, E8.take sp.toNat ++ oe :: E8.drop (sp + 1).toNat⟩, S12, ?_, h12, hlk, by show 0 < (E8.take sp.toNat ++ oe :: E8.drop (sp + 1).toNat).length; omega, by show (E8.take sp.toNat ++ oe :: E8.drop (sp + 1).toNat).length ≤ 8; omega, fun e he => ?_⟩
      · show _ = Res.ok (α := RV) (RV.val (D.tup [D.tup [.int rm, .int (1 + p), .int (rm * ls + q), .int ls], .tup ((E8.take sp.toNat ++ oe :: E8.drop (sp + 1).toNat).map En.d)])) S12
        rw [← hm]
        simp [e1, e2, e3, e4, e5, t1, t2, e6, e7, hw, e8, e9, e10, e11, hes8, e12, c3, c4]
      · show e.Ok (E8.take sp.toNat ++ oe :: E8.drop (sp + 1).toNat).length
        rw [hlen]
        have he : e ∈ E8.take sp.toNat ++ oe :: E8.drop (sp + 1).toNat := he
        rcases List.mem_append.mp he with he | he
        · exact ok8 e (List.mem_of_mem_take he)
        · rcases List.mem_cons.mp he with he | he
          · rw [he]
            exact t12
          · exact ok8 e (List.mem_of_mem_drop he)
    · refine ⟨⟨⟨rm, 1 + p, rm * ls + q, ls⟩, e8s v u⟩, S10, ?_, h10, hlk, by show 0 < (e8s v u).length; rw [len8]; decide, by show (e8s v u).length ≤ 8; rw [len8]; decide, ok8⟩
      have hk0 : (k == 0) = false := by simpa using hk
      show _ = Res.ok (α := RV) (RV.val (D.tup [D.tup [.int rm, .int (1 + p), .int (rm * ls + q), .int ls], .tup ((e8s v u).map En.d)])) S10
      rw [← hes8]
      simp [e1, e2, e3, e4, e5, t1, t2, e6, e7, hw, e8, e9, e10, hk0]
  · refine ⟨⟨⟨rm, 1 + p, rm * ls + q, ls⟩, es⟩, S7, ?_, h7, hlk, by show 0 < es.length; omega, by show es.length ≤ 8; omega, by show ∀ e ∈ es, e.Ok es.length; rw [l6]; exact t6⟩
    show _ = Res.ok (α := RV) (RV.val (D.tup [D.tup [.int rm, .int (1 + p), .int (rm * ls + q), .int ls], .tup (es.map En.d)])) S7
    simp [e1, e2, e3, e4, e5, t1, t2, e6, e7, hw]

end Hd

namespace Hd
open PySem Ev Lk
local macro_rules
  | `(tactic| trivial) => `(tactic| simp [*])
@[simp] theorem law_is_whole_ok (n : Nat) (d : D) (lo hi : Int) (S : Sto) (h : d.isiOk = true) : C (n+1) 18 [d, .int lo, .int hi] S = .ok (.val (.bl (isI d lo hi))) S := by
  rw [c__law_is_whole, b__law_is_whole]
  cases d <;> first | (cases h; done) | skip
  case int i =>
    rw [isI_i]
    by_cases h1 : lo ≤ i <;> by_cases h2 : i ≤ hi <;> trivial
  all_goals
    rw [show isI _ lo hi = false from rfl]
    trivial
theorem rng4 : rngD 4 = [.int 0, .int 1, .int 2, .int 3] := rfl
@[simp] theorem law_is_lock_ok (n : Nat) (d : D) (S : Sto) (h : d.cmpb = true) : C (n+2) 19 [d] S = .ok (.val (.bl (isLk d))) S := by
  rw [c__law_is_lock, b__law_is_lock]
  cases d <;> first | (cases h; done) | skip
  case tup xs =>
    rcases xs with _ | ⟨a, _ | ⟨b, _ | ⟨c, _ | ⟨e, _ | ⟨f, r⟩⟩⟩⟩⟩
    case cons.cons.cons.cons.nil =>
      simp only [cmpb_tup, cmpbs_c, Bool.and_eq_true] at h
      obtain ⟨h1, h2, h3, h4, _⟩ := h
      have k1 := isiOk_of h1
      have k2 := isiOk_of h2
      have k3 := isiOk_of h3
      have k4 := isiOk_of h4
      rw [show isLk (.tup [a, b, c, e]) = (isI a 1 4 && (isI b 1 20 && (isI c 0 100 && (isI e 0 10 && mulLe a e c)))) from rfl]
      cases i1 : isI a 1 4 <;> cases i2 : isI b 1 20 <;> cases i3 : isI c 0 100 <;> cases i4 : isI e 0 10
      case true.true.true.true =>
        obtain ⟨i, rfl, j1, j2⟩ := isI_T i1
        obtain ⟨i', rfl, j3, j4⟩ := isI_T i3
        obtain ⟨i'', rfl, j5, j6⟩ := isI_T i4
        have t1 : -1000000000000000000 ≤ i := by omega
        have t2 : i ≤ 1000000000000000000 := by omega
        simp [↓e_lcf, mapF', rng4, *]
      all_goals simp [↓e_lcf, mapF', rng4, *]
    case cons.cons.cons.cons.cons =>
      have hz : ((r.length : Int) + 1 + 1 + 1 + 1 + 1 == 4) = false := by rw [beq_eq_false_iff_ne]; omega
      rw [show isLk _ = false from rfl]
      trivial
    all_goals
      rw [show isLk _ = false from rfl]
      trivial
  all_goals
    rw [show isLk _ = false from rfl]
    trivial
@[simp] theorem law_is_entry_ok (n : Nat) (d : D) (m : Int) (S : Sto) (h : d.cmpb = true) : C (n+2) 20 [d, .int m] S = .ok (.val (.bl (isEn d m))) S := by
  rw [c__law_is_entry, b__law_is_entry]
  cases d <;> first | (cases h; done) | skip
  case tup xs =>
    have h' := h
    rcases xs with _ | ⟨a, xs⟩
    · rw [show isEn _ m = false from rfl]
      trivial
    · have hc : D.cmpb a = true ∧ D.cmpbs xs = true := by simpa using h
      obtain ⟨c1, c2⟩ := hc
      cases a <;> first | (simp at h; done) | skip
      case str w =>
        rcases xs with _ | ⟨x, _ | ⟨y, _ | ⟨z, r⟩⟩⟩
        · rw [isEn_1]
          rcases words w with rfl | rfl | rfl | rfl | rfl | rfl | ⟨⟨a1, a2⟩, ⟨a3, a4⟩, ⟨a5, a6⟩, ⟨a7, a8⟩, ⟨a9, a10⟩, ⟨a11, a12⟩⟩ <;> trivial
        · rw [isEn_2]
          simp only [cmpb_tup, cmpbs_c, Bool.and_eq_true] at h
          have k1 := isiOk_of h.2.1
          have b1 := h.2.1
          rcases words w with rfl | rfl | rfl | rfl | rfl | rfl | ⟨⟨a1, a2⟩, ⟨a3, a4⟩, ⟨a5, a6⟩, ⟨a7, a8⟩, ⟨a9, a10⟩, ⟨a11, a12⟩⟩ <;> trivial
        · rw [isEn_3]
          simp only [cmpb_tup, cmpbs_c, Bool.and_eq_true] at h
          have k1 := isiOk_of h.2.1
          have k2 := isiOk_of h.2.2.1
          have b1 := h.2.1
          have b2 := h.2.2.1
          rcases words w with rfl | rfl | rfl | rfl | rfl | rfl | ⟨⟨a1, a2⟩, ⟨a3, a4⟩, ⟨a5, a6⟩, ⟨a7, a8⟩, ⟨a9, a10⟩, ⟨a11, a12⟩⟩
          case inr.inr.inr.inr.inr.inl =>
            cases x <;> first | (cases k1; done) | skip
            case str t =>
              rw [show isS (.str t) tests = inD (.str t) tests from rfl]
              have hin : cop .isin (.str t) (.lst [.str [97, 108, 119, 97, 121, 115], .str [104, 101, 114, 101], .str [116, 104, 101, 114, 101], .str [102, 117, 108, 108], .str [101, 109, 112, 116, 121], .str [104, 105, 103, 104]]) = some (inD (.str t) tests) := in_l rfl rfl
              cases is : inD (.str t) tests <;> rw [is] at hin <;> simp [-in_l, *]
            all_goals
              rw [show isS _ tests = false from rfl]
              trivial
          all_goals trivial
        · have hz : ((r.length : Int) + 1 + 1 + 1 + 1 == 1) = false := by rw [beq_eq_false_iff_ne]; omega
          have hz2 : ((r.length : Int) + 1 + 1 + 1 + 1 == 2) = false := by rw [beq_eq_false_iff_ne]; omega
          have hz3 : ((r.length : Int) + 1 + 1 + 1 + 1 == 3) = false := by rw [beq_eq_false_iff_ne]; omega
          have hcc : D.cmpb x = true ∧ D.cmpb y = true ∧ D.cmpb z = true ∧ D.cmpbs r = true := by simpa using c2
          obtain ⟨d1, d2, d3, d4⟩ := hcc
          rw [show isEn _ m = false from rfl]
          rcases words w with rfl | rfl | rfl | rfl | rfl | rfl | ⟨⟨a1, a2⟩, ⟨a3, a4⟩, ⟨a5, a6⟩, ⟨a7, a8⟩, ⟨a9, a10⟩, ⟨a11, a12⟩⟩ <;> trivial
      all_goals
        rw [show isEn _ m = false from rfl]
        trivial
  all_goals
    rw [show isEn _ m = false from rfl]
    trivial
theorem cmpbs_of : ∀ {xs : List D}, (∀ x ∈ xs, D.cmpb x = true) → D.cmpbs xs = true
  | [], _ => rfl
  | y :: ys, h => by
    rw [cmpbs_c, h y List.mem_cons_self, cmpbs_of fun x hx => h x (List.mem_cons_of_mem _ hx)] <;> rfl
theorem eqvs_nil (xs : List D) : D.eqvs xs [] = xs.isEmpty := by cases xs <;> rfl
theorem filter_all (p : D → Bool) : ∀ xs : List D, (xs.filter fun x => !p x).isEmpty = xs.all p
  | [] => rfl
  | x :: xs => by
    rw [List.filter_cons, List.all_cons]
    cases h : p x
    · simp
    · simpa using filter_all p xs
@[simp] theorem lcf_entries (n : Nat) (a : D) (es : List D) (S : Sto) (hl : (es.length : Int) ≤ 8) (h : D.cmpbs es = true) :
    ev (X (n+2)) (.lcf (.nm 1) (.seq (.idx (.var 0) (.int 1))) (.not (.e (.call 20 (.cons (.var 1) (.cons (.blt .len (.cons (.idx (.var 0) (.int 1)) .nil)) .nil))))) (.var 1) [1]) [some (.val (.tup [a, .tup es])), none] S = .ok (.lst (es.filter fun e => !isEn e es.length)) S := by
  have hm := mapF_fil (c := fun d => M.bind (M.opt (bindT (.nm 1) d (wipe [some (.val (.tup [a, .tup es])), none] [1]))) fun ρ' => tst (X (n+2)) (.not (.e (.call 20 (.cons (.var 1) (.cons (.blt .len (.cons (.idx (.var 0) (.int 1)) .nil)) .nil))))) ρ')
    (f := fun d => M.bind (M.opt (bindT (.nm 1) d (wipe [some (.val (.tup [a, .tup es])), none] [1]))) fun ρ' => ev (X (n+2)) (.var 1) ρ') (p := fun e => !isEn e es.length) (g := fun e => e) (S := S) (xs := es) (fun x hx => by
      have hc := cmpbs_mem h x hx
      trivial) (fun x hx _ => by trivial)
  rw [List.map_id'] at hm
  exact ev_lcf (xs := es) (S1 := S) (by trivial) (by rw [lim_lit]; omega) hm
@[simp] theorem law_is_book_ok (n : Nat) (d : D) (S : Sto) (h : d.cmpb = true) : C (n+3) 21 [d] S = .ok (.val (.bl (isBk d))) S := by
  rw [c__law_is_book, b__law_is_book]
  cases d <;> first | (simp at h; done) | skip
  case tup xs =>
    rcases xs with _ | ⟨a, _ | ⟨b, _ | ⟨c, r⟩⟩⟩
    case cons.cons.nil =>
      simp only [cmpb_tup, cmpbs_c, Bool.and_eq_true] at h
      obtain ⟨h1, h2, _⟩ := h
      cases b <;> first | (simp at h2; done) | skip
      case tup es =>
        rw [isBk_t]
        rw [cmpb_tup] at h2
        cases i1 : isLk a
        · trivial
        · by_cases i2 : (1 : Int) ≤ es.length
          · by_cases i3 : (es.length : Int) ≤ 8
            · have hcf : D.cmpbs (es.filter fun e => !isEn e es.length) = true := cmpbs_of fun x hx => cmpbs_mem h2 x (List.mem_filter.mp hx).1
              simp [eqvs_nil, filter_all, *]
            · trivial
          · trivial
      all_goals
        rw [show isBk _ = false from rfl]
        cases i1 : isLk a <;> trivial
    case cons.cons.cons =>
      have hz : ((r.length : Int) + 1 + 1 + 1 == 2) = false := by rw [beq_eq_false_iff_ne]; omega
      rw [show isBk (.tup (a :: b :: c :: r)) = false from by cases b <;> rfl]
      trivial
    all_goals
      rw [show isBk _ = false from rfl]
      trivial
  all_goals
    rw [show isBk _ = false from rfl]
    trivial

end Hd

namespace Hd
open PySem Ev Lk
local macro_rules
  | `(tactic| trivial) => `(tactic| simp [*])
theorem number_in_ok (n : Nat) {i : Int} (h0 : 0 ≤ i) (h1 : i ≤ 100) (S : Sto) : C (n+1) 8 [.str (sN i)] S = .ok (.val (.int i)) S := by
  obtain ⟨q1, q2, q3, q4, q5⟩ := sN_ok h0 h1
  rw [c_number_in, b_number_in]
  generalize sN i = w at *
  have hlc : ev (X n) (.lc (.nm 1) (.seq (.var 0)) (.cmp .isin (.var 1) (.glo 2)) [1]) [some (.val (.str w)), none] S = .ok (.lst (w.map fun _ => .bl true)) S := by
    refine ev_lc (xs := w.map fun c => .str [c]) (S1 := S) (by trivial) (by rw [List.length_map, lim_lit]; omega) (mapF_on fun c m => ?_)
    have q := List.all_eq_true.mp q4 c m
    unfold isDig at q
    rw [Bool.and_eq_true, decide_eq_true_eq, decide_eq_true_eq] at q
    have hc : ([48, 49, 50, 51, 52, 53, 54, 55, 56, 57] : List Nat).contains c = true := by
      obtain ⟨j, rfl⟩ : ∃ j, c = 48 + j := ⟨c - 48, by omega⟩
      have hj : j < 10 := by omega
      have key : ∀ j, j < 10 → ([48, 49, 50, 51, 52, 53, 54, 55, 56, 57] : List Nat).contains (48 + j) = true := by decide
      exact key j hj
    have hin : cop .isin (.str [c]) (.str [48, 49, 50, 51, 52, 53, 54, 55, 56, 57]) = some true := by rw [in_s, hc]
    simp [-in_s, hin]
  have hb : boolsOf (w.map fun _ => D.bl true) = some (w.map fun _ => true) := by
    clear hlc q1 q2 q3 q4 q5
    induction w with
    | nil => rfl
    | cons c w ih =>
      show (match boolsOf (w.map fun _ => D.bl true) with | some bs => some (true :: bs) | none => none) = _
      rw [ih] <;> rfl
  have hw : (w == []) = false := by cases w <;> first | (cases q2; done) | rfl
  have hl : ¬ 3 < (w.length : Int) := by omega
  have hi := int_s (by omega) q2 q4
  rw [q5] at hi
  have ha : (w.all fun _ => true) = true := List.all_eq_true.mpr fun _ _ => rfl
  simp [hlc, hb, hw, hl, hi, q1, ha]
theorem lc_str (n : Nat) (a : Option SV) (xs : List D) (S : Sto) (h : ∀ x ∈ xs, itB x = true) (hl : xs.length ≤ 16000000) : ev (X n) (.lc (.nm 2) (.seq (.var 1)) (.blt .str (.cons (.var 2) .nil)) [2]) [a, some (.val (.tup xs)), none] S = .ok (.lst (xs.map fun x => .str (tD x))) S := by
  refine ev_lc (xs := xs) (S1 := S) (by trivial) (by rw [lim_lit]; omega) (mapF_map fun x m => ?_)
  have q := str_it (h x m)
  simp [q]
theorem line_of_ok (n : Nat) (w : List Nat) (xs : List D) (S : Sto) (h : ∀ x ∈ xs, itB x = true) (hl : sumLen (w :: xs.map tD) + (w :: xs.map tD).length * [32].length ≤ 35) : C (n+1) 6 [.str w, .tup xs] S = .ok (.val (.str (joinS [32] (w :: xs.map tD)))) S := by
  have hx : xs.length ≤ 35 := by
    have e : ([32] : List Nat).length = 1 := rfl
    rw [e, List.length_cons, List.length_map] at hl
    omega
  rw [c_line_of, b_line_of]
  have q := lc_str n (some (.val (.str w))) xs S h (by omega)
  have j := jo_ok (strs_c w (strs_map tD xs)) (Nat.le_trans hl (by decide))
  have hz : 1 + xs.length ≤ 16777216 := by omega
  simp [q, j, hz]
theorem len_of {l : List (List Nat)} (h : ∀ w ∈ l, wordB w = true) (hl : l.length ≤ 5) : sumLen l + l.length * [32].length ≤ 35 := (line_ok h hl).1
theorem line_en (n : Nat) {e : En} {m : Nat} (h : e.Ok m) (hm : m ≤ 8) (S : Sto) : C (n+1) 6 [.str e.hd, .tup e.its] S = .ok (.val (.str e.line)) S := by
  have q := line_of_ok n e.hd e.its S (En.it h hm) (by rw [← e.w_c]; exact len_of (En.word h hm) (by have := e.w_len; omega))
  rw [← e.w_c] at q
  exact q
theorem line_lo (n : Nat) {l : Lo} (h : l.Ok) (S : Sto) : C (n+1) 6 [.str [108, 111, 99, 107], l.d] S = .ok (.val (.str l.line)) S :=
  line_of_ok n [108, 111, 99, 107] l.its S (Lo.it h) (len_of (Lo.word h) (by show 5 ≤ 5; decide))
theorem text_of_ok (n : Nat) {k : Bk} (hk : k.Ok) (S : Sto) : C (n+2) 7 [k.d] S = .ok (.val (.str k.text)) S := by
  rw [c_text_of, b_text_of]
  have hl := line_lo n hk.lock S
  have he := hk.le
  have q : ev (X (n+1)) (.lc (.nm 1) (.seq (.idx (.var 0) (.int 1))) (.call 6 (.cons (.idx (.var 1) (.int 0)) (.cons (.slL (.var 1) (.int 1)) .nil))) [1]) [some (.val k.d), none] S = .ok (.lst (k.es.map fun e => .str e.line)) S := by
    refine ev_lc (xs := k.es.map En.d) (S1 := S) (by simp [Bk.d]) (by rw [List.length_map, lim_lit]; omega) (mapF_on fun e m => ?_)
    have r := line_en n (hk.es e m) hk.le S
    have c : cut (D.str e.hd :: e.its) (some 1) none = e.its := by rw [cut_from (by decide)] <;> rfl
    simp [e.d_c, c, r]
  have j := jo_ok (strs_c k.lock.line (strs_map En.line k.es)) (Nat.le_trans (Bk.text_ok hk).1 (by decide))
  have hz : 1 + k.es.length ≤ 16777216 := by omega
  have hd : k.d = .tup [k.lock.d, .tup (k.es.map En.d)] := rfl
  rw [hd] at q ⊢
  simp [q, hl, hz, j, Bk.text, Bk.lines]
theorem lines_ok (n : Nat) {k : Bk} (hk : k.Ok) (S : Sto) : C (n+1) 22 [k.d] S = .ok (.val (.lst (k.lines.map .str))) S := by
  rw [c__law_lines, b__law_lines]
  have he := hk.le
  have q1 : ev (X n) (.lc (.nm 3) (.seq (.idx (.var 0) (.int 0))) (.blt .str (.cons (.var 3) .nil)) [3]) [some (.val (.tup [k.lock.d, .tup (k.es.map En.d)])), none, none, none, none] S = .ok (.lst (k.lock.its.map fun x => .str (tD x))) S := by
    refine ev_lc (xs := k.lock.its) (S1 := S) (by simp [Lo.d, Lo.its]) (by rw [lim_lit]; show 4 ≤ 16777216; decide) (mapF_map fun x m => ?_)
    have q := str_it (Lo.it hk.lock x m)
    simp [q]
  have q2 : ∀ a : Option SV, ev (X n) (.lc (.nm 2) (.seq (.idx (.var 0) (.int 1))) (.join [32] (.lc (.nm 4) (.seq (.var 2)) (.blt .str (.cons (.var 4) .nil)) [4])) [2]) [some (.val (.tup [k.lock.d, .tup (k.es.map En.d)])), a, none, none, none] S = .ok (.lst (k.es.map fun e => .str e.line)) S := by
    intro a
    refine ev_lc (xs := k.es.map En.d) (S1 := S) (by simp) (by rw [List.length_map, lim_lit]; omega) (mapF_on fun e m => ?_)
    have ok := hk.es e m
    have r : ev (X n) (.lc (.nm 4) (.seq (.var 2)) (.blt .str (.cons (.var 4) .nil)) [4]) [some (.val (.tup [k.lock.d, .tup (k.es.map En.d)])), a, some (.val e.d), none, none] S = .ok (.lst ((D.str e.hd :: e.its).map fun x => .str (tD x))) S := by
      refine ev_lc (xs := D.str e.hd :: e.its) (S1 := S) (by simp [e.d_c]) (by
        have h1 := e.w_len
        rw [e.w_c, List.length_cons, List.length_map] at h1
        rw [lim_lit, List.length_cons]
        omega) (mapF_map fun x m => ?_)
      have q : blt .str [x] = some (.str (tD x)) := by
        rcases List.mem_cons.mp m with z | z
        · rw [z] <;> rfl
        · exact str_it (En.it ok hk.le x z)
      simp [q]
    have j := jo_ok (s := [32]) (strs_map tD (D.str e.hd :: e.its)) (by
      have h2 := len_of (En.word ok hk.le) (by have := e.w_len; omega)
      rw [e.w_c] at h2
      exact Nat.le_trans h2 (by decide))
    have jw : joinS [32] ((D.str e.hd :: e.its).map tD) = e.line := by
      unfold En.line
      rw [e.w_c] <;> rfl
    rw [jw] at j
    simp only [List.map_cons] at r j
    simp [r, j]
  have j1 := jo_ok (s := [32]) (strs_map tD k.lock.its) (by
    have h2 := len_of (Lo.word hk.lock) (by show 5 ≤ 5; decide)
    have e1 : k.lock.w = [108, 111, 99, 107] :: k.lock.its.map tD := rfl
    have e5 : ([108, 111, 99, 107] :: k.lock.its.map tD).length = (k.lock.its.map tD).length + 1 := rfl
    rw [e1, sum_c, e5] at h2
    have e2 : ([32] : List Nat).length = 1 := rfl
    rw [e2] at h2 ⊢
    omega)
  have hl := (line_ok (Lo.word hk.lock) (by show 5 ≤ 5; decide)).2.1
  have e3 : joinS [32] k.lock.w = [108, 111, 99, 107, 32] ++ joinS [32] (k.lock.its.map tD) := rfl
  rw [e3, List.length_append] at hl
  have hz : 5 + (joinS [32] (k.lock.its.map tD)).length ≤ 16777216 := Nat.le_trans hl (by decide)
  have hz2 : 1 + k.es.length ≤ 16777216 := by omega
  have hd : k.d = .tup [k.lock.d, .tup (k.es.map En.d)] := rfl
  have e4 : k.lines.map D.str = D.str ([108, 111, 99, 107, 32] ++ joinS [32] (k.lock.its.map tD)) :: k.es.map fun e => D.str e.line := by
    unfold Bk.lines Lo.line
    rw [e3, List.map_cons, List.map_map] <;> rfl
  rw [hd, e4]
  have z : ([108, 111, 99, 107, 32] : List Nat).length = 5 := rfl
  generalize joinS [32] (k.lock.its.map tD) = J at *
  simp [q1, q2, j1, hz, hz2]

end Hd

namespace Hd
open PySem Ev Lk
local macro_rules
  | `(tactic| trivial) => `(tactic| simp [*])
theorem fig (c : Nat) : ([48, 49, 50, 51, 52, 53, 54, 55, 56, 57] : List Nat).contains c = isDig c := by
  unfold isDig
  rw [Bool.eq_iff_iff]
  simp
  omega
theorem bools_str (w : List Nat) : boolsOf (w.map fun c => D.bl (isDig c)) = some (w.map isDig) := by
  induction w with
  | nil => rfl
  | cons c w ih =>
    show (match boolsOf (w.map fun c => D.bl (isDig c)) with | some bs => some (isDig c :: bs) | none => none) = _
    rw [ih] <;> rfl
theorem numP_ok (n : Nat) (w : List Nat) (hw : w.length ≤ 16000000) (S : Sto) : C (n+1) 8 [.str w] S = .ok (.val (numP w)) S := by
  rw [c_number_in, b_number_in]
  have hlc : ev (X n) (.lc (.nm 1) (.seq (.var 0)) (.cmp .isin (.var 1) (.glo 2)) [1]) [some (.val (.str w)), none] S = .ok (.lst (w.map fun c => .bl (isDig c))) S := by
    refine ev_lc (xs := w.map fun c => .str [c]) (S1 := S) (by trivial) (by rw [List.length_map, lim_lit]; omega) (mapF_on fun c m => ?_)
    have hin : cop .isin (.str [c]) (.str [48, 49, 50, 51, 52, 53, 54, 55, 56, 57]) = some (isDig c) := by rw [in_s, fig]
    simp [-in_s, hin]
  have hb := bools_str w
  unfold numP
  cases h1 : w.isEmpty with
  | true =>
    have e : w = [] := List.isEmpty_iff.mp h1
    subst e
    simp
  | false =>
    have h0 : (w == []) = false := by cases w <;> first | (cases h1; done) | rfl
    by_cases h2 : 3 < w.length
    · have h3 : (3 : Int) < w.length := by omega
      simp [h0, h2, h3]
    · have h3 : ¬ (3 : Int) < w.length := by omega
      have ha : (w.map isDig).all id = w.all isDig := by rw [List.all_map] <;> rfl
      cases h4 : w.all isDig with
      | false =>
        rw [h4] at ha
        simp [h0, h2, h3, hlc, hb, ha]
      | true =>
        rw [h4] at ha
        have hi := int_s (by omega) h1 h4
        have hs := str_n (dval_le (by omega) h4)
        cases h5 : (sN (dval w : Nat) == w) <;> simp [h0, h2, h3, hlc, hb, ha, hi, hs, h5]
theorem ln_loop (n : Nat) (w : List Nat) (S : Sto) : ∀ (l : List Nat) (o : Option SV), (∀ i ∈ l, i ≤ 100) → (match l.find? (fun i => sN (i : Nat) == w) with
    | some i => forL (fun d ρ' => M.bind (M.opt (bindT (.nm 1) d ρ')) fun ρ'' => exs (X n) b__law_number_in_1 ρ'') (l.map fun (i : Nat) => D.int (i : Int)) [some (.val (.str w)), o] S = .ok (.rt (.val (.int (i : Nat)))) S
    | none => ∃ o', forL (fun d ρ' => M.bind (M.opt (bindT (.nm 1) d ρ')) fun ρ'' => exs (X n) b__law_number_in_1 ρ'') (l.map fun (i : Nat) => D.int (i : Int)) [some (.val (.str w)), o] S = .ok (.nx [some (.val (.str w)), o']) S)
  | [], o, _ => ⟨o, rfl⟩
  | i :: l, o, h => by
    have hi := h i List.mem_cons_self
    have hs := str_n (n := i) (by omega)
    have ih := ln_loop n w S l (some (.val (.int i))) fun j m => h j (List.mem_cons_of_mem _ m)
    cases q : (sN (i : Nat) == w) with
    | true =>
      have e : w = sN (i : Nat) := (beq_iff_eq.mp q).symm
      have fc : (i :: l).find? (fun i => sN (i : Nat) == w) = some i := by rw [List.find?_cons]; simp only [q]
      rw [fc, List.map_cons, forL_c, b__law_number_in_1]
      rw [← e] at hs
      simp [hs]
    | false =>
      have e : (w == sN (i : Nat)) = false := by
        rw [beq_eq_false_iff_ne] at q ⊢
        exact fun z => q z.symm
      have st : exs (X n) b__law_number_in_1 [some (.val (.str w)), some (.val (.int i))] S = .ok (.nx [some (.val (.str w)), some (.val (.int i))]) S := by
        rw [b__law_number_in_1]
        simp [hs, e]
      have fc : (i :: l).find? (fun i => sN (i : Nat) == w) = l.find? (fun i => sN (i : Nat) == w) := by rw [List.find?_cons]; simp only [q]
      rw [fc, List.map_cons, forL_c]
      simp [st]
      exact ih
theorem numL_ok (n : Nat) (w : List Nat) (S : Sto) : C (n+1) 23 [.str w] S = .ok (.val (numL w)) S := by
  rw [c__law_number_in, b__law_number_in]
  have lp := ln_loop n w S (List.range 101) none fun i m => by
    have := List.mem_range.mp m
    omega
  have hr : rngD 101 = (List.range 101).map fun (i : Nat) => D.int (i : Int) := rfl
  unfold numL
  cases q : (List.range 101).find? (fun i => sN (i : Nat) == w) with
  | some i =>
    rw [q] at lp
    rw [st_rt (v := .val (.int (i : Nat))) (S1 := S) (by
      rw [x_fors]
      simp only [bind_ap, i_rngE, e_int, rng_i, opt_some]
      simp [hr]
      exact lp)]
    rfl
  | none =>
    rw [q] at lp
    obtain ⟨o', lp⟩ := lp
    rw [st_nx (ρ' := [some (.val (.str w)), o']) (S1 := S) (by
      rw [x_fors]
      simp only [bind_ap, i_rngE, e_int, rng_i, opt_some]
      simp [hr]
      exact lp)]
    simp
/-! ### both readings of a word -/
theorem numP_c (w : List Nat) : D.cmpb (numP w) = true := by
  rcases numP_cases w with e | ⟨e, _⟩ <;> rw [e] <;> rfl
theorem numL_c (w : List Nat) : D.cmpb (numL w) = true := by
  rcases numL_cases w with e | ⟨i, hi, rfl⟩
  · rw [e] <;> rfl
  · rw [numL_sN hi] <;> rfl
theorem num_eqP {w : List Nat} {lo hi : Int} (hh : hi ≤ 100) (h : isI (numP w) lo hi = true) : numL w = numP w := by
  rcases numP_cases w with e | ⟨e, ew⟩
  · rw [e] at h
    cases h
  · rw [e, isI_i, Bool.and_eq_true, decide_eq_true_eq, decide_eq_true_eq] at h
    rw [e, ew]
    have a : numL (sN (dval w : Nat)) = .int (dval w : Nat) := numL_sN (by omega)
    rw [a, ← ew]
theorem num_eqL {w : List Nat} {lo hi : Int} (h : isI (numL w) lo hi = true) : numL w = numP w := by
  rcases numL_cases w with e | ⟨i, hi, rfl⟩
  · rw [e] at h
    cases h
  · rw [numL_sN hi, numP_sN hi]
theorem numP_s (w : List Nat) : isS (numP w) tests = false := by
  rcases numP_cases w with e | ⟨e, _⟩ <;> rw [e] <;> rfl
theorem numL_s (w : List Nat) : isS (numL w) tests = false := by
  rcases numL_cases w with e | ⟨i, hi, rfl⟩
  · rw [e] <;> rfl
  · rw [numL_sN hi] <;> rfl
def itP (w : List Nat) : D := if inD (.str w) tests then .str w else numP w
def itL (w : List Nat) : D := if inD (.str w) tests then .str w else numL w
theorem itP_c (w : List Nat) : D.cmpb (itP w) = true := by
  unfold itP
  split
  · rfl
  · exact numP_c w
theorem itL_c (w : List Nat) : D.cmpb (itL w) = true := by
  unfold itL
  split
  · rfl
  · exact numL_c w
theorem it_eqP {w : List Nat} {lo hi : Int} (hh : hi ≤ 100) (h : isI (itP w) lo hi = true) : itL w = itP w := by
  unfold itP at h ⊢
  unfold itL
  split at h
  · cases h
  · rename_i q
    rw [if_neg q, if_neg q]
    exact num_eqP hh h
theorem it_eqL {w : List Nat} {lo hi : Int} (h : isI (itL w) lo hi = true) : itL w = itP w := by
  unfold itL at h ⊢
  unfold itP
  split at h
  · cases h
  · rename_i q
    rw [if_neg q, if_neg q]
    exact num_eqL h
theorem it_sP {w : List Nat} (h : isS (itP w) tests = true) : itL w = itP w := by
  unfold itP at h ⊢
  unfold itL
  split at h
  · rename_i q
    rw [if_pos q, if_pos q]
  · rw [numP_s] at h
    cases h
theorem it_sL {w : List Nat} (h : isS (itL w) tests = true) : itL w = itP w := by
  unfold itL at h ⊢
  unfold itP
  split at h
  · rename_i q
    rw [if_pos q, if_pos q]
  · rw [numL_s] at h
    cases h
theorem lk_P {ws : List (List Nat)} (h : isLk (.tup (ws.map numP)) = true) : ws.map numL = ws.map numP := by
  rcases ws with _ | ⟨a, _ | ⟨b, _ | ⟨c, _ | ⟨e, _ | ⟨f, r⟩⟩⟩⟩⟩ <;> first | (cases h; done) | skip
  have h : (isI (numP a) 1 4 && (isI (numP b) 1 20 && (isI (numP c) 0 100 && (isI (numP e) 0 10 && mulLe (numP a) (numP e) (numP c))))) = true := h
  simp only [Bool.and_eq_true] at h
  obtain ⟨h1, h2, h3, h4, _⟩ := h
  simp only [List.map_cons, List.map_nil]
  rw [num_eqP (by decide) h1, num_eqP (by decide) h2, num_eqP (by decide) h3, num_eqP (by decide) h4]
theorem lk_L {ws : List (List Nat)} (h : isLk (.tup (ws.map numL)) = true) : ws.map numL = ws.map numP := by
  rcases ws with _ | ⟨a, _ | ⟨b, _ | ⟨c, _ | ⟨e, _ | ⟨f, r⟩⟩⟩⟩⟩ <;> first | (cases h; done) | skip
  have h : (isI (numL a) 1 4 && (isI (numL b) 1 20 && (isI (numL c) 0 100 && (isI (numL e) 0 10 && mulLe (numL a) (numL e) (numL c))))) = true := h
  simp only [Bool.and_eq_true] at h
  obtain ⟨h1, h2, h3, h4, _⟩ := h
  simp only [List.map_cons, List.map_nil]
  rw [num_eqL h1, num_eqL h2, num_eqL h3, num_eqL h4]
theorem en_P {w : List Nat} {ws : List (List Nat)} (h : isEn (.tup (.str w :: ws.map itP)) 8 = true) : ws.map itL = ws.map itP := by
  rcases ws with _ | ⟨a, _ | ⟨b, _ | ⟨c, r⟩⟩⟩
  · rfl
  · have h : ((w == [105, 110] && isI (itP a) 1 4) || (w == [114, 101, 115, 116] && isI (itP a) 1 60)) = true := h
    simp only [Bool.or_eq_true, Bool.and_eq_true] at h
    simp only [List.map_cons, List.map_nil]
    rcases h with ⟨_, h⟩ | ⟨_, h⟩
    · rw [it_eqP (by decide) h]
    · rw [it_eqP (by decide) h]
  · have h : (w == [103, 111] && (isS (itP a) tests && isI (itP b) 0 (8 - 1))) = true := h
    simp only [Bool.and_eq_true] at h
    obtain ⟨_, h1, h2⟩ := h
    simp only [List.map_cons, List.map_nil]
    rw [it_sP h1, it_eqP (by decide) h2]
  · cases h
theorem en_L {w : List Nat} {ws : List (List Nat)} (h : isEn (.tup (.str w :: ws.map itL)) 8 = true) : ws.map itL = ws.map itP := by
  rcases ws with _ | ⟨a, _ | ⟨b, _ | ⟨c, r⟩⟩⟩
  · rfl
  · have h : ((w == [105, 110] && isI (itL a) 1 4) || (w == [114, 101, 115, 116] && isI (itL a) 1 60)) = true := h
    simp only [Bool.or_eq_true, Bool.and_eq_true] at h
    simp only [List.map_cons, List.map_nil]
    rcases h with ⟨_, h⟩ | ⟨_, h⟩
    · rw [it_eqL h]
    · rw [it_eqL h]
  · have h : (w == [103, 111] && (isS (itL a) tests && isI (itL b) 0 (8 - 1))) = true := h
    simp only [Bool.and_eq_true] at h
    obtain ⟨_, h1, h2⟩ := h
    simp only [List.map_cons, List.map_nil]
    rw [it_sL h1, it_eqL h2]
  · cases h
/-! ### a line -/
def rowL (xs : List D) : D := if isLk (.tup xs) then .tup [.str [108, 111, 99, 107], .tup xs] else .non
def rowF (xs : List D) : D := if isEn (.tup xs) 8 then .tup [.str [101, 110, 116, 114, 121], .tup xs] else .non
def lineP (t : List Nat) : D := match splt 32 t with
  | [] => .non
  | w :: ws => if w == [108, 111, 99, 107] then rowL (ws.map numP) else rowF (.str w :: ws.map itP)
def lineL (t : List Nat) : D := match splt 32 t with
  | [] => .non
  | w :: ws => if w == [108, 111, 99, 107] then rowL (ws.map numL) else rowF (.str w :: ws.map itL)
theorem line_eq (t : List Nat) : lineL t = lineP t := by
  unfold lineL lineP
  obtain ⟨w, ws, e⟩ := splt_hd 32 t
  rw [e]
  show (if _ then _ else _) = (if _ then _ else _)
  split
  · unfold rowL
    by_cases hp : isLk (.tup (ws.map numP)) = true
    · rw [lk_P hp]
    · by_cases hl : isLk (.tup (ws.map numL)) = true
      · rw [lk_L hl]
      · rw [if_neg hp, if_neg hl]
  · unfold rowF
    by_cases hp : isEn (.tup (.str w :: ws.map itP)) 8 = true
    · rw [en_P hp]
    · by_cases hl : isEn (.tup (.str w :: ws.map itL)) 8 = true
      · rw [en_L hl]
      · rw [if_neg hp, if_neg hl]

end Hd

namespace Hd
open PySem Ev Lk
local macro_rules
  | `(tactic| trivial) => `(tactic| simp [*])
theorem itemP_ok (n : Nat) (w : List Nat) (hw : w.length ≤ 16000000) (a b c e f : Option SV) (S : Sto) : ev (X (n+1)) (.ife (.cmp .isin (.var 3) (.glo 1)) (.var 3) (.call 8 (.cons (.var 3) .nil))) [a, b, c, some (.val (.str w)), e, f] S = .ok (itP w) S := by
  have hf : flats tests = true := rfl
  have hg : GG[1]? = some (.tup tests) := g_1
  have r := numP_ok n w hw S
  unfold itP
  cases hi : inD (.str w) tests <;> simp [-g_1, hg, hf, hi, r]
theorem itemsP (n : Nat) (a b e f : Option SV) (S : Sto) : ∀ (ws : List (List Nat)) (acc : List D) (o : Option SV), (∀ w ∈ ws, w.length ≤ 16000000) → acc.length + ws.length ≤ 16000000 →
    ∃ o', forL (fun d ρ' => M.bind (M.opt (bindT (.nm 3) d ρ')) fun ρ'' => exs (X (n+1)) b_line_in_1 ρ'') (ws.map fun w => .str w) [a, b, some (.own acc), o, e, f] S = .ok (.nx [a, b, some (.own (acc ++ ws.map itP)), o', e, f]) S
  | [], acc, o, _, _ => ⟨o, by
      have e : acc ++ ([] : List (List Nat)).map itP = acc := List.append_nil acc
      rw [e] <;> rfl⟩
  | w :: ws, acc, o, h, hl => by
    have hl2 : acc.length + (ws.length + 1) ≤ 16000000 := hl
    obtain ⟨o', ih⟩ := itemsP n a b e f S ws (acc ++ [itP w]) (some (.val (.str w))) (fun y m => h y (List.mem_cons_of_mem _ m)) (by rw [List.length_append]; show acc.length + 1 + ws.length ≤ 16000000; omega)
    refine ⟨o', ?_⟩
    have q := itemP_ok n w (h w List.mem_cons_self) a b (some (.own acc)) e f S
    have hz : acc.length < 16777216 := by omega
    rw [List.append_assoc] at ih
    have st : exs (X (n+1)) b_line_in_1 [a, b, some (.own acc), some (.val (.str w)), e, f] S = .ok (.nx [a, b, some (.own (acc ++ [itP w])), some (.val (.str w)), e, f]) S := by
      rw [b_line_in_1, st_nx (ρ' := [a, b, some (.own (acc ++ [itP w])), some (.val (.str w)), e, f]) (S1 := S) (by rw [x_app, bind_ap, q]; simp [appM, hz])]
      rfl
    rw [List.map_cons, forL_c]
    simp [st]
    exact ih
theorem lineP_ok (n : Nat) (t : List Nat) (ht : t.length ≤ 100000) (S : Sto) : C (n+3) 9 [.str t] S = .ok (.val (lineP t)) S := by
  rw [c_line_in, b_line_in]
  obtain ⟨w, ws, es⟩ := splt_hd 32 t
  have sp := split_ok (c := 32) (a := t) (by decide) (by omega)
  have hm : ∀ v ∈ w :: ws, v.length ≤ t.length := fun v m => splt_wd (by rw [es]; exact m)
  have hn := splt_le 32 t
  rw [es, List.length_cons] at hn
  rw [es, List.map_cons] at sp
  unfold lineP
  rw [es]
  have cu : cut (D.str w :: ws.map D.str) (some 1) none = ws.map D.str := by rw [cut_from (by decide)] <;> rfl
  rw [st_nx (ρ' := [some (.val (.str t)), some (.val (.lst (.str w :: ws.map D.str))), none, none, none, none]) (S1 := S) (by simp [sp])]
  show _ = Res.ok (α := RV) (RV.val (if w == [108, 111, 99, 107] then rowL (ws.map numP) else rowF (.str w :: ws.map itP))) S
  cases hw : (w == [108, 111, 99, 107]) with
  | true =>
    have q : ev (X (n+2)) (.lc (.nm 3) (.seq (.slL (.var 1) (.int 1))) (.call 8 (.cons (.var 3) .nil)) [3]) [some (.val (.str t)), some (.val (.lst (.str w :: ws.map D.str))), none, none, none, none] S = .ok (.lst (ws.map numP)) S := by
      refine ev_lc (xs := ws.map fun v => D.str v) (S1 := S) (by simp [cu]) (by rw [List.length_map, lim_lit]; omega) (mapF_on fun v m => ?_)
      have r := numP_ok (n+1) v (by have := hm v (List.mem_cons_of_mem _ m); omega) S
      simp [r]
    have cl : D.cmpbs (ws.map numP) = true := cmpbs_map numP numP_c ws
    have st : exs (X (n+2)) (.cons (.asg 5 (.blt .tuple (.cons (.lc (.nm 3) (.seq (.slL (.var 1) (.int 1))) (.call 8 (.cons (.var 3) .nil)) [3]) .nil))) (.cons (.ret (.ife (.e (.call 2 (.cons (.var 5) .nil))) (.tup (.cons (.str [108, 111, 99, 107]) (.cons (.var 5) .nil))) (.non))) (.nil))) [some (.val (.str t)), some (.val (.lst (.str w :: ws.map D.str))), none, none, none, none] S = .ok (.rt (.val (rowL (ws.map numP)))) S := by
      rw [st_nx (ρ' := [some (.val (.str t)), some (.val (.lst (.str w :: ws.map D.str))), none, none, none, some (.val (.tup (ws.map numP)))]) (S1 := S) (by simp [q])]
      unfold rowL
      cases hk : isLk (.tup (ws.map numP)) <;> simp [hk, cl]
    rw [if_rt (S1 := S) (v := .val (rowL (ws.map numP))) (S2 := S) (by simp [hw]) st]
    rfl
  | false =>
    rw [if_nxF (S1 := S) (ρ' := [some (.val (.str t)), some (.val (.lst (.str w :: ws.map D.str))), none, none, none, none]) (S2 := S) (by simp [hw]) (by simp)]
    rw [st_nx (ρ' := [some (.val (.str t)), some (.val (.lst (.str w :: ws.map D.str))), some (.own [.str w]), none, none, none]) (S1 := S) (by simp)]
    obtain ⟨o', lp⟩ := itemsP (n+1) (some (.val (.str t))) (some (.val (.lst (.str w :: ws.map D.str)))) none none S ws [.str w] none (fun v m => by have := hm v (List.mem_cons_of_mem _ m); omega) (by show 1 + ws.length ≤ 16000000; omega)
    have fx : ex (X (n+2)) (.fors (.nm 3) (.seq (.slL (.var 1) (.int 1))) b_line_in_1) [some (.val (.str t)), some (.val (.lst (.str w :: ws.map D.str))), some (.own [.str w]), none, none, none] S = .ok (.nx [some (.val (.str t)), some (.val (.lst (.str w :: ws.map D.str))), some (.own (.str w :: ws.map itP)), o', none, none]) S := by
      rw [x_fors]
      simp [cu]
      exact lp
    rw [st_nx fx]
    have cl : D.cmpbs (ws.map itP) = true := cmpbs_map itP itP_c ws
    generalize (D.lst (.str w :: ws.map D.str)) = W
    rw [st_nx (ρ' := [some (.val (.str t)), some (.val W), some (.own (.str w :: ws.map itP)), o', some (.val (.tup (.str w :: ws.map itP))), none]) (S1 := S) (by simp [peekV])]
    unfold rowF
    cases hk : isEn (.tup (.str w :: ws.map itP)) 8 <;> cases o' with
    | none => simp [hk, cl]
    | some o => cases o <;> simp [hk, cl]
theorem lineL_ok (n : Nat) (t : List Nat) (ht : t.length ≤ 100000) (S : Sto) : C (n+3) 24 [.str t] S = .ok (.val (lineL t)) S := by
  rw [c__law_line_in, b__law_line_in]
  obtain ⟨w, ws, es⟩ := splt_hd 32 t
  have sp := split_ok (c := 32) (a := t) (by decide) (by omega)
  have hn := splt_le 32 t
  rw [es, List.length_cons] at hn
  rw [es, List.map_cons] at sp
  unfold lineL
  rw [es]
  have cu : cut (D.str w :: ws.map D.str) (some 1) none = ws.map D.str := by rw [cut_from (by decide)] <;> rfl
  have cv : cut (D.str w :: ws.map D.str) none (some 1) = [D.str w] := by rw [cut_to (by decide)] <;> rfl
  rw [st_nx (ρ' := [some (.val (.str t)), some (.val (.lst (.str w :: ws.map D.str))), none, none, none, none]) (S1 := S) (by simp [sp])]
  show _ = Res.ok (α := RV) (RV.val (if w == [108, 111, 99, 107] then rowL (ws.map numL) else rowF (.str w :: ws.map itL))) S
  cases hw : (w == [108, 111, 99, 107]) with
  | true =>
    have q : ev (X (n+2)) (.lc (.nm 5) (.seq (.slL (.var 1) (.int 1))) (.call 23 (.cons (.var 5) .nil)) [5]) [some (.val (.str t)), some (.val (.lst (.str w :: ws.map D.str))), none, none, none, none] S = .ok (.lst (ws.map numL)) S := by
      refine ev_lc (xs := ws.map fun v => D.str v) (S1 := S) (by simp [cu]) (by rw [List.length_map, lim_lit]; omega) (mapF_on fun v m => ?_)
      have r := numL_ok (n+1) v S
      simp [r]
    have cl : D.cmpbs (ws.map numL) = true := cmpbs_map numL numL_c ws
    have st : exs (X (n+2)) (.cons (.asg 4 (.blt .tuple (.cons (.lc (.nm 5) (.seq (.slL (.var 1) (.int 1))) (.call 23 (.cons (.var 5) .nil)) [5]) .nil))) (.cons (.ret (.ife (.e (.call 19 (.cons (.var 4) .nil))) (.tup (.cons (.str [108, 111, 99, 107]) (.cons (.var 4) .nil))) (.non))) (.nil))) [some (.val (.str t)), some (.val (.lst (.str w :: ws.map D.str))), none, none, none, none] S = .ok (.rt (.val (rowL (ws.map numL)))) S := by
      rw [st_nx (ρ' := [some (.val (.str t)), some (.val (.lst (.str w :: ws.map D.str))), none, none, some (.val (.tup (ws.map numL))), none]) (S1 := S) (by simp [q])]
      unfold rowL
      cases hk : isLk (.tup (ws.map numL)) <;> simp [hk, cl]
    rw [if_rt (S1 := S) (v := .val (rowL (ws.map numL))) (S2 := S) (by simp [hw]) st]
    rfl
  | false =>
    rw [if_nxF (S1 := S) (ρ' := [some (.val (.str t)), some (.val (.lst (.str w :: ws.map D.str))), none, none, none, none]) (S2 := S) (by simp [hw]) (by simp)]
    rw [st_nx (ρ' := [some (.val (.str t)), some (.val (.lst (.str w :: ws.map D.str))), some (.val (.lst tests)), none, none, none]) (S1 := S) (by simp [tests])]
    have q : ev (X (n+2)) (.lc (.nm 5) (.seq (.slL (.var 1) (.int 1))) (.ife (.cmp .isin (.var 5) (.var 2)) (.var 5) (.call 23 (.cons (.var 5) .nil))) [5]) [some (.val (.str t)), some (.val (.lst (.str w :: ws.map D.str))), some (.val (.lst tests)), none, none, none] S = .ok (.lst (ws.map itL)) S := by
      refine ev_lc (xs := ws.map fun v => D.str v) (S1 := S) (by simp [cu]) (by rw [List.length_map, lim_lit]; omega) (mapF_on fun v m => ?_)
      have r := numL_ok (n+1) v S
      have hf : flats tests = true := rfl
      unfold itL
      cases hi : inD (.str v) tests <;> simp [hf, hi, r]
    have cl : D.cmpbs (ws.map itL) = true := cmpbs_map itL itL_c ws
    have hz : 1 + ws.length ≤ 16777216 := by omega
    rw [st_nx (ρ' := [some (.val (.str t)), some (.val (.lst (.str w :: ws.map D.str))), some (.val (.lst tests)), some (.val (.tup (.str w :: ws.map itL))), none, none]) (S1 := S) (by simp [q, cv, hz])]
    unfold rowF
    cases hk : isEn (.tup (.str w :: ws.map itL)) 8 <;> simp [hk, cl]

end Hd

namespace Hd
open PySem Ev Lk
local macro_rules
  | `(tactic| trivial) => `(tactic| simp [*])
def rP : D → Bool
  | .tup [.str w, _] => w == [101, 110, 116, 114, 121]
  | _ => false
def rW : D → D
  | .tup [w, _] => w
  | _ => .non
def rF : D → D
  | .tup [_, x] => x
  | _ => .non
def LK : List Nat := [108, 111, 99, 107]
def EN : List Nat := [101, 110, 116, 114, 121]
/-- what a line is: nothing; a lock's line; an entry's -/
theorem line_cases (t : List Nat) : lineP t = .non ∨ (∃ xs, lineP t = .tup [.str LK, .tup xs] ∧ isLk (.tup xs) = true ∧ D.cmpbs xs = true ∧ D.deps xs = 0) ∨ ∃ xs, lineP t = .tup [.str EN, .tup xs] ∧ isEn (.tup xs) 8 = true ∧ D.cmpbs xs = true ∧ D.deps xs = 0 := by
  obtain ⟨w, ws, e⟩ := splt_hd 32 t
  have d0 : ∀ v, D.dep (numP v) = 0 := fun v => by
    rcases numP_cases v with e | ⟨e, _⟩ <;> rw [e] <;> rfl
  have d1 : ∀ v, D.dep (itP v) = 0 := fun v => by
    unfold itP
    split
    · rfl
    · exact d0 v
  have e2 : lineP t = if w == [108, 111, 99, 107] then rowL (ws.map numP) else rowF (.str w :: ws.map itP) := by
    unfold lineP
    rw [e]
  rw [e2]
  by_cases hw : (w == [108, 111, 99, 107]) = true
  · rw [if_pos hw]
    unfold rowL
    by_cases hk : isLk (.tup (ws.map numP)) = true
    · rw [if_pos hk]
      refine .inr (.inl ⟨_, rfl, hk, cmpbs_map numP numP_c ws, Nat.le_zero.mp (deps_le fun x hx => ?_)⟩)
      obtain ⟨v, _, rfl⟩ := List.mem_map.mp hx
      rw [d0 v] <;> exact Nat.le_refl _
    · rw [if_neg hk]
      exact .inl rfl
  · rw [if_neg hw]
    unfold rowF
    by_cases hk : isEn (.tup (.str w :: ws.map itP)) 8 = true
    · rw [if_pos hk]
      refine .inr (.inr ⟨_, rfl, hk, by rw [cmpbs_c, cmpbs_map itP itP_c ws] <;> rfl, Nat.le_zero.mp (deps_le fun x hx => ?_)⟩)
      rcases List.mem_cons.mp hx with e | hx
      · rw [e] <;> exact Nat.le_refl _
      · obtain ⟨v, _, rfl⟩ := List.mem_map.mp hx
        rw [d1 v] <;> exact Nat.le_refl _
    · rw [if_neg hk]
      exact .inl rfl
theorem line_c (t : List Nat) : D.cmpb (lineP t) = true := by
  rcases line_cases t with e | ⟨xs, e, _, h, _⟩ | ⟨xs, e, _, h, _⟩ <;> rw [e]
  · rfl
  · rw [cmpb_tup, cmpbs_c, cmpbs_c, cmpb_tup, h] <;> rfl
  · rw [cmpb_tup, cmpbs_c, cmpbs_c, cmpb_tup, h] <;> rfl
theorem line_d (t : List Nat) : D.dep (lineP t) ≤ 2 := by
  rcases line_cases t with e | ⟨xs, e, _, _, h⟩ | ⟨xs, e, _, _, h⟩ <;> rw [e]
  · show 0 ≤ 2
    decide
  · rw [dep_tup, deps_c, deps_c, dep_tup, h]
    decide
  · rw [dep_tup, deps_c, deps_c, dep_tup, h]
    decide
def rowsP (t : List Nat) : List D := (splt 10 t).map lineP
theorem rowsP_c (t : List Nat) : D.cmpbs (rowsP t) = true := cmpbs_map lineP line_c _
theorem rowsP_len (t : List Nat) : (rowsP t).length ≤ t.length + 1 := by
  unfold rowsP
  rw [List.length_map]
  exact splt_le 10 t
theorem rowsP_ne (t : List Nat) : ∃ r rs, rowsP t = r :: rs := by
  obtain ⟨w, ws, e⟩ := splt_hd 10 t
  exact ⟨_, _, by unfold rowsP; rw [e]; rfl⟩
theorem rowsP_deep (t : List Nat) : deepOk .non (rowsP t) = true := by
  have h : D.deps (rowsP t) ≤ 2 := deps_le fun x hx => by
    obtain ⟨v, _, rfl⟩ := List.mem_map.mp hx
    exact line_d v
  unfold deepOk
  rw [rowsP_c, decide_eq_true (show D.deps (rowsP t) ≤ 50 by omega)] <;> rfl
theorem rowsP_in (t : List Nat) : cop .isin .non (.lst (rowsP t)) = some (inD .non (rowsP t)) := by
  show (if (D.flat .non && (rowsP t).all D.flat) = true then some (inD .non (rowsP t)) else if deepOk .non (rowsP t) = true then some (inD .non (rowsP t)) else none) = _
  rw [rowsP_deep]
  split <;> rfl
theorem in_idx (x : D) : ∀ ys : List D, inD x ys = (ys.findIdx? fun y => D.eqv y x).isSome := fun ys => by
  unfold inD
  rw [List.findIdx?_isSome]
theorem rowsP_ix (t : List Nat) {j : Nat} (h : (rowsP t).findIdx? (fun y => D.eqv y .non) = some j) : methD .index (.lst (rowsP t)) .non = some (.int (j : Nat)) := by
  show (if deepOk .non (rowsP t) then ((rowsP t).findIdx? fun y => D.eqv y .non).map fun (j : Nat) => D.int (j : Int) else none) = _
  rw [rowsP_deep, h] <;> rfl
/-! ### what is due -/
def bkD (rs : List D) : D := .tup [rF (rs.getD 0 .non), .tup (rs.tail.map rF)]
def shapeB (rs : List D) : Bool := D.eqvs (rs.map rW) (.str LK :: List.replicate (rs.length - 1) (.str EN))
def dueD (t : List Nat) : D := match (rowsP t).findIdx? (fun y => D.eqv y .non) with
  | some j => .int ((j : Nat) + 1)
  | none => if shapeB (rowsP t) && isBk (bkD (rowsP t)) then .non else .int ((rowsP t).length + 1)
/-- no line is nothing: every row has its word -/
def Rw (x : D) : Prop := (∃ y, x = .tup [.str LK, y] ∧ D.cmpb y = true) ∨ ∃ y, x = .tup [.str EN, y] ∧ D.cmpb y = true
theorem rows_rw {t : List Nat} (h : (rowsP t).findIdx? (fun y => D.eqv y .non) = none) : ∀ x ∈ rowsP t, Rw x := by
  intro x hx
  have hn := List.findIdx?_eq_none_iff.mp h x hx
  obtain ⟨v, _, rfl⟩ := List.mem_map.mp hx
  rcases line_cases v with e | ⟨xs, e, _, c, _⟩ | ⟨xs, e, _, c, _⟩
  · rw [e] at hn
    cases hn
  · exact .inl ⟨_, e, c⟩
  · exact .inr ⟨_, e, c⟩
theorem eqvs_len : ∀ {xs ys : List D}, D.eqvs xs ys = true → xs.length = ys.length
  | [], [], _ => rfl
  | [], _ :: _, h => by cases h
  | _ :: _, [], h => by cases h
  | x :: xs, y :: ys, h => by
    obtain ⟨_, h2⟩ := Bool.and_eq_true_iff.mp (show (D.eqv x y && D.eqvs xs ys) = true from h)
    rw [List.length_cons, List.length_cons, eqvs_len h2]
theorem rw_all : ∀ {rs : List D}, (∀ x ∈ rs, Rw x) → D.eqvs (rs.map rW) (List.replicate rs.length (.str EN)) = rs.all rP
  | [], _ => rfl
  | x :: rs, h => by
    have ih := rw_all (rs := rs) fun y m => h y (List.mem_cons_of_mem _ m)
    rw [List.map_cons, List.length_cons, List.replicate_succ, List.all_cons, eqvs_cc, ih]
    rcases h x List.mem_cons_self with ⟨y, e, _⟩ | ⟨y, e, _⟩ <;> rw [e] <;> rfl
theorem rw_fil {rs : List D} (h : ∀ x ∈ rs, Rw x) : D.eqvs (rs.map rW) (List.replicate (rs.filter rP).length (.str EN)) = rs.all rP := by
  cases q : rs.all rP with
  | true =>
    have e : rs.filter rP = rs := List.filter_eq_self.mpr fun x m => List.all_eq_true.mp q x m
    rw [e, rw_all h, q]
  | false =>
    rw [Bool.eq_false_iff]
    intro z
    have l := eqvs_len z
    rw [List.length_map, List.length_replicate] at l
    have e : rs.filter rP = rs := List.filter_sublist.eq_of_length l.symm
    have : rs.all rP = true := List.all_eq_true.mpr fun x m => by
      rw [← e] at m
      exact (List.mem_filter.mp m).2
    rw [q] at this
    cases this
theorem shape_P {rs : List D} (hne : rs ≠ []) (h : ∀ x ∈ rs, Rw x) : D.eqvs (rs.map rW) (.str LK :: List.replicate ((rs.filter rP).map rF).length (.str EN)) = shapeB rs ∧ (shapeB rs = true → (rs.filter rP).map rF = rs.tail.map rF ∧ ∃ y rr, rs = .tup [.str LK, y] :: rr) := by
  cases rs with
  | nil => exact absurd rfl hne
  | cons x rs =>
    have hr : ∀ y ∈ rs, Rw y := fun y m => h y (List.mem_cons_of_mem _ m)
    unfold shapeB
    rw [List.length_map, List.map_cons, eqvs_cc, eqvs_cc]
    have e0 : (x :: rs).length - 1 = rs.length := rfl
    rw [e0, rw_all hr]
    rcases h x List.mem_cons_self with ⟨y, e, _⟩ | ⟨y, e, _⟩
    · rw [e, List.filter_cons_of_neg (by exact Bool.false_ne_true), rw_fil hr]
      refine ⟨rfl, fun z => ⟨?_, y, rs, rfl⟩⟩
      have q : rs.all rP = true := (Bool.and_eq_true_iff.mp z).2
      rw [List.filter_eq_self.mpr fun x m => List.all_eq_true.mp q x m]
      rfl
    · rw [e]
      refine ⟨rfl, fun z => ?_⟩
      have : (D.eqv (.str EN) (.str LK)) = true := (Bool.and_eq_true_iff.mp z).1
      cases this
theorem rw_get {x : D} (h : Rw x) : ∃ w y, x = .tup [.str w, y] := by
  rcases h with ⟨y, e, _⟩ | ⟨y, e, _⟩
  · exact ⟨_, y, e⟩
  · exact ⟨_, y, e⟩
theorem rw_w {rs : List D} (h : ∀ x ∈ rs, Rw x) : D.cmpbs (rs.map rW) = true ∧ D.deps (rs.map rW) = 0 := by
  refine ⟨cmpbs_of fun x m => ?_, Nat.le_zero.mp (deps_le fun x m => ?_)⟩
  · obtain ⟨y, hy, rfl⟩ := List.mem_map.mp m
    obtain ⟨w, z, e⟩ := rw_get (h y hy)
    rw [e] <;> rfl
  · obtain ⟨y, hy, rfl⟩ := List.mem_map.mp m
    obtain ⟨w, z, e⟩ := rw_get (h y hy)
    rw [e] <;> exact Nat.le_refl _
theorem rw_f {rs : List D} (h : ∀ x ∈ rs, Rw x) : D.cmpbs (rs.map rF) = true := cmpbs_of fun x m => by
  obtain ⟨y, hy, rfl⟩ := List.mem_map.mp m
  rcases h y hy with ⟨z, e, c⟩ | ⟨z, e, c⟩ <;> rw [e] <;> exact c
theorem ens_c (k : Nat) : D.cmpbs (.str LK :: List.replicate k (.str EN)) = true ∧ D.deps (.str LK :: List.replicate k (.str EN)) = 0 := by
  have h1 : D.cmpbs (List.replicate k (.str EN)) = true := cmpbs_of fun x hx => by rw [List.eq_of_mem_replicate hx] <;> rfl
  have h2 : D.deps (List.replicate k (.str EN)) ≤ 0 := deps_le fun x hx => by rw [List.eq_of_mem_replicate hx] <;> exact Nat.le_refl _
  refine ⟨by rw [cmpbs_c, h1] <;> rfl, ?_⟩
  rw [deps_c]
  show max 0 _ = 0
  omega
theorem ne_lists {xs ys : List D} (h1 : D.cmpbs xs = true) (h2 : D.cmpbs ys = true) (h3 : D.deps xs = 0) : cop .ne (.lst xs) (.lst ys) = some (!D.eqvs xs ys) := by
  show (if D.cmpb (.lst xs) && D.cmpb (.lst ys) && depOk (.lst xs) (.lst ys) then some (!D.eqv (.lst xs) (.lst ys)) else none) = _
  have e : depOk (.lst xs) (.lst ys) = true := by
    unfold depOk
    rw [dep_lst (xs := xs), h3]
    simp
  rw [cmpb_lst, cmpb_lst, h1, h2, e] <;> rfl

end Hd

namespace Hd
open PySem Ev Lk
local macro_rules
  | `(tactic| trivial) => `(tactic| simp [*])
def resP (t : List Nat) : RV := match dueD t with
  | .int d => .exc 5 (.int d)
  | _ => .val (bkD (rowsP t))
theorem mul_en (k : Nat) (h : k ≤ 1000) : bop .mul (.lst [.str EN]) (.int k) = some (.lst (List.replicate k (.str EN))) := by
  rw [mul_li, ← rep1, if_pos]
  · rw [Int.toNat_natCast]
  · rw [decide_eq_true (by omega), decide_eq_true (show (k : Int) ≤ 1000 by omega)] <;> rfl
theorem read_all (n : Nat) (t : List Nat) (ht : t.length ≤ 998) (S : Sto) : C (n+4) 10 [.str t] S = .ok (resP t) S := by
  rw [c_read_so, b_read_so]
  rw [if_nxF (S1 := S) (ρ' := [some (.val (.str t)), none, none, none, none, none]) (S2 := S) (by simp) (by simp)]
  have sp := split_ok (c := 10) (a := t) (by decide) (by omega)
  have hn := splt_le 10 t
  have r0 : ev (X (n+3)) (.lc (.nm 3) (.seq (.meth .split 0 (.str [10]))) (.call 9 (.cons (.var 3) .nil)) [3]) [some (.val (.str t)), none, none, none, none, none] S = .ok (.lst (rowsP t)) S := by
    refine ev_lc (xs := (splt 10 t).map D.str) (S1 := S) (by simp [sp]) (by rw [List.length_map, lim_lit]; omega) (mapF_on fun v m => ?_)
    have q := lineP_ok n v (by have := splt_wd m; omega) S
    simp [q]
  rw [st_nx (ρ' := [some (.val (.str t)), some (.val (.lst (rowsP t))), none, none, none, none]) (S1 := S) (by rw [x_asg, bind_ap, r0]; simp)]
  have ri := rowsP_in t
  have rx := in_idx .non (rowsP t)
  have hlen := rowsP_len t
  cases hf : (rowsP t).findIdx? (fun y => D.eqv y .non) with
  | some j =>
    rw [hf] at rx
    have ri : cop .isin .non (.lst (rowsP t)) = some true := by rw [ri, rx] <;> rfl
    have mi := rowsP_ix t hf
    have e : resP t = .exc 5 (.int ((j : Nat) + 1)) := by
      unfold resP dueD
      rw [hf]
    rw [e, if_ex (S1 := S) (k := 5) (d := .int ((j : Nat) + 1)) (S2 := S) (by simp only [t_cmp, bind_ap, p_non, e_non, p_var, peekV]; simp [ri]) (by simp [mi])]
    rfl
  | none =>
    rw [hf] at rx
    have ri : cop .isin .non (.lst (rowsP t)) = some false := by rw [ri, rx] <;> rfl
    have rw_ := rows_rw hf
    rw [if_nxF (S1 := S) (ρ' := [some (.val (.str t)), some (.val (.lst (rowsP t))), none, none, none, none]) (S2 := S) (by simp only [t_cmp, bind_ap, p_non, e_non, p_var, peekV]; simp [ri]) (by simp)]
    have er : resP t = if shapeB (rowsP t) && isBk (bkD (rowsP t)) then .val (bkD (rowsP t)) else .exc 5 (.int ((rowsP t).length + 1)) := by
      unfold resP dueD
      rw [hf]
      show (match (if shapeB (rowsP t) && isBk (bkD (rowsP t)) then D.non else .int ((rowsP t).length + 1)) with
        | .int d => RV.exc 5 (.int d)
        | _ => .val (bkD (rowsP t))) = _
      cases (shapeB (rowsP t) && isBk (bkD (rowsP t))) <;> rfl
    rw [er]
    obtain ⟨r0', rs', ne⟩ := rowsP_ne t
    generalize rowsP t = R at *
    have f1 : ev (X (n+3)) (.lcf (.tp (.cons (.nm 4) (.cons (.nm 5) (.nil)))) (.seq (.var 1)) (.cmp .eq (.var 4) (.str [101, 110, 116, 114, 121])) (.var 5) [4, 5]) [some (.val (.str t)), some (.val (.lst R)), none, none, none, none] S = .ok (.lst ((R.filter rP).map rF)) S := by
      refine ev_lcf (xs := R) (S1 := S) (by simp) (by rw [lim_lit]; omega) (mapF_fil (p := rP) (g := rF) (fun x hx => ?_) fun x hx hp => ?_)
      · obtain ⟨w, y, rfl⟩ := rw_get (rw_ x hx)
        simp [rP]
      · obtain ⟨w, y, rfl⟩ := rw_get (rw_ x hx)
        simp [rF]
    obtain ⟨sh, en⟩ := shape_P (by rw [ne]; simp) rw_
    obtain ⟨w1, w2⟩ := rw_w rw_
    generalize hE : (R.filter rP).map rF = E at *
    have lE : E.length ≤ 999 := by
      rw [← hE, List.length_map]
      have := List.length_filter_le rP R
      omega
    rw [st_nx (ρ' := [some (.val (.str t)), some (.val (.lst R)), some (.val (.tup E)), none, none, none]) (S1 := S) (by simp [f1])]
    have f2 : ev (X (n+3)) (.lc (.tp (.cons (.nm 4) (.cons (.nm 5) (.nil)))) (.seq (.var 1)) (.var 4) [4, 5]) [some (.val (.str t)), some (.val (.lst R)), some (.val (.tup E)), none, none, none] S = .ok (.lst (R.map rW)) S := by
      refine ev_lc (xs := R) (S1 := S) (by simp) (by rw [lim_lit]; omega) (mapF_map fun x hx => ?_)
      obtain ⟨w, y, rfl⟩ := rw_get (rw_ x hx)
      simp [rW]
    have hz : 1 + E.length ≤ 16777216 := by omega
    have hm := mul_en E.length (by omega)
    unfold EN at hm
    have b1 : ev (X (n+3)) (.bin .add (.lst (.cons (.str [108, 111, 99, 107]) .nil)) (.bin .mul (.lst (.cons (.str [101, 110, 116, 114, 121]) .nil)) (.blt .len (.cons (.var 2) .nil)))) [some (.val (.str t)), some (.val (.lst R)), some (.val (.tup E)), none, none, none] S = .ok (.lst (.str LK :: List.replicate E.length (.str EN))) S := by
      simp [-mul_li, hm, hz, LK, EN]
    have t1 : tst (X (n+3)) (.cmp .ne (.lc (.tp (.cons (.nm 4) (.cons (.nm 5) (.nil)))) (.seq (.var 1)) (.var 4) [4, 5]) (.bin .add (.lst (.cons (.str [108, 111, 99, 107]) .nil)) (.bin .mul (.lst (.cons (.str [101, 110, 116, 114, 121]) .nil)) (.blt .len (.cons (.var 2) .nil))))) [some (.val (.str t)), some (.val (.lst R)), some (.val (.tup E)), none, none, none] S = .ok (!shapeB R) S := by
      rw [t_cmp, bind_ap, p_lc, f2]
      show M.bind (pkOf _ _ _) _ S = _
      rw [bind_ap, p_bin, b1]
      show M.opt (cop .ne _ _) S = _
      rw [ne_lists w1 (ens_c _).1 w2, sh]
      rfl
    cases hs : shapeB R with
    | false =>
      rw [hs] at t1
      rw [if_ex (S1 := S) (k := 5) (d := .int (R.length + 1)) (S2 := S) (by rw [t_orB, bind_ap, t1]; rfl) (by simp)]
      rfl
    | true =>
      rw [hs] at t1
      obtain ⟨eE, y, rr, eR⟩ := en hs
      have rf := rw_f rw_
      have hb : bkD R = .tup [y, .tup E] := by
        unfold bkD
        rw [eE, eR] <;> rfl
      have cb : D.cmpb y = true ∧ D.cmpbs E = true := by
        rw [eR, List.map_cons, cmpbs_c, Bool.and_eq_true] at rf
        refine ⟨rf.1, ?_⟩
        rw [eE, eR]
        exact rf.2
      rw [hb]
      rw [eR] at t1 ⊢
      cases hk : isBk (.tup [y, .tup E]) with
      | false =>
        rw [if_ex (S1 := S) (k := 5) (d := .int ((D.tup [.str LK, y] :: rr).length + 1)) (S2 := S) (by
          rw [t_orB, bind_ap, t1]
          simp [hk, cb]) (by simp)]
        rfl
      | true =>
        rw [if_nxF (S1 := S) (ρ' := [some (.val (.str t)), some (.val (.lst (.tup [.str LK, y] :: rr))), some (.val (.tup E)), none, none, none]) (S2 := S) (by
          rw [t_orB, bind_ap, t1]
          simp [hk, cb]) (by simp)]
        simp
theorem read_book_all (n : Nat) (t : List Nat) (ht : t.length ≤ 998) (S : Sto) : C (n+5) 12 [.str t] S = .ok (resP t) S := by
  have q := read_all n t ht S
  rw [c_read_book, b_read_book]
  cases e : resP t with
  | val d => rw [e] at q; simp [q]
  | own d => unfold resP at e; split at e <;> cases e
  | dic d => unfold resP at e; split at e <;> cases e
  | exc c d => rw [e] at q; simp [q]

end Hd

namespace Hd
open PySem Ev Lk
local macro_rules
  | `(tactic| trivial) => `(tactic| simp [*])
theorem due_ok (n : Nat) (t : List Nat) (ht : t.length ≤ 998) (S : Sto) : C (n+4) 25 [.str t] S = .ok (.val (dueD t)) S := by
  rw [c__law_due, b__law_due]
  have sp := split_ok (c := 10) (a := t) (by decide) (by omega)
  have hn := splt_le 10 t
  have r0 : ev (X (n+3)) (.lc (.nm 3) (.seq (.meth .split 0 (.str [10]))) (.call 24 (.cons (.var 3) .nil)) [3]) [some (.val (.str t)), none, none, none, none] S = .ok (.lst (rowsP t)) S := by
    refine ev_lc (xs := (splt 10 t).map D.str) (S1 := S) (by simp [sp]) (by rw [List.length_map, lim_lit]; omega) (mapF_on fun v m => ?_)
    have q := lineL_ok n v (by have := splt_wd m; omega) S
    rw [line_eq] at q
    simp [q]
  rw [st_nx (ρ' := [some (.val (.str t)), some (.val (.lst (rowsP t))), none, none, none]) (S1 := S) (by rw [x_asg, bind_ap, r0]; simp)]
  have ri := rowsP_in t
  have rx := in_idx .non (rowsP t)
  have hlen := rowsP_len t
  cases hf : (rowsP t).findIdx? (fun y => D.eqv y .non) with
  | some j =>
    rw [hf] at rx
    have ri : cop .isin .non (.lst (rowsP t)) = some true := by rw [ri, rx] <;> rfl
    have mi := rowsP_ix t hf
    have e : dueD t = .int ((j : Nat) + 1) := by
      unfold dueD
      rw [hf]
    rw [e, if_rt (S1 := S) (v := .val (.int ((j : Nat) + 1))) (S2 := S) (by simp only [t_cmp, bind_ap, p_non, e_non, p_var, peekV]; simp [ri]) (by simp [mi])]
    rfl
  | none =>
    rw [hf] at rx
    have ri : cop .isin .non (.lst (rowsP t)) = some false := by rw [ri, rx] <;> rfl
    have rw_ := rows_rw hf
    rw [if_nxF (S1 := S) (ρ' := [some (.val (.str t)), some (.val (.lst (rowsP t))), none, none, none]) (S2 := S) (by simp only [t_cmp, bind_ap, p_non, e_non, p_var, peekV]; simp [ri]) (by simp)]
    have er : dueD t = if shapeB (rowsP t) && isBk (bkD (rowsP t)) then .non else .int ((rowsP t).length + 1) := by
      unfold dueD
      rw [hf]
    rw [er]
    obtain ⟨r0', rs', ne⟩ := rowsP_ne t
    generalize rowsP t = R at *
    obtain ⟨sh, en⟩ := shape_P (by rw [ne]; simp) rw_
    obtain ⟨w1, w2⟩ := rw_w rw_
    have f2 : ev (X (n+3)) (.lc (.nm 4) (.seq (.var 1)) (.idx (.var 4) (.int 0)) [4]) [some (.val (.str t)), some (.val (.lst R)), none, none, none] S = .ok (.lst (R.map rW)) S := by
      refine ev_lc (xs := R) (S1 := S) (by simp) (by rw [lim_lit]; omega) (mapF_map fun x hx => ?_)
      obtain ⟨w, y, rfl⟩ := rw_get (rw_ x hx)
      simp [rW]
    have lp : 1 ≤ R.length := by rw [ne, List.length_cons]; omega
    have hz : 1 + (R.length - 1) ≤ 16777216 := by omega
    have hm := mul_en (R.length - 1) (by omega)
    have hi : ((R.length - 1 : Nat) : Int) = (R.length : Int) - 1 := by omega
    rw [hi] at hm
    unfold EN at hm
    have b1 : ev (X (n+3)) (.bin .add (.lst (.cons (.str [108, 111, 99, 107]) .nil)) (.bin .mul (.lst (.cons (.str [101, 110, 116, 114, 121]) .nil)) (.bin .sub (.blt .len (.cons (.var 1) .nil)) (.int 1)))) [some (.val (.str t)), some (.val (.lst R)), none, none, none] S = .ok (.lst (.str LK :: List.replicate (R.length - 1) (.str EN))) S := by
      simp [-mul_li, hm, hz, LK, EN]
    have t1 : tst (X (n+3)) (.cmp .ne (.lc (.nm 4) (.seq (.var 1)) (.idx (.var 4) (.int 0)) [4]) (.bin .add (.lst (.cons (.str [108, 111, 99, 107]) .nil)) (.bin .mul (.lst (.cons (.str [101, 110, 116, 114, 121]) .nil)) (.bin .sub (.blt .len (.cons (.var 1) .nil)) (.int 1))))) [some (.val (.str t)), some (.val (.lst R)), none, none, none] S = .ok (!shapeB R) S := by
      rw [t_cmp, bind_ap, p_lc, f2]
      show M.bind (pkOf _ _ _) _ S = _
      rw [bind_ap, p_bin, b1]
      show M.opt (cop .ne _ _) S = _
      rw [ne_lists w1 (ens_c _).1 w2]
      rfl
    cases hs : shapeB R with
    | false =>
      rw [hs] at t1
      rw [if_rt (S1 := S) (v := .val (.int (R.length + 1))) (S2 := S) t1 (by simp)]
      rfl
    | true =>
      rw [hs] at t1
      obtain ⟨eE, y, rr, eR⟩ := en hs
      have rf := rw_f rw_
      have hb : bkD R = .tup [y, .tup (rr.map rF)] := by
        unfold bkD
        rw [eR] <;> rfl
      have cb : D.cmpb y = true ∧ D.cmpbs (rr.map rF) = true := by
        rw [eR, List.map_cons, cmpbs_c, Bool.and_eq_true] at rf
        exact ⟨rf.1, rf.2⟩
      rw [hb]
      rw [if_nxF (S1 := S) (ρ' := [some (.val (.str t)), some (.val (.lst R)), none, none, none]) (S2 := S) t1 (by simp)]
      have cu : cut R (some 1) none = rr := by
        rw [cut_from (by decide), eR]
        rfl
      have lr : rr.length ≤ 1000 := by
        have : R.length = rr.length + 1 := by rw [eR, List.length_cons]
        omega
      have rw2 : ∀ x ∈ rr, Rw x := fun x hx => rw_ x (by rw [eR]; exact List.mem_cons_of_mem _ hx)
      rw [eR] at cu ⊢
      have f3 : ev (X (n+3)) (.lc (.nm 4) (.seq (.slL (.var 1) (.int 1))) (.idx (.var 4) (.int 1)) [4]) [some (.val (.str t)), some (.val (.lst (.tup [.str LK, y] :: rr))), none, none, none] S = .ok (.lst (rr.map rF)) S := by
        refine ev_lc (xs := rr) (S1 := S) (by simp [cu]) (by rw [lim_lit]; omega) (mapF_map fun x hx => ?_)
        obtain ⟨w, y, rfl⟩ := rw_get (rw2 x hx)
        simp [rF]
      rw [st_nx (ρ' := [some (.val (.str t)), some (.val (.lst (.tup [.str LK, y] :: rr))), some (.val (.tup [y, .tup (rr.map rF)])), none, none]) (S1 := S) (by simp [f3])]
      cases hk : isBk (.tup [y, .tup (rr.map rF)]) <;> simp [hk, cb]

end Hd

namespace Hd
open PySem Ev Lk
local macro_rules
  | `(tactic| trivial) => `(tactic| simp [*])
def SW : List (List Nat) := [[], [108, 111, 99, 107, 32, 49, 32, 53, 32, 49, 48], [108, 111, 99, 107, 32, 52, 32, 53, 32, 49, 48, 32, 51], [108, 111, 99, 107, 32, 49, 32, 53, 32, 49, 48, 32, 50], [105, 110, 32, 53], [105, 110, 32, 48, 49], [116, 117, 114, 110, 32, 49], [114, 101, 115, 116, 32, 48], [114, 101, 115, 116, 32, 54, 48], [101, 110, 100],
  [103, 111, 32, 104, 101, 114, 101, 32, 55], [103, 111, 32, 104, 101, 114, 101, 32, 56], [103, 111, 32, 110, 111, 119, 104, 101, 114, 101, 32, 48], [103, 111, 32, 104, 101, 114, 101], [111, 117, 116, 32, 32], [84, 117, 114, 110], [103, 111, 32, 102, 117, 108, 108, 32, 48], [105, 110, 32, 104, 101, 114, 101]]
theorem SW_len : ∀ v ∈ SW, v.length ≤ 13 := by decide
theorem join_all {l : List (List Nat)} (h : ms l ≤ 16000000) : methD .join (.str [10]) (.lst (l.map D.str)) = some (.str (joinS [10] l)) := by
  refine jo_ok (by rw [show l.map D.str = l.map fun w => D.str w from rfl, strs_map, List.map_id']) ?_
  have e : ([10] : List Nat).length = 1 := rfl
  rw [e]
  unfold ms at h
  omega
theorem bent_ok (n c l : Nat) (t : List Nat) (ht : t.length ≤ 480) (S : Sto) (h : St S c l) : ∃ (t' : List Nat) (S' : Sto), C (n+3) 26 [.loc c, .str t] S = .ok (.val (.str t')) S' ∧ St S' c l ∧ t'.length ≤ 2 * t.length + 16 := by
  rw [c__law_bent, b__law_bent]
  have sp := split_ok (c := 10) (a := t) (by decide) (by omega)
  have mL := ms_splt 10 t
  have nL := splt_le 10 t
  obtain ⟨w0, ws0, eL⟩ := splt_hd 10 t
  have pL : 0 < (splt 10 t).length := by rw [eL, List.length_cons]; omega
  generalize splt 10 t = L at *
  obtain ⟨sp1, S1, e1, h1, a1, a2⟩ := drop_ok (n+1) c l (t.length + 1) S h (by omega) (by omega)
  obtain ⟨wy, S2, e2, h2, b1, b2⟩ := drop_ok (n+1) c l 7 S1 h1 (by decide) (by decide)
  obtain ⟨hr, S3, e3, h3, c1, c2⟩ := drop_ok (n+1) c l L.length S2 h2 (by omega) (by omega)
  have lt : (t.length : Int) + 1 = ((t.length + 1 : Nat) : Int) := by omega
  rw [st_nx (ρ' := [some (.val (.loc c)), some (.val (.str t)), none, some (.val (.lst (L.map D.str))), some (.val (.int sp1)), none, none, none]) (S1 := S1) (by simp [sp, e1])]
  rw [st_nx (ρ' := [some (.val (.loc c)), some (.val (.str t)), none, some (.val (.lst (L.map D.str))), some (.val (.int sp1)), some (.val (.int wy)), some (.val (.int hr)), none]) (S1 := S3) (by simp [e2, e3])]
  rw [st_nx (ρ' := [some (.val (.loc c)), some (.val (.str t)), some (.val (.lst ((SW.take 10).map D.str))), some (.val (.lst (L.map D.str))), some (.val (.int sp1)), some (.val (.int wy)), some (.val (.int hr)), none]) (S1 := S3) (by simp [SW])]
  rw [st_nx (ρ' := [some (.val (.loc c)), some (.val (.str t)), some (.val (.lst (SW.map D.str))), some (.val (.lst (L.map D.str))), some (.val (.int sp1)), some (.val (.int wy)), some (.val (.int hr)), none]) (S1 := S3) (by simp [SW])]
  have tc : (cut t none (some sp1)).length + (cut t (some sp1) none).length = t.length := by
    rw [cutS_to a1, cutS_from a1, ← List.length_append, List.take_append_drop]
  have td : (cut t (some (sp1 + 1)) none).length ≤ t.length := by
    rw [cutS_from (by omega), List.length_drop]
    omega
  have k1 : cut (L.map D.str) none (some hr) = (L.take hr.toNat).map D.str := by rw [cutS_to c1, List.map_take]
  have k2 : cut (L.map D.str) (some hr) none = (L.drop hr.toNat).map D.str := by rw [cutS_from c1, List.map_drop]
  have k3 : cut (L.map D.str) (some (hr + 1)) none = (L.drop (hr + 1).toNat).map D.str := by rw [cutS_from (by omega), List.map_drop]
  have k4 : cut (L.map D.str) (some (hr + 2)) none = (L.drop (hr + 2).toNat).map D.str := by rw [cutS_from (by omega), List.map_drop]
  have k5 : cut (L.map D.str) (some hr) (some (hr + 2)) = ((L.drop hr.toNat).take 2).map D.str := by
    rw [cutS_mid c1 (by omega) (by rw [List.length_map]; omega), ← List.map_drop, List.map_take]
    congr 1
    omega
  have m1 := ms_cut L hr.toNat
  have m2 := ms_cut L (hr + 1).toNat
  have m3 := ms_cut L (hr + 2).toNat
  have m4 := ms_cut (L.drop hr.toNat) 2
  have q1 : (L.take hr.toNat).length ≤ L.length := by rw [List.length_take]; omega
  have q2 : (L.drop hr.toNat).length ≤ L.length := by rw [List.length_drop]; omega
  have q3 : (L.drop (hr + 1).toNat).length ≤ L.length := by rw [List.length_drop]; omega
  have q4 : (L.drop (hr + 2).toNat).length ≤ L.length := by rw [List.length_drop]; omega
  have q5 : ((L.drop hr.toNat).take 2).length ≤ 2 := by rw [List.length_take]; omega
  have en : ∀ v : List Nat, ms [v] = v.length + 1 := fun v => by
    unfold ms
    rw [sum_c]
    rfl
  generalize hta : cut t none (some sp1) = ta at *
  generalize htb : cut t (some sp1) none = tb at *
  generalize htd : cut t (some (sp1 + 1)) none = td' at *
  have anyW : ∃ (v : List Nat) (S4 : Sto), C (n+2) 15 [.loc c, .lst (SW.map D.str)] S3 = .ok (.val (.str v)) S4 ∧ St S4 c l ∧ v.length ≤ 13 := by
    obtain ⟨x, S4, e4, h4, hx⟩ := any_ok n c l (SW.map D.str) S3 h3 (by simp [SW]) (by simp [SW])
    obtain ⟨v, hv, rfl⟩ := List.mem_map.mp hx
    exact ⟨v, S4, e4, h4, SW_len v hv⟩
  have w7 : wy = 0 ∨ wy = 1 ∨ wy = 2 ∨ wy = 3 ∨ wy = 4 ∨ wy = 5 ∨ wy = 6 := by omega
  generalize SW.map D.str = W at *
  generalize hA : L.take hr.toNat = A at *
  generalize hB : L.drop hr.toNat = B at *
  generalize hC : L.drop (hr + 1).toNat = C1 at *
  generalize hD : L.drop (hr + 2).toNat = C2 at *
  rcases w7 with rfl | rfl | rfl | rfl | rfl | rfl | rfl
  · obtain ⟨x, S4, e4, h4, hx⟩ := any_ok n c l [.str [32], .str [45], .str [49], .str [10], .str [48]] S3 h3 (by simp) (by simp)
    obtain ⟨v, rfl, hv⟩ : ∃ v, x = .str v ∧ v.length = 1 := by
      simp only [List.mem_cons, List.not_mem_nil, or_false] at hx
      rcases hx with z | z | z | z | z <;> exact ⟨_, z, rfl⟩
    have z1 : ta.length + v.length ≤ 16777216 := by omega
    have z2 : ta.length + v.length + tb.length ≤ 16777216 := by omega
    refine ⟨ta ++ v ++ tb, S4, by simp [e4, hta, htb, z1, z2], h4, ?_⟩
    rw [List.length_append, List.length_append]
    omega
  · have z1 : ta.length + td'.length ≤ 16777216 := by omega
    refine ⟨ta ++ td', S3, by simp [hta, htd, z1], h3, ?_⟩
    rw [List.length_append]
    omega
  · obtain ⟨v, S4, e4, h4, hv⟩ := anyW
    have z1 : A.length + 1 ≤ 16777216 := by omega
    have z2 : A.length + (B.length + 1) ≤ 16777216 := by omega
    have z3 : A.length + 1 + B.length ≤ 16777216 := by omega
    have mm : ms (A ++ [v] ++ B) ≤ t.length + 1 + 14 := by
      rw [ms_app, ms_app, en]
      omega
    have j := join_all (l := A ++ [v] ++ B) (by omega)
    have jl := jn_ms 10 (A ++ [v] ++ B)
    rw [List.map_append, List.map_append, List.map_cons, List.map_nil] at j
    refine ⟨joinS [10] (A ++ [v] ++ B), S4, ?_, h4, by omega⟩
    generalize joinS [10] (A ++ [v] ++ B) = T at *
    rw [List.append_assoc, List.singleton_append] at j
    simp [e4, k1, k2, z1, z2, z3, j]
  · obtain ⟨v, S4, e4, h4, hv⟩ := anyW
    have z1 : A.length + 1 ≤ 16777216 := by omega
    have z3 : A.length + 1 + C1.length ≤ 16777216 := by omega
    have mC : ms C1 ≤ ms B := by
      have : C1 = B.drop 1 := by
        rw [← hC, ← hB, List.drop_drop]
        congr 1
        omega
      rw [this]
      have := ms_cut B 1
      omega
    have mm : ms (A ++ [v] ++ C1) ≤ t.length + 1 + 14 := by
      rw [ms_app, ms_app, en]
      omega
    have j := join_all (l := A ++ [v] ++ C1) (by omega)
    have jl := jn_ms 10 (A ++ [v] ++ C1)
    rw [List.map_append, List.map_append, List.map_cons, List.map_nil] at j
    refine ⟨joinS [10] (A ++ [v] ++ C1), S4, ?_, h4, by omega⟩
    generalize joinS [10] (A ++ [v] ++ C1) = T at *
    rw [List.append_assoc, List.singleton_append] at j
    simp [e4, k1, k3, z1, z3, j]
  · have z1 : A.length + C1.length ≤ 16777216 := by omega
    have mm : ms (A ++ C1) ≤ 2 * (t.length + 1) := by
      rw [ms_app]
      omega
    have j := join_all (l := A ++ C1) (by omega)
    have jl := jn_ms 10 (A ++ C1)
    rw [List.map_append] at j
    refine ⟨joinS [10] (A ++ C1), S3, ?_, h3, by omega⟩
    generalize joinS [10] (A ++ C1) = T at *
    simp [k1, k3, z1, j]
  · have z1 : A.length + (B.take 2).length ≤ 16777216 := by omega
    have z2 : A.length + (B.take 2).length + C2.length ≤ 16777216 := by omega
    have mR := ms_rev (B.take 2)
    have mC : ms (B.take 2) + ms C2 = ms B := by
      have : C2 = B.drop 2 := by
        rw [← hD, ← hB, List.drop_drop]
        congr 1
        omega
      rw [this]
      exact m4
    have mm : ms (A ++ (B.take 2).reverse ++ C2) ≤ t.length + 1 := by
      rw [ms_app, ms_app]
      omega
    have j := join_all (l := A ++ (B.take 2).reverse ++ C2) (by omega)
    have jl := jn_ms 10 (A ++ (B.take 2).reverse ++ C2)
    have lR : (B.take 2).reverse.length = (B.take 2).length := List.length_reverse
    rw [List.map_append, List.map_append] at j
    refine ⟨joinS [10] (A ++ (B.take 2).reverse ++ C2), S3, ?_, h3, by omega⟩
    generalize joinS [10] (A ++ (B.take 2).reverse ++ C2) = T at *
    have kr : (List.map D.str (B.take 2)).reverse = (B.take 2).reverse.map D.str := by rw [List.map_reverse]
    generalize B.take 2 = E at *
    rw [List.append_assoc] at j
    simp [k1, k4, k5, z1, z2, ← List.map_reverse, j]
  · have z1 : L.length + B.length ≤ 16777216 := by omega
    have mm : ms (L ++ B) ≤ 2 * (t.length + 1) := by
      rw [ms_app]
      omega
    have j := join_all (l := L ++ B) (by omega)
    have jl := jn_ms 10 (L ++ B)
    rw [List.map_append] at j
    refine ⟨joinS [10] (L ++ B), S3, ?_, h3, by omega⟩
    generalize joinS [10] (L ++ B) = T at *
    simp [k2, z1, j]

end Hd

namespace Hd
open PySem Ev Lk
local macro_rules
  | `(tactic| trivial) => `(tactic| simp [*])
theorem due_cases (t : List Nat) : (dueD t = .non ∧ (rowsP t).findIdx? (fun y => D.eqv y .non) = none ∧ shapeB (rowsP t) = true ∧ isBk (bkD (rowsP t)) = true) ∨ ∃ i, dueD t = .int i := by
  unfold dueD
  cases h : (rowsP t).findIdx? (fun y => D.eqv y .non) with
  | some j => exact .inr ⟨_, rfl⟩
  | none =>
    show ((if shapeB (rowsP t) && isBk (bkD (rowsP t)) then D.non else .int ((rowsP t).length + 1)) = _ ∧ _) ∨ _
    cases hs : shapeB (rowsP t) <;> cases hk : isBk (bkD (rowsP t))
    · exact .inr ⟨_, rfl⟩
    · exact .inr ⟨_, rfl⟩
    · exact .inr ⟨_, rfl⟩
    · exact .inl ⟨rfl, rfl, rfl, rfl⟩
theorem num_back {w : List Nat} {i : Int} (h : numP w = .int i) : w = sN i := by
  rcases numP_cases w with e | ⟨e, ew⟩
  · rw [e] at h
    cases h
  · rw [e] at h
    cases h
    exact ew
theorem it_back {w : List Nat} {i : Int} (h : itP w = .int i) : w = sN i := by
  unfold itP at h
  split at h
  · cases h
  · exact num_back h
theorem lock_back {t : List Nat} {y : D} (h : lineP t = .tup [.str LK, y]) : ∃ l : Lo, l.Ok ∧ y = l.d ∧ t = l.line := by
  obtain ⟨w, ws, es⟩ := splt_hd 32 t
  have jt := join_splt 32 t
  rw [es] at jt
  have e2 : lineP t = if w == [108, 111, 99, 107] then rowL (ws.map numP) else rowF (.str w :: ws.map itP) := by
    unfold lineP
    rw [es]
  rw [e2] at h
  by_cases hw : (w == [108, 111, 99, 107]) = true
  · rw [if_pos hw] at h
    unfold rowL at h
    split at h
    · rename_i hk
      have hy : y = .tup (ws.map numP) := by
        cases h
        rfl
      rcases ws with _ | ⟨a, _ | ⟨b, _ | ⟨c, _ | ⟨e, _ | ⟨f, r⟩⟩⟩⟩⟩ <;> first | (cases hk; done) | skip
      have hk : (isI (numP a) 1 4 && (isI (numP b) 1 20 && (isI (numP c) 0 100 && (isI (numP e) 0 10 && mulLe (numP a) (numP e) (numP c))))) = true := hk
      simp only [Bool.and_eq_true] at hk
      obtain ⟨h1, h2, h3, h4, h5⟩ := hk
      obtain ⟨i1, e1, a1, a2⟩ := isI_T h1
      obtain ⟨i2, e2', b1, b2⟩ := isI_T h2
      obtain ⟨i3, e3, c1, c2⟩ := isI_T h3
      obtain ⟨i4, e4, d1, d2⟩ := isI_T h4
      rw [e1, e4, e3, mulLe_i, decide_eq_true_eq] at h5
      refine ⟨⟨i1, i2, i3, i4⟩, ⟨a1, a2, b1, b2, c1, c2, d1, d2, h5⟩, ?_, ?_⟩
      · rw [hy]
        simp only [List.map_cons, List.map_nil, e1, e2', e3, e4]
        rfl
      · rw [← jt, num_back e1, num_back e2', num_back e3, num_back e4, beq_iff_eq.mp hw]
        rfl
    · cases h
  · rw [if_neg hw] at h
    unfold rowF at h
    split at h
    · have : EN = LK := by
        injection h with h
        injection h with h1 h2
        injection h1
      exact absurd this (by decide)
    · cases h
theorem wo_of {b : List Nat} (h : inD (.str b) tests = true) : ∃ w : Wo, b = w.s := by
  unfold inD tests at h
  rw [List.any_eq_true] at h
  obtain ⟨y, hy, e⟩ := h
  simp only [List.mem_cons, List.not_mem_nil, or_false] at hy
  rcases hy with rfl | rfl | rfl | rfl | rfl | rfl
  · exact ⟨.always, (beq_iff_eq.mp e).symm⟩
  · exact ⟨.here, (beq_iff_eq.mp e).symm⟩
  · exact ⟨.there, (beq_iff_eq.mp e).symm⟩
  · exact ⟨.full, (beq_iff_eq.mp e).symm⟩
  · exact ⟨.empty, (beq_iff_eq.mp e).symm⟩
  · exact ⟨.high, (beq_iff_eq.mp e).symm⟩
theorem entry_back {t : List Nat} {y : D} {m : Nat} (h : lineP t = .tup [.str EN, y]) (hm : isEn y m = true) : ∃ e : En, e.Ok m ∧ y = e.d ∧ t = e.line := by
  obtain ⟨w, ws, es⟩ := splt_hd 32 t
  have jt := join_splt 32 t
  rw [es] at jt
  have e2 : lineP t = if w == [108, 111, 99, 107] then rowL (ws.map numP) else rowF (.str w :: ws.map itP) := by
    unfold lineP
    rw [es]
  rw [e2] at h
  by_cases hw : (w == [108, 111, 99, 107]) = true
  · rw [if_pos hw] at h
    unfold rowL at h
    split at h
    · have : LK = EN := by
        injection h with h
        injection h with h1 h2
        injection h1
      exact absurd this (by decide)
    · cases h
  · rw [if_neg hw] at h
    unfold rowF at h
    split at h
    · have hy : y = .tup (.str w :: ws.map itP) := by
        cases h
        rfl
      subst hy
      rcases ws with _ | ⟨a, _ | ⟨b, _ | ⟨c, r⟩⟩⟩
      · have hm : (w == [116, 117, 114, 110] || (w == [111, 117, 116] || w == [101, 110, 100])) = true := hm
        simp only [Bool.or_eq_true, beq_iff_eq] at hm
        rcases hm with rfl | rfl | rfl
        · exact ⟨.turn, True.intro, rfl, jt.symm⟩
        · exact ⟨.out, True.intro, rfl, jt.symm⟩
        · exact ⟨.fin, True.intro, rfl, jt.symm⟩
      · have hm : ((w == [105, 110] && isI (itP a) 1 4) || (w == [114, 101, 115, 116] && isI (itP a) 1 60)) = true := hm
        simp only [Bool.or_eq_true, Bool.and_eq_true, beq_iff_eq] at hm
        rcases hm with ⟨rfl, hq⟩ | ⟨rfl, hq⟩
        · obtain ⟨i, e1, a1, a2⟩ := isI_T hq
          refine ⟨.inn i, ⟨a1, a2⟩, by rw [List.map_cons, List.map_nil, e1] <;> rfl, ?_⟩
          rw [← jt, it_back e1]
          rfl
        · obtain ⟨i, e1, a1, a2⟩ := isI_T hq
          refine ⟨.rest i, ⟨a1, a2⟩, by rw [List.map_cons, List.map_nil, e1] <;> rfl, ?_⟩
          rw [← jt, it_back e1]
          rfl
      · have hm : (w == [103, 111] && (isS (itP a) tests && isI (itP b) 0 ((m : Int) - 1))) = true := hm
        simp only [Bool.and_eq_true, beq_iff_eq] at hm
        obtain ⟨rfl, hs, hi⟩ := hm
        obtain ⟨i, e1, a1, a2⟩ := isI_T hi
        have hin : inD (.str a) tests = true := by
          cases q : inD (.str a) tests with
          | true => rfl
          | false =>
            unfold itP at hs
            rw [q, if_neg Bool.false_ne_true, numP_s] at hs
            cases hs
        have ea : itP a = .str a := by
          unfold itP
          rw [if_pos hin]
        obtain ⟨wo, rfl⟩ := wo_of hin
        obtain ⟨j, rfl⟩ : ∃ j : Nat, i = j := ⟨i.toNat, by omega⟩
        refine ⟨.go wo j, show j < m by omega, ?_, ?_⟩
        · rw [List.map_cons, List.map_cons, List.map_nil, e1, ea, ← Wo.d_s]
          rfl
        · rw [← jt, it_back e1]
          rfl
      · cases hm
    · cases h
theorem ens_back {m : Nat} : ∀ {ls : List (List Nat)}, (∀ l ∈ ls, ∃ y, lineP l = .tup [.str EN, y] ∧ isEn y m = true) → ∃ es : List En, ls = es.map En.line ∧ (ls.map lineP).map rF = es.map En.d ∧ ∀ e ∈ es, e.Ok m
  | [], _ => ⟨[], rfl, rfl, fun _ z => by simp at z⟩
  | l :: ls, h => by
    obtain ⟨y, e1, e2⟩ := h l List.mem_cons_self
    obtain ⟨e, ok, ey, el⟩ := entry_back e1 e2
    obtain ⟨es, h1, h2, h3⟩ := ens_back (ls := ls) fun x hx => h x (List.mem_cons_of_mem _ hx)
    refine ⟨e :: es, by rw [List.map_cons, ← el, ← h1], ?_, fun x hx => ?_⟩
    · rw [List.map_cons, List.map_cons, e1, h2, List.map_cons, ← ey]
      rfl
    · rcases List.mem_cons.mp hx with z | hx
      · rw [z]
        exact ok
      · exact h3 x hx
theorem eqvs_en : ∀ {rs : List D}, (∀ x ∈ rs, Rw x) → rs.all rP = true → ∀ x ∈ rs, ∃ y, x = .tup [.str EN, y] := fun h q x m => by
  rcases h x m with ⟨y, e, _⟩ | ⟨y, e, _⟩
  · have := List.all_eq_true.mp q x m
    rw [e] at this
    cases this
  · exact ⟨y, e⟩
/-- a string that is read has just this string -/
theorem back {t : List Nat} (h : dueD t = .non) : ∃ k : Bk, k.Ok ∧ bkD (rowsP t) = k.d ∧ k.text = t := by
  rcases due_cases t with ⟨_, hf, hs, hk⟩ | ⟨i, e⟩
  · have rw_ := rows_rw hf
    obtain ⟨l0, ls, es⟩ := splt_hd 10 t
    have jt := join_splt 10 t
    rw [es] at jt
    have eR : rowsP t = lineP l0 :: ls.map lineP := by
      unfold rowsP
      rw [es] <;> rfl
    rw [eR] at rw_ hs hk ⊢
    obtain ⟨sh, en⟩ := shape_P (by simp) rw_
    obtain ⟨_, y, rr, e1⟩ := en hs
    have e2 : lineP l0 = .tup [.str LK, y] := (List.cons.inj e1).1
    obtain ⟨lo, lok, ey, el⟩ := lock_back e2
    have hb : bkD (lineP l0 :: ls.map lineP) = .tup [y, .tup ((ls.map lineP).map rF)] := by
      unfold bkD
      rw [e2] <;> rfl
    rw [hb, isBk_t] at hk
    simp only [Bool.and_eq_true, decide_eq_true_eq, List.all_eq_true] at hk
    obtain ⟨k1, k2, k3, k4⟩ := hk
    have rw2 : ∀ x ∈ ls.map lineP, Rw x := fun x m => rw_ x (List.mem_cons_of_mem _ m)
    have allP : (ls.map lineP).all rP = true := by
      have q : (D.eqv (rW (lineP l0)) (.str LK) && D.eqvs ((ls.map lineP).map rW) (List.replicate (ls.map lineP).length (.str EN))) = true := hs
      rw [rw_all rw2] at q
      exact (Bool.and_eq_true_iff.mp q).2
    have len : ((ls.map lineP).map rF).length = ls.length := by rw [List.length_map, List.length_map]
    obtain ⟨es2, h1, h2, h3⟩ := ens_back (m := ls.length) (ls := ls) fun l m => by
      obtain ⟨z, ez⟩ := eqvs_en rw2 allP (lineP l) (List.mem_map.mpr ⟨l, m, rfl⟩)
      refine ⟨z, ez, ?_⟩
      have := k4 z (List.mem_map.mpr ⟨lineP l, List.mem_map.mpr ⟨l, m, rfl⟩, by rw [ez] <;> rfl⟩)
      rw [len] at this
      exact this
    have ln : ls.length = es2.length := by rw [h1, List.length_map]
    refine ⟨⟨lo, es2⟩, ⟨lok, by show 0 < es2.length; omega, by show es2.length ≤ 8; omega, by show ∀ e ∈ es2, e.Ok es2.length; rw [← ln]; exact h3⟩, ?_, ?_⟩
    · rw [hb, ey, h2]
      rfl
    · show joinS [10] (lo.line :: es2.map En.line) = t
      rw [← el, ← h1]
      exact jt
  · rw [e] at h
    cases h
theorem text_202 {k : Bk} (hk : k.Ok) : k.text.length ≤ 202 := by
  have l5 : ∀ (l : List (List Nat)), (∀ w ∈ l, wordB w = true) → (joinS [32] l).length ≤ 7 * l.length - 1 := fun l h => by
    have q := sum_le fun w m => (word_ok (h w m)).1
    have j := jn_ms 32 l
    unfold ms at j
    omega
  have h1 : k.lock.line.length ≤ 34 := l5 k.lock.w (Lo.word hk.lock)
  have h2 : ∀ e ∈ k.es, e.line.length ≤ 20 := fun e he => by
    have := l5 e.w (En.word (hk.es e he) hk.le)
    have := e.w_len
    show (joinS [32] e.w).length ≤ 20
    omega
  have h3 : sumLen (k.es.map En.line) ≤ 20 * k.es.length := by
    have := sum_le (n := 20) (l := k.es.map En.line) fun w m => by
      obtain ⟨e, he, rfl⟩ := List.mem_map.mp m
      exact h2 e he
    rw [List.length_map] at this
    exact this
  have j := jn_ms 10 k.lines
  have hl := hk.le
  show (joinS [10] k.lines).length ≤ 202
  unfold Bk.lines at j ⊢
  unfold ms at j
  rw [sum_c, List.length_cons, List.length_map] at j
  omega

end Hd

namespace Hd
open PySem Ev Lk
local macro_rules
  | `(tactic| trivial) => `(tactic| simp [*])
theorem book_text_ok (n : Nat) {k : Bk} (hk : k.Ok) (S : Sto) : C (n+5) 11 [k.d] S = .ok (.val (.str k.text)) S := by
  rw [c_book_text, b_book_text]
  have q := need_book_ok n S hk
  have t := text_of_ok (n+2) hk S
  simp [q, t]
theorem read_bad (n : Nat) {d : D} (S : Sto) (h : d.isiOk = true) (hs : Ty.has .str d = false) : C (n+5) 12 [d] S = .ok (.exc 5 (.int 0)) S := by
  have q : C (n+4) 10 [d] S = .ok (.exc 5 (.int 0)) S := by
    rw [c_read_so, b_read_so]
    rw [if_ex (S1 := S) (k := 5) (d := .int 0) (S2 := S) (by simp [h, hs]) (by simp)]
    rfl
  rw [c_read_book, b_read_book]
  simp [q]
def IT : List Nat := [73, 110, 118, 97, 108, 105, 100, 84, 101, 120, 116, 32, 43]
theorem told5 (i : Int) : toldD (.exc 5 (.int i)) = some (.tup [.str IT, .int i]) := by rfl
theorem ne_self {d : D} (h : D.cmpb d = true) (hd : D.dep d ≤ 60) : cop .ne d d = some false := by
  show (if D.cmpb d && D.cmpb d && depOk d d then some (!D.eqv d d) else none) = _
  have e : depOk d d = true := by
    unfold depOk
    rw [decide_eq_true hd] <;> rfl
  rw [h, e, eqv_refl h] <;> rfl
def bd (j : Nat) : Nat := if j = 0 then 202 else if j = 1 then 420 else 856
/-- what the law is told, what is due -/
theorem told_due (n : Nat) (t : List Nat) (ht : t.length ≤ 998) (S : Sto) (a b c e f g h i j : Option SV) : ∃ F : D, toldD (resP t) = some F ∧
    exs (X (n+5)) (.cons (.ifs (.isN (.var 10)) (.cons (.ifs (.or (.cmp .ne (.idx (.var 11) (.int 0)) (.str [116, 111, 108, 100])) (.cmp .ne (.call 11 (.cons (.idx (.var 11) (.int 1)) .nil)) (.var 7))) (.cons (.ret (.bl false)) (.nil)) (.nil)) (.nil)) (.cons (.ifs (.cmp .ne (.var 11) (.tup (.cons (.str [73, 110, 118, 97, 108, 105, 100, 84, 101, 120, 116, 32, 43]) (.cons (.var 10) .nil)))) (.cons (.ret (.bl false)) (.nil)) (.nil)) (.nil))) (.nil))
      [a, b, c, e, f, g, h, some (.val (.str t)), i, j, some (.val (dueD t)), some (.val F)] S = .ok (.nx [a, b, c, e, f, g, h, some (.val (.str t)), i, j, some (.val (dueD t)), some (.val F)]) S := by
  rcases due_cases t with ⟨hd, _⟩ | ⟨v, hd⟩
  · obtain ⟨k, hk, e1, e2⟩ := back hd
    have er : resP t = .val k.d := by
      unfold resP
      rw [hd, e1]
    refine ⟨.tup [.str [116, 111, 108, 100], k.d], by rw [er] <;> rfl, ?_⟩
    have q := book_text_ok n hk S
    rw [e2] at q
    have n1 := ne_self (d := .str t) rfl (by show 0 ≤ 60; decide)
    rw [hd]
    simp [-cop_ne, q, n1, ne_self (d := .str [116, 111, 108, 100]) rfl (by decide)]
  · have er : resP t = .exc 5 (.int v) := by
      unfold resP
      rw [hd]
    refine ⟨.tup [.str IT, .int v], by rw [er, told5], ?_⟩
    have n1 := ne_self (d := .tup [.str IT, .int v]) rfl (by show 1 ≤ 60; decide)
    rw [hd]
    unfold IT at n1 ⊢
    simp [-cop_ne, n1]
theorem turn_ok (n c l : Nat) (sc kk o2 o3 tn o6 o7 o8 o9 o10 o11 : Option SV) (S : Sto) (h : St S c l) : ∃ (q7 q9 q10 q11 : Option SV) (S' : Sto), exs (X (n+5)) b_law_4 [sc, kk, o2, o3, some (.val (.loc c)), tn, o6, o7, o8, o9, o10, o11] S = .ok (.nx [sc, kk, o2, o3, some (.val (.loc c)), tn, o6, q7, o8, q9, q10, q11]) S' ∧ St S' c l := by
  obtain ⟨k, S1, e1, h1, hk⟩ := log_book_ok (n+1) c l S h
  unfold b_law_4
  have e2 := lines_ok (n+4) hk S1
  have j := join_all (l := k.lines) (by have := (Bk.text_ok hk).1; unfold ms; have e : ([10] : List Nat).length = 1 := rfl; rw [e] at this; omega)
  have j : methD .join (.str [10]) (.lst (k.lines.map D.str)) = some (.str k.text) := j
  rw [st_nx (ρ' := [sc, kk, o2, o3, some (.val (.loc c)), tn, o6, some (.val (.str k.text)), o8, o9, o10, o11]) (S1 := S1) (by simp [e1, e2, j])]
  obtain ⟨r, S2, e3, h2, r1, r2⟩ := drop_ok (n+4) c l 2 S1 h1 (by decide) (by decide)
  have lr : (rngD (1 + r)).length ≤ 2 := by unfold rngD; rw [List.length_map, List.length_range]; omega
  obtain ⟨ρ3, S3, e4, h3, t, q9, rfl, ht⟩ := fors_inv (X := X (n+5)) (t := .nm 9) (s := .rng (.bin .add (.int 1) (.call 14 (.cons (.var 4) (.cons (.int 2) .nil))))) (b := b_law_3)
    (ρ := [sc, kk, o2, o3, some (.val (.loc c)), tn, o6, some (.val (.str k.text)), o8, o9, o10, o11]) (S := S1) (S1 := S2) (xs := rngD (1 + r))
    (P := fun i ρ S => St S c l ∧ ∃ (t : List Nat) (q9 : Option SV), ρ = [sc, kk, o2, o3, some (.val (.loc c)), tn, o6, some (.val (.str t)), o8, q9, o10, o11] ∧ t.length ≤ bd i)
    (by
      have a1 : -1000000 ≤ 1 + r := by omega
      have a2 : 1 + r ≤ 1000000 := by omega
      simp [e3, a1, a2]) ⟨h2, k.text, o9, rfl, text_202 hk⟩ (fun i y ρ S hy hp => by
      obtain ⟨hS, t, q9, rfl, ht⟩ := hp
      have hi : i < 2 := Nat.lt_of_lt_of_le (List.getElem?_eq_some_iff.mp hy).1 lr
      have hb : t.length ≤ 480 ∧ 2 * t.length + 16 ≤ bd (i + 1) := by
        unfold bd at ht ⊢
        rcases (show i = 0 ∨ i = 1 by omega) with rfl | rfl
        · simp at ht ⊢
          omega
        · simp at ht ⊢
          omega
      obtain ⟨t', S', e, a1, a2⟩ := bent_ok (n+2) c l t hb.1 S hS
      refine ⟨_, rfl, _, S', ?_, a1, t', some (.val y), rfl, by omega⟩
      unfold b_law_3
      simp [e])
  rw [st_nx e4]
  have ht : t.length ≤ 998 := by
    unfold bd at ht
    split at ht
    · omega
    · split at ht <;> omega
  obtain ⟨F, eF, eX⟩ := told_due n t ht S3 sc kk o2 o3 (some (.val (.loc c))) tn o6 o8 q9
  have d1 := due_ok (n+1) t ht S3
  have d2 := read_book_all n t ht S3
  rw [st_nx (ρ' := [sc, kk, o2, o3, some (.val (.loc c)), tn, o6, some (.val (.str t)), o8, q9, some (.val (dueD t)), some (.val F)]) (S1 := S3) (by simp [d1, d2, eF])]
  exact ⟨_, _, _, _, S3, eX, h3⟩
theorem bad_ok (n : Nat) (a b c e f g i j k l m : Option SV) (d : D) (S : Sto) (h : d.isiOk = true) (hs : Ty.has .str d = false) : exs (X (n+5)) b_law_2 [a, b, c, e, f, g, some (.val d), i, j, k, l, m] S = .ok (.nx [a, b, c, e, f, g, some (.val d), i, j, k, l, m]) S := by
  unfold b_law_2
  have q := read_bad n S h hs
  have t := told5 0
  have n1 := ne_self (d := .tup [.str IT, .int 0]) rfl (by show 1 ≤ 60; decide)
  unfold IT at t n1
  simp [-cop_ne, q, t, n1]
theorem cell_ok (n : Nat) (ns : List Int) (j : Int) (hj : 0 ≤ j) (o2 o3 o4 o5 o6 o7 o8 o9 o10 o11 : Option SV) (S : Sto) : ∃ (q4 q5 q6 q7 q9 q10 q11 : Option SV) (S' : Sto), exs (X (n+5)) b_law_5 [some (.val (.rol (ns.map .int))), some (.val (.int j)), o2, o3, o4, o5, o6, o7, o8, o9, o10, o11] S = .ok (.nx [some (.val (.rol (ns.map .int))), some (.val (.int j)), o2, o3, q4, q5, q6, q7, o8, q9, q10, q11]) S' := by
  obtain ⟨S1, e1, h1⟩ := weir_ok (n+4) ns j S hj
  unfold b_law_5
  rw [st_nx (ρ' := [some (.val (.rol (ns.map .int))), some (.val (.int j)), o2, o3, some (.val (.loc S.length)), o5, o6, o7, o8, o9, o10, o11]) (S1 := S1) (by simp [e1])]
  generalize S.length = c at *
  generalize c + 1 = l at *
  obtain ⟨ρ2, S2, e2, h2, q5, q7, q9, q10, q11, rfl⟩ := fors_inv (X := X (n+5)) (t := .nm 5) (s := .rng (.int 10)) (b := b_law_4)
    (ρ := [some (.val (.rol (ns.map .int))), some (.val (.int j)), o2, o3, some (.val (.loc c)), o5, o6, o7, o8, o9, o10, o11]) (S := S1) (S1 := S1) (xs := rngD 10)
    (P := fun i ρ S => St S c l ∧ ∃ (q5 q7 q9 q10 q11 : Option SV), ρ = [some (.val (.rol (ns.map .int))), some (.val (.int j)), o2, o3, some (.val (.loc c)), q5, o6, q7, o8, q9, q10, q11])
    (by simp) ⟨h1, o5, o7, o9, o10, o11, rfl⟩ (fun i y ρ S hy hp => by
      obtain ⟨hS, q5, q7, q9, q10, q11, rfl⟩ := hp
      obtain ⟨p7, p9, p10, p11, S', e, a1⟩ := turn_ok n c l (some (.val (.rol (ns.map .int)))) (some (.val (.int j))) o2 o3 (some (.val y)) o6 q7 o8 q9 q10 q11 S hS
      exact ⟨_, rfl, _, S', e, a1, _, _, _, _, _, rfl⟩)
  rw [st_nx e2]
  obtain ⟨ρ3, S3, e3, rfl, q6, rfl⟩ := fors_inv (X := X (n+5)) (t := .nm 6) (s := .seq (.lst (.cons (.non) (.cons (.int 5) (.cons (.lst (.cons (.str [108, 111, 99, 107, 32, 49, 32, 53, 32, 49, 48, 32, 50]) (.cons (.str [101, 110, 100]) .nil))) (.cons (.bl true) .nil)))))) (b := b_law_2)
    (ρ := [some (.val (.rol (ns.map .int))), some (.val (.int j)), o2, o3, some (.val (.loc c)), q5, o6, q7, o8, q9, q10, q11]) (S := S2) (S1 := S2)
    (xs := [.non, .int 5, .lst [.str [108, 111, 99, 107, 32, 49, 32, 53, 32, 49, 48, 32, 50], .str [101, 110, 100]], .bl true])
    (P := fun i ρ S => S = S2 ∧ ∃ q6 : Option SV, ρ = [some (.val (.rol (ns.map .int))), some (.val (.int j)), o2, o3, some (.val (.loc c)), q5, q6, q7, o8, q9, q10, q11])
    (by simp) ⟨rfl, o6, rfl⟩ (fun i y ρ S hy hp => by
      obtain ⟨rfl, q6, rfl⟩ := hp
      have my := List.mem_of_getElem? hy
      have hc : y.isiOk = true ∧ Ty.has .str y = false := by
        simp only [List.mem_cons, List.not_mem_nil, or_false] at my
        rcases my with rfl | rfl | rfl | rfl <;> exact ⟨rfl, rfl⟩
      exact ⟨_, rfl, _, S, bad_ok n _ _ _ _ _ _ _ _ _ _ _ y S hc.1 hc.2, rfl, _, rfl⟩)
  rw [st_nx e3]
  exact ⟨_, _, _, _, _, _, _, _, rfl⟩
def L0 : List Nat := [108, 111, 99, 107, 32, 49, 32, 53, 32, 49, 48, 32, 50]
def rw8 : List (List Nat × Int) := [([], 1), (L0, 2), (L0 ++ [10, 103, 111, 32, 104, 101, 114, 101, 32, 49], 3), (L0 ++ [10, 101, 110, 100, 10], 3), (L0 ++ (List.replicate 9 [10, 101, 110, 100]).flatten, 11), ([101, 110, 100, 10] ++ L0, 3), (L0 ++ [10] ++ L0, 3), (L0 ++ [10, 105, 110, 32, 53], 2)]
theorem rw8_ok : ∀ p ∈ rw8, D.eqv (dueD p.1) (.int p.2) = true ∧ p.1.length ≤ 998 := by decide +kernel
theorem row_ok (n : Nat) (p : List Nat × Int) (hp : p ∈ rw8) (a b c e f g h i j k : Option SV) (S : Sto) : exs (X (n+5)) b_law_1 [a, b, c, e, f, g, h, some (.val (.str p.1)), some (.val (.int p.2)), i, j, k] S = .ok (.nx [a, b, c, e, f, g, h, some (.val (.str p.1)), some (.val (.int p.2)), i, j, k]) S := by
  obtain ⟨h1, h2⟩ := rw8_ok p hp
  have hd : dueD p.1 = .int p.2 := by
    rcases due_cases p.1 with ⟨z, _⟩ | ⟨v, z⟩
    · rw [z] at h1
      cases h1
    · rw [z] at h1 ⊢
      have : v = p.2 := beq_iff_eq.mp h1
      rw [this]
  have er : resP p.1 = .exc 5 (.int p.2) := by
    unfold resP
    rw [hd]
  have q := read_book_all n p.1 h2 S
  rw [er] at q
  have t := told5 p.2
  have n1 := ne_self (d := .tup [.str IT, .int p.2]) rfl (by show 1 ≤ 60; decide)
  unfold IT at t n1
  unfold b_law_1
  simp [-cop_ne, q, t, n1]
theorem law_run (n : Nat) (ns : List Int) (hn : ns.length ≤ 63) : ∃ S', C (n+6) 27 [.rol (ns.map .int)] [] = .ok (.val (.bl true)) S' := by
  rw [c_law, b_law]
  generalize hm : (if (1 : Int) < (if (ns.length : Int) < 8 then (ns.length : Int) else 8) then (if (ns.length : Int) < 8 then (ns.length : Int) else 8) else 1) = m
  have m1 : 1 ≤ m ∧ m ≤ 8 := by
    rw [← hm]
    split <;> split at * <;> omega
  obtain ⟨ρ', S', e, o1, o2, o3, o4, o5, o6, o7, o8, o9, o10, o11, rfl⟩ := fors_inv (X := X (n+5)) (t := .nm 1) (s := .rng (.blt .max2 (.cons (.int 1) (.cons (.blt .min2 (.cons (.int 8) (.cons (.blt .len (.cons (.var 0) .nil)) .nil))) .nil)))) (b := b_law_5)
    (ρ := [some (.val (.rol (ns.map .int))), none, none, none, none, none, none, none, none, none, none, none]) (S := []) (S1 := []) (xs := rngD m)
    (P := fun j ρ S => ∃ o1 o2 o3 o4 o5 o6 o7 o8 o9 o10 o11, ρ = [some (.val (.rol (ns.map .int))), o1, o2, o3, o4, o5, o6, o7, o8, o9, o10, o11])
    (by
      have q1 : -1000000 ≤ m := by omega
      have q2 : m ≤ 1000000 := by omega
      simp [hm, q1, q2]) ⟨none, none, none, none, none, none, none, none, none, none, none, rfl⟩ (fun j y ρ S hy hp => by
      obtain ⟨o1, o2, o3, o4, o5, o6, o7, o8, o9, o10, o11, rfl⟩ := hp
      have hj := rngD_get hy
      subst hj
      obtain ⟨p4, p5, p6, p7, p9, p10, p11, S', e⟩ := cell_ok n ns (j : Int) (by omega) o2 o3 o4 o5 o6 o7 o8 o9 o10 o11 S
      exact ⟨_, rfl, _, S', e, _, _, _, _, _, _, _, _, _, _, _, rfl⟩)
  rw [st_nx e]
  generalize (D.rol (ns.map .int)) = SC
  rw [st_nx (ρ' := [some (.val SC), o1, some (.val (.str L0)), o3, o4, o5, o6, o7, o8, o9, o10, o11]) (S1 := S') (by simp [L0])]
  have hmul : bop .mul (.str [10, 101, 110, 100]) (.int 9) = some (.str (List.replicate 9 [10, 101, 110, 100]).flatten) := by rfl
  rw [st_nx (ρ' := [some (.val SC), o1, some (.val (.str L0)), some (.val (.lst ((rw8.take 5).map fun p => D.tup [.str p.1, .int p.2]))), o4, o5, o6, o7, o8, o9, o10, o11]) (S1 := S') (by simp [hmul, rw8, L0])]
  obtain ⟨ρ2, S2, e2, rfl, o7', o8', rfl⟩ := fors_inv (X := X (n+5)) (t := .tp (.cons (.nm 7) (.cons (.nm 8) (.nil)))) (s := .seq (.bin .add (.var 3) (.lst (.cons (.tup (.cons (.bin .add (.str [101, 110, 100, 10]) (.var 2)) (.cons (.int 3) .nil))) (.cons (.tup (.cons (.bin .add (.bin .add (.var 2) (.str [10])) (.var 2)) (.cons (.int 3) .nil))) (.cons (.tup (.cons (.bin .add (.var 2) (.str [10, 105, 110, 32, 53])) (.cons (.int 2) .nil))) .nil)))))) (b := b_law_1)
    (ρ := [some (.val SC), o1, some (.val (.str L0)), some (.val (.lst ((rw8.take 5).map fun p => D.tup [.str p.1, .int p.2]))), o4, o5, o6, o7, o8, o9, o10, o11]) (S := S') (S1 := S')
    (xs := rw8.map fun p => D.tup [.str p.1, .int p.2])
    (P := fun i ρ S => S = S' ∧ ∃ o7 o8 : Option SV, ρ = [some (.val SC), o1, some (.val (.str L0)), some (.val (.lst ((rw8.take 5).map fun p => D.tup [.str p.1, .int p.2]))), o4, o5, o6, o7, o8, o9, o10, o11])
    (by simp [rw8, L0]) ⟨rfl, o7, o8, rfl⟩ (fun i y ρ S hy hp => by
      obtain ⟨rfl, o7, o8, rfl⟩ := hp
      obtain ⟨p, hp, rfl⟩ := List.mem_map.mp (List.mem_of_getElem? hy)
      exact ⟨_, rfl, _, S, row_ok n p hp _ _ _ _ _ _ _ _ _ _ S, rfl, _, _, rfl⟩)
  rw [st_nx e2]
  exact ⟨S2, by simp⟩

end Hd

namespace Hd
open PySem Ev
theorem pure_law (ns : List Int) (h : ns.length ≤ 63) : ∃ S', callN (tab.map Df.fd) (cs.map fun g => g.val.d) 10000000 10 27 [.rol (ns.map .int)] [] = .ok (.val (.bl true)) S' := law_run _ ns h
end Hd
open PySem PySem.W PySem.Calls PyProof.Rows
theorem PySem.Challenge.cw_lockbooks_k12_strings_that_are_no_books_holds : PySem.Challenge.rw_lockbooks_k12_strings_that_are_no_books.Holds := by
  w_on; o_law
  refine HandSHeadRun.head_any (r := OpenLaw.row PySem.Challenge.rw_lockbooks_k12_strings_that_are_no_books) (q := view (OpenLaw.row PySem.Challenge.rw_lockbooks_k12_strings_that_are_no_books).prog [47]) (H := Hd.hk) (ob := Hd.ob) (M := 4000) (loose := Hd.loose) (d := HandSHeadRun.topDef (OpenLaw.row PySem.Challenge.rw_lockbooks_k12_strings_that_are_no_books).prog 47) (kwd := []) Hd.ob_eq
    (by kernel_rfl) (fun s => by kernel_rfl) Hd.run (by kernel_rfl) (by kernel_rfl) (by kernel_rfl) (by rfl) (by first | assumption | decide +kernel) (by decide +kernel) ⟨rfl, rfl, rfl, rfl, rfl, by decide +kernel⟩ ?hw ?hc
  case hw => w_witness2
  case hc =>
    refine LamX.walk_ofTsE (l := PySem.Challenge.rw_lockbooks_k12_strings_that_are_no_books) (n := 63) (k := 3 * 10) (x := "_law_script") (CX := fun _ => Ev.CXe PySem.Challenge.rw_lockbooks_k12_strings_that_are_no_books.prog) rfl (by decide) (by kernel_rfl) ⟨rfl, by decide, by decide⟩ ?F Ev.CXe.no
    intro w mg fa h Y G hmg0
    obtain ⟨K, KX, c⟩ := Y
    have hmg : mg Hd.d_law.name = some (.ref fa) := by
      have e : (HandSHeadRun.topDef (OpenLaw.row PySem.Challenge.rw_lockbooks_k12_strings_that_are_no_books).prog 47).name = Hd.d_law.name := by kernel_rfl
      rw [← e]
      exact hmg0
    exact Ev.law_F (l := PySem.Challenge.rw_lockbooks_k12_strings_that_are_no_books) (W := 10000000) (f := 27) (d := Hd.d_law) KX G c (fun d hd ht base => Ev.tel_of KX G c Hd.two_ok Hd.two_k Hd.two_c base) (fun e h58 he P w2 base => Ev.ini_of KX G c Hd.ini_ok Hd.ini_b h58 he (Hd.ini_has e h58 he) w2 base) Hd.tab_good Hd.cs_good Hd.xs_good (by decide) rfl rfl hmg Hd.pure_law
