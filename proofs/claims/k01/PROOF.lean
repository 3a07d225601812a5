import PyProof.Rows.All
import Wide.All
import OpenK.AllK
import Wide.FinOn
import HandS.ForExc
import HandS.Wide
import HandS.TupAny
import HandS.TupMul
import HandS.Comp
import HandS.Flow
import HandS.Style
import HandS.Text
import HandS.Iter
import PyProof.Rows.IntBool
import HandS.IsInst
import HandS.HeadHook4
import HandS.HeadEnd
import HandS.Defaults
import PyProof.Rows.StrCase
import PyProof.Ascii
import PyProof.FitsInt
import HandS.Head0
import HandS.Head1
import HandS.Head2
import HandS.HeadHook1
import HandS.HeadHook2
import HandS.HeadHook3
import PySem.Challenge.RW_lockbooks_k01_locks_books_and_claims
set_option Elab.async false
set_option linter.all false
set_option maxRecDepth 100000
set_option maxHeartbeats 0
/-! A small language of plain values, its meaning as a total function; what a def of the program computes is read off it. -/
namespace Ev
open PySem

/-- values: tuples and lists by what they hold -/
inductive D where
  | non | bl (b : Bool) | int (i : Int) | str (cs : List Nat)
  | tup (xs : List D) | lst (xs : List D) | rol (xs : List D)
  | loc (n : Nat) | fn (f : Nat)
/-- what a slot holds: a value; a list that the frame alone holds -/
inductive SV where
  | val (d : D) | own (xs : List D)
abbrev Env := List (Option SV)
/-- an object that is written: a list -/
inductive Ob where
  | cell (xs : List D)
abbrev Sto := List Ob
inductive Res (α : Type) where
  | stk | ok (a : α) (S : Sto)
abbrev M (α : Type) := Sto → Res α
def M.pure {α : Type} (a : α) : M α := fun S => .ok a S
def M.bind {α β : Type} (m : M α) (f : α → M β) : M β := fun S => match m S with
  | .stk => .stk
  | .ok a S' => f a S'
def M.stk {α : Type} : M α := fun _ => .stk
def M.opt {α : Type} (o : Option α) : M α := fun S => match o with
  | none => .stk
  | some a => .ok a S
def M.guard {α : Type} (b : Bool) (m : M α) : M α := fun S => match b with
  | true => m S
  | false => .stk

inductive BOp where
  | add | sub | mul | mod | fdiv | pow
inductive COp where
  | eq | ne | lt | le | gt | ge | isin | notin
inductive Ty where
  | int | bool | str | tup | lst
inductive Bl where
  | len | abs | int | min2 | max2 | tuple | list | str | all

mutual
inductive Tg where
  | nm (i : Nat) | tp (ts : Tgs)
inductive Tgs where
  | nil | cons (t : Tg) (ts : Tgs)
end

mutual
inductive E where
  | non | bl (b : Bool) | int (i : Int) | str (cs : List Nat)
  | var (i : Nat) | glo (k : Nat) | fnv (f : Nat)
  | bin (op : BOp) (a b : E) | neg (a : E)
  | cmp (op : COp) (a b : E) | chn (o1 o2 : COp) (a b c : E) | isN (a : E) | ntN (a : E)
  | and (a b : E) | or (a b : E) | not (a : E) | ife (c : B) (a b : E)
  | tup (es : Es) | lst (es : Es) | cell (es : Es)
  | call (f : Nat) (es : Es) | blt (f : Bl) (es : Es) | isi (a : E) (ts : List Ty)
  | idx (a i : E) | slN (a : E) | slL (a lo : E) | slU (a hi : E) | slB (a lo hi : E) | rev (a : E)
  | upper (a : E)
  | lc (t : Tg) (s : I) (e : E) (vs : List Nat) | lcf (t : Tg) (s : I) (c : B) (e : E) (vs : List Nat)
inductive Es where
  | nil | cons (e : E) (es : Es)
inductive I where
  | seq (e : E) | rng (e : E)
/-- tests -/
inductive B where
  | and (a b : B) | or (a b : B) | not (a : B) | e (e : E)
  | cmp (op : COp) (a b : E) | chn (o1 o2 : COp) (a b c : E) | isN (a : E) | ntN (a : E)
end

mutual
inductive T where
  | asg (i : Nat) (e : E) | asgO (i : Nat) (e : E)
  | par2 (i j : Nat) (a b : E) | par3 (i j k : Nat) (oi : Bool) (a b c : E)
  | unp (t : Tg) (e : E)
  | setI (i : Nat) (k v : E) | app (i : Nat) (e : E)
  | ret (e : E) | reto (i : Nat) | ifs (c : B) (a b : Ts) | fors (t : Tg) (s : I) (b : Ts) | whl (c : B) (b : Ts) | exp (e : E)
inductive Ts where
  | nil | cons (t : T) (ts : Ts)
end

/-! ### operations on values -/
def LIM : Nat := 16777216
/-- the truth of a value -/
def D.tru : D → Option Bool
  | .non => some false
  | .bl b => some b
  | .int i => some (i != 0)
  | .str cs => some (!cs.isEmpty)
  | .tup xs => some (!xs.isEmpty)
  | .lst xs => some (!xs.isEmpty)
  | _ => none
def D.isNon : D → Bool
  | .non => true
  | _ => false
mutual
def D.eqv : D → D → Bool
  | .non, .non => true
  | .bl a, .bl b => a == b
  | .bl a, .int j => (if a then 1 else 0) == j
  | .int i, .bl b => i == (if b then 1 else 0)
  | .int i, .int j => i == j
  | .str x, .str y => x == y
  | .tup xs, .tup ys => D.eqvs xs ys
  | .lst xs, .lst ys => D.eqvs xs ys
  | _, _ => false
def D.eqvs : List D → List D → Bool
  | [], [] => true
  | x :: xs, y :: ys => D.eqv x y && D.eqvs xs ys
  | _, _ => false
end
mutual
/-- it may be compared by == : no script, no place, no def within -/
def D.cmpb : D → Bool
  | .tup xs => D.cmpbs xs
  | .lst xs => D.cmpbs xs
  | .rol _ => false
  | .loc _ => false
  | .fn _ => false
  | _ => true
def D.cmpbs : List D → Bool
  | [] => true
  | x :: xs => D.cmpb x && D.cmpbs xs
end
mutual
def D.dep : D → Nat
  | .tup xs => D.deps xs + 1
  | .lst xs => D.deps xs + 1
  | _ => 0
def D.deps : List D → Nat
  | [] => 0
  | x :: xs => max (D.dep x) (D.deps xs)
end
def D.flat : D → Bool
  | .non => true
  | .bl _ => true
  | .int _ => true
  | .str _ => true
  | _ => false
def b2i (b : Bool) : Int := if b then 1 else 0
def asI : D → Option Int
  | .int i => some i
  | .bl b => some (b2i b)
  | _ => none
/-- the left, or the right, factor below 2 ^ 64; or both of some size -/
def sm64 (i : Int) : Bool := decide (-(2 ^ 64) < i) && decide (i < 2 ^ 64)
def mulOk (i j : Int) : Bool := sm64 j || (sm64 i || (decide (i.natAbs < 2 ^ 4000) && decide (j.natAbs < 2 ^ 4000)))
def divOk (j : Int) : Bool := decide (0 < j) && decide (j < 2 ^ 4000)
def rep (k : Nat) (xs : List D) : List D := (List.replicate k xs).flatten
def bop (op : BOp) (x y : D) : Option D := match op with
  | .add => (match x, y with
    | .int i, .int j => some (.int (i + j))
    | .bl b, .int j => some (.int (b2i b + j))
    | .str a, .str b => if a.length + b.length ≤ LIM then some (.str (a ++ b)) else none
    | .tup a, .tup b => if a.length + b.length ≤ LIM then some (.tup (a ++ b)) else none
    | .lst a, .lst b => if a.length + b.length ≤ LIM then some (.lst (a ++ b)) else none
    | _, _ => none)
  | .sub => (match x, y with
    | .int i, .int j => some (.int (i - j))
    | .bl b, .int j => some (.int (b2i b - j))
    | _, _ => none)
  | .mul => (match x, y with
    | .int i, .int j => if mulOk i j then some (.int (i * j)) else none
    | .tup a, .int j => if decide (2 ≤ j) && decide (j ≤ 1000) && !a.isEmpty && decide (a.length ≤ 1000) then some (.tup (rep j.toNat a)) else none
    | .lst a, .int j => if decide (0 ≤ j) && decide (j ≤ 1000) && decide (a.length ≤ 1000) then some (.lst (rep j.toNat a)) else none
    | _, _ => none)
  | .mod => (match x, y with
    | .int i, .int j => if 0 < j then some (.int (i % j)) else none
    | _, _ => none)
  | .fdiv => (match x, y with
    | .int i, .int j => if divOk j then some (.int (i / j)) else none
    | _, _ => none)
  | .pow => (match x, y with
    | .int i, .int j => if decide (0 ≤ j) && decide (j ≤ 1000) && sm64 i then some (.int (i ^ j.toNat)) else none
    | _, _ => none)
def inD (x : D) (ys : List D) : Bool := ys.any fun y => D.eqv y x
def depOk (x y : D) : Bool := decide (D.dep y ≤ 60) || decide (D.dep x ≤ 60)
def cop (op : COp) (x y : D) : Option Bool := match op with
  | .eq => if D.cmpb x && D.cmpb y && depOk x y then some (D.eqv x y) else none
  | .ne => if D.cmpb x && D.cmpb y && depOk x y then some (!D.eqv x y) else none
  | .lt => (match x, y with
    | .int i, .int j => some (decide (i < j))
    | _, _ => none)
  | .le => (match x, y with
    | .int i, .int j => some (decide (i ≤ j))
    | _, _ => none)
  | .gt => (match x, y with
    | .int i, .int j => some (decide (j < i))
    | _, _ => none)
  | .ge => (match x, y with
    | .int i, .int j => some (decide (j ≤ i))
    | _, _ => none)
  | .isin => (match y with
    | .tup ys => if D.flat x && ys.all D.flat then some (inD x ys) else none
    | .lst ys => if D.flat x && ys.all D.flat then some (inD x ys) else none
    | _ => none)
  | .notin => (match y with
    | .tup ys => if D.flat x && ys.all D.flat then some (!inD x ys) else none
    | .lst ys => if D.flat x && ys.all D.flat then some (!inD x ys) else none
    | _ => none)
def Ty.has (t : Ty) (x : D) : Bool := match t, x with
  | .int, .int _ => true
  | .int, .bl _ => true
  | .bool, .bl _ => true
  | .str, .str _ => true
  | .tup, .tup _ => true
  | .lst, .lst _ => true
  | _, _ => false
/-- isinstance is asked of plain values alone -/
def D.isiOk : D → Bool
  | .rol _ => false
  | .loc _ => false
  | .fn _ => false
  | _ => true
def codesOf (x : Str) : List Nat := x.cps.toList
def boolsOf : List D → Option (List Bool)
  | [] => some []
  | .bl b :: xs => (match boolsOf xs with
    | some bs => some (b :: bs)
    | none => none)
  | _ :: _ => none
def sBool (b : Bool) : List Nat := if b then [84, 114, 117, 101] else [70, 97, 108, 115, 101]
def blt (f : Bl) (xs : List D) : Option D := match f, xs with
  | .len, [.str cs] => some (.int cs.length)
  | .len, [.tup ys] => some (.int ys.length)
  | .len, [.lst ys] => some (.int ys.length)
  | .len, [.rol ys] => some (.int ys.length)
  | .abs, [.int i] => some (.int (if i < 0 then -i else i))
  | .int, [.int i] => some (.int i)
  | .int, [.bl b] => some (.int (b2i b))
  | .min2, [.int i, .int j] => some (.int (if j < i then j else i))
  | .max2, [.int i, .int j] => some (.int (if j > i then j else i))
  | .tuple, [.tup ys] => some (.tup ys)
  | .tuple, [.lst ys] => some (.tup ys)
  | .list, [.tup ys] => some (.lst ys)
  | .list, [.lst ys] => some (.lst ys)
  | .str, [.int i] => if i.natAbs < 2 ^ 1000 then some (.str (codesOf (toString i : String))) else none
  | .str, [.bl b] => some (.str (sBool b))
  | .all, [.lst ys] => (boolsOf ys).map fun bs => .bl (bs.all id)
  | _, _ => none
def upper (cs : List Nat) : List Nat := codesOf (Txt.upper ⟨cs.toArray⟩)
def cut {α : Type} (xs : List α) (lo hi : Option Int) : List α := (xs.drop (HT.sIx xs.length 0 lo)).take (HT.sIx xs.length xs.length hi - HT.sIx xs.length 0 lo)
def slD (x : D) (lo hi : Option Int) : Option D := match x with
  | .tup xs => some (.tup (cut xs lo hi))
  | .lst xs => some (.lst (cut xs lo hi))
  | _ => none
def toI : D → Option Int
  | .int i => some i
  | _ => none
def idxM (x i : D) : M D := fun S => match x, i with
  | .tup xs, .int j => M.opt (L2.atI xs j) S
  | .lst xs, .int j => M.opt (L2.atI xs j) S
  | .rol xs, .int j => M.opt (L2.atI xs j) S
  | .loc n, .int j => (match S[n]? with
    | some (.cell xs) => M.opt (L2.atI xs j) S
    | _ => .stk)
  | _, _ => .stk
/-- what a walk over a value yields -/
def itemsD : D → Option (List D)
  | .tup xs => some xs
  | .lst xs => some xs
  | _ => none
def rngD (j : Int) : List D := (List.range j.toNat).map fun (k : Nat) => D.int (k : Int)

def negD : D → Option D
  | .int i => some (.int (-i))
  | _ => none
def revD : D → Option D
  | .lst xs => some (.lst xs.reverse)
  | .tup xs => if decide (2 ≤ xs.length) then some (.tup xs.reverse) else none
  | _ => none
def upD : D → Option D
  | .str cs => if decide (cs.length ≤ 1000) && (upper cs).all (fun c => decide (c < 1114112)) && decide ((upper cs).length ≤ 4000) then some (.str (upper cs)) else none
  | _ => none
def rngO : D → Option (List D)
  | .int j => if decide (-1000000 ≤ j) && decide (j ≤ 1000000) then some (rngD j) else none
  | _ => none
/-! ### slots -/
def wipe (ρ : Env) : List Nat → Env
  | [] => ρ
  | v :: vs => (wipe ρ vs).set v none
def getV (ρ : Env) (i : Nat) : Option D := match ρ[i]? with
  | some (some (.val d)) => some d
  | _ => none
/-- a slot that is looked at: also a list of the frame's own -/
def peekV (ρ : Env) (i : Nat) : Option D := match ρ[i]? with
  | some (some (.val d)) => some d
  | some (some (.own xs)) => some (.lst xs)
  | _ => none
def SV.fix : SV → SV
  | .val d => .val d
  | .own xs => .val (.lst xs)
def fixAll (ρ : Env) : Env := ρ.map fun o => o.map SV.fix
def fixAt (ρ : Env) (i : Nat) : Env := match ρ[i]? with
  | some (some (.own xs)) => ρ.set i (some (.val (.lst xs)))
  | _ => ρ
mutual
def bindT : Tg → D → Env → Option Env
  | .nm i, d, ρ => some (ρ.set i (some (.val d)))
  | .tp ts, d, ρ => (match d with
    | .tup xs => bindTs ts xs ρ
    | _ => none)
def bindTs : Tgs → List D → Env → Option Env
  | .nil, [], ρ => some ρ
  | .cons t ts, x :: xs, ρ => (match bindT t x ρ with
    | some ρ' => bindTs ts xs ρ'
    | none => none)
  | _, _, _ => none
end

/-- what a call hands back: a value; a list that nobody else holds -/
inductive RV where
  | val (d : D) | own (xs : List D)
def RV.d : RV → D
  | .val d => d
  | .own xs => .lst xs
abbrev Calls := Nat → List D → M RV
/-- what stands around: the module's constants, the defs -/
structure Cfg where
  G : List D
  C : Calls
  W : Nat

/-! ### expressions -/
def mapF' (c : D → M Bool) (f : D → M D) : List D → M (List D)
  | [] => fun S => .ok [] S
  | x :: xs => fun S => match c x S with
    | .stk => .stk
    | .ok false S1 => mapF' c f xs S1
    | .ok true S1 => (match f x S1 with
      | .stk => .stk
      | .ok y S2 => (match mapF' c f xs S2 with
        | .stk => .stk
        | .ok ys S3 => .ok (y :: ys) S3))
/-- an operand that is looked at alone -/
def pkOf (v : M D) (e : E) (ρ : Env) : M D := match e with
  | .var i => M.opt (peekV ρ i)
  | _ => v
variable (X : Cfg)
mutual
def ev : E → Env → M D
  | .non, _ => M.pure .non
  | .bl b, _ => M.pure (.bl b)
  | .int i, _ => M.pure (.int i)
  | .str cs, _ => M.pure (.str cs)
  | .var i, ρ => M.opt (getV ρ i)
  | .glo k, _ => M.opt (X.G[k]?)
  | .fnv f, _ => M.pure (.fn f)
  | .bin op a b, ρ => M.bind (pkOf (ev a ρ) a ρ) fun x => M.bind (pkOf (ev b ρ) b ρ) fun y => M.opt (bop op x y)
  | .neg a, ρ => M.bind (ev a ρ) fun x => M.opt (negD x)
  | .cmp op a b, ρ => M.bind (pkOf (ev a ρ) a ρ) fun x => M.bind (pkOf (ev b ρ) b ρ) fun y => M.opt ((cop op x y).map .bl)
  | .chn o1 o2 a b c, ρ => M.bind (ev a ρ) fun x => M.bind (ev b ρ) fun y => M.bind (M.opt (cop o1 x y)) fun k => match k with
    | true => M.bind (ev c ρ) fun z => M.opt ((cop o2 y z).map .bl)
    | false => M.pure (.bl false)
  | .isN a, ρ => M.bind (ev a ρ) fun x => M.pure (.bl x.isNon)
  | .ntN a, ρ => M.bind (ev a ρ) fun x => M.pure (.bl (!x.isNon))
  | .and a b, ρ => M.bind (ev a ρ) fun x => M.bind (M.opt x.tru) fun k => match k with
    | true => ev b ρ
    | false => M.pure x
  | .or a b, ρ => M.bind (ev a ρ) fun x => M.bind (M.opt x.tru) fun k => match k with
    | true => M.pure x
    | false => ev b ρ
  | .not a, ρ => M.bind (ev a ρ) fun x => M.bind (M.opt x.tru) fun k => M.pure (.bl (!k))
  | .ife c a b, ρ => M.bind (tst c ρ) fun k => match k with
    | true => ev a ρ
    | false => ev b ρ
  | .tup es, ρ => M.bind (evs es ρ) fun xs => M.guard (decide (xs.length ≤ 100)) (M.pure (.tup xs))
  | .lst es, ρ => M.bind (evs es ρ) fun xs => M.guard (decide (xs.length ≤ 100)) (M.pure (.lst xs))
  | .cell es, ρ => M.bind (evs es ρ) fun xs => M.guard (decide (xs.length ≤ 100)) fun S => .ok (.loc S.length) (S ++ [.cell xs])
  | .call f es, ρ => M.bind (evs es ρ) fun xs => M.bind (X.C f xs) fun r => M.pure r.d
  | .blt f es, ρ => M.bind (pks es ρ) fun xs => M.opt (blt f xs)
  | .isi a ts, ρ => M.bind (ev a ρ) fun x => M.guard x.isiOk (M.pure (.bl (ts.any fun t => t.has x)))
  | .idx a i, ρ => M.bind (pkOf (ev a ρ) a ρ) fun x => M.bind (ev i ρ) fun j => idxM x j
  | .slN a, ρ => M.bind (pkOf (ev a ρ) a ρ) fun x => M.opt (slD x none none)
  | .slL a lo, ρ => M.bind (pkOf (ev a ρ) a ρ) fun x => M.bind (ev lo ρ) fun l => M.bind (M.opt (toI l)) fun l => M.opt (slD x (some l) none)
  | .slU a hi, ρ => M.bind (pkOf (ev a ρ) a ρ) fun x => M.bind (ev hi ρ) fun u => M.bind (M.opt (toI u)) fun u => M.opt (slD x none (some u))
  | .slB a lo hi, ρ => M.bind (pkOf (ev a ρ) a ρ) fun x => M.bind (ev lo ρ) fun l => M.bind (M.opt (toI l)) fun l => M.bind (ev hi ρ) fun u => M.bind (M.opt (toI u)) fun u => M.opt (slD x (some l) (some u))
  | .rev a, ρ => M.bind (pkOf (ev a ρ) a ρ) fun x => M.opt (revD x)
  | .upper a, ρ => M.bind (ev a ρ) fun x => M.opt (upD x)
  | .lc t s e vs, ρ => M.bind (its s ρ) fun xs => M.guard (decide (xs.length ≤ 1000000)) (M.bind (mapF' (fun _ => M.pure true) (fun d => M.bind (M.opt (bindT t d (wipe ρ vs))) fun ρ' => ev e ρ') xs) fun ys => M.pure (.lst ys))
  | .lcf t s c e vs, ρ => M.bind (its s ρ) fun xs => M.guard (decide (xs.length ≤ 1000000)) (M.bind (mapF' (fun d => M.bind (M.opt (bindT t d (wipe ρ vs))) fun ρ' => tst c ρ') (fun d => M.bind (M.opt (bindT t d (wipe ρ vs))) fun ρ' => ev e ρ') xs) fun ys => M.pure (.lst ys))
def evs : Es → Env → M (List D)
  | .nil, _ => M.pure []
  | .cons e es, ρ => M.bind (ev e ρ) fun x => M.bind (evs es ρ) fun xs => M.pure (x :: xs)
def pks : Es → Env → M (List D)
  | .nil, _ => M.pure []
  | .cons e es, ρ => M.bind (pkOf (ev e ρ) e ρ) fun x => M.bind (pks es ρ) fun xs => M.pure (x :: xs)
/-- a test -/
def tst : B → Env → M Bool
  | .and a b, ρ => M.bind (tst a ρ) fun k => match k with
    | true => tst b ρ
    | false => M.pure false
  | .or a b, ρ => M.bind (tst a ρ) fun k => match k with
    | true => M.pure true
    | false => tst b ρ
  | .not a, ρ => M.bind (tst a ρ) fun k => M.pure (!k)
  | .e e, ρ => M.bind (pkOf (ev e ρ) e ρ) fun x => M.opt x.tru
  | .cmp op a b, ρ => M.bind (pkOf (ev a ρ) a ρ) fun x => M.bind (pkOf (ev b ρ) b ρ) fun y => M.opt (cop op x y)
  | .chn o1 o2 a b c, ρ => M.bind (ev a ρ) fun x => M.bind (ev b ρ) fun y => M.bind (M.opt (cop o1 x y)) fun k => match k with
    | true => M.bind (ev c ρ) fun z => M.opt (cop o2 y z)
    | false => M.pure false
  | .isN a, ρ => M.bind (ev a ρ) fun x => M.pure x.isNon
  | .ntN a, ρ => M.bind (ev a ρ) fun x => M.pure (!x.isNon)
def its : I → Env → M (List D)
  | .seq e, ρ => M.bind (pkOf (ev e ρ) e ρ) fun x => M.opt (itemsD x)
  | .rng e, ρ => M.bind (ev e ρ) fun x => M.opt (rngO x)
end
/-! ### statements -/
/-- an expression whose list is a new one -/
def evF (e : E) (ρ : Env) : M (List D) := match e with
  | .call f es => M.bind (evs X es ρ) fun xs => M.bind (X.C f xs) fun r => M.opt (match r with
    | .own ys => some ys
    | _ => none)
  | e => M.bind (ev X e ρ) fun x => M.opt (match x with
    | .lst xs => some xs
    | _ => none)
inductive Fl where
  | nx (ρ : Env) | rt (r : RV)
def forL (b : D → Env → M Fl) : List D → Env → M Fl
  | [], ρ => M.pure (.nx ρ)
  | x :: xs, ρ => M.bind (b x ρ) fun f => match f with
    | .nx ρ' => forL b xs ρ'
    | .rt r => M.pure (.rt r)
def whlL (c : Env → M Bool) (b : Env → M Fl) : Nat → Env → M Fl
  | 0, _ => M.stk
  | n + 1, ρ => M.bind (c ρ) fun k => match k with
    | false => M.pure (.nx ρ)
    | true => M.bind (b ρ) fun f => match f with
      | .nx ρ' => whlL c b n ρ'
      | .rt r => M.pure (.rt r)
def setM (ρ : Env) (i : Nat) (j x : D) : M Fl := fun S => match ρ[i]?, j with
  | some (some (.own xs)), .int k => (match L2.ixN xs.length k with
    | some p => .ok (.nx (ρ.set i (some (.own (xs.set p x))))) S
    | none => .stk)
  | some (some (.val (.loc n))), .int k => (match S[n]? with
    | some (.cell xs) => (match L2.ixN xs.length k with
      | some p => .ok (.nx ρ) (S.set n (.cell (xs.set p x)))
      | none => .stk)
    | none => .stk)
  | _, _ => .stk
def appM (ρ : Env) (i : Nat) (x : D) : M Fl := fun S => match ρ[i]? with
  | some (some (.own xs)) => if xs.length < 1000000 then .ok (.nx (ρ.set i (some (.own (xs ++ [x]))))) S else .stk
  | _ => .stk
def fixI (s : I) (ρ : Env) : Env := match s with
  | .seq (.var i) => fixAt ρ i
  | _ => ρ
mutual
def ex : T → Env → M Fl
  | .asg i e, ρ => M.bind (ev X e ρ) fun x => M.pure (.nx (ρ.set i (some (.val x))))
  | .asgO i e, ρ => M.bind (evF X e ρ) fun xs => M.pure (.nx (ρ.set i (some (.own xs))))
  | .par2 i j a b, ρ => M.bind (ev X a ρ) fun x => M.bind (ev X b ρ) fun y => M.pure (.nx ((ρ.set i (some (.val x))).set j (some (.val y))))
  | .par3 i j k oi a b c, ρ => (match oi with
    | false => M.bind (ev X a ρ) fun x => M.bind (ev X b ρ) fun y => M.bind (ev X c ρ) fun z => M.pure (.nx (((ρ.set i (some (.val x))).set j (some (.val y))).set k (some (.val z))))
    | true => M.bind (evF X a ρ) fun xs => M.bind (ev X b ρ) fun y => M.bind (ev X c ρ) fun z => M.pure (.nx (((ρ.set i (some (.own xs))).set j (some (.val y))).set k (some (.val z)))))
  | .unp t e, ρ => M.bind (ev X e ρ) fun x => M.bind (M.opt (bindT t x ρ)) fun ρ' => M.pure (.nx ρ')
  | .setI i k v, ρ => M.bind (ev X v ρ) fun x => M.bind (ev X k ρ) fun j => setM ρ i j x
  | .app i e, ρ => M.bind (ev X e ρ) fun x => appM ρ i x
  | .ret e, ρ => M.bind (ev X e (fixAll ρ)) fun x => M.pure (.rt (.val x))
  | .reto i, ρ => M.opt (match ρ[i]? with
    | some (some (.own xs)) => some (.rt (.own xs))
    | _ => none)
  | .ifs c a b, ρ => M.bind (tst X c ρ) fun k => match k with
    | true => exs a ρ
    | false => exs b ρ
  | .fors t s b, ρ => M.bind (its X s ρ) fun xs => forL (fun d ρ' => M.bind (M.opt (bindT t d ρ')) fun ρ'' => exs b ρ'') xs (fixI s ρ)
  | .whl c b, ρ => whlL (fun ρ' => tst X c ρ') (fun ρ' => exs b ρ') X.W ρ
  | .exp e, ρ => M.bind (ev X e ρ) fun _ => M.pure (.nx ρ)
def exs : Ts → Env → M Fl
  | .nil, ρ => M.pure (.nx ρ)
  | .cons t ts, ρ => M.bind (ex t ρ) fun f => match f with
    | .nx ρ' => exs ts ρ'
    | .rt r => M.pure (.rt r)
end
/-- a def: how many parameters, how many slots, its body -/
structure FD where
  ps : Nat
  n : Nat
  body : Ts
def start (n : Nat) (ds : List D) : Env := ds.map (fun d => some (SV.val d)) ++ List.replicate (n - ds.length) none
def fin : Fl → RV
  | .rt r => r
  | .nx _ => .val .non
def callN (tab : List FD) (G : List D) (W : Nat) : Nat → Calls
  | 0 => fun _ _ => M.stk
  | n + 1 => fun f ds => match tab[f]? with
    | none => M.stk
    | some fd => M.guard (ds.length == fd.ps) (M.bind (exs ⟨G, callN tab G W n, W⟩ fd.body (start fd.n ds)) fun fl => M.pure (fin fl))
example : ev ⟨[], fun _ _ => M.stk, 5⟩ (.bin .add (.int 1) (.int 2)) [] [] = .ok (.int 3) [] := rfl
example (C : Cfg) (a b : D) : ex C (.ifs (.e (.cmp .lt (.int 1) (.int 2))) (.cons (.ret (.tup (.cons (.var 0) (.cons (.var 1) .nil)))) .nil) .nil) [some (.val a), some (.own [b])] [] = .ok (.rt (.val (.tup [a, .lst [b]]))) [] := rfl
end Ev

/-! Worlds: which addresses hold lists that never change, which hold cells; how a value lies in an abstract heap. -/
namespace Ev
open PySem PySem.Spec PyProof.Rows L2

theorem lim_eq : LIM = sizeLine := by rw [sizeLine_eq]; rfl

structure Wd where
  F : Addr → Prop
  A : List Addr
  H : Hp
structure Wd.Ok (w : Wd) : Prop where
  fz : ∀ a, w.F a → ∃ vs, w.H a = some (.lst vs)
  ce : ∀ a ∈ w.A, ∃ vs, w.H a = some (.lst vs)
  cf : ∀ a ∈ w.A, ¬ w.F a
  nd : w.A.Nodup
structure Wd.Le (w w' : Wd) : Prop where
  f : ∀ a, w.F a → w'.F a
  fn : ∀ a, w'.F a → w.F a ∨ w.H a = none
  a : ∃ t, w'.A = w.A ++ t ∧ ∀ a ∈ t, w.H a = none
  h : ∀ b o, w.H b = some o → b ∉ w.A → w'.H b = some o
theorem Wd.Le.refl (w : Wd) : w.Le w := ⟨fun _ h => h, fun _ h => .inl h, ⟨[], by simp, fun _ h => nomatch h⟩, fun _ _ h _ => h⟩
theorem Wd.Le.free {w w' : Wd} (l : w.Le w') (k : w.Ok) (k' : w'.Ok) {a : Addr} (h : w'.H a = none) : w.H a = none := by
  obtain ⟨t, e, ht⟩ := l.a
  cases q : w.H a with
  | none => rfl
  | some o =>
    by_cases ha : a ∈ w.A
    · obtain ⟨vs, e2⟩ := k'.ce a (by rw [e]; exact List.mem_append_left _ ha)
      rw [h] at e2
      cases e2
    · rw [l.h a o q ha] at h
      cases h
theorem Wd.Le.trans {w w1 w2 : Wd} (a : w.Le w1) (b : w1.Le w2) (k : w.Ok) (k1 : w1.Ok) : w.Le w2 := by
  obtain ⟨t, e, ht⟩ := a.a
  obtain ⟨t2, e2, ht2⟩ := b.a
  refine ⟨fun x h => b.f x (a.f x h), fun x h => ?_, ⟨t ++ t2, by rw [e2, e, List.append_assoc], fun x hx => ?_⟩, fun x o h hn => ?_⟩
  · rcases b.fn x h with q | q
    · exact a.fn x q
    · exact .inr (a.free k k1 q)
  · rcases List.mem_append.mp hx with q | q
    · exact ht x q
    · exact a.free k k1 (ht2 x q)
  · refine b.h x o (a.h x o h hn) fun q => ?_
    rw [e] at q
    rcases List.mem_append.mp q with q | q
    · exact hn q
    · rw [ht x q] at h
      cases h

/-- a text as the model has it -/
def tx (cs : List Nat) : Str := ⟨cs.toArray⟩
theorem tx_inj {a b : List Nat} (h : tx a = tx b) : a = b := by
  have e : a.toArray = b.toArray := congrArg Str.cps h
  simpa using e
theorem tx_len (cs : List Nat) : (tx cs).length = cs.length := by simp [tx, Str.length]
theorem tx_app (a b : List Nat) : tx a ++ tx b = tx (a ++ b) := by
  show Str.append _ _ = _
  simp [Str.append, tx]
theorem tx_codes (x : Str) : tx (codesOf x) = x := by
  obtain ⟨c⟩ := x
  simp [tx, codesOf]
theorem codes_tx (cs : List Nat) : codesOf (tx cs) = cs := by simp [tx, codesOf]
structure TxOk (cs : List Nat) : Prop where
  len : cs.length ≤ sizeLine
  ok : ∀ c ∈ cs, c < 0x110000

/-- a list that is read, never written -/
def RoL (K : PySem.W.Frag) (H : Hp) (a : Addr) (vs : List V) : Prop := (∃ o, H a = some (.frz o (.lst vs))) ∨
    ∃ (o : Obj) (its : Array Value) (n : Nat), K.lookup a = some o ∧ o.cls = .type "list" ∧ o.dict = none ∧ o.data = .seq its n ∧ its.size ≤ sizeLine ∧ Vals vs its.toList
theorem RoL.sq {K : PySem.W.Frag} {H : Hp} {a : Addr} {vs : List V} (h : RoL K H a vs) : SqL K H a vs := by
  rcases h with h | h
  · exact .inl (.inr h)
  · exact .inr h

mutual
inductive Rp (K : PySem.W.Frag) (fa : Nat → Addr) (w : Wd) : V → D → Prop
  | non : Rp K fa w .non .non
  | bl (b : Bool) : Rp K fa w (.bl b) (.bl b)
  | int (i : Int) : Rp K fa w (.int i) (.int i)
  | str {cs : List Nat} : TxOk cs → Rp K fa w (.str (tx cs)) (.str cs)
  | tup {a : Addr} {vs : List V} {ds : List D} : SqT K w.H a vs → vs.length ≤ sizeLine → Rps K fa w vs ds → Rp K fa w (.ref a) (.tup ds)
  | lst {a : Addr} {vs : List V} {ds : List D} : w.H a = some (.lst vs) → w.F a → vs.length ≤ sizeLine → Rps K fa w vs ds → Rp K fa w (.ref a) (.lst ds)
  | rol {a : Addr} {vs : List V} {ds : List D} : RoL K w.H a vs → vs.length ≤ sizeLine → Rps K fa w vs ds → Rp K fa w (.ref a) (.rol ds)
  | loc {a : Addr} {n : Nat} : w.A[n]? = some a → Rp K fa w (.ref a) (.loc n)
  | fn (f : Nat) : Rp K fa w (.ref (fa f)) (.fn f)
inductive Rps (K : PySem.W.Frag) (fa : Nat → Addr) (w : Wd) : List V → List D → Prop
  | nil : Rps K fa w [] []
  | cons {v : V} {vs : List V} {d : D} {ds : List D} : Rp K fa w v d → Rps K fa w vs ds → Rps K fa w (v :: vs) (d :: ds)
end
section
variable {K : PySem.W.Frag} {fa : Nat → Addr} {w w' : Wd}
theorem Rps.len : ∀ {vs : List V} {ds : List D}, Rps K fa w vs ds → vs.length = ds.length
  | [], _, h => by cases h; rfl
  | v :: vs, _, h => by
    cases h with
    | cons a b => rw [List.length_cons, List.length_cons, Rps.len b]
theorem Rps.app : ∀ {vs us : List V} {ds es : List D}, Rps K fa w vs ds → Rps K fa w us es → Rps K fa w (vs ++ us) (ds ++ es)
  | [], _, _, _, h, g => by cases h; exact g
  | v :: vs, _, _, _, h, g => by
    cases h with
    | cons a b => exact .cons a (Rps.app b g)
theorem Rps.one {v : V} {d : D} (h : Rp K fa w v d) : Rps K fa w [v] [d] := .cons h .nil
theorem Rps.get : ∀ {vs : List V} {ds : List D} {i : Nat} {d : D}, Rps K fa w vs ds → ds[i]? = some d → ∃ v, vs[i]? = some v ∧ Rp K fa w v d
  | [], _, i, _, h, e => by cases h; simp at e
  | v :: vs, _, i, _, h, e => by
    cases h with
    | cons a b =>
      cases i with
      | zero =>
        have e2 := Option.some.inj e
        subst e2
        exact ⟨v, rfl, a⟩
      | succ i =>
        obtain ⟨u, h1, h2⟩ := Rps.get (i := i) b (by simpa using e)
        exact ⟨u, by simpa using h1, h2⟩
theorem Rps.getV : ∀ {vs : List V} {ds : List D} {i : Nat} {v : V}, Rps K fa w vs ds → vs[i]? = some v → ∃ d, ds[i]? = some d ∧ Rp K fa w v d
  | [], _, i, _, h, e => by cases h; simp at e
  | v :: vs, _, i, _, h, e => by
    cases h with
    | cons a b =>
      cases i with
      | zero =>
        have e2 := Option.some.inj e
        subst e2
        exact ⟨_, rfl, a⟩
      | succ i =>
        obtain ⟨u, h1, h2⟩ := Rps.getV (i := i) b (by simpa using e)
        exact ⟨u, by simpa using h1, h2⟩
theorem Rps.take : ∀ {vs : List V} {ds : List D} (n : Nat), Rps K fa w vs ds → Rps K fa w (vs.take n) (ds.take n)
  | [], _, n, h => by cases h; simp; exact .nil
  | v :: vs, _, 0, h => by simp; exact .nil
  | v :: vs, _, n + 1, h => by
    cases h with
    | cons a b => exact .cons a (Rps.take n b)
theorem Rps.drop : ∀ {vs : List V} {ds : List D} (n : Nat), Rps K fa w vs ds → Rps K fa w (vs.drop n) (ds.drop n)
  | [], _, n, h => by cases h; simp; exact .nil
  | v :: vs, _, 0, h => h
  | v :: vs, _, n + 1, h => by
    cases h with
    | cons a b => exact Rps.drop n b
theorem Rps.set {x : V} {d : D} (r : Rp K fa w x d) : ∀ {vs : List V} {ds : List D} (i : Nat), Rps K fa w vs ds → Rps K fa w (vs.set i x) (ds.set i d)
  | [], _, n, h => by cases h; exact .nil
  | v :: vs, _, 0, h => by
    cases h with
    | cons a b => exact .cons r b
  | v :: vs, _, n + 1, h => by
    cases h with
    | cons a b => exact .cons a (Rps.set r n b)
theorem Rps.rev : ∀ {vs : List V} {ds : List D}, Rps K fa w vs ds → Rps K fa w vs.reverse ds.reverse
  | [], _, h => by cases h; exact .nil
  | v :: vs, _, h => by
    cases h with
    | cons a b =>
      rw [List.reverse_cons, List.reverse_cons]
      exact Rps.app (Rps.rev b) (Rps.one a)
theorem Rps.flat {vs : List V} {ds : List D} (h : Rps K fa w vs ds) : ∀ n : Nat, Rps K fa w (List.replicate n vs).flatten (List.replicate n ds).flatten
  | 0 => .nil
  | n + 1 => by
    rw [List.replicate_succ, List.replicate_succ, List.flatten_cons, List.flatten_cons]
    exact Rps.app h (Rps.flat h n)
theorem Rps.nil_iff {vs : List V} {ds : List D} (h : Rps K fa w vs ds) : vs = [] ↔ ds = [] := by
  cases h <;> simp
theorem Rps.empty {vs : List V} {ds : List D} (h : Rps K fa w vs ds) : vs.isEmpty = ds.isEmpty := by
  cases h <;> rfl
theorem Rps.snoc {vs : List V} {ds : List D} {v : V} {d : D} (h : Rps K fa w vs ds) (r : Rp K fa w v d) : Rps K fa w (vs ++ [v]) (ds ++ [d]) := Rps.app h (Rps.one r)

/-- what a change must keep -/
structure Kp (w w' : Wd) : Prop where
  tup : ∀ b xs, w.H b = some (.tup xs) → w'.H b = some (.tup xs)
  frz : ∀ b o u, w.H b = some (.frz o u) → w'.H b = some (.frz o u)
  lst : ∀ b xs, w.F b → w.H b = some (.lst xs) → w'.F b ∧ w'.H b = some (.lst xs)
  loc : ∀ (n : Nat) a, w.A[n]? = some a → w'.A[n]? = some a
theorem Kp.sqt (k : Kp w w') {a : Addr} {vs : List V} (h : SqT K w.H a vs) : SqT K w'.H a vs := by
  rcases h with (h | ⟨o, h⟩) | h
  · exact .inl (.inl (k.tup _ _ h))
  · exact .inl (.inr ⟨o, k.frz _ _ _ h⟩)
  · exact .inr h
theorem Kp.rol (k : Kp w w') {a : Addr} {vs : List V} (h : RoL K w.H a vs) : RoL K w'.H a vs := by
  rcases h with ⟨o, h⟩ | h
  · exact .inl ⟨o, k.frz _ _ _ h⟩
  · exact .inr h
mutual
theorem Rp.keep (k : Kp w w') : ∀ {d : D} {v : V}, Rp K fa w v d → Rp K fa w' v d
  | .non, _, h => by cases h; exact .non
  | .bl b, _, h => by cases h; exact .bl b
  | .int i, _, h => by cases h; exact .int i
  | .str cs, _, h => by
    cases h with
    | str t => exact .str t
  | .tup ds, _, h => by
    cases h with
    | tup a b c => exact .tup (k.sqt a) b (Rps.keep k c)
  | .lst ds, _, h => by
    cases h with
    | lst a b c e =>
      obtain ⟨x, y⟩ := k.lst _ _ b a
      exact .lst y x c (Rps.keep k e)
  | .rol ds, _, h => by
    cases h with
    | rol a b c => exact .rol (k.rol a) b (Rps.keep k c)
  | .loc n, _, h => by
    cases h with
    | loc a => exact .loc (k.loc _ _ a)
  | .fn f, _, h => by cases h; exact .fn f
theorem Rps.keep (k : Kp w w') : ∀ {ds : List D} {vs : List V}, Rps K fa w vs ds → Rps K fa w' vs ds
  | [], _, h => by cases h; exact .nil
  | d :: ds, _, h => by
    cases h with
    | cons a b => exact .cons (Rp.keep k a) (Rps.keep k b)
end
theorem Wd.Le.kp (l : w.Le w') (k : w.Ok) : Kp w w' := by
  have nt : ∀ b o, w.H b = some o → (∀ xs, o ≠ .lst xs) → w'.H b = some o := fun b o e n => l.h b o e fun hb => by
    obtain ⟨vs, e2⟩ := k.ce b hb
    rw [e] at e2
    exact n vs (Option.some.inj e2)
  refine ⟨fun b xs e => nt b _ e fun _ z => (by cases z), fun b o u e => nt b _ e fun _ z => (by cases z), fun b xs f e => ⟨l.f b f, l.h b _ e fun hb => k.cf b hb f⟩, fun n a e => ?_⟩
  obtain ⟨t, q, _⟩ := l.a
  rw [q, List.getElem?_append_left (List.getElem?_eq_some_iff.mp e).1]
  exact e

/-! ### small steps of a world -/
/-- a new object -/
def Wd.new (w : Wd) (p : Addr) (o : HO) : Wd := { w with H := upd w.H p o }
/-- a list is let stand for ever -/
def Wd.fix (w : Wd) (p : Addr) : Wd := { w with F := fun a => w.F a ∨ a = p }
/-- a list is written -/
def Wd.put (w : Wd) (p : Addr) (vs : List V) : Wd := { w with H := upd w.H p (.lst vs) }
/-- a new cell -/
def Wd.cel (w : Wd) (p : Addr) : Wd := { w with A := w.A ++ [p] }
theorem Wd.new_le {p : Addr} {o : HO} (h : w.H p = none) : w.Le (w.new p o) :=
  ⟨fun _ h => h, fun _ h => .inl h, ⟨[], by simp [Wd.new], fun _ h => nomatch h⟩, fun b o' e _ => by
    show upd w.H p o b = _
    rw [upd_ne (ne_of_none e h)]
    exact e⟩
theorem Wd.new_ok {p : Addr} {o : HO} (k : w.Ok) (h : w.H p = none) : (w.new p o).Ok := by
  have st : ∀ a vs, w.H a = some (.lst vs) → (w.new p o).H a = some (.lst vs) := fun a vs e => by
    show upd w.H p o a = _
    rw [upd_ne (ne_of_none e h)]
    exact e
  refine ⟨fun a f => ?_, fun a m => ?_, k.cf, k.nd⟩
  · obtain ⟨vs, e⟩ := k.fz a f
    exact ⟨vs, st a vs e⟩
  · obtain ⟨vs, e⟩ := k.ce a m
    exact ⟨vs, st a vs e⟩
/-- a new list that stands for ever -/
theorem Wd.newF_le {p : Addr} {vs : List V} (h : w.H p = none) : w.Le ((w.new p (.lst vs)).fix p) := by
  have l := Wd.new_le (w := w) (p := p) (o := .lst vs) h
  refine ⟨fun a f => .inl f, fun a f => ?_, l.a, l.h⟩
  rcases f with f | f
  · exact .inl f
  · subst f
    exact .inr h
theorem Wd.newF_ok {p : Addr} {vs : List V} (k : w.Ok) (h : w.H p = none) : ((w.new p (.lst vs)).fix p).Ok := by
  have k2 := Wd.new_ok (o := .lst vs) k h
  refine ⟨fun a f => ?_, k2.ce, fun a m f => ?_, k.nd⟩
  · rcases f with f | f
    · exact k2.fz a f
    · subst f
      exact ⟨vs, upd_same⟩
  · rcases f with f | f
    · exact k.cf a m f
    · subst f
      obtain ⟨us, e⟩ := k.ce _ m
      rw [h] at e
      cases e
end
/-! ### cells -/
def CelOk (K : PySem.W.Frag) (fa : Nat → Addr) (w : Wd) (a : Addr) : Ob → Prop
  | .cell ds => ∃ vs, w.H a = some (.lst vs) ∧ vs.length ≤ sizeLine ∧ Rps K fa w vs ds
structure SR (K : PySem.W.Frag) (fa : Nat → Addr) (w : Wd) (S : Sto) : Prop where
  len : w.A.length = S.length
  at_ : ∀ (n : Nat) a o, w.A[n]? = some a → S[n]? = some o → CelOk K fa w a o
section
variable {K : PySem.W.Frag} {fa : Nat → Addr} {w w' : Wd} {S : Sto}
theorem SR.keep (r : SR K fa w S) (k : Kp w w') (hA : w'.A = w.A) (hH : ∀ a ∈ w.A, w'.H a = w.H a) : SR K fa w' S := by
  refine ⟨by rw [hA]; exact r.len, fun n a o e1 e2 => ?_⟩
  rw [hA] at e1
  have q := r.at_ n a o e1 e2
  cases o with
  | cell ds =>
    obtain ⟨vs, h1, h2, h3⟩ := q
    exact ⟨vs, by rw [hH a (List.mem_of_getElem? e1)]; exact h1, h2, h3.keep k⟩
theorem SR.new {p : Addr} {o : HO} (r : SR K fa w S) (k : w.Ok) (h : w.H p = none) : SR K fa (w.new p o) S :=
  r.keep ((Wd.new_le h).kp k) rfl fun a m => by
    obtain ⟨vs, e⟩ := k.ce a m
    show upd w.H p o a = _
    rw [upd_ne (ne_of_none e h)]
theorem SR.newF {p : Addr} {vs : List V} (r : SR K fa w S) (k : w.Ok) (h : w.H p = none) : SR K fa ((w.new p (.lst vs)).fix p) S :=
  r.keep ((Wd.newF_le h).kp k) rfl fun a m => by
    obtain ⟨us, e⟩ := k.ce a m
    show upd w.H p _ a = _
    rw [upd_ne (ne_of_none e h)]
end

/-! ### the frame's slots -/
structure FR (K : PySem.W.Frag) (fa : Nat → Addr) (w : Wd) (σ : L2.St) (ρ : Env) : Prop where
  len : σ.length = ρ.length
  val : ∀ (i : Nat) d, ρ[i]? = some (some (.val d)) → ∃ v, σ[i]? = some (some v) ∧ Rp K fa w v d
  own : ∀ (i : Nat) ds, ρ[i]? = some (some (.own ds)) → ∃ a vs, σ[i]? = some (some (.ref a)) ∧ w.H a = some (.lst vs) ∧ ¬ w.F a ∧ a ∉ w.A ∧ vs.length ≤ sizeLine ∧ Rps K fa w vs ds
  dis : ∀ (i j : Nat) ds es a, ρ[i]? = some (some (.own ds)) → ρ[j]? = some (some (.own es)) → σ[i]? = some (some (.ref a)) → σ[j]? = some (some (.ref a)) → i = j
/-- the frame's own lists are younger than the entry -/
def Yg (H0 : Hp) (σ : L2.St) (ρ : Env) : Prop := ∀ (i : Nat) ds a, ρ[i]? = some (some (.own ds)) → σ[i]? = some (some (.ref a)) → H0 a = none
section
variable {K : PySem.W.Frag} {fa : Nat → Addr} {w w' : Wd} {σ : L2.St} {ρ : Env}
theorem Wd.Le.nA (l : w.Le w') {a : Addr} {o : HO} (h : w.H a = some o) (n : a ∉ w.A) : a ∉ w'.A := fun m => by
  obtain ⟨t, e, ht⟩ := l.a
  rw [e] at m
  rcases List.mem_append.mp m with q | q
  · exact n q
  · rw [ht a q] at h
    cases h
theorem Wd.Le.nF (l : w.Le w') {a : Addr} {o : HO} (h : w.H a = some o) (n : ¬ w.F a) : ¬ w'.F a := fun m => by
  rcases l.fn a m with q | q
  · exact n q
  · rw [q] at h
    cases h
theorem FR.mono (r : FR K fa w σ ρ) (l : w.Le w') (k : w.Ok) : FR K fa w' σ ρ := by
  have kp := l.kp k
  refine ⟨r.len, fun i d e => ?_, fun i ds e => ?_, r.dis⟩
  · obtain ⟨v, h1, h2⟩ := r.val i d e
    exact ⟨v, h1, h2.keep kp⟩
  · obtain ⟨a, vs, h1, h2, h3, h4, h5, h6⟩ := r.own i ds e
    exact ⟨a, vs, h1, l.h a _ h2 h4, l.nF h2 h3, l.nA h2 h4, h5, h6.keep kp⟩
/-- what is looked at: a value, or a list of the frame's own -/
def RpP (K : PySem.W.Frag) (fa : Nat → Addr) (w : Wd) (v : V) (d : D) : Prop :=
  Rp K fa w v d ∨ ∃ a vs ds, v = .ref a ∧ d = .lst ds ∧ w.H a = some (.lst vs) ∧ a ∉ w.A ∧ vs.length ≤ sizeLine ∧ Rps K fa w vs ds
theorem RpP.mono {v : V} {d : D} (r : RpP K fa w v d) (l : w.Le w') (k : w.Ok) : RpP K fa w' v d := by
  rcases r with r | ⟨a, vs, ds, e1, e2, h1, h2, h3, h4⟩
  · exact .inl (r.keep (l.kp k))
  · exact .inr ⟨a, vs, ds, e1, e2, l.h a _ h1 h2, l.nA h1 h2, h3, h4.keep (l.kp k)⟩
theorem RpP.lst {v : V} {ds : List D} (r : RpP K fa w v (.lst ds)) : ∃ a vs, v = .ref a ∧ w.H a = some (.lst vs) ∧ vs.length ≤ sizeLine ∧ Rps K fa w vs ds := by
  rcases r with r | ⟨a, vs, es, e1, e2, h1, h2, h3, h4⟩
  · cases r with
    | lst a b c e => exact ⟨_, _, rfl, a, c, e⟩
  · cases e2
    exact ⟨a, vs, e1, h1, h3, h4⟩
theorem RpP.val {v : V} {d : D} (r : RpP K fa w v d) (h : ∀ ds, d ≠ .lst ds) : Rp K fa w v d := by
  rcases r with r | ⟨a, vs, es, e1, e2, _⟩
  · exact r
  · exact absurd e2 (h es)
end
end Ev

/-! The operations on values keep what the model does. -/
namespace Ev
open PySem PySem.Spec PyProof.Rows L2

/-- a new list that nobody else holds -/
def Fresh (K : PySem.W.Frag) (fa : Nat → Addr) (w w' : Wd) (v : V) (ds : List D) : Prop :=
  ∃ a vs, v = .ref a ∧ w.H a = none ∧ w'.H a = some (.lst vs) ∧ ¬ w'.F a ∧ a ∉ w'.A ∧ vs.length ≤ sizeLine ∧ Rps K fa w' vs ds
/-- a value; a list is a new one -/
def RN (K : PySem.W.Frag) (fa : Nat → Addr) (w w' : Wd) (v : V) (d : D) : Prop := match d with
  | .lst ds => Fresh K fa w w' v ds
  | d => Rp K fa w' v d
def OpL (K : PySem.W.Frag) (fa : Nat → Addr) (r : R2) (g : D → D → Option D) : Prop :=
  ∀ (w : Wd) (S : Sto) (x y d : D) (v u : V) (Q : VK), w.Ok → SR K fa w S → RpP K fa w v x → RpP K fa w u y → g x y = some d → (∀ w' z, w.Le w' → w'.Ok → SR K fa w' S → RN K fa w w' z d → Q z w'.H) → r v u w.H Q
def CallL (K : PySem.W.Frag) (fa : Nat → Addr) (r : List V → Hp → VK → Prop) (g : List D → Option D) : Prop :=
  ∀ (w : Wd) (S : Sto) (xs : List D) (d : D) (vs : List V) (Q : VK), w.Ok → SR K fa w S → Paired (RpP K fa w) vs xs → g xs = some d → (∀ w' z, w.Le w' → w'.Ok → SR K fa w' S → RN K fa w w' z d → Q z w'.H) → r vs w.H Q
section
variable {K : PySem.W.Frag} {fa : Nat → Addr} {w : Wd} {S : Sto} {Q : VK}
theorem newT {p : Addr} {vs : List V} {ds : List D} (k : w.Ok) (r : SR K fa w S) (h : w.H p = none) (hl : vs.length ≤ sizeLine) (hr : Rps K fa w vs ds) (q : ∀ w' z, w.Le w' → w'.Ok → SR K fa w' S → RN K fa w w' z (.tup ds) → Q z w'.H) : Q (.ref p) (upd w.H p (.tup vs)) :=
  q (w.new p (.tup vs)) (.ref p) (Wd.new_le h) (Wd.new_ok k h) (r.new k h) (.tup (.of upd_same) hl (hr.keep ((Wd.new_le h).kp k)))
theorem newL {p : Addr} {vs : List V} {ds : List D} (k : w.Ok) (r : SR K fa w S) (h : w.H p = none) (hl : vs.length ≤ sizeLine) (hr : Rps K fa w vs ds) (q : ∀ w' z, w.Le w' → w'.Ok → SR K fa w' S → RN K fa w w' z (.lst ds) → Q z w'.H) : Q (.ref p) (upd w.H p (.lst vs)) := by
  refine q (w.new p (.lst vs)) (.ref p) (Wd.new_le h) (Wd.new_ok k h) (r.new k h) ⟨p, vs, rfl, h, upd_same, fun f => ?_, fun m => ?_, hl, hr.keep ((Wd.new_le h).kp k)⟩
  · obtain ⟨us, e⟩ := k.fz p f
    rw [h] at e
    cases e
  · obtain ⟨us, e⟩ := k.ce p m
    rw [h] at e
    cases e
theorem here {z : V} {d : D} (k : w.Ok) (r : SR K fa w S) (q : ∀ w' z, w.Le w' → w'.Ok → SR K fa w' S → RN K fa w w' z d → Q z w'.H) (h : RN K fa w w z d) : Q z w.H := q w z (.refl w) k r h
theorem RpP.int {v : V} {i : Int} (h : RpP K fa w v (.int i)) : v = .int i := by
  have h := h.val (fun _ z => nomatch z)
  cases h
  rfl
theorem RpP.bl {v : V} {i : Bool} (h : RpP K fa w v (.bl i)) : v = .bl i := by
  have h := h.val (fun _ z => nomatch z)
  cases h
  rfl
theorem RpP.str {v : V} {cs : List Nat} (h : RpP K fa w v (.str cs)) : v = .str (tx cs) ∧ TxOk cs := by
  have h := h.val (fun _ z => nomatch z)
  cases h with
  | str t => exact ⟨rfl, t⟩
theorem RpP.tup {v : V} {ds : List D} (h : RpP K fa w v (.tup ds)) : ∃ a vs, v = .ref a ∧ SqT K w.H a vs ∧ vs.length ≤ sizeLine ∧ Rps K fa w vs ds := by
  have h := h.val (fun _ z => nomatch z)
  cases h with
  | tup a b c => exact ⟨_, _, rfl, a, b, c⟩
theorem RpP.rol {v : V} {ds : List D} (h : RpP K fa w v (.rol ds)) : ∃ a vs, v = .ref a ∧ RoL K w.H a vs ∧ vs.length ≤ sizeLine ∧ Rps K fa w vs ds := by
  have h := h.val (fun _ z => nomatch z)
  cases h with
  | rol a b c => exact ⟨_, _, rfl, a, b, c⟩
theorem sm64_ok {i : Int} (h : sm64 i = true) : -(2 ^ 64) < i ∧ i < 2 ^ 64 := by
  unfold sm64 at h
  rw [Bool.and_eq_true] at h
  exact ⟨of_decide_eq_true h.1, of_decide_eq_true h.2⟩
theorem lim_le {n : Nat} (h : n ≤ LIM) : n ≤ sizeLine := by rw [← lim_eq]; exact h
theorem ite_some {α : Type} {c : Prop} [Decidable c] {a b : α} (h : (if c then some a else none) = some b) : c ∧ a = b := by
  split at h
  · exact ⟨by assumption, Option.some.inj h⟩
  · cases h
theorem ite_someB {α : Type} {c : Bool} {a b : α} (h : (if c = true then some a else none) = some b) : c = true ∧ a = b := ite_some h
theorem TxOk.app {a b : List Nat} (x : TxOk a) (y : TxOk b) (h : a.length + b.length ≤ sizeLine) : TxOk (a ++ b) :=
  ⟨by rw [List.length_append]; exact h, fun c hc => (List.mem_append.mp hc).elim (x.ok c) (y.ok c)⟩
end

/-! ### + -/
def rBI (g : Int → Int → Int) : R2 := fun x y H Q => ∃ b j, x = .bl b ∧ y = .int j ∧ Q (.int (g (b2i b) j)) H
section
variable {X : Cx}
theorem op_add_bi : OpR X (binaryOp .Add) (rBI fun i j => i + j) := by
  intro pins s σ H x y v u Q I rx ry h
  obtain ⟨b, j, rfl, rfl, q⟩ := h
  cases rx
  obtain ⟨t, rfl⟩ := ry
  exact PySem.IntBool.add_bool_int ⟨.int _, H, I.tok _, ⟨_, rfl⟩, q⟩
theorem op_sub_bi : OpR X (binaryOp .Sub) (rBI fun i j => i - j) := by
  intro pins s σ H x y v u Q I rx ry h
  obtain ⟨b, j, rfl, rfl, q⟩ := h
  cases rx
  obtain ⟨t, rfl⟩ := ry
  exact PySem.IntBool.sub_bool_int ⟨.int _, H, I.tok _, ⟨_, rfl⟩, q⟩
end
def rCatS : R2 := fun x y H Q => ∃ i j, x = .str i ∧ y = .str j ∧ i.length + j.length ≤ sizeLine ∧ Q (.str (i ++ j)) H
abbrev rAddE (K : PySem.W.Frag) : R2 := fun x y H Q => rI0 (fun i j => .int (i + j)) x y H Q ∨ (rBI (fun i j => i + j) x y H Q ∨ (rCatS x y H Q ∨ (rCatA K x y H Q ∨ rCat x y H Q)))
theorem op_addE {X : Cx} : OpR X (binaryOp .Add) (rAddE X.K) := op_add.or (op_add_bi.or ((show OpR X (binaryOp .Add) rCatS from op_add_str).or (op_catA.or op_cat)))
abbrev rSubE : R2 := fun x y H Q => rI0 (fun i j => .int (i - j)) x y H Q ∨ rBI (fun i j => i - j) x y H Q
theorem op_subE {X : Cx} : OpR X (binaryOp .Sub) rSubE := op_sub.or op_sub_bi
section
variable {K : PySem.W.Frag} {fa : Nat → Addr}
theorem opl_add : OpL K fa (rAddE K) (bop .add) := by
  intro w S x y d v u Q k r hx hy h q
  cases x <;> cases y <;> first | (cases h; done) | skip
  case bl.int b j =>
    cases (Option.some.inj h)
    exact .inr (.inl ⟨b, j, hx.bl, hy.int, here k r q (Rp.int _)⟩)
  case int.int i j =>
    cases (Option.some.inj h)
    exact .inl ⟨i, j, hx.int, hy.int, here k r q (Rp.int _)⟩
  case str.str a b =>
    obtain ⟨c, e⟩ := ite_some h
    subst e
    obtain ⟨e1, t1⟩ := hx.str
    obtain ⟨e2, t2⟩ := hy.str
    refine .inr (.inr (.inl ⟨tx a, tx b, e1, e2, by rw [tx_len, tx_len]; exact lim_le c, ?_⟩))
    rw [tx_app]
    exact here k r q (Rp.str (t1.app t2 (lim_le c)))
  case tup.tup a b =>
    obtain ⟨c, e⟩ := ite_some h
    subst e
    obtain ⟨p, vs, e1, s1, l1, r1⟩ := hx.tup
    obtain ⟨p2, us, e2, s2, l2, r2⟩ := hy.tup
    have hl : vs.length + us.length ≤ sizeLine := by rw [r1.len, r2.len]; exact lim_le c
    refine .inr (.inr (.inr (.inl ⟨p, p2, vs, us, e1, e2, s1, s2, hl, fun z => ?_, fun _ z => ?_, fun _ _ p hp => ?_⟩)))
    · have za := r1.nil_iff.mp z
      subst za
      rw [← e2]
      refine here k r q ?_
      rw [e2]
      exact Rp.tup s2 l2 r2
    · have zb := r2.nil_iff.mp z
      subst zb
      rw [← e1]
      refine here k r q ?_
      rw [e1, List.append_nil]
      exact Rp.tup s1 l1 r1
    · exact newT k r hp (by rw [List.length_append]; exact hl) (r1.app r2) q
  case lst.lst a b =>
    obtain ⟨c, e⟩ := ite_some h
    subst e
    obtain ⟨p, vs, e1, s1, l1, r1⟩ := hx.lst
    obtain ⟨p2, us, e2, s2, l2, r2⟩ := hy.lst
    have hl : vs.length + us.length ≤ sizeLine := by rw [r1.len, r2.len]; exact lim_le c
    exact .inr (.inr (.inr (.inr ⟨p, p2, vs, us, e1, e2, s1, s2, hl, fun p hp => newL k r hp (by rw [List.length_append]; exact hl) (r1.app r2) q⟩)))
theorem opl_sub : OpL K fa rSubE (bop .sub) := by
  intro w S x y d v u Q k r hx hy h q
  cases x <;> cases y <;> first | (cases h; done) | skip
  case bl.int b j =>
    cases (Option.some.inj h)
    exact .inr ⟨b, j, hx.bl, hy.int, here k r q (Rp.int _)⟩
  case int.int i j =>
    cases (Option.some.inj h)
    exact .inl ⟨i, j, hx.int, hy.int, here k r q (Rp.int _)⟩
end

/-! ### * -/
def CMulE (i j : Int) : Prop := mulOk i j = true
theorem mulOk_ok {i j : Int} (h : CMulE i j) : IntMulOk i j := by
  have h2 : mulOk i j = true := h
  unfold mulOk at h2
  rw [Bool.or_eq_true, Bool.or_eq_true, Bool.and_eq_true] at h2
  rcases h2 with h2 | h2 | ⟨h2, h3⟩
  · have := sm64_ok h2
    exact CMul.ok (.inr this)
  · have := sm64_ok h2
    exact CMul.ok (.inl this)
  · exact CMulW.ok (wide_mul (a := 4000) (b := 4000) (of_decide_eq_true h2) (of_decide_eq_true h3) (by omega) (by omega) (by omega))
theorem op_mulE {X : Cx} : OpR X (binaryOp .Mult) (rI CMulE fun i j => .int (i * j)) := opI fun _ _ _ _ _ _ _ hc q => mul_int q (mulOk_ok hc)
abbrev rMulE (K : PySem.W.Frag) : R2 := fun x y H Q => rI CMulE (fun i j => .int (i * j)) x y H Q ∨ (rRepT K x y H Q ∨ rRep x y H Q)
theorem op_mulEE {X : Cx} : OpR X (binaryOp .Mult) (rMulE X.K) := op_mulE.or (op_repT.or op_rep)
section
variable {K : PySem.W.Frag} {fa : Nat → Addr}
theorem rep_len {α : Type} (xs : List α) : ∀ n : Nat, (List.replicate n xs).flatten.length = n * xs.length
  | 0 => by simp
  | n + 1 => by rw [List.replicate_succ, List.flatten_cons, List.length_append, rep_len xs n, Nat.succ_mul, Nat.add_comm]
theorem opl_mul : OpL K fa (rMulE K) (bop .mul) := by
  intro w S x y d v u Q k r hx hy h q
  have hs : sizeLine = 16777216 := sizeLine_eq
  cases x <;> cases y <;> first | (cases h; done) | skip
  case int.int i j =>
    obtain ⟨c, e⟩ := ite_someB h
    subst e
    exact .inl ⟨i, j, hx.int, hy.int, c, here k r q (Rp.int _)⟩
  case tup.int a j =>
    obtain ⟨c, e⟩ := ite_someB h
    subst e
    simp only [Bool.and_eq_true, decide_eq_true_eq, Bool.not_eq_true'] at c
    obtain ⟨⟨⟨c1, c2⟩, c3⟩, c4⟩ := c
    obtain ⟨p, vs, e1, s1, l1, r1⟩ := hx.tup
    have hl := r1.len
    refine .inr (.inl ⟨p, j, vs, e1, hy.int, s1, fun z => ?_, c1, c2, by omega, fun p hp => newT k r hp ?_ (r1.flat _) q⟩)
    · rw [r1.nil_iff.mp z] at c3
      cases c3
    · rw [rep_len, hl]
      have : j.toNat * a.length ≤ 1000 * 1000 := Nat.mul_le_mul (by omega) c4
      omega
  case lst.int a j =>
    obtain ⟨c, e⟩ := ite_someB h
    subst e
    simp only [Bool.and_eq_true, decide_eq_true_eq] at c
    obtain ⟨⟨c1, c2⟩, c3⟩ := c
    obtain ⟨p, vs, e1, s1, l1, r1⟩ := hx.lst
    have hl := r1.len
    have hm : vs.length * j.toNat ≤ 1000 * 1000 := Nat.mul_le_mul (by omega) (by omega)
    refine .inr (.inr ⟨p, j, vs, e1, hy.int, s1, by omega, by omega, by omega, fun p hp => newL k r hp ?_ (r1.flat _) q⟩)
    rw [rep_len, Nat.mul_comm]
    omega
end

/-! ### %, //, ** -/
def CDivE (_ j : Int) : Prop := divOk j = true
theorem op_fdivE {X : Cx} : OpR X (binaryOp .FloorDiv) (rI CDivE fun i j => .int (i / j)) := opI fun i j _ _ _ _ _ hc q => by
  have h : divOk j = true := hc
  unfold divOk at h
  rw [Bool.and_eq_true, decide_eq_true_eq, decide_eq_true_eq] at h
  have hw : CDivW i j := wide_div (b := 4000) h.1 (by
    have h2 := h.2
    have h1 := h.1
    have e : ((2 : Int) ^ 4000) = ((2 ^ 4000 : Nat) : Int) := by
      norm_cast
    rw [e] at h2
    omega) (by omega) (by omega)
  have h1 : (0 : Int) < j := hw.1
  exact floordiv_int (by omega) (by rw [Int.fdiv_eq_ediv_of_nonneg i (by omega)]; exact q) (.inl (PyProof.noPylong_of_log2 hw.2))
def CPowE (i j : Int) : Prop := (decide (0 ≤ j) && decide (j ≤ 1000) && sm64 i) = true
theorem op_powE {X : Cx} : OpR X (binaryOp .Pow) (rI CPowE fun i j => .int (i ^ j.toNat)) := opI fun i j _ _ _ _ _ hc q => by
  have h : (decide (0 ≤ j) && decide (j ≤ 1000) && sm64 i) = true := hc
  rw [Bool.and_eq_true, Bool.and_eq_true, decide_eq_true_eq, decide_eq_true_eq] at h
  obtain ⟨⟨h1, h2⟩, h3⟩ := h
  have h4 := sm64_ok h3
  exact pow_int_small h1 (by omega) (by omega) q
section
variable {K : PySem.W.Frag} {fa : Nat → Addr}
theorem opl_mod : OpL K fa (rI (fun _ j => 0 < j) fun i j => .int (i % j)) (bop .mod) := by
  intro w S x y d v u Q k r hx hy h q
  cases x <;> cases y <;> first | (cases h; done) | skip
  case int.int i j =>
    obtain ⟨c, e⟩ := ite_some h
    subst e
    exact ⟨i, j, hx.int, hy.int, c, here k r q (Rp.int _)⟩
theorem opl_fdiv : OpL K fa (rI CDivE fun i j => .int (i / j)) (bop .fdiv) := by
  intro w S x y d v u Q k r hx hy h q
  cases x <;> cases y <;> first | (cases h; done) | skip
  case int.int i j =>
    obtain ⟨c, e⟩ := ite_someB h
    subst e
    exact ⟨i, j, hx.int, hy.int, c, here k r q (Rp.int _)⟩
theorem opl_pow : OpL K fa (rI CPowE fun i j => .int (i ^ j.toNat)) (bop .pow) := by
  intro w S x y d v u Q k r hx hy h q
  cases x <;> cases y <;> first | (cases h; done) | skip
  case int.int i j =>
    obtain ⟨c, e⟩ := ite_someB h
    subst e
    exact ⟨i, j, hx.int, hy.int, c, here k r q (Rp.int _)⟩
end
end Ev

/-! Comparisons, built-ins, places, slices. -/
namespace Ev
open PySem PySem.Spec PyProof.Rows L2

/-! ### == -/
mutual
def D.py : D → PyData
  | .non => .none
  | .bl b => .bool b
  | .int i => .int i
  | .str cs => .str (tx cs)
  | .tup xs => .tuple (D.pys xs)
  | .lst xs => .list (D.pys xs)
  | _ => .none
def D.pys : List D → List PyData
  | [] => []
  | x :: xs => D.py x :: D.pys xs
end
theorem tx_beq (a b : List Nat) : (tx a == tx b) = (a == b) := by
  rw [Bool.eq_iff_iff, beq_iff_eq, beq_iff_eq]
  exact ⟨tx_inj, fun e => by rw [e]⟩
mutual
theorem D.py_eqv : ∀ x y : D, D.cmpb x = true → D.cmpb y = true → PyData.eqv x.py y.py = D.eqv x y
  | .non, y, h, g => by cases y <;> first | (cases g; done) | simp [D.py, PyData.eqv, D.eqv]
  | .bl _, y, h, g => by cases y <;> first | (cases g; done) | simp [D.py, PyData.eqv, D.eqv]
  | .int _, y, h, g => by cases y <;> first | (cases g; done) | simp [D.py, PyData.eqv, D.eqv]
  | .str _, y, h, g => by cases y <;> first | (cases g; done) | simp [D.py, PyData.eqv, D.eqv, tx_beq]
  | .tup xs, y, h, g => by
    cases y with
    | tup ys =>
      simp only [D.py, PyData.eqv, D.eqv]
      exact D.py_eqvs xs ys (by simpa [D.cmpb] using h) (by simpa [D.cmpb] using g)
    | _ => first | (cases g; done) | simp [D.py, PyData.eqv, D.eqv]
  | .lst xs, y, h, g => by
    cases y with
    | lst ys =>
      simp only [D.py, PyData.eqv, D.eqv]
      exact D.py_eqvs xs ys (by simpa [D.cmpb] using h) (by simpa [D.cmpb] using g)
    | _ => first | (cases g; done) | simp [D.py, PyData.eqv, D.eqv]
  | .rol _, y, h, g => by cases h
  | .loc _, y, h, g => by cases h
  | .fn _, y, h, g => by cases h
theorem D.py_eqvs : ∀ xs ys : List D, D.cmpbs xs = true → D.cmpbs ys = true → PyData.eqvAll (D.pys xs) (D.pys ys) = D.eqvs xs ys
  | [], [], _, _ => by simp [D.pys, PyData.eqvAll, D.eqvs]
  | [], _ :: _, _, _ => by simp [D.pys, PyData.eqvAll, D.eqvs]
  | _ :: _, [], _, _ => by simp [D.pys, PyData.eqvAll, D.eqvs]
  | x :: xs, y :: ys, h, g => by
    simp only [D.cmpbs, Bool.and_eq_true] at h g
    simp only [D.pys, PyData.eqvAll, D.eqvs]
    rw [D.py_eqv x y h.1 g.1, D.py_eqvs xs ys h.2 g.2]
end
mutual
theorem D.py_dep : ∀ x : D, PyData.depth x.py = D.dep x
  | .tup xs => by simp only [D.py, PyData.depth, D.dep, D.pys_dep xs]
  | .lst xs => by simp only [D.py, PyData.depth, D.dep, D.pys_dep xs]
  | .non => by simp [D.py, PyData.depth, D.dep]
  | .bl _ => by simp [D.py, PyData.depth, D.dep]
  | .int _ => by simp [D.py, PyData.depth, D.dep]
  | .str _ => by simp [D.py, PyData.depth, D.dep]
  | .rol _ => by simp [D.py, PyData.depth, D.dep]
  | .loc _ => by simp [D.py, PyData.depth, D.dep]
  | .fn _ => by simp [D.py, PyData.depth, D.dep]
theorem D.pys_dep : ∀ xs : List D, PyData.depthAll (D.pys xs) = D.deps xs
  | [] => by simp [D.pys, PyData.depthAll, D.deps]
  | x :: xs => by simp only [D.pys, PyData.depthAll, D.deps, D.py_dep x, D.pys_dep xs]
end
section
variable {K : PySem.W.Frag} {fa : Nat → Addr} {w : Wd}
mutual
theorem Rp.dp : ∀ {d : D} {v : V}, Rp K fa w v d → D.cmpb d = true → Dp K w.H v d.py ∧ PyData.canLay0 d.py = true
  | .non, _, h, c => by cases h; exact ⟨.non, by simp [D.py, PyData.canLay0]⟩
  | .bl b, _, h, c => by cases h; exact ⟨.bl b, by simp [D.py, PyData.canLay0]⟩
  | .int i, _, h, c => by cases h; exact ⟨.int i, by simp [D.py, PyData.canLay0]⟩
  | .str cs, _, h, c => by
    cases h with
    | str t => exact ⟨.str _, by simpa [D.py, PyData.canLay0, PyData.strOk, tx] using t.ok⟩
  | .tup ds, _, h, c => by
    cases h with
    | tup a b e =>
      obtain ⟨x, y⟩ := Rps.dp e (by simpa [D.cmpb] using c)
      exact ⟨.tup a x, by simpa [D.py, PyData.canLay0] using y⟩
  | .lst ds, _, h, c => by
    cases h with
    | lst a f b e =>
      obtain ⟨x, y⟩ := Rps.dp e (by simpa [D.cmpb] using c)
      exact ⟨.lst (.of a) x, by simpa [D.py, PyData.canLay0] using y⟩
  | .rol _, _, h, c => by cases c
  | .loc _, _, h, c => by cases c
  | .fn _, _, h, c => by cases c
theorem Rps.dp : ∀ {ds : List D} {vs : List V}, Rps K fa w vs ds → D.cmpbs ds = true → DpAll K w.H vs (D.pys ds) ∧ PyData.canLayAll0 (D.pys ds) = true
  | [], _, h, c => by cases h; exact ⟨.nil, by simp [D.pys, PyData.canLayAll0]⟩
  | d :: ds, _, h, c => by
    cases h with
    | cons a b =>
      simp only [D.cmpbs, Bool.and_eq_true] at c
      obtain ⟨x, y⟩ := Rp.dp a c.1
      obtain ⟨x2, y2⟩ := Rps.dp b c.2
      exact ⟨.cons x x2, by simp only [D.pys, PyData.canLayAll0, y, y2, Bool.and_self]⟩
end
theorem RpP.dp {v : V} {d : D} (h : RpP K fa w v d) (c : D.cmpb d = true) : Dp K w.H v d.py ∧ PyData.canLay0 d.py = true := by
  rcases h with h | ⟨a, vs, ds, rfl, rfl, h1, h2, h3, h4⟩
  · exact h.dp c
  · obtain ⟨x, y⟩ := h4.dp (by simpa [D.cmpb] using c)
    exact ⟨.lst (.of h1) x, by simpa [D.py, PyData.canLay0] using y⟩
end
def rEqE (K : PySem.W.Frag) (ng : Bool) : R2 := fun x y H Q => ∃ d e, Dp K H x d ∧ Dp K H y e ∧ d.canLay0 = true ∧ e.canLay0 = true ∧ min d.depth e.depth ≤ 60 ∧ Q (.bl (if ng then !PyData.eqv d e else PyData.eqv d e)) H
section
variable {X : Cx}
theorem op_eqE (hu : X.A.units + 64 < cLine) : OpR X (compareOp .Eq) (rEqE X.K false) := by
  intro pins s σ H x y v u Q I rx ry h
  obtain ⟨d, e, hd, he, sd, se, hm, q⟩ := h
  obtain ⟨as, r1⟩ := Dp.reads I d x v hd rx
  obtain ⟨bs, r2⟩ := Dp.reads I e y u he ry
  exact SeqAt.compareEq_reads r1 r2 sd se (by omega) ⟨.bl _, H, I, rfl, q⟩
theorem op_neE (hu : X.A.units + 64 < cLine) : OpR X (compareOp .NotEq) (rEqE X.K true) := by
  intro pins s σ H x y v u Q I rx ry h
  obtain ⟨d, e, hd, he, sd, se, hm, q⟩ := h
  obtain ⟨as, r1⟩ := Dp.reads I d x v hd rx
  obtain ⟨bs, r2⟩ := Dp.reads I e y u he ry
  exact SeqAt.compareNe_reads r1 r2 sd se (by omega) ⟨.bl _, H, I, rfl, q⟩
end
/-- a comparison: the answer alone -/
def CopL (K : PySem.W.Frag) (fa : Nat → Addr) (r : R2) (g : D → D → Option Bool) : Prop :=
  ∀ (w : Wd) (x y : D) (b : Bool) (v u : V) (Q : VK), w.Ok → RpP K fa w v x → RpP K fa w u y → g x y = some b → Q (.bl b) w.H → r v u w.H Q
section
variable {K : PySem.W.Frag} {fa : Nat → Addr}
theorem CopL.op {r : R2} {g : D → D → Option Bool} (h : CopL K fa r g) : OpL K fa r (fun x y => (g x y).map .bl) := by
  intro w S x y d v u Q k sr hx hy e q
  have e : (g x y).map D.bl = some d := e
  cases hg : g x y with
  | none =>
    rw [hg] at e
    cases e
  | some b =>
    rw [hg] at e
    cases (Option.some.inj e)
    exact h w x y b v u Q k hx hy hg (here k sr q (Rp.bl b))
theorem depOk_le {x y : D} (h : depOk x y = true) : min (PyData.depth x.py) (PyData.depth y.py) ≤ 60 := by
  rw [D.py_dep, D.py_dep]
  unfold depOk at h
  rw [Bool.or_eq_true, decide_eq_true_eq, decide_eq_true_eq] at h
  omega
theorem copl_eq : CopL K fa (rEqE K false) (cop .eq) := by
  intro w x y b v u Q k hx hy h q
  obtain ⟨c, e⟩ := ite_someB h
  subst e
  simp only [Bool.and_eq_true] at c
  obtain ⟨⟨c1, c2⟩, c3⟩ := c
  obtain ⟨a1, a2⟩ := hx.dp c1
  obtain ⟨b1, b2⟩ := hy.dp c2
  refine ⟨x.py, y.py, a1, b1, a2, b2, depOk_le c3, ?_⟩
  show Q (.bl (PyData.eqv x.py y.py)) w.H
  rw [D.py_eqv x y c1 c2]
  exact q
theorem copl_ne : CopL K fa (rEqE K true) (cop .ne) := by
  intro w x y b v u Q k hx hy h q
  obtain ⟨c, e⟩ := ite_someB h
  subst e
  simp only [Bool.and_eq_true] at c
  obtain ⟨⟨c1, c2⟩, c3⟩ := c
  obtain ⟨a1, a2⟩ := hx.dp c1
  obtain ⟨b1, b2⟩ := hy.dp c2
  refine ⟨x.py, y.py, a1, b1, a2, b2, depOk_le c3, ?_⟩
  show Q (.bl (!PyData.eqv x.py y.py)) w.H
  rw [D.py_eqv x y c1 c2]
  exact q
theorem copl_lt : CopL K fa (rI0 fun i j => .bl (decide (i < j))) (cop .lt) := by
  intro w x y b v u Q k hx hy h q
  cases x <;> cases y <;> first | (cases h; done) | skip
  case int.int i j =>
    cases (Option.some.inj h)
    exact ⟨i, j, hx.int, hy.int, q⟩
theorem copl_le : CopL K fa (rI0 fun i j => .bl (decide (i ≤ j))) (cop .le) := by
  intro w x y b v u Q k hx hy h q
  cases x <;> cases y <;> first | (cases h; done) | skip
  case int.int i j =>
    cases (Option.some.inj h)
    exact ⟨i, j, hx.int, hy.int, q⟩
theorem copl_gt : CopL K fa (rI0 fun i j => .bl (decide (j < i))) (cop .gt) := by
  intro w x y b v u Q k hx hy h q
  cases x <;> cases y <;> first | (cases h; done) | skip
  case int.int i j =>
    cases (Option.some.inj h)
    exact ⟨i, j, hx.int, hy.int, q⟩
theorem copl_ge : CopL K fa (rI0 fun i j => .bl (decide (j ≤ i))) (cop .ge) := by
  intro w x y b v u Q k hx hy h q
  cases x <;> cases y <;> first | (cases h; done) | skip
  case int.int i j =>
    cases (Option.some.inj h)
    exact ⟨i, j, hx.int, hy.int, q⟩
theorem Rp.flatV {w : Wd} {v : V} {d : D} (h : Rp K fa w v d) (f : D.flat d = true) : flatV v = true := by
  cases d <;> first | (cases f; done) | (cases h; rfl)
theorem Rp.eqV {w : Wd} {v u : V} {d e : D} (h : Rp K fa w v d) (g : Rp K fa w u e) (f : D.flat d = true) (f2 : D.flat e = true) : eqV v u = D.eqv d e := by
  cases d <;> first | (cases f; done) | (cases h; cases e <;> first | (cases f2; done) | (cases g; simp [L2.eqV, D.eqv, tx_beq]))
theorem Rps.flatV {w : Wd} : ∀ {vs : List V} {ds : List D}, Rps K fa w vs ds → ds.all D.flat = true → vs.all L2.flatV = true
  | [], _, h, f => rfl
  | v :: vs, _, h, f => by
    cases h with
    | cons a b =>
      rw [List.all_cons, Bool.and_eq_true] at f ⊢
      exact ⟨a.flatV f.1, Rps.flatV b f.2⟩
theorem Rps.inV {w : Wd} {u : V} {e : D} (g : Rp K fa w u e) (f2 : D.flat e = true) : ∀ {vs : List V} {ds : List D}, Rps K fa w vs ds → ds.all D.flat = true → L2.inV u vs = inD e ds
  | [], _, h, f => by cases h; rfl
  | v :: vs, _, h, f => by
    cases h with
    | cons a b =>
      rw [List.all_cons, Bool.and_eq_true] at f
      have ih := Rps.inV g f2 b f.2
      unfold L2.inV inD at ih ⊢
      rw [List.any_cons, List.any_cons, ih, a.eqV g f.1 f2]
theorem flat_nl {d : D} (f : D.flat d = true) : ∀ ds, d ≠ .lst ds := fun ds z => by
  rw [z] at f
  cases f
theorem copl_in : CopL K fa (rIn K false) (cop .isin) := by
  intro w x y b v u Q k hx hy h q
  cases y <;> first | (cases h; done) | skip
  case tup ys =>
    obtain ⟨c, e⟩ := ite_someB h
    subst e
    rw [Bool.and_eq_true] at c
    obtain ⟨p, vs, e1, s1, l1, r1⟩ := hy.tup
    have rx := hx.val (flat_nl c.1)
    refine ⟨p, vs, e1, .inr s1, rx.flatV c.1, r1.flatV c.2, ?_⟩
    show Q (.bl (L2.inV v vs)) w.H
    rw [r1.inV rx c.1 c.2]
    exact q
  case lst ys =>
    obtain ⟨c, e⟩ := ite_someB h
    subst e
    rw [Bool.and_eq_true] at c
    obtain ⟨p, vs, e1, s1, l1, r1⟩ := hy.lst
    have rx := hx.val (flat_nl c.1)
    refine ⟨p, vs, e1, .inl (.of s1), rx.flatV c.1, r1.flatV c.2, ?_⟩
    show Q (.bl (L2.inV v vs)) w.H
    rw [r1.inV rx c.1 c.2]
    exact q
theorem copl_notin : CopL K fa (rIn K true) (cop .notin) := by
  intro w x y b v u Q k hx hy h q
  cases y <;> first | (cases h; done) | skip
  case tup ys =>
    obtain ⟨c, e⟩ := ite_someB h
    subst e
    rw [Bool.and_eq_true] at c
    obtain ⟨p, vs, e1, s1, l1, r1⟩ := hy.tup
    have rx := hx.val (flat_nl c.1)
    refine ⟨p, vs, e1, .inr s1, rx.flatV c.1, r1.flatV c.2, ?_⟩
    show Q (.bl (!L2.inV v vs)) w.H
    rw [r1.inV rx c.1 c.2]
    exact q
  case lst ys =>
    obtain ⟨c, e⟩ := ite_someB h
    subst e
    rw [Bool.and_eq_true] at c
    obtain ⟨p, vs, e1, s1, l1, r1⟩ := hy.lst
    have rx := hx.val (flat_nl c.1)
    refine ⟨p, vs, e1, .inl (.of s1), rx.flatV c.1, r1.flatV c.2, ?_⟩
    show Q (.bl (!L2.inV v vs)) w.H
    rw [r1.inV rx c.1 c.2]
    exact q
end
def opOf : COp → CmpOp
  | .eq => .Eq | .ne => .NotEq | .lt => .Lt | .le => .LtE | .gt => .Gt | .ge => .GtE | .isin => .In | .notin => .NotIn
def rCop (K : PySem.W.Frag) : COp → R2
  | .eq => rEqE K false | .ne => rEqE K true | .lt => rI0 fun i j => .bl (decide (i < j)) | .le => rI0 fun i j => .bl (decide (i ≤ j)) | .gt => rI0 fun i j => .bl (decide (j < i)) | .ge => rI0 fun i j => .bl (decide (j ≤ i))
  | .isin => rIn K false | .notin => rIn K true
theorem copr {X : Cx} (hu : X.A.units + 64 < cLine) : ∀ o : COp, OpR X (compareOp (opOf o)) (rCop X.K o)
  | .eq => op_eqE hu | .ne => op_neE hu | .lt => op_lt | .le => op_le | .gt => op_gt | .ge => op_ge | .isin => op_in_seq | .notin => op_notIn_seq
theorem copl {K : PySem.W.Frag} {fa : Nat → Addr} : ∀ o : COp, CopL K fa (rCop K o) (cop o)
  | .eq => copl_eq | .ne => copl_ne | .lt => copl_lt | .le => copl_le | .gt => copl_gt | .ge => copl_ge | .isin => copl_in | .notin => copl_notin
def boOf : BOp → Operator
  | .add => .Add | .sub => .Sub | .mul => .Mult | .mod => .Mod | .fdiv => .FloorDiv | .pow => .Pow
def rBop (K : PySem.W.Frag) : BOp → R2
  | .add => rAddE K | .sub => rSubE | .mul => rMulE K | .mod => rI (fun _ j => 0 < j) fun i j => .int (i % j) | .fdiv => rI CDivE fun i j => .int (i / j) | .pow => rI CPowE fun i j => .int (i ^ j.toNat)
theorem bopr {X : Cx} : ∀ o : BOp, OpR X (binaryOp (boOf o)) (rBop X.K o)
  | .add => op_addE | .sub => op_subE | .mul => op_mulEE | .mod => op_mod | .fdiv => op_fdivE | .pow => op_powE
theorem bopl {K : PySem.W.Frag} {fa : Nat → Addr} : ∀ o : BOp, OpL K fa (rBop K o) (bop o)
  | .add => opl_add | .sub => opl_sub | .mul => opl_mul | .mod => opl_mod | .fdiv => opl_fdiv | .pow => opl_pow

/-! ### built-ins -/
theorem call_str_bool {X : Cx} : CallR X (.type "str") (fun xs H Q => ∃ b, xs = [.bl b] ∧ Q (.str (if b then "True" else "False")) H) := by
  intro pins s σ H xs us Q I r h
  obtain ⟨b, rfl, q⟩ := h
  obtain ⟨u, rfl, r1⟩ := vals1 r
  cases r1
  exact PySem.P.str_of_bool ⟨.str _, H, I.tok _, ⟨_, rfl⟩, q⟩
def rLenE (K : PySem.W.Frag) : List V → Hp → VK → Prop := fun xs H Q => (∃ p ys, xs = [.ref p] ∧ (SqL K H p ys ∨ SqT K H p ys) ∧ Q (.int ys.length) H) ∨ ∃ z : Str, xs = [.str z] ∧ z.length ≤ sizeLine ∧ Q (.int z.length) H
def rStrE : List V → Hp → VK → Prop := fun xs H Q => (∃ i : Int, xs = [.int i] ∧ i.natAbs.log2 < 1920 ∧ Q (.str (toString i)) H) ∨ ∃ b, xs = [.bl b] ∧ Q (.str (if b then "True" else "False")) H
def rInt1 : List V → Hp → VK → Prop := fun xs H Q => (∃ i, xs = [.int i] ∧ Q (.int i) H) ∨ ∃ k, xs = [.bl k] ∧ Q (.int (if k then 1 else 0)) H
def rAbs : List V → Hp → VK → Prop := fun xs H Q => ∃ i : Int, xs = [.int i] ∧ Q (.int (if i < 0 then -i else i)) H
def rMin2 : List V → Hp → VK → Prop := fun xs H Q => ∃ i j : Int, xs = [.int i, .int j] ∧ Q (.int (if j < i then j else i)) H
def rMax2 : List V → Hp → VK → Prop := fun xs H Q => ∃ i j : Int, xs = [.int i, .int j] ∧ Q (.int (if j > i then j else i)) H
def rTupOf (K : PySem.W.Frag) : List V → Hp → VK → Prop := fun xs H Q => ∃ p ys, xs = [.ref p] ∧ ((SqL K H p ys ∧ ∀ l, H l = none → Q (.ref l) (upd H l (.tup ys))) ∨ (SqT K H p ys ∧ Q (.ref p) H))
def rLstOf (K : PySem.W.Frag) : List V → Hp → VK → Prop := fun xs H Q => ∃ p ys, xs = [.ref p] ∧ (SqL K H p ys ∨ SqT K H p ys) ∧ ∀ l, H l = none → Q (.ref l) (upd H l (.lst ys))
def rBl (K : PySem.W.Frag) : Bl → List V → Hp → VK → Prop
  | .len => rLenE K | .abs => rAbs | .int => rInt1 | .min2 => rMin2 | .max2 => rMax2 | .tuple => rTupOf K | .list => rLstOf K | .str => rStrE | .all => rAll K
def nmBl : Bl → Str
  | .len => "len" | .abs => "abs" | .int => "int" | .min2 => "min" | .max2 => "max" | .tuple => "tuple" | .list => "list" | .str => "str" | .all => "all"
def valBl : Bl → Value
  | .len => .builtin "len" | .abs => .builtin "abs" | .int => .type "int" | .min2 => .builtin "min" | .max2 => .builtin "max" | .tuple => .type "tuple" | .list => .type "list" | .str => .type "str" | .all => .builtin "all"
theorem blr {X : Cx} (hc : X.calm = true) : ∀ f : Bl, CallR X (valBl f) (rBl X.K f)
  | .len => call_len_seq.or call_len_str | .abs => call_abs | .int => call_int1 | .min2 => call_min2 hc | .max2 => call_max2 hc | .tuple => call_tuple_of | .list => call_list_of | .str => call_str_int.or call_str_bool | .all => cr_all hc
section
variable {K : PySem.W.Frag} {fa : Nat → Addr} {w : Wd}
theorem pair1 {vs : List V} {d : D} (h : Paired (RpP K fa w) vs [d]) : ∃ v, vs = [v] ∧ RpP K fa w v d := by
  cases h with
  | cons a b => cases b; exact ⟨_, rfl, a⟩
theorem pair2 {vs : List V} {d e : D} (h : Paired (RpP K fa w) vs [d, e]) : ∃ v u, vs = [v, u] ∧ RpP K fa w v d ∧ RpP K fa w u e := by
  cases h with
  | cons a b =>
    cases b with
    | cons a2 b2 => cases b2; exact ⟨_, _, rfl, a, a2⟩
theorem bools_of : ∀ {ds : List D} {bs : List Bool} {vs : List V}, Rps K fa w vs ds → boolsOf ds = some bs → vs = bs.map V.bl
  | [], bs, vs, h, e => by
    cases (Option.some.inj e)
    cases h
    rfl
  | .bl b :: ds, bs, vs, h, e => by
    cases h with
    | cons a t =>
      cases a
      unfold boolsOf at e
      cases q : boolsOf ds with
      | none =>
        rw [q] at e
        cases e
      | some cs =>
        rw [q] at e
        cases (Option.some.inj e)
        rw [bools_of t q]
        rfl
  | .non :: _, _, _, _, e => by cases e
  | .int _ :: _, _, _, _, e => by cases e
  | .str _ :: _, _, _, _, e => by cases e
  | .tup _ :: _, _, _, _, e => by cases e
  | .lst _ :: _, _, _, _, e => by cases e
  | .rol _ :: _, _, _, _, e => by cases e
  | .loc _ :: _, _, _, _, e => by cases e
  | .fn _ :: _, _, _, _, e => by cases e
theorem log2_small {n : Nat} (h : n < 2 ^ 1000) : n.log2 < 1920 := Nat.lt_of_lt_of_le (PySem.Flt.log2_lt_of (by omega) h) (by omega)
/-- the figures of a number: signs below 128 -/
theorem cdsStr (s : String) : codesOf s = s.toList.map Char.toNat := by
  unfold codesOf
  rw [Str.ofString_eq_toList]
theorem digits_ok (i : Int) (h : i.natAbs < 2 ^ 1000) : TxOk (codesOf (toString i : String)) := by
  have h1 : i.natAbs.log2 < 1000 := PySem.Flt.log2_lt_of (by omega) h
  have h2 := int_text_length_le (a := i) (k := 1000) (by omega) h1
  rw [cdsStr]
  refine ⟨?_, fun c hc => ?_⟩
  · rw [List.length_map, String.length_toList, sizeLine_eq]
    omega
  · obtain ⟨x, _, e⟩ := List.mem_map.mp hc
    subst e
    have h3 := x.valid
    simp only [UInt32.isValidChar, Nat.isValidChar] at h3
    show x.val.toNat < 1114112
    omega
theorem bll : ∀ f : Bl, CallL K fa (rBl K f) (blt f) := by
  intro f w S xs d vs Q k r hp h q
  cases f
  case len =>
    obtain _ | ⟨x, _ | ⟨y, t⟩⟩ := xs
    · cases h
    · obtain ⟨v, rfl, hx⟩ := pair1 hp
      cases x <;> first | (cases h; done) | skip
      case str cs =>
        cases (Option.some.inj h)
        obtain ⟨e, t⟩ := hx.str
        refine .inr ⟨tx cs, by rw [e], by rw [tx_len]; exact t.len, ?_⟩
        rw [tx_len]
        exact here k r q (Rp.int _)
      case tup ys =>
        cases (Option.some.inj h)
        obtain ⟨p, us, e1, s1, l1, r1⟩ := hx.tup
        refine .inl ⟨p, us, by rw [e1], .inr s1, ?_⟩
        rw [r1.len]
        exact here k r q (Rp.int _)
      case lst ys =>
        cases (Option.some.inj h)
        obtain ⟨p, us, e1, s1, l1, r1⟩ := hx.lst
        refine .inl ⟨p, us, by rw [e1], .inl (.of s1), ?_⟩
        rw [r1.len]
        exact here k r q (Rp.int _)
      case rol ys =>
        cases (Option.some.inj h)
        obtain ⟨p, us, e1, s1, l1, r1⟩ := hx.rol
        refine .inl ⟨p, us, by rw [e1], .inl s1.sq, ?_⟩
        rw [r1.len]
        exact here k r q (Rp.int _)
    · cases x <;> cases h
  case abs =>
    obtain _ | ⟨x, _ | ⟨y, t⟩⟩ := xs
    · cases h
    · obtain ⟨v, rfl, hx⟩ := pair1 hp
      cases x <;> first | (cases h; done) | skip
      case int i =>
        cases (Option.some.inj h)
        exact ⟨i, by rw [hx.int], here k r q (Rp.int _)⟩
    · cases x <;> cases h
  case int =>
    obtain _ | ⟨x, _ | ⟨y, t⟩⟩ := xs
    · cases h
    · obtain ⟨v, rfl, hx⟩ := pair1 hp
      cases x <;> first | (cases h; done) | skip
      case int i =>
        cases (Option.some.inj h)
        exact .inl ⟨i, by rw [hx.int], here k r q (Rp.int _)⟩
      case bl i =>
        cases (Option.some.inj h)
        exact .inr ⟨i, by rw [hx.bl], here k r q (Rp.int _)⟩
    · cases x <;> cases h
  case min2 =>
    obtain _ | ⟨x, _ | ⟨y, _ | ⟨z, t⟩⟩⟩ := xs
    · cases h
    · cases x <;> cases h
    · obtain ⟨v, u, rfl, hx, hy⟩ := pair2 hp
      cases x <;> cases y <;> first | (cases h; done) | skip
      case int.int i j =>
        cases (Option.some.inj h)
        exact ⟨i, j, by rw [hx.int, hy.int], here k r q (Rp.int _)⟩
    · cases x <;> cases y <;> cases h
  case max2 =>
    obtain _ | ⟨x, _ | ⟨y, _ | ⟨z, t⟩⟩⟩ := xs
    · cases h
    · cases x <;> cases h
    · obtain ⟨v, u, rfl, hx, hy⟩ := pair2 hp
      cases x <;> cases y <;> first | (cases h; done) | skip
      case int.int i j =>
        cases (Option.some.inj h)
        exact ⟨i, j, by rw [hx.int, hy.int], here k r q (Rp.int _)⟩
    · cases x <;> cases y <;> cases h
  case tuple =>
    obtain _ | ⟨x, _ | ⟨y, t⟩⟩ := xs
    · cases h
    · obtain ⟨v, rfl, hx⟩ := pair1 hp
      cases x <;> first | (cases h; done) | skip
      case tup ys =>
        cases (Option.some.inj h)
        obtain ⟨p, us, e1, s1, l1, r1⟩ := hx.tup
        exact ⟨p, us, by rw [e1], .inr ⟨s1, here k r q (Rp.tup s1 l1 r1)⟩⟩
      case lst ys =>
        cases (Option.some.inj h)
        obtain ⟨p, us, e1, s1, l1, r1⟩ := hx.lst
        exact ⟨p, us, by rw [e1], .inl ⟨.of s1, fun l hl => newT k r hl l1 r1 q⟩⟩
    · cases x <;> cases h
  case list =>
    obtain _ | ⟨x, _ | ⟨y, t⟩⟩ := xs
    · cases h
    · obtain ⟨v, rfl, hx⟩ := pair1 hp
      cases x <;> first | (cases h; done) | skip
      case tup ys =>
        cases (Option.some.inj h)
        obtain ⟨p, us, e1, s1, l1, r1⟩ := hx.tup
        exact ⟨p, us, by rw [e1], .inr s1, fun l hl => newL k r hl l1 r1 q⟩
      case lst ys =>
        cases (Option.some.inj h)
        obtain ⟨p, us, e1, s1, l1, r1⟩ := hx.lst
        exact ⟨p, us, by rw [e1], .inl (.of s1), fun l hl => newL k r hl l1 r1 q⟩
    · cases x <;> cases h
  case str =>
    obtain _ | ⟨x, _ | ⟨y, t⟩⟩ := xs
    · cases h
    · obtain ⟨v, rfl, hx⟩ := pair1 hp
      cases x <;> first | (cases h; done) | skip
      case int i =>
        obtain ⟨c, e⟩ := ite_some h
        subst e
        refine .inl ⟨i, by rw [hx.int], log2_small c, ?_⟩
        have e : ((toString i : String) : Str) = tx (codesOf (toString i : String)) := (tx_codes _).symm
        rw [e]
        exact here k r q (Rp.str (digits_ok i c))
      case bl b =>
        cases (Option.some.inj h)
        refine .inr ⟨b, by rw [hx.bl], ?_⟩
        have e : (if b = true then ("True" : Str) else "False") = tx (sBool b) := by
          cases b <;> decide +kernel
        rw [e]
        exact here k r q (Rp.str ⟨by cases b <;> decide, by cases b <;> decide⟩)
    · cases x <;> cases h
  case all =>
    obtain _ | ⟨x, _ | ⟨y, t⟩⟩ := xs
    · cases h
    · obtain ⟨v, rfl, hx⟩ := pair1 hp
      cases x <;> first | (cases h; done) | skip
      case lst ys =>
        have h2 : (boolsOf ys).map (fun bs => D.bl (bs.all id)) = some d := h
        cases q2 : boolsOf ys with
        | none =>
          rw [q2] at h2
          cases h2
        | some bs =>
          rw [q2] at h2
          cases (Option.some.inj h2)
          obtain ⟨p, us, e1, s1, l1, r1⟩ := hx.lst
          have eb := bools_of r1 q2
          subst eb
          exact ⟨p, bs, by rw [e1], .of s1, here k r q (Rp.bl _)⟩
    · cases x <;> cases h
end
end Ev

/-! Readings over worlds; what of the text a term of the small language stands for. -/
namespace Ev
open PySem PySem.Spec PyProof.Rows L2

/-! ### steps of the small machine -/
section
variable {α β : Type} {S S' S'' : Sto}
theorem bind_ok {m : M α} {f : α → M β} {b : β} (h : M.bind m f S = .ok b S') : ∃ a S1, m S = .ok a S1 ∧ f a S1 = .ok b S' := by
  have h : (match m S with | .stk => Res.stk | .ok a S' => f a S') = .ok b S' := h
  cases q : m S with
  | stk =>
    rw [q] at h
    cases h
  | ok a S1 =>
    rw [q] at h
    exact ⟨a, S1, rfl, h⟩
theorem opt_ok {o : Option α} {a : α} (h : M.opt o S = .ok a S') : o = some a ∧ S' = S := by
  cases o with
  | none => cases h
  | some x => cases h; exact ⟨rfl, rfl⟩
theorem pure_ok {a b : α} (h : M.pure a S = .ok b S') : a = b ∧ S' = S := by
  cases h
  exact ⟨rfl, rfl⟩
theorem guard_ok {c : Bool} {m : M α} {a : α} (h : M.guard c m S = .ok a S') : c = true ∧ m S = .ok a S' := by
  cases c with
  | false => cases h
  | true => exact ⟨rfl, h⟩
end

/-! ### readings -/
structure Sit (K : PySem.W.Frag) (fa : Nat → Addr) (w : Wd) (H : Hp) (σ : L2.St) (ρ : Env) (S : Sto) : Prop where
  h : w.H = H
  ok : w.Ok
  fr : FR K fa w σ ρ
  sr : SR K fa w S
def rdG {α : Type} (K : PySem.W.Frag) (fa : Nat → Addr) (R : Wd → Wd → V → α → Prop) (m : Env → M α) : TE := fun σ H Q => ∃ w ρ S d S', Sit K fa w H σ ρ S ∧ m ρ S = .ok d S' ∧ ∀ w' v, w.Le w' → w'.Ok → SR K fa w' S' → R w w' v d → Q v w'.H
abbrev rd (K : PySem.W.Frag) (fa : Nat → Addr) (m : Env → M D) : TE := rdG K fa (fun _ w' v d => Rp K fa w' v d) m
abbrev rdP (K : PySem.W.Frag) (fa : Nat → Addr) (m : Env → M D) : TE := rdG K fa (fun _ w' v d => RpP K fa w' v d) m
abbrev rdN (K : PySem.W.Frag) (fa : Nat → Addr) (m : Env → M D) : TE := rdG K fa (fun w w' v d => RN K fa w w' v d) m
def RR (K : PySem.W.Frag) (fa : Nat → Addr) (w w' : Wd) (v : V) : RV → Prop
  | .val d => Rp K fa w' v d
  | .own ds => Fresh K fa w w' v ds
def rdT (K : PySem.W.Frag) (fa : Nat → Addr) (m : Env → M Bool) : TT := fun σ H Q => ∃ w ρ S b S', Sit K fa w H σ ρ S ∧ m ρ S = .ok b S' ∧ ∀ w', w.Le w' → w'.Ok → SR K fa w' S' → Q b w'.H
def rdA (K : PySem.W.Frag) (fa : Nat → Addr) (R : Wd → V → D → Prop) (m : Env → M (List D)) : TA := fun σ H Q => ∃ w ρ S ds S', Sit K fa w H σ ρ S ∧ m ρ S = .ok ds S' ∧ ∀ w' vs, w.Le w' → w'.Ok → SR K fa w' S' → Paired (R w') vs ds → Q vs w'.H
theorem _root_.L2.PE.conv {X : Cx} {e : Expr} {t t' : TE} (h : PE X e t) (c : ∀ σ H Q, t' σ H Q → t σ H Q) : PE X e t' := ⟨fun pins s σ H Q I q => h.run pins s σ H Q I (c σ H Q q)⟩
theorem _root_.L2.PT.conv {X : Cx} {e : Expr} {t t' : TT} (h : PT X e t) (c : ∀ σ H Q, t' σ H Q → t σ H Q) : PT X e t' := ⟨fun pins s σ H Q I q => h.run pins s σ H Q I (c σ H Q q)⟩
theorem _root_.L2.PA.conv {X : Cx} {e : List Expr} {t t' : TA} (h : PA X e t) (c : ∀ σ H Q, t' σ H Q → t σ H Q) : PA X e t' := ⟨fun pos pins s σ H Q I q => h.run pos pins s σ H Q I (c σ H Q q)⟩
section
variable {K : PySem.W.Frag} {fa : Nat → Addr} {X : Cx} {e : Expr} {σ : L2.St} {H : Hp} {Q : VK}
theorem Sit.next {w w' : Wd} {ρ : Env} {S S' : Sto} (s : Sit K fa w H σ ρ S) (l : w.Le w') (k : w'.Ok) (r : SR K fa w' S') : Sit K fa w' w'.H σ ρ S' := ⟨rfl, k, s.fr.mono l s.ok, r⟩
/-- a new list is let stand -/
theorem Fresh.fix {w w' : Wd} {v : V} {ds : List D} {S : Sto} (h : Fresh K fa w w' v ds) (l : w.Le w') (k : w'.Ok) (r : SR K fa w' S) : ∃ w2, w.Le w2 ∧ w2.Ok ∧ SR K fa w2 S ∧ Rp K fa w2 v (.lst ds) ∧ w2.H = w'.H := by
  obtain ⟨a, vs, rfl, n, e, nf, na, hl, hr⟩ := h
  have kp : Kp w' (w'.fix a) := ⟨fun _ _ e => e, fun _ _ _ e => e, fun _ _ f e => ⟨.inl f, e⟩, fun _ _ e => e⟩
  refine ⟨w'.fix a, ⟨fun x f => .inl (l.f x f), fun x f => ?_, l.a, l.h⟩, ⟨fun x f => ?_, k.ce, fun x m f => ?_, k.nd⟩, r.keep kp rfl fun _ _ => rfl, .lst e (.inr rfl) hl (hr.keep kp), rfl⟩
  · rcases f with f | f
    · exact l.fn x f
    · subst f
      exact .inr n
  · rcases f with f | f
    · exact k.fz x f
    · subst f
      exact ⟨vs, e⟩
  · rcases f with f | f
    · exact k.cf x m f
    · subst f
      exact na m
theorem rdN_rd {m : Env → M D} (h : rd K fa m σ H Q) : rdN K fa m σ H Q := by
  obtain ⟨w, ρ, S, d, S', st, hm, q⟩ := h
  refine ⟨w, ρ, S, d, S', st, hm, fun w' v l k r rn => ?_⟩
  cases d with
  | lst ds =>
    obtain ⟨w2, l2, k2, r2, rp, e⟩ := Fresh.fix (show Fresh K fa w w' v ds from rn) l k r
    rw [← e]
    exact q w2 v l2 k2 r2 rp
  | _ => exact q w' v l k r rn
theorem rd_rdP {m : Env → M D} (h : rdP K fa m σ H Q) : rd K fa m σ H Q := by
  obtain ⟨w, ρ, S, d, S', st, hm, q⟩ := h
  exact ⟨w, ρ, S, d, S', st, hm, fun w' v l k r rn => q w' v l k r (.inl rn)⟩
/-- two operands, an operation -/
theorem rd_op2 {r : R2} {g : D → D → Option D} (hop : OpL K fa r g) {ma mb : Env → M D} (h : rdN K fa (fun ρ => M.bind (ma ρ) fun x => M.bind (mb ρ) fun y => M.opt (g x y)) σ H Q) : tOp r (rdP K fa ma) (rdP K fa mb) σ H Q := by
  obtain ⟨w, ρ, S, d, S', st, hm, q⟩ := h
  obtain ⟨x, S1, h1, hm⟩ := bind_ok hm
  obtain ⟨y, S2, h2, hm⟩ := bind_ok hm
  obtain ⟨he, rfl⟩ := opt_ok hm
  refine ⟨w, ρ, S, x, S1, st, h1, fun w1 v1 l1 k1 r1 rp1 => ?_⟩
  refine ⟨w1, ρ, S1, y, S', st.next l1 k1 r1, h2, fun w2 v2 l2 k2 r2 rp2 => ?_⟩
  refine hop w2 S' x y d v1 v2 Q k2 r2 (rp1.mono l2 k1) rp2 he fun w' z l k r rn => ?_
  have l12 := l1.trans l2 st.ok k1
  refine q w' z (l12.trans l st.ok k2) k r ?_
  cases d with
  | lst ds =>
    obtain ⟨a, vs, e1, n, rest⟩ := rn
    exact ⟨a, vs, e1, l12.free st.ok k2 n, rest⟩
  | _ => exact rn
theorem rdT_cop {r : R2} {g : D → D → Option Bool} (hop : CopL K fa r g) {ma mb : Env → M D} {Q : Bool → Hp → Prop} (h : rdT K fa (fun ρ => M.bind (ma ρ) fun x => M.bind (mb ρ) fun y => M.opt (g x y)) σ H Q) : tTest (tOp r (rdP K fa ma) (rdP K fa mb)) σ H Q := by
  obtain ⟨w, ρ, S, b, S', st, hm, q⟩ := h
  obtain ⟨x, S1, h1, hm⟩ := bind_ok hm
  obtain ⟨y, S2, h2, hm⟩ := bind_ok hm
  obtain ⟨he, rfl⟩ := opt_ok hm
  refine ⟨w, ρ, S, x, S1, st, h1, fun w1 v1 l1 k1 r1 rp1 => ?_⟩
  refine ⟨w1, ρ, S1, y, S', st.next l1 k1 r1, h2, fun w2 v2 l2 k2 r2 rp2 => ?_⟩
  exact hop w2 x y b v1 v2 _ k2 (rp1.mono l2 k1) rp2 he ⟨b, rfl, q w2 (l1.trans l2 st.ok k1) k2 r2⟩
end

/-! ### what stands around a block -/
def spC (K : PySem.W.Frag) (fa : Nat → Addr) (C : List D → M RV) : Sp := fun vs H Q _ => ∃ w S ds r S', w.H = H ∧ w.Ok ∧ SR K fa w S ∧ Rps K fa w vs ds ∧ C ds S = .ok r S' ∧ ∀ w' v, w.Le w' → w'.Ok → SR K fa w' S' → RR K fa w w' v r → Q v w'.H
def bnames : List Str := ["len", "abs", "int", "min", "max", "tuple", "list", "str", "all", "isinstance", "range", "bool"]
structure Good (X : Cx) (cfg : Cfg) (fa : Nat → Addr) (fns gns : List Str) : Prop where
  nd : X.N.Nodup
  calm : X.calm = true
  units : X.A.units + 64 < cLine
  bl : ∀ x ∈ bnames, X.mg x = none
  glo : ∀ (k : Nat) d x, cfg.G[k]? = some d → gns[k]? = some x → ∃ u v, X.mg x = some u ∧ RelV v u ∧ ∀ w : Wd, Rp X.K fa w v d
  fnv : ∀ (f : Nat) x, fns[f]? = some x → X.mg x = some (.ref (fa f))
  fn : ∀ (f : Nat) x, fns[f]? = some x → ∃ fd ps k, Room k X.A ∧ PySem.W.keepIn X.K (.ref (fa f)) = true ∧ Binds X.K fd ps [] ∧ FnOk X.prog X.w X.K X.mg X.base CX0 k (fa f) fd ps (spC X.K fa (cfg.C f))

/-! ### which term stands for which text -/
def visB (sc : Scope) (x : Str) : Bool := match sc.names.lookup x with
  | some .local => true
  | some .cell => true
  | some .free => true
  | _ => false
def glB (sc : Scope) (x : Str) : Bool := match sc.names.lookup x with
  | some .globalImplicit => true
  | _ => false
def locB (sc : Scope) (x : Str) : Bool := match sc.names.lookup x with
  | some .local => true
  | _ => false
def celB (sc : Scope) (x : Str) : Bool := match sc.names.lookup x with
  | some .cell => true
  | _ => false
/-- a local; where c holds, also one that a block within uses -/
def lcB (c : Bool) (sc : Scope) (x : Str) : Bool := locB sc x || (c && celB sc x)
def nmB (x : Str) : Bool := !(x == ("__debug__" : Str)) && (!(x == ("__classdict__" : Str)) && decide (x ≠ ("__name__" : Str)))
def ownOf (N : List Str) (vs : List Nat) : List (Str × Nat) := vs.map fun i => (N.getD i Str.empty, i)
theorem ownOf_snd (N : List Str) (vs : List Nat) : (ownOf N vs).map (·.2) = vs := by
  unfold ownOf
  rw [List.map_map]
  exact List.map_id' vs
def tyName : Ty → String
  | .int => "int" | .bool => "bool" | .str => "str" | .tup => "tuple" | .lst => "list"
def okTy (t : Ty) (sc : Scope) : Expr → Bool
  | .Name x _ => decide (x = (tyName t : Str)) && glB sc x
  | _ => false
def okTys : List Ty → Scope → List Expr → Bool
  | [], _, [] => true
  | t :: ts, sc, e :: es => okTy t sc e && okTys ts sc es
  | _, _, _ => false
def okTyA (ts : List Ty) (sc : Scope) : Expr → Bool
  | .Tuple es _ _ => decide (ts.length ≤ 10) && okTys ts sc es
  | e => (match ts with
    | [t] => okTy t sc e
    | _ => false)
mutual
def okTg (N : List Str) (c : Bool) (vs : List Nat) : Tg → Scope → Expr → Bool
  | .nm i, sc, .Name x _ => decide (N[i]? = some x) && (lcB c sc x && decide (i ∈ vs))
  | .tp ts, sc, .Tuple es _ _ => okTgs N c vs ts sc es
  | _, _, _ => false
def okTgs (N : List Str) (c : Bool) (vs : List Nat) : Tgs → Scope → List Expr → Bool
  | .nil, _, [] => true
  | .cons t ts, sc, e :: es => okTg N c vs t sc e && okTgs N c vs ts sc es
  | _, _, _ => false
end
def isOp (o : Operator) (b : BOp) : Bool := match o, b with
  | .Add, .add => true | .Sub, .sub => true | .Mult, .mul => true | .Mod, .mod => true | .FloorDiv, .fdiv => true | .Pow, .pow => true | _, _ => false
def isCop (o : CmpOp) (b : COp) : Bool := match o, b with
  | .Eq, .eq => true | .NotEq, .ne => true | .Lt, .lt => true | .LtE, .le => true | .Gt, .gt => true | .GtE, .ge => true | .In, .isin => true | .NotIn, .notin => true | _, _ => false
theorem isOp_eq {o : Operator} {b : BOp} (h : isOp o b = true) : o = boOf b := by
  cases o <;> cases b <;> first | rfl | cases h
theorem isCop_eq {o : CmpOp} {b : COp} (h : isCop o b = true) : o = opOf b := by
  cases o <;> cases b <;> first | rfl | cases h
/-- a plain name, call, place: its test is its value's truth -/
def plainT : Expr → Bool
  | .Name _ _ => true
  | .Call _ _ _ _ => true
  | .Subscript _ _ _ => true
  | .BinOp _ _ _ _ => true
  | _ => false
section
variable (N fns gns : List Str)
mutual
def okE : E → Scope → Expr → Bool
  | .non, _, .Constant .none _ _ => true
  | .bl b, _, .Constant (.bool c) _ _ => b == c
  | .int i, _, .Constant (.int j) _ _ => decide (i = j)
  | .str cs, _, .Constant (.str x) _ _ => decide (x = tx cs) && (decide (cs.length ≤ 100000) && cs.all fun c => decide (c < 1114112))
  | .var i, sc, .Name x _ => decide (N[i]? = some x) && (visB sc x && nmB x)
  | .glo k, sc, .Name x _ => decide (gns[k]? = some x) && (glB sc x && nmB x)
  | .fnv f, sc, .Name x _ => decide (fns[f]? = some x) && (glB sc x && nmB x)
  | .bin op a b, sc, .BinOp x o y _ => isOp o op && (okE a sc x && okE b sc y)
  | .neg a, sc, .UnaryOp .USub x _ => okE a sc x
  | .cmp op a b, sc, .Compare x [o] [y] _ => isCop o op && (!behindInMarks o y && (okE a sc x && okE b sc y))
  | .chn o1 o2 a b c, sc, .Compare x [o, o'] [y, z] _ => isCop o o1 && (isCop o' o2 && (!lastMarks [o, o'] [y, z] && (okE a sc x && (okE b sc y && okE c sc z))))
  | .isN a, sc, .Compare x [.Is] [.Constant .none _ _] _ => okE a sc x
  | .ntN a, sc, .Compare x [.IsNot] [.Constant .none _ _] _ => okE a sc x
  | .and a b, sc, .BoolOp .And [x, y] _ => okE a sc x && okE b sc y
  | .and a b, sc, .BoolOp .And (x :: y :: z :: r) p => okE a sc x && okE b sc (.BoolOp .And (y :: z :: r) p)
  | .or a b, sc, .BoolOp .Or [x, y] _ => okE a sc x && okE b sc y
  | .or a b, sc, .BoolOp .Or (x :: y :: z :: r) p => okE a sc x && okE b sc (.BoolOp .Or (y :: z :: r) p)
  | .not a, sc, .UnaryOp .Not x _ => okE a sc x
  | .ife c a b, sc, .IfExp t x y _ => okB c sc t && (okE a sc x && okE b sc y)
  | .tup es, sc, .Tuple xs _ _ => okEs es sc xs
  | .lst es, sc, .List xs _ => okEs es sc xs
  | .cell es, sc, .List xs _ => okEs es sc xs
  | .call f es, sc, .Call (.Name x _) xs [] _ => decide (fns[f]? = some x) && (glB sc x && (nmB x && okEs es sc xs))
  | .blt f es, sc, .Call (.Name x _) (y :: ys) [] _ => decide (x = nmBl f) && (glB sc x && okEs es sc (y :: ys))
  | .isi a ts, sc, .Call (.Name x _) [y, c] [] _ => decide (x = ("isinstance" : Str)) && (glB sc x && (okE a sc y && okTyA ts sc c))
  | .idx a i, sc, .Subscript x y _ => okE a sc x && okE i sc y
  | .slN a, sc, .Subscript x (.Slice none none none _) _ => okE a sc x
  | .slL a lo, sc, .Subscript x (.Slice (some l) none none _) _ => okE a sc x && okE lo sc l
  | .slU a hi, sc, .Subscript x (.Slice none (some u) none _) _ => okE a sc x && okE hi sc u
  | .slB a lo hi, sc, .Subscript x (.Slice (some l) (some u) none _) _ => okE a sc x && (okE lo sc l && okE hi sc u)
  | .rev a, sc, .Subscript x (.Slice none none (some (.UnaryOp .USub (.Constant (.int j) _ _) _)) _) _ => decide (j = 1) && okE a sc x
  | .upper (.var i), sc, .Call (.Attribute (.Name x p) m apos) [] [] cpos => decide (m = ("upper" : Str)) && ((apos.endLine == cpos.line) && okE (.var i) sc (.Name x p))
  | .lc t s e vs, sc, .ListComp elt [⟨tg, it, [], 0⟩] scope _ => blkC N sc scope (ownOf N vs) && (okTg N false vs t (relS scope sc) tg && (okI s sc it && okE e (relS scope sc) elt))
  | .lcf t s c e vs, sc, .ListComp elt [⟨tg, it, [cnd], 0⟩] scope _ => blkC N sc scope (ownOf N vs) && (okTg N false vs t (relS scope sc) tg && (okI s sc it && (okB c (relS scope sc) cnd && okE e (relS scope sc) elt)))
  | _, _, _ => false
def okEs : Es → Scope → List Expr → Bool
  | .nil, _, [] => true
  | .cons e es, sc, x :: xs => okE e sc x && okEs es sc xs
  | _, _, _ => false
def okB : B → Scope → Expr → Bool
  | .and a b, sc, .BoolOp .And [x, y] _ => okB a sc x && okB b sc y
  | .and a b, sc, .BoolOp .And (x :: y :: z :: r) p => okB a sc x && okB b sc (.BoolOp .And (y :: z :: r) p)
  | .or a b, sc, .BoolOp .Or [x, y] _ => okB a sc x && okB b sc y
  | .or a b, sc, .BoolOp .Or (x :: y :: z :: r) p => okB a sc x && okB b sc (.BoolOp .Or (y :: z :: r) p)
  | .not a, sc, .UnaryOp .Not x _ => okB a sc x
  | .e e, sc, x => plainT x && okE e sc x
  | .cmp op a b, sc, .Compare x [o] [y] _ => isCop o op && (!behindInMarks o y && (okE a sc x && okE b sc y))
  | .chn o1 o2 a b c, sc, .Compare x [o, o'] [y, z] _ => isCop o o1 && (isCop o' o2 && (!lastMarks [o, o'] [y, z] && (okE a sc x && (okE b sc y && okE c sc z))))
  | .isN a, sc, .Compare x [.Is] [.Constant .none _ _] _ => okE a sc x
  | .ntN a, sc, .Compare x [.IsNot] [.Constant .none _ _] _ => okE a sc x
  | _, _, _ => false
def okI : I → Scope → Expr → Bool
  | .seq e, sc, x => okE e sc x
  | .rng e, sc, .Call (.Name x _) [y] [] _ => decide (x = ("range" : Str)) && (glB sc x && okE e sc y)
  | _, _, _ => false
end
end
def isFr : E → Bool
  | .bin _ _ _ => true
  | .lst _ => true
  | .blt _ _ => true
  | .slN _ => true | .slL _ _ => true | .slU _ _ => true | .slB _ _ _ => true
  | .rev _ => true
  | .lc _ _ _ _ => true | .lcf _ _ _ _ _ => true
  | _ => false
end Ev

/-! Each construct keeps what the model does. -/
namespace Ev
open PySem PySem.Spec PyProof.Rows L2

section
variable {K : PySem.W.Frag} {fa : Nat → Addr} {w w' w1 : Wd} {S : Sto}
/-! ### a list of one's own is written -/
theorem put_kp {p : Addr} {us vs : List V} (h : w.H p = some (.lst us)) (nf : ¬ w.F p) : Kp w (w.put p vs) := by
  have ne : ∀ b o, w.H b = some o → (∀ xs, o = .lst xs → b ≠ p) → (w.put p vs).H b = some o := fun b o e n => by
    show upd w.H p _ b = _
    have : b ≠ p := fun z => by
      subst z
      rw [h] at e
      exact n us (Option.some.inj e).symm rfl
    rw [upd_ne this]
    exact e
  refine ⟨fun b xs e => ne b _ e fun _ z => (by cases z), fun b o u e => ne b _ e fun _ z => (by cases z), fun b xs f e => ⟨f, ne b _ e fun _ _ z => nf (by rw [← z]; exact f)⟩, fun _ _ e => e⟩
theorem put_ok {p : Addr} {us vs : List V} (k : w.Ok) (h : w.H p = some (.lst us)) (nf : ¬ w.F p) : (w.put p vs).Ok := by
  have st : ∀ a us, w.H a = some (.lst us) → ∃ us, (w.put p vs).H a = some (.lst us) := fun a us e => by
    by_cases z : a = p
    · subst z
      exact ⟨vs, upd_same⟩
    · exact ⟨us, by show upd w.H p _ a = _; rw [upd_ne z]; exact e⟩
  refine ⟨fun a f => ?_, fun a m => ?_, k.cf, k.nd⟩
  · obtain ⟨us, e⟩ := k.fz a f
    exact st a us e
  · obtain ⟨us, e⟩ := k.ce a m
    exact st a us e
theorem put_sr {p : Addr} {us vs : List V} (r : SR K fa w S) (h : w.H p = some (.lst us)) (nf : ¬ w.F p) (na : p ∉ w.A) : SR K fa (w.put p vs) S :=
  r.keep (put_kp h nf) rfl fun a m => by
    show upd w.H p _ a = _
    have z : a ≠ p := fun z => na (by rw [← z]; exact m)
    rw [upd_ne z]
theorem put_le {p : Addr} {vs : List V} (l : w1.Le w) (n : w1.H p = none) : w1.Le (w.put p vs) :=
  ⟨l.f, l.fn, l.a, fun b o e m => by
    show upd w.H p _ b = _
    rw [upd_ne (ne_of_none e n)]
    exact l.h b o e m⟩
theorem new_free {p : Addr} (k : w.Ok) (h : w.H p = none) : ¬ w.F p ∧ p ∉ w.A := by
  refine ⟨fun f => ?_, fun m => ?_⟩
  · obtain ⟨us, e⟩ := k.fz p f
    rw [h] at e
    cases e
  · obtain ⟨us, e⟩ := k.ce p m
    rw [h] at e
    cases e
end

/-! ### simple expressions -/
section
variable {K : PySem.W.Frag} {fa : Nat → Addr} {X : Cx} {a b c : Expr} {ma mb mc : Env → M D} {pos : Pos}
theorem s_bin {op : BOp} (ha : PE X a (rdP X.K fa ma)) (hb : PE X b (rdP X.K fa mb)) : PE X (.BinOp a (boOf op) b pos) (rdN X.K fa (fun ρ => M.bind (ma ρ) fun x => M.bind (mb ρ) fun y => M.opt (bop op x y))) :=
  (pe_op (bopr op) ha hb).conv fun _ _ _ h => rd_op2 (bopl op) h
theorem s_cmp {op : COp} (hu : X.A.units + 64 < cLine) (hm : behindInMarks (opOf op) b = false) (ha : PE X a (rdP X.K fa ma)) (hb : PE X b (rdP X.K fa mb)) :
    PE X (.Compare a [opOf op] [b] pos) (rd X.K fa (fun ρ => M.bind (ma ρ) fun x => M.bind (mb ρ) fun y => M.opt ((cop op x y).map .bl))) :=
  (pe_cmpR (copr hu op) ha hb hm).conv fun _ _ _ h => rd_op2 ((copl op).op) (rdN_rd h)
theorem s_cmpT {op : COp} (hu : X.A.units + 64 < cLine) (hm : behindInMarks (opOf op) b = false) (ha : PE X a (rdP X.K fa ma)) (hb : PE X b (rdP X.K fa mb)) :
    PT X (.Compare a [opOf op] [b] pos) (rdT X.K fa (fun ρ => M.bind (ma ρ) fun x => M.bind (mb ρ) fun y => M.opt (cop op x y))) :=
  (pt_cmpR (copr hu op) ha hb hm).conv fun _ _ _ h => rdT_cop (copl op) h
theorem Rp.chainR {w : Wd} {v : V} {d : D} (h : Rp K fa w v d) : RpP K fa w v d := .inl h
theorem s_chn {o1 o2 : COp} (hu : X.A.units + 64 < cLine) (hm : lastMarks [opOf o1, opOf o2] [b, c] = false) (ha : PE X a (rd X.K fa ma)) (hb : PE X b (rd X.K fa mb)) (hc : PE X c (rd X.K fa mc)) :
    PE X (.Compare a [opOf o1, opOf o2] [b, c] pos) (rd X.K fa (fun ρ => M.bind (ma ρ) fun x => M.bind (mb ρ) fun y => M.bind (M.opt (cop o1 x y)) fun k => match k with
      | true => M.bind (mc ρ) fun z => M.opt ((cop o2 y z).map .bl)
      | false => M.pure (.bl false))) := by
  refine (pe_chain (copr hu o1) (copr hu o2) ha hb hc hm).conv fun σ H Q h => ?_
  obtain ⟨w, ρ, S, d, S', st, hm, q⟩ := h
  obtain ⟨x, S1, h1, hm⟩ := bind_ok hm
  obtain ⟨y, S2, h2, hm⟩ := bind_ok hm
  obtain ⟨k, S3, h3, hm⟩ := bind_ok hm
  obtain ⟨e3, rfl⟩ := opt_ok h3
  refine ⟨w, ρ, S, x, S1, st, h1, fun w1 v1 l1 k1 r1 rp1 => ?_⟩
  refine ⟨w1, ρ, S1, y, S3, st.next l1 k1 r1, h2, fun w2 v2 l2 k2 r2 rp2 => ?_⟩
  have l12 := l1.trans l2 st.ok k1
  refine copl o1 w2 x y k v1 v2 _ k2 (.inl (rp1.keep (l2.kp k1))) (.inl rp2) e3 ⟨k, rfl, ?_⟩
  cases k with
  | false =>
    obtain ⟨e, rfl⟩ := pure_ok hm
    subst e
    exact q w2 _ l12 k2 r2 (.bl false)
  | true =>
    obtain ⟨z, S4, h4, hm⟩ := bind_ok hm
    obtain ⟨h5, rfl⟩ := opt_ok hm
    refine ⟨w2, ρ, S3, z, S', st.next l12 k2 r2, h4, fun w3 v3 l3 k3 r3 rp3 => ?_⟩
    cases e : cop o2 y z with
    | none =>
      rw [e] at h5
      cases h5
    | some bb =>
      rw [e] at h5
      cases (Option.some.inj h5)
      exact copl o2 w3 y z bb v2 v3 _ k3 (.inl (rp2.keep (l3.kp k2))) (.inl rp3) e (q w3 _ (l12.trans l3 st.ok k2) k3 r3 (.bl bb))
theorem s_chnT {o1 o2 : COp} (hu : X.A.units + 64 < cLine) (hm : lastMarks [opOf o1, opOf o2] [b, c] = false) (ha : PE X a (rd X.K fa ma)) (hb : PE X b (rd X.K fa mb)) (hc : PE X c (rd X.K fa mc)) :
    PT X (.Compare a [opOf o1, opOf o2] [b, c] pos) (rdT X.K fa (fun ρ => M.bind (ma ρ) fun x => M.bind (mb ρ) fun y => M.bind (M.opt (cop o1 x y)) fun k => match k with
      | true => M.bind (mc ρ) fun z => M.opt (cop o2 y z)
      | false => M.pure false)) := by
  refine (pt_chain (copr hu o1) (copr hu o2) ha hb hc hm).conv fun σ H Q h => ?_
  obtain ⟨w, ρ, S, d, S', st, hm, q⟩ := h
  obtain ⟨x, S1, h1, hm⟩ := bind_ok hm
  obtain ⟨y, S2, h2, hm⟩ := bind_ok hm
  obtain ⟨k, S3, h3, hm⟩ := bind_ok hm
  obtain ⟨e3, rfl⟩ := opt_ok h3
  refine ⟨w, ρ, S, x, S1, st, h1, fun w1 v1 l1 k1 r1 rp1 => ?_⟩
  refine ⟨w1, ρ, S1, y, S3, st.next l1 k1 r1, h2, fun w2 v2 l2 k2 r2 rp2 => ?_⟩
  have l12 := l1.trans l2 st.ok k1
  refine copl o1 w2 x y k v1 v2 _ k2 (.inl (rp1.keep (l2.kp k1))) (.inl rp2) e3 ⟨k, rfl, ?_⟩
  cases k with
  | false =>
    obtain ⟨e, rfl⟩ := pure_ok hm
    subst e
    exact ⟨_, rfl, q w2 l12 k2 r2⟩
  | true =>
    obtain ⟨z, S4, h4, hm⟩ := bind_ok hm
    obtain ⟨h5, rfl⟩ := opt_ok hm
    refine ⟨w2, ρ, S3, z, S', st.next l12 k2 r2, h4, fun w3 v3 l3 k3 r3 rp3 => ?_⟩
    exact copl o2 w3 y z d v2 v3 _ k3 (.inl (rp2.keep (l3.kp k2))) (.inl rp3) h5 ⟨_, rfl, q w3 (l12.trans l3 st.ok k2) k3 r3⟩
theorem Rp.isNon {w : Wd} {v : V} {d : D} (h : Rp K fa w v d) : decide (v = .non) = d.isNon := by
  cases d <;> cases h <;> rfl
theorem s_isN {j pos'} (ha : PE X a (rd X.K fa ma)) : PE X (.Compare a [.Is] [.Constant .none j pos'] pos) (rd X.K fa (fun ρ => M.bind (ma ρ) fun x => M.pure (.bl x.isNon))) := by
  refine (pe_cmp (pc_isN ha) rfl).conv fun σ H Q h => ?_
  obtain ⟨w, ρ, S, d, S', st, hm, q⟩ := h
  obtain ⟨x, S1, h1, hm⟩ := bind_ok hm
  obtain ⟨e, rfl⟩ := pure_ok hm
  subst e
  refine ⟨w, ρ, S, x, S', st, h1, fun w1 v1 l1 k1 r1 rp1 => ?_⟩
  show Q (.bl (decide (v1 = .non))) w1.H
  rw [Rp.isNon rp1]
  exact q w1 _ l1 k1 r1 (.bl _)
theorem s_ntN {j pos'} (ha : PE X a (rd X.K fa ma)) : PE X (.Compare a [.IsNot] [.Constant .none j pos'] pos) (rd X.K fa (fun ρ => M.bind (ma ρ) fun x => M.pure (.bl (!x.isNon)))) := by
  refine (pe_cmp (pc_notN ha) rfl).conv fun σ H Q h => ?_
  obtain ⟨w, ρ, S, d, S', st, hm, q⟩ := h
  obtain ⟨x, S1, h1, hm⟩ := bind_ok hm
  obtain ⟨e, rfl⟩ := pure_ok hm
  subst e
  refine ⟨w, ρ, S, x, S', st, h1, fun w1 v1 l1 k1 r1 rp1 => ?_⟩
  show Q (.bl (!decide (v1 = .non))) w1.H
  rw [Rp.isNon rp1]
  exact q w1 _ l1 k1 r1 (.bl _)
theorem s_isNT {j pos'} (ha : PE X a (rd X.K fa ma)) : PT X (.Compare a [.Is] [.Constant .none j pos'] pos) (rdT X.K fa (fun ρ => M.bind (ma ρ) fun x => M.pure x.isNon)) := by
  refine (pt_cmp (pc_isN ha) rfl).conv fun σ H Q h => ?_
  obtain ⟨w, ρ, S, d, S', st, hm, q⟩ := h
  obtain ⟨x, S1, h1, hm⟩ := bind_ok hm
  obtain ⟨e, rfl⟩ := pure_ok hm
  subst e
  refine ⟨w, ρ, S, x, S', st, h1, fun w1 v1 l1 k1 r1 rp1 => ?_⟩
  show ∃ c, V.bl (decide (v1 = .non)) = .bl c ∧ Q c w1.H
  rw [Rp.isNon rp1]
  exact ⟨_, rfl, q w1 l1 k1 r1⟩
theorem s_ntNT {j pos'} (ha : PE X a (rd X.K fa ma)) : PT X (.Compare a [.IsNot] [.Constant .none j pos'] pos) (rdT X.K fa (fun ρ => M.bind (ma ρ) fun x => M.pure (!x.isNon))) := by
  refine (pt_cmp (pc_notN ha) rfl).conv fun σ H Q h => ?_
  obtain ⟨w, ρ, S, d, S', st, hm, q⟩ := h
  obtain ⟨x, S1, h1, hm⟩ := bind_ok hm
  obtain ⟨e, rfl⟩ := pure_ok hm
  subst e
  refine ⟨w, ρ, S, x, S', st, h1, fun w1 v1 l1 k1 r1 rp1 => ?_⟩
  show ∃ c, V.bl (!decide (v1 = .non)) = .bl c ∧ Q c w1.H
  rw [Rp.isNon rp1]
  exact ⟨_, rfl, q w1 l1 k1 r1⟩
theorem RpP.tru {w : Wd} {v : V} {d : D} {k : Bool} (h : RpP K fa w v d) (e : d.tru = some k) : TruV K v w.H k := by
  cases d with
  | non =>
    have h := h.val fun _ z => nomatch z
    cases h
    exact (Option.some.inj e).symm
  | bl b =>
    have h := h.val fun _ z => nomatch z
    cases h
    exact (Option.some.inj e).symm
  | int i =>
    have h := h.val fun _ z => nomatch z
    cases h
    exact (Option.some.inj e).symm
  | str cs =>
    obtain ⟨rfl, t⟩ := h.str
    refine ⟨by rw [tx_len]; exact t.len, ?_⟩
    rw [tx_len, ← Option.some.inj e]
    cases cs <;> simp <;> omega
  | tup xs =>
    obtain ⟨p, vs, rfl, s1, l1, r1⟩ := h.tup
    exact .inr (.inl ⟨vs, s1, by rw [r1.empty, ← Option.some.inj e]⟩)
  | lst xs =>
    obtain ⟨p, vs, rfl, s1, l1, r1⟩ := h.lst
    exact .inl ⟨vs, .of s1, by rw [r1.empty, ← Option.some.inj e]⟩
  | rol _ => cases e
  | loc _ => cases e
  | fn _ => cases e
theorem s_and {rest : List Expr} (ha : PE X a (rd X.K fa ma)) (hb : PE X (.BoolOp .And (b :: rest) pos) (rd X.K fa mb)) : PE X (.BoolOp .And (a :: b :: rest) pos) (rd X.K fa (fun ρ => M.bind (ma ρ) fun x => M.bind (M.opt x.tru) fun k => match k with
    | true => mb ρ
    | false => M.pure x)) := by
  refine (pe_andT ha hb).conv fun σ H Q h => ?_
  obtain ⟨w, ρ, S, d, S', st, hm, q⟩ := h
  obtain ⟨x, S1, h1, hm⟩ := bind_ok hm
  obtain ⟨k, S2, h2, hm⟩ := bind_ok hm
  obtain ⟨e2, rfl⟩ := opt_ok h2
  refine ⟨w, ρ, S, x, S2, st, h1, fun w1 v1 l1 k1 r1 rp1 => ⟨k, RpP.tru (.inl rp1) e2, ?_⟩⟩
  cases k with
  | false =>
    obtain ⟨e, rfl⟩ := pure_ok hm
    subst e
    exact q w1 _ l1 k1 r1 rp1
  | true => exact ⟨w1, ρ, S2, d, S', st.next l1 k1 r1, hm, fun w2 v2 l2 k2 r2 rp2 => q w2 v2 (l1.trans l2 st.ok k1) k2 r2 rp2⟩
theorem s_or {rest : List Expr} (ha : PE X a (rd X.K fa ma)) (hb : PE X (.BoolOp .Or (b :: rest) pos) (rd X.K fa mb)) : PE X (.BoolOp .Or (a :: b :: rest) pos) (rd X.K fa (fun ρ => M.bind (ma ρ) fun x => M.bind (M.opt x.tru) fun k => match k with
    | true => M.pure x
    | false => mb ρ)) := by
  refine (pe_orT ha hb).conv fun σ H Q h => ?_
  obtain ⟨w, ρ, S, d, S', st, hm, q⟩ := h
  obtain ⟨x, S1, h1, hm⟩ := bind_ok hm
  obtain ⟨k, S2, h2, hm⟩ := bind_ok hm
  obtain ⟨e2, rfl⟩ := opt_ok h2
  refine ⟨w, ρ, S, x, S2, st, h1, fun w1 v1 l1 k1 r1 rp1 => ⟨k, RpP.tru (.inl rp1) e2, ?_⟩⟩
  cases k with
  | true =>
    obtain ⟨e, rfl⟩ := pure_ok hm
    subst e
    exact q w1 _ l1 k1 r1 rp1
  | false => exact ⟨w1, ρ, S2, d, S', st.next l1 k1 r1, hm, fun w2 v2 l2 k2 r2 rp2 => q w2 v2 (l1.trans l2 st.ok k1) k2 r2 rp2⟩
theorem s_not (ha : PE X a (rd X.K fa ma)) : PE X (.UnaryOp .Not a pos) (rd X.K fa (fun ρ => M.bind (ma ρ) fun x => M.bind (M.opt x.tru) fun k => M.pure (.bl (!k)))) := by
  refine (pe_notT ha).conv fun σ H Q h => ?_
  obtain ⟨w, ρ, S, d, S', st, hm, q⟩ := h
  obtain ⟨x, S1, h1, hm⟩ := bind_ok hm
  obtain ⟨k, S2, h2, hm2⟩ := bind_ok hm
  obtain ⟨e2, rfl⟩ := opt_ok h2
  obtain ⟨e, rfl⟩ := pure_ok hm2
  subst e
  exact ⟨w, ρ, S, x, S', st, h1, fun w1 v1 l1 k1 r1 rp1 => ⟨k, RpP.tru (.inl rp1) e2, q w1 _ l1 k1 r1 (.bl _)⟩⟩
theorem s_neg (ha : PE X a (rd X.K fa ma)) : PE X (.UnaryOp .USub a pos) (rd X.K fa (fun ρ => M.bind (ma ρ) fun x => M.opt (negD x))) := by
  refine (pe_un un_neg ha).conv fun σ H Q h => ?_
  obtain ⟨w, ρ, S, d, S', st, hm, q⟩ := h
  obtain ⟨x, S1, h1, hm⟩ := bind_ok hm
  obtain ⟨h2, rfl⟩ := opt_ok hm
  refine ⟨w, ρ, S, x, S', st, h1, fun w1 v1 l1 k1 r1 rp1 => ?_⟩
  cases x <;> first | (cases h2; done) | skip
  case int i =>
    cases (Option.some.inj h2)
    cases rp1
    exact ⟨i, rfl, q w1 _ l1 k1 r1 (.int _)⟩
theorem s_ife {t : Expr} {mt : Env → M Bool} (hc : PT X t (rdT X.K fa mt)) (ha : PE X a (rd X.K fa ma)) (hb : PE X b (rd X.K fa mb)) : PE X (.IfExp t a b pos) (rd X.K fa (fun ρ => M.bind (mt ρ) fun k => match k with
    | true => ma ρ
    | false => mb ρ)) := by
  refine (pe_ifExp hc ha hb).conv fun σ H Q h => ?_
  obtain ⟨w, ρ, S, d, S', st, hm, q⟩ := h
  obtain ⟨k, S1, h1, hm⟩ := bind_ok hm
  refine ⟨w, ρ, S, k, S1, st, h1, fun w1 l1 k1 r1 => ?_⟩
  cases k with
  | true => exact ⟨w1, ρ, S1, d, S', st.next l1 k1 r1, hm, fun w2 v2 l2 k2 r2 rp2 => q w2 v2 (l1.trans l2 st.ok k1) k2 r2 rp2⟩
  | false => exact ⟨w1, ρ, S1, d, S', st.next l1 k1 r1, hm, fun w2 v2 l2 k2 r2 rp2 => q w2 v2 (l1.trans l2 st.ok k1) k2 r2 rp2⟩
/-! ### tests -/
theorem t_and {rest : List Expr} {mt mu : Env → M Bool} (ha : PT X a (rdT X.K fa mt)) (hb : PW X (.BoolOp .And (b :: rest) pos) (rdT X.K fa mu)) : PW X (.BoolOp .And (a :: b :: rest) pos) (rdT X.K fa (fun ρ => M.bind (mt ρ) fun k => match k with
    | true => mu ρ
    | false => M.pure false)) := by
  have h0 := pw_and ha hb
  refine ⟨fun wh pins s σ H Q I h => h0.run wh pins s σ H Q I ?_⟩
  obtain ⟨w, ρ, S, d, S', st, hm, q⟩ := h
  obtain ⟨k, S1, h1, hm⟩ := bind_ok hm
  refine ⟨w, ρ, S, k, S1, st, h1, fun w1 l1 k1 r1 => ?_⟩
  cases k with
  | true => exact ⟨w1, ρ, S1, d, S', st.next l1 k1 r1, hm, fun w2 l2 k2 r2 => q w2 (l1.trans l2 st.ok k1) k2 r2⟩
  | false =>
    obtain ⟨e, rfl⟩ := pure_ok hm
    subst e
    exact q w1 l1 k1 r1
theorem t_or {rest : List Expr} {mt mu : Env → M Bool} (ha : PT X a (rdT X.K fa mt)) (hb : PW X (.BoolOp .Or (b :: rest) pos) (rdT X.K fa mu)) : PW X (.BoolOp .Or (a :: b :: rest) pos) (rdT X.K fa (fun ρ => M.bind (mt ρ) fun k => match k with
    | true => M.pure true
    | false => mu ρ)) := by
  have h0 := pw_or ha hb
  refine ⟨fun wh pins s σ H Q I h => h0.run wh pins s σ H Q I ?_⟩
  obtain ⟨w, ρ, S, d, S', st, hm, q⟩ := h
  obtain ⟨k, S1, h1, hm⟩ := bind_ok hm
  refine ⟨w, ρ, S, k, S1, st, h1, fun w1 l1 k1 r1 => ?_⟩
  cases k with
  | false => exact ⟨w1, ρ, S1, d, S', st.next l1 k1 r1, hm, fun w2 l2 k2 r2 => q w2 (l1.trans l2 st.ok k1) k2 r2⟩
  | true =>
    obtain ⟨e, rfl⟩ := pure_ok hm
    subst e
    exact q w1 l1 k1 r1
theorem t_not {mt : Env → M Bool} (ha : PT X a (rdT X.K fa mt)) : PT X (.UnaryOp .Not a pos) (rdT X.K fa (fun ρ => M.bind (mt ρ) fun k => M.pure (!k))) := by
  refine (pt_not ha).conv fun σ H Q h => ?_
  obtain ⟨w, ρ, S, d, S', st, hm, q⟩ := h
  obtain ⟨k, S1, h1, hm⟩ := bind_ok hm
  obtain ⟨e, rfl⟩ := pure_ok hm
  subst e
  exact ⟨w, ρ, S, k, S', st, h1, fun w1 l1 k1 r1 => q w1 l1 k1 r1⟩
theorem t_val (ha : PE X a (rdP X.K fa ma)) (hp : plainT a = true) : PT X a (rdT X.K fa (fun ρ => M.bind (ma ρ) fun x => M.opt x.tru)) := by
  have he : ∀ whole, isTrue a X.env whole = (do let v ← whole; standAt a.pos; holding [v] (truthy v)) := by
    cases a <;> first | (cases hp; done) | (intro _; rfl)
  refine (pt_truth ha he).conv fun σ H Q h => ?_
  obtain ⟨w, ρ, S, d, S', st, hm, q⟩ := h
  obtain ⟨x, S1, h1, hm⟩ := bind_ok hm
  obtain ⟨h2, rfl⟩ := opt_ok hm
  exact ⟨w, ρ, S, x, S', st, h1, fun w1 v1 l1 k1 r1 rp1 => ⟨d, rp1.tru h2, q w1 l1 k1 r1⟩⟩
end
end Ev

/-! Displays, calls, places, slices. -/
namespace PySem
namespace HTR
open PySem PySem.Calls PyProof.Rows HT
section
variable {prog : Program} {w : World} {A : Around} {E : Value → Shared → Prop} {s : Shared}
theorem adjust_rev (n : Nat) : Builtin.Slice.sliceAdjust none none (-1) (n : Int) = ((n : Int) - 1, -1) := by
  unfold Builtin.Slice.sliceAdjust
  rfl
theorem places_rev (n : Nat) : Builtin.Slice.slicePlaces ((n : Int) - 1) (-1) (-1) = n := by
  unfold Builtin.Slice.slicePlaces
  have h1 : ¬ ((-1 : Int) > 0) := by decide
  rw [if_neg h1, show (- -1 : Int) = 1 by decide, Int.ediv_one]
  split <;> omega
theorem sliceApplied_rev {sl : Addr} {vl vu vs : Value} {n : Nat} {Q : Int × Int × Nat → Shared → Prop} (hs : s.heap.IsSliceOf sl vl vu vs) (pl : IsPart vl none) (pu : IsPart vu none) (ps : IsPart vs (some (-1)))
    (h : Q ((n : Int) - 1, -1, n) s) : wpAny (model prog w) A (Builtin.Slice.sliceApplied (.ref sl) (pure (n : Int))) Q E s := by
  obtain ⟨os, hos, hcs, hds⟩ := id hs
  unfold Builtin.Slice.sliceApplied Builtin.Slice.sliceFields
  refine wpAny_bind (wpAny_bind (wpAny_field hos hds (x := vl) rfl (wpAny_bind (wpAny_field hos hds (x := vu) rfl (wpAny_bind (wpAny_field hos hds (x := vs) rfl (wpAny_pure ?_)))))))
  refine wpAny_bind (slicePart_ ps ?_)
  show wpAny _ _ (if ((-1 : Int) == 0) = true then _ else _) _ _ s
  rw [if_neg (by decide)]
  refine wpAny_bind (slicePart_ pl (wpAny_bind (slicePart_ pu (wpAny_bind (wpAny_pure ?_)))))
  show wpAny _ _ (match Builtin.Slice.sliceAdjust none none (-1) (n : Int) with | (lo, hi) => pure (lo, (-1 : Int), Builtin.Slice.slicePlaces lo hi (-1))) _ _ s
  rw [adjust_rev n]
  show wpAny _ _ (pure ((n : Int) - 1, (-1 : Int), Builtin.Slice.slicePlaces ((n : Int) - 1) (-1) (-1))) _ _ s
  rw [places_rev]
  exact wpAny_pure h
theorem fm_congr {α β : Type} {f g : α → Option β} : ∀ {l : List α}, (∀ a ∈ l, f a = g a) → l.filterMap f = l.filterMap g
  | [], _ => rfl
  | a :: l, h => by
    rw [List.filterMap_cons, List.filterMap_cons, h a (List.mem_cons_self ..), fm_congr fun b hb => h b (List.mem_cons_of_mem _ hb)]
theorem pick_rev (xs : Array Value) : ((List.range xs.size).filterMap fun (m : Nat) => xs[((xs.size : Int) - 1 + (m : Int) * -1).toNat]?).toArray = xs.toList.reverse.toArray := by
  have e : ((List.range xs.size).filterMap fun (m : Nat) => xs[((xs.size : Int) - 1 + (m : Int) * -1).toNat]?) = ((List.range xs.size).map fun k => xs.size - 1 - k).filterMap (xs[·]?) := by
    rw [List.filterMap_map]
    refine fm_congr fun m hm => ?_
    have := List.mem_range.mp hm
    have e2 : ((xs.size : Int) - 1 + (m : Int) * -1).toNat = xs.size - 1 - m := by omega
    show xs[((xs.size : Int) - 1 + (m : Int) * -1).toNat]? = xs[xs.size - 1 - m]?
    rw [e2]
  rw [e, PySem.W.krv_range, List.filterMap_reverse, PySem.W.krv_all]
theorem getItem_tuple_rev {t sl : Addr} {items : Array Value} {vl vu vs : Value} {Q : Value → Shared → Prop} (ht : IsTup s.heap t items) (hs : s.heap.IsSliceOf sl vl vu vs) (pl : IsPart vl none) (pu : IsPart vu none) (ps : IsPart vs (some (-1)))
    (h : Q (.ref s.heap.objs.size) { s with heap := s.heap.push { cls := .type "tuple", data := .seq items.toList.reverse.toArray } })
    (hsz : items.size ≤ sizeLine) : wpAny (model prog w) A (getItem (.ref t) (.ref sl)) Q E s := by
  have htake : sizeOk (.seq items.toList.reverse.toArray) := by
    show items.toList.reverse.toArray.size ≤ sizeLine
    rw [List.size_toArray, List.length_reverse, Array.length_toList]
    exact hsz
  obtain ⟨os, hos, hcs, hds⟩ := id hs
  have hTs : s.TypeIs (.ref sl) "slice" := ⟨os, hos, hcs⟩
  unfold getItem
  try with_reducible refine wpAny_holding ?_
  first | refine wpAny_bind (wpAny_pure ?_) | skip
  refine wpAny_bind (wpAny_sequenceKey ht.typeIs (by decide) ?_)
  refine wpAny_bind (wpAny_callSpecial?_slot (name := Str.ofString "__getitem__") ht.typeIs PyProof.Rows.slot_tuple_getitem
    (wpAny_call_entry PyProof.Rows.slot_tuple_getitem ht.typeIs entry_tuple_getitem ?_ (args_tuple_getitem _ _)))
  show wpAny _ _ (Builtin.Tuple.tupleItemsOf (.ref t) >>= _) _ _ s
  refine wpAny_bind (tupleItemsOf_ ht ?_)
  refine wpAny_bind (wpAny_typeOf hTs ?_)
  rw [if_pos (by decide)]
  refine wpAny_bind (sliceApplied_rev hs pl pu ps ?_)
  have hno : ¬ ((((items.size : Int) - 1) == 0 && (-1 : Int) == 1 && items.size == items.size) = true) := by
    intro q
    rw [Bool.and_eq_true, Bool.and_eq_true] at q
    have q1 : (-1 : Int) = 1 := eq_of_beq q.1.2
    omega
  show wpAny _ _ (if (((items.size : Int) - 1) == 0 && (-1 : Int) == 1 && items.size == items.size) = true then _ else _) _ _ s
  rw [if_neg hno, pick_rev]
  first
    | exact wpAny_bind (m := Builtin.Tuple.tupleExact _) (wpAny_newObj_type (wpAny_pure ⟨_, rfl, wpAny_pure h⟩) htake)
    | exact wpAny_bind (m := Builtin.Tuple.tupleExact _) (wpAny_newObj_type (wpAny_bind (wpAny_pure (wpAny_pure ⟨_, rfl, wpAny_pure h⟩))) htake)
    | exact wpAny_bind (wpAny_bind (m := Builtin.Tuple.tupleExact _) (wpAny_newObj_type (wpAny_pure (wpAny_pure ⟨_, rfl, wpAny_pure h⟩)) htake))
    | exact wpAny_bind (wpAny_bind (m := Builtin.Tuple.tupleExact _) (wpAny_newObj_type (wpAny_pure ⟨_, rfl, wpAny_pure h⟩) htake))
end
end HTR
end PySem
namespace Ev
open PySem PySem.Spec PyProof.Rows L2

/-! ### x[::-1] of a list, a tuple -/
def tRevE (K : PySem.W.Frag) (te : TE) : TE := fun σ H Q => te σ H fun x H1 => (∃ a xs, x = .ref a ∧ SqL K H1 a xs ∧ ∀ p, H1 p = none → Q (.ref p) (upd H1 p (.lst xs.reverse))) ∨ ∃ a xs, x = .ref a ∧ SqT K H1 a xs ∧ ∀ p, H1 p = none → Q (.ref p) (upd H1 p (.tup xs.reverse))
theorem pe_revE {X : Cx} {e : Expr} {te : TE} {k : Nat} {p1 p2 p3 pos : Pos} (he : PE X e te) : PE X (.Subscript e (.Slice none none (some (.UnaryOp .USub (.Constant (.int 1) k p1) p2)) p3) pos) (tRevE X.K te) := by
  refine ⟨fun pins s σ H Q I h => ?_⟩
  refine Subscript_ (thn (he.run pins s σ H _ I h) fun v s1 ⟨x, H1, I1, r1, q1⟩ => ?_)
  have hst : PO X (some (.UnaryOp .USub (.Constant (.int 1) k p1) p2)) (tPart (tUn (rU fun i => .int (-i)) (tC (.int 1)))) := po_some (pe_un un_neg pe_int)
  refine wpAny_Slice (thn (po_none.run pins s1 σ H1 (fun o H2 => o = none ∧ H2 = H1) I1 ⟨rfl, rfl⟩) fun vl s2 ⟨l, H2, I2, pl, el, e2⟩ => ?_)
  subst el e2
  refine thn (po_none.run pins s2 σ H2 (fun o H3 => o = none ∧ H3 = H2) I2 ⟨rfl, rfl⟩) fun vu s3 ⟨u, H3, I3, pu, eu, e3⟩ => ?_
  subst eu e3
  refine thn (hst.run pins s3 σ H3 (fun o H4 => o = some (-1) ∧ H4 = H3) I3 ⟨1, rfl, -1, rfl, rfl, rfl⟩) fun vs s4 ⟨o, H4, I4, ps, eo, e4⟩ => ?_
  subst eo e4
  have I5 : Inv X pins σ H4 { s4 with heap := s4.heap.push { cls := .type "slice", data := .fields #[vl, vu, vs] } } := I4.kept (t' := s4.toks) fun b ob q => Heap.get?_push_of_some _ q
  rcases q1 with ⟨a, xs, ex, hx, q⟩ | ⟨a, xs, ex, hx, q⟩
  · subst ex
    cases r1
    obtain ⟨its, r, ht, hz⟩ := I5.list hx
    have hlen := r.length
    show wpAny (model X.prog X.w) X.A (subscriptTail e (.Slice none none (some (.UnaryOp .USub (.Constant (.int 1) k p1) p2)) p3) (.ref a) (.ref s4.heap.objs.size)) (EP X pins σ Q) X.xe { s4 with heap := s4.heap.push { cls := .type "slice", data := .fields #[vl, vu, vs] } }
    refine tail_any (ops := [.ref a, .ref s4.heap.objs.size]) ht.isList.typeIs (PySem.slot_list_getitem.lookup) ?_ (by with_unfolding_all rfl)
    refine wpAny_getItem_list_slice ht.isList (Heap.IsSliceOf.new _ vl vu vs) pl pu ps (by decide) ?_ (by rw [List.size_toArray]; omega)
    rw [PySem.W.krv_pick]
    refine ⟨.ref _, _, I5.laid (t' := s4.toks) (o := .lst xs.reverse) (fun b ob q => Heap.get?_push_of_some _ q) (Nat.le_refl _) ?_, rfl, q _ (I5.hok.fresh (Nat.le_refl _))⟩
    exact ⟨by rw [List.length_reverse]; exact hz, _, 0, r.reverse, Heap.get?_push_size _ rfl⟩
  · subst ex
    cases r1
    obtain ⟨its, r, ht, hz⟩ := I5.tuple hx
    have hlen := r.length
    show wpAny (model X.prog X.w) X.A (subscriptTail e (.Slice none none (some (.UnaryOp .USub (.Constant (.int 1) k p1) p2)) p3) (.ref a) (.ref s4.heap.objs.size)) (EP X pins σ Q) X.xe { s4 with heap := s4.heap.push { cls := .type "slice", data := .fields #[vl, vu, vs] } }
    refine tail_any (ops := [.ref a, .ref s4.heap.objs.size]) ht.typeIs (PyProof.Rows.slot_tuple_getitem.lookup) ?_ (by with_unfolding_all rfl)
    refine HTR.getItem_tuple_rev ht (Heap.IsSliceOf.new _ vl vu vs) pl pu ps ?_ (by rw [List.size_toArray]; omega)
    refine ⟨.ref _, _, I5.laid (t' := s4.toks) (o := .tup xs.reverse) (fun b ob q => Heap.get?_push_of_some _ q) (Nat.le_refl _) ?_, rfl, q _ (I5.hok.fresh (Nat.le_refl _))⟩
    exact ⟨by rw [List.length_reverse]; exact hz, _, r.reverse, IsTup.new _ _⟩

section
variable {K : PySem.W.Frag} {fa : Nat → Addr} {X : Cx} {a b c : Expr} {ma mb mc : Env → M D} {pos : Pos}
/-- a frame's reading of what a step hands on -/
theorem RN.back {w w1 w' : Wd} {z : V} {d : D} (h : RN K fa w1 w' z d) (l : w.Le w1) (k : w.Ok) (k1 : w1.Ok) : RN K fa w w' z d := by
  cases d with
  | lst ds =>
    obtain ⟨a, vs, e1, n, rest⟩ := h
    exact ⟨a, vs, e1, l.free k k1 n, rest⟩
  | _ => exact h
theorem s_rev (ha : PE X a (rdP X.K fa ma)) {k : Nat} {p1 p2 p3 : Pos} : PE X (.Subscript a (.Slice none none (some (.UnaryOp .USub (.Constant (.int 1) k p1) p2)) p3) pos) (rdN X.K fa (fun ρ => M.bind (ma ρ) fun x => M.opt (revD x))) := by
  refine (pe_revE ha).conv fun σ H Q h => ?_
  obtain ⟨w, ρ, S, d, S', st, hm, q⟩ := h
  obtain ⟨x, S1, h1, hm⟩ := bind_ok hm
  obtain ⟨h2, rfl⟩ := opt_ok hm
  refine ⟨w, ρ, S, x, S', st, h1, fun w1 v1 l1 k1 r1 rp1 => ?_⟩
  cases x <;> first | (cases h2; done) | skip
  case tup xs =>
    obtain ⟨_, e⟩ := ite_someB h2
    subst e
    obtain ⟨p, vs, e1, s1, ll, rr⟩ := rp1.tup
    exact .inr ⟨p, vs, e1, s1, fun p hp => newT k1 r1 hp (by rw [List.length_reverse]; exact ll) rr.rev fun w' z l k r rn => q w' z (l1.trans l st.ok k1) k r (rn.back l1 st.ok k1)⟩
  case lst xs =>
    cases (Option.some.inj h2)
    obtain ⟨p, vs, e1, s1, ll, rr⟩ := rp1.lst
    exact .inl ⟨p, vs, e1, .of s1, fun p hp => newL k1 r1 hp (by rw [List.length_reverse]; exact ll) rr.rev fun w' z l k r rn => q w' z (l1.trans l st.ok k1) k r (rn.back l1 st.ok k1)⟩

/-! ### argument lists -/
theorem a_nil {R : Wd → V → D → Prop} : PA X [] (rdA X.K fa R (fun _ => M.pure [])) := by
  refine pa_nil.conv fun σ H Q h => ?_
  obtain ⟨w, ρ, S, ds, S', st, hm, q⟩ := h
  obtain ⟨e, rfl⟩ := pure_ok hm
  subst e
  have := q w [] (.refl w) st.ok st.sr .nil
  rw [st.h] at this
  exact this
theorem a_cons {R : Wd → V → D → Prop} (hR : ∀ (w w' : Wd) v d, R w v d → w.Le w' → w.Ok → R w' v d) {es : List Expr} {ms : Env → M (List D)} (ha : PE X a (rdG X.K fa (fun _ w' v d => R w' v d) ma)) (hs : PA X es (rdA X.K fa R ms))
    (hst : starEach (a :: es) X.env = (false, eval a X.env) :: starEach es X.env) : PA X (a :: es) (rdA X.K fa R (fun ρ => M.bind (ma ρ) fun x => M.bind (ms ρ) fun xs => M.pure (x :: xs))) := by
  refine (pa_cons ha hs hst).conv fun σ H Q h => ?_
  obtain ⟨w, ρ, S, ds, S', st, hm, q⟩ := h
  obtain ⟨x, S1, h1, hm⟩ := bind_ok hm
  obtain ⟨xs, S2, h2, hm⟩ := bind_ok hm
  obtain ⟨e, rfl⟩ := pure_ok hm
  subst e
  refine ⟨w, ρ, S, x, S1, st, h1, fun w1 v1 l1 k1 r1 rp1 => ?_⟩
  exact ⟨w1, ρ, S1, xs, S', st.next l1 k1 r1, h2, fun w2 vs l2 k2 r2 rp2 => q w2 _ (l1.trans l2 st.ok k1) k2 r2 (.cons (hR _ _ _ _ rp1 l2 k1) rp2)⟩
theorem Rps.of_paired {w : Wd} : ∀ {vs : List V} {ds : List D}, Paired (Rp K fa w) vs ds → Rps K fa w vs ds
  | [], _, h => by cases h; exact .nil
  | v :: vs, _, h => by
    cases h with
    | cons a b => exact .cons a (Rps.of_paired b)
theorem cons_guard {xs : List D} {d : D} {S S' : Sto} (h : M.guard (decide (xs.length ≤ 100)) (M.pure d) S = .ok d S') : xs.length ≤ 100 := of_decide_eq_true (guard_ok h).1
theorem s_tup {es : List Expr} {x1} {ms : Env → M (List D)} (hs : PA X es (rdA X.K fa (Rp X.K fa) ms)) : PE X (.Tuple es x1 pos) (rd X.K fa (fun ρ => M.bind (ms ρ) fun xs => M.guard (decide (xs.length ≤ 100)) (M.pure (.tup xs)))) := by
  refine (pe_tup hs).conv fun σ H Q h => ?_
  obtain ⟨w, ρ, S, d, S', st, hm, q⟩ := h
  obtain ⟨xs, S1, h1, hm⟩ := bind_ok hm
  obtain ⟨hl, hm2⟩ := guard_ok hm
  have hl := of_decide_eq_true hl
  obtain ⟨e, rfl⟩ := pure_ok hm2
  subst e
  refine ⟨w, ρ, S, xs, S', st, h1, fun w1 vs l1 k1 r1 rp1 => ?_⟩
  have rr := Rps.of_paired rp1
  have hz : vs.length ≤ sizeLine := by rw [rr.len, sizeLine_eq]; omega
  exact ⟨hz, fun p hp => newT k1 r1 hp hz rr fun w' z l k r rn => q w' z (l1.trans l st.ok k1) k r rn⟩
theorem s_lst {es : List Expr} {ms : Env → M (List D)} (hs : PA X es (rdA X.K fa (Rp X.K fa) ms)) : PE X (.List es pos) (rdN X.K fa (fun ρ => M.bind (ms ρ) fun xs => M.guard (decide (xs.length ≤ 100)) (M.pure (.lst xs)))) := by
  refine (pe_lst hs).conv fun σ H Q h => ?_
  obtain ⟨w, ρ, S, d, S', st, hm, q⟩ := h
  obtain ⟨xs, S1, h1, hm⟩ := bind_ok hm
  obtain ⟨hl, hm2⟩ := guard_ok hm
  have hl := of_decide_eq_true hl
  obtain ⟨e, rfl⟩ := pure_ok hm2
  subst e
  refine ⟨w, ρ, S, xs, S', st, h1, fun w1 vs l1 k1 r1 rp1 => ?_⟩
  have rr := Rps.of_paired rp1
  have hz : vs.length ≤ sizeLine := by rw [rr.len, sizeLine_eq]; omega
  exact ⟨hz, fun p hp => newL k1 r1 hp hz rr fun w' z l k r rn => q w' z (l1.trans l st.ok k1) k r (rn.back l1 st.ok k1)⟩
theorem s_cell {es : List Expr} {ms : Env → M (List D)} (hs : PA X es (rdA X.K fa (Rp X.K fa) ms)) : PE X (.List es pos) (rd X.K fa (fun ρ => M.bind (ms ρ) fun xs => M.guard (decide (xs.length ≤ 100)) fun S => .ok (.loc S.length) (S ++ [.cell xs]))) := by
  refine (pe_lst hs).conv fun σ H Q h => ?_
  obtain ⟨w, ρ, S, d, S', st, hm, q⟩ := h
  obtain ⟨xs, S1, h1, hm⟩ := bind_ok hm
  obtain ⟨hl, hm2⟩ := guard_ok hm
  have hl := of_decide_eq_true hl
  have hm3 : Res.ok (D.loc S1.length) (S1 ++ [Ob.cell xs]) = Res.ok d S' := hm2
  injection hm3 with e1 e2
  subst e1 e2
  refine ⟨w, ρ, S, xs, S1, st, h1, fun w1 vs l1 k1 r1 rp1 => ?_⟩
  have rr := Rps.of_paired rp1
  have hz : vs.length ≤ sizeLine := by rw [rr.len, sizeLine_eq]; omega
  refine ⟨hz, fun p hp => ?_⟩
  have l2 := Wd.new_le (w := w1) (p := p) (o := .lst vs) hp
  have k2 := Wd.new_ok (w := w1) (p := p) (o := .lst vs) k1 hp
  obtain ⟨nf, na⟩ := new_free k1 hp
  have l3 : w1.Le ((w1.new p (.lst vs)).cel p) := ⟨l2.f, l2.fn, ⟨[p], rfl, fun a m => by rw [List.mem_singleton.mp m]; exact hp⟩, l2.h⟩
  have kp := l3.kp k1
  refine q ((w1.new p (.lst vs)).cel p) (.ref p) (l1.trans l3 st.ok k1) ⟨k2.fz, fun a m => ?_, fun a m f => ?_, ?_⟩ ⟨?_, fun n a o e1 e2 => ?_⟩ (.loc ?_)
  · rcases List.mem_append.mp m with m | m
    · exact k2.ce a m
    · rw [List.mem_singleton.mp m]
      exact ⟨vs, upd_same⟩
  · rcases List.mem_append.mp m with m | m
    · exact k2.cf a m f
    · rw [List.mem_singleton.mp m] at f
      exact nf f
  · show (w1.A ++ [p]).Nodup
    rw [List.nodup_append]
    exact ⟨k1.nd, by simp, fun x hx y hy z => na (by rw [← List.mem_singleton.mp hy, ← z]; exact hx)⟩
  · show (w1.A ++ [p]).length = (S1 ++ [Ob.cell xs]).length
    rw [List.length_append, List.length_append, r1.len]
    rfl
  · have e1 : (w1.A ++ [p])[n]? = some a := e1
    by_cases hn : n < w1.A.length
    · rw [List.getElem?_append_left hn] at e1
      rw [List.getElem?_append_left (by rw [← r1.len]; exact hn)] at e2
      have q := r1.at_ n a o e1 e2
      cases o with
      | cell ds =>
        obtain ⟨us, h1, h2, h3⟩ := q
        exact ⟨us, by show upd w1.H p _ a = _; rw [upd_ne (ne_of_none h1 hp)]; exact h1, h2, h3.keep kp⟩
    · rw [List.getElem?_append_right (by omega)] at e1
      rw [List.getElem?_append_right (by rw [← r1.len]; omega), ← r1.len] at e2
      have hz : n - w1.A.length = 0 := by
        rcases Nat.eq_zero_or_pos (n - w1.A.length) with z | z
        · exact z
        · rw [List.getElem?_eq_none (by simp; omega)] at e1
          cases e1
      rw [hz] at e1 e2
      cases e1
      cases e2
      exact ⟨vs, upd_same, by assumption, rr.keep kp⟩
  · show (w1.A ++ [p])[S1.length]? = some p
    rw [← r1.len, List.getElem?_append_right (Nat.le_refl _), Nat.sub_self]
    rfl

/-! ### calls -/
theorem RR.back {w w1 w' : Wd} {z : V} {r : RV} (h : RR K fa w1 w' z r) (l : w.Le w1) (k : w.Ok) (k1 : w1.Ok) : RR K fa w w' z r := by
  cases r with
  | own ds =>
    obtain ⟨a, vs, e1, n, rest⟩ := h
    exact ⟨a, vs, e1, l.free k k1 n, rest⟩
  | val d => exact h
abbrev rdR (K : PySem.W.Frag) (fa : Nat → Addr) (m : Env → M RV) : TE := rdG K fa (fun w w' v d => RR K fa w w' v d) m
theorem rdR_rd {m : Env → M RV} {σ : L2.St} {H : Hp} {Q : VK} (h : rd K fa (fun ρ => M.bind (m ρ) fun r => M.pure r.d) σ H Q) : rdR K fa m σ H Q := by
  obtain ⟨w, ρ, S, d, S', st, hm, q⟩ := h
  obtain ⟨r, S1, h1, hm⟩ := bind_ok hm
  obtain ⟨e, rfl⟩ := pure_ok hm
  subst e
  refine ⟨w, ρ, S, r, S', st, h1, fun w' v l k rr rn => ?_⟩
  cases r with
  | own ds =>
    obtain ⟨w2, l2, k2, r2, rp, e⟩ := Fresh.fix (show Fresh K fa w w' v ds from rn) l k rr
    rw [← e]
    exact q w2 v l2 k2 r2 rp
  | val d => exact q w' v l k rr rn
theorem s_call {x : Str} {f : Nat} {cfg : Cfg} {fns gns : List Str} {es : List Expr} {p : Pos} {ms : Env → M (List D)} (G : Good X cfg fa fns gns) (hf : fns[f]? = some x) (hg : Gl X x) (hd : (x == ("__debug__" : Str)) = false)
    (hs : PA X es (rdA X.K fa (Rp X.K fa) ms)) (hne : es ≠ []) (hst : ∀ e r, es = e :: r → starEach (e :: r) X.env = (false, eval e X.env) :: starEach r X.env ∧ (backTo pos (starEach r X.env)).any (·.1) = false) :
    PE X (.Call (.Name x p) es [] pos) (rdR X.K fa (fun ρ => M.bind (ms ρ) fun xs => cfg.C f xs)) := by
  obtain ⟨fd, ps, k, hr, hk, hb, F⟩ := G.fn f x hf
  have hm := G.fnv f x hf
  have go : ∀ σ H Q, rdR X.K fa (fun ρ => M.bind (ms ρ) fun xs => cfg.C f xs) σ H Q → tCall (spC X.K fa (cfg.C f)) [] E0 (rdA X.K fa (Rp X.K fa) ms) σ H Q := fun σ H Q h => by
    obtain ⟨w, ρ, S, r, S', st, hm, q⟩ := h
    obtain ⟨xs, S1, h1, hm⟩ := bind_ok hm
    refine ⟨w, ρ, S, xs, S1, st, h1, fun w1 vs l1 k1 r1 rp1 => ?_⟩
    refine ⟨w1, S1, xs, r, S', rfl, k1, r1, by rw [List.append_nil]; exact Rps.of_paired rp1, hm, fun w' v l k rr rn => q w' v (l1.trans l st.ok k1) k rr (rn.back l1 st.ok k1)⟩
  cases es with
  | nil => exact absurd rfl hne
  | cons e r =>
    obtain ⟨h1, h2⟩ := hst e r rfl
    exact (pe_call F hr hg hm hk hb .nil pass0 hs hd h1 h2).conv go
theorem s_call0 {x : Str} {f : Nat} {cfg : Cfg} {fns gns : List Str} {p : Pos} (G : Good X cfg fa fns gns) (hf : fns[f]? = some x) (hg : Gl X x) (hd : (x == ("__debug__" : Str)) = false) :
    PE X (.Call (.Name x p) [] [] pos) (rdR X.K fa (fun _ => cfg.C f [])) := by
  obtain ⟨fd, ps, k, hr, hk, hb, F⟩ := G.fn f x hf
  refine (pe_call0 F hr hg (G.fnv f x hf) hk hb .nil pass0 hd).conv fun σ H Q h => ?_
  obtain ⟨w, ρ, S, r, S', st, hm, q⟩ := h
  exact ⟨w, S, [], r, S', st.h, st.ok, st.sr, .nil, hm, q⟩
/-- a built-in by its name -/
theorem s_blt {f : Bl} {cfg : Cfg} {fns gns : List Str} {e : Expr} {r : List Expr} {p : Pos} {ms : Env → M (List D)} (G : Good X cfg fa fns gns) (hg : Gl X (nmBl f))
    (hs : PA X (e :: r) (rdA X.K fa (RpP X.K fa) ms)) (hst : starEach (e :: r) X.env = (false, eval e X.env) :: starEach r X.env) (hpl : (backTo pos (starEach r X.env)).any (·.1) = false) :
    PE X (.Call (.Name (nmBl f) p) (e :: r) [] pos) (rdN X.K fa (fun ρ => M.bind (ms ρ) fun xs => M.opt (blt f xs))) := by
  have hm : X.mg (nmBl f) = none := G.bl _ (by cases f <;> decide +kernel)
  have hn : nmBl f ≠ "__name__" := by cases f <;> decide +kernel
  have hd : (nmBl f == ("__debug__" : Str)) = false := by cases f <;> decide +kernel
  have main : PE X (.Call (.Name (nmBl f) p) (e :: r) [] pos) (tCB (rBl X.K f) (rdA X.K fa (RpP X.K fa) ms)) := by
    cases f
    case len => exact pe_callB (id := "len") (blr G.calm .len) hg hm PySem.boot_len hs hn hd hst hpl
    case abs => exact pe_callB (id := "abs") (blr G.calm .abs) hg hm PyProof.Rows.boot_abs hs hn hd hst hpl
    case int => exact pe_callTy (T := "int") (blr G.calm .int) hg hm (by decide +kernel) hs hn hd hst hpl
    case min2 => exact pe_callB (id := "min") (blr G.calm .min2) hg hm (by decide +kernel) hs hn hd hst hpl
    case max2 => exact pe_callB (id := "max") (blr G.calm .max2) hg hm (by decide +kernel) hs hn hd hst hpl
    case tuple => exact pe_callTy (T := "tuple") (blr G.calm .tuple) hg hm (by decide +kernel) hs hn hd hst hpl
    case list => exact pe_callTy (T := "list") (blr G.calm .list) hg hm (by decide +kernel) hs hn hd hst hpl
    case str => exact pe_callTy (T := "str") (blr G.calm .str) hg hm (by decide +kernel) hs hn hd hst hpl
    case all => exact pe_callB (id := "all") (blr G.calm .all) hg hm (by decide +kernel) hs hn hd hst hpl
  refine main.conv fun σ H Q h => ?_
  obtain ⟨w, ρ, S, d, S', st, hm, q⟩ := h
  obtain ⟨xs, S1, h1, hm⟩ := bind_ok hm
  obtain ⟨h2, rfl⟩ := opt_ok hm
  refine ⟨w, ρ, S, xs, S', st, h1, fun w1 vs l1 k1 r1 rp1 => ?_⟩
  exact bll f w1 S' xs d vs Q k1 r1 rp1 h2 fun w' z l k r rn => q w' z (l1.trans l st.ok k1) k r (rn.back l1 st.ok k1)

/-! ### isinstance -/
def tyS : D → String
  | .non => "NoneType" | .bl _ => "bool" | .int _ => "int" | .str _ => "str" | .tup _ => "tuple" | .lst _ => "list" | _ => ""
theorem Rp.tyx {w : Wd} {v : V} {d : D} (h : Rp K fa w v d) (o : d.isiOk = true) : TyX K w.H v (.type (tyS d)) := by
  cases d with
  | non => cases h; exact .base .non
  | bl b => cases h; exact .base (.bl b)
  | int b => cases h; exact .base (.int b)
  | str b =>
    cases h with
    | str t => exact .base (.str _)
  | tup xs =>
    cases h with
    | tup a b c =>
      rcases a with (a | ⟨ob, a⟩) | ⟨ob, its, n, e1, e2, _⟩
      · exact .base (.tup a)
      · exact .fTuple a
      · exact .kTuple e1 e2
  | lst xs =>
    cases h with
    | lst a b c e => exact .base (.lst a)
  | rol _ => cases o
  | loc _ => cases o
  | fn _ => cases o
inductive K6 where
  | non | bl | int | str | tup | lst
def K6.nm : K6 → String
  | .non => "NoneType" | .bl => "bool" | .int => "int" | .str => "str" | .tup => "tuple" | .lst => "list"
def K6.has : K6 → Ty → Bool
  | .int, .int => true | .bl, .int => true | .bl, .bool => true | .str, .str => true | .tup, .tup => true | .lst, .lst => true | _, _ => false
theorem K6.kit (k : K6) (t : Ty) : kitB k.nm (tyName t) = some (k.has t) := by
  cases k <;> cases t <;> decide +kernel
theorem kd_ex (d : D) (o : d.isiOk = true) : ∃ k : K6, tyS d = k.nm ∧ ∀ t : Ty, t.has d = k.has t := by
  cases d with
  | non => exact ⟨.non, rfl, fun t => by cases t <;> rfl⟩
  | bl _ => exact ⟨.bl, rfl, fun t => by cases t <;> rfl⟩
  | int _ => exact ⟨.int, rfl, fun t => by cases t <;> rfl⟩
  | str _ => exact ⟨.str, rfl, fun t => by cases t <;> rfl⟩
  | tup _ => exact ⟨.tup, rfl, fun t => by cases t <;> rfl⟩
  | lst _ => exact ⟨.lst, rfl, fun t => by cases t <;> rfl⟩
  | rol _ => cases o
  | loc _ => cases o
  | fn _ => cases o
theorem kit_has (d : D) (t : Ty) (o : d.isiOk = true) : PySem.W.kitOne K (.type (tyS d)) (.type (tyName t)) = some (t.has d) := by
  obtain ⟨k, e1, e2⟩ := kd_ex d o
  rw [e1, e2]
  exact kit_ty (k.kit t)
theorem kit_any (d : D) (o : d.isiOk = true) : ∀ ts : List Ty, PySem.W.kitAny K (.type (tyS d)) (ts.map fun t => Value.type (tyName t)) = some (ts.any fun t => t.has d)
  | [] => rfl
  | t :: ts => by
    rw [List.map_cons, List.any_cons]
    refine kitAny_cons (kit_has d t o) (fun e => ?_) (fun e => ?_)
    · rw [e, Bool.false_or]
      exact kit_any d o ts
    · rw [e, Bool.true_or]
theorem ty_names (t : Ty) : bootBuiltins (tyName t : Str) = some (.type (tyName t)) := by cases t <;> decide +kernel
theorem pe_ty {t : Ty} {cfg : Cfg} {fns gns : List Str} (G : Good X cfg fa fns gns) {e : Expr} (h : okTy t X.env.scope e = true) : PE X e (tC (.ty (tyName t))) := by
  cases e <;> first | (cases h; done) | skip
  case Name x p =>
    have h : (decide (x = (tyName t : Str)) && glB X.env.scope x) = true := h
    rw [Bool.and_eq_true, decide_eq_true_eq] at h
    obtain ⟨e, h2⟩ := h
    subst e
    have hg : Gl X (tyName t : Str) := by
      unfold glB at h2
      show X.env.scope.names.lookup _ = _
      split at h2
      · assumption
      · cases h2
    exact pe_bltn hg (G.bl _ (by cases t <;> decide +kernel)) (ty_names t) rfl (by cases t <;> decide +kernel) (by cases t <;> decide +kernel)
theorem okTy_star {t : Ty} {sc : Scope} {e : Expr} {es : List Expr} {env : PySem.Env} (h : okTy t sc e = true) : starEach (e :: es) env = (false, eval e env) :: starEach es env := by
  cases e <;> first | (cases h; done) | rfl
theorem pa_tys {cfg : Cfg} {fns gns : List Str} (G : Good X cfg fa fns gns) : ∀ {ts : List Ty} {es : List Expr}, okTys ts X.env.scope es = true → PA X es (fun σ H Q => Q (ts.map fun t => .ty (tyName t)) H)
  | [], [], _ => pa_nil
  | [], _ :: _, h => by cases h
  | _ :: _, [], h => by cases h
  | t :: ts, e :: es, h => by
    have h : (okTy t X.env.scope e && okTys ts X.env.scope es) = true := h
    rw [Bool.and_eq_true] at h
    exact pa_cons (pe_ty G h.1) (pa_tys G h.2) (okTy_star h.1)
theorem paired_ty : ∀ ts : List Ty, Paired ClsV (ts.map fun t => V.ty (tyName t)) (ts.map fun t => Value.type (tyName t))
  | [] => .nil
  | t :: ts => .cons (.ty _) (paired_ty ts)
theorem s_isi {ts : List Ty} {cfg : Cfg} {fns gns : List Str} {p : Pos} (G : Good X cfg fa fns gns) (hg : Gl X "isinstance") (ha : PE X a (rd X.K fa ma)) (hst : ∀ r, starEach (a :: r) X.env = (false, eval a X.env) :: starEach r X.env)
    (hc : okTyA ts X.env.scope c = true) : PE X (.Call (.Name "isinstance" p) [a, c] [] pos) (rd X.K fa (fun ρ => M.bind (ma ρ) fun x => M.guard x.isiOk (M.pure (.bl (ts.any fun t => t.has x))))) := by
  have hm : X.mg "isinstance" = none := G.bl _ (by decide +kernel)
  by_cases hc2 : ∃ es k p2, c = .Tuple es k p2
  · obtain ⟨es, k, p2, rfl⟩ := hc2
    have hc : (decide (ts.length ≤ 10) && okTys ts X.env.scope es) = true := hc
    rw [Bool.and_eq_true, decide_eq_true_eq] at hc
    obtain ⟨hl, hc⟩ := hc
    refine (pe_callB (id := "isinstance") call_isiT hg hm PyProof.Rows.boot_isinstance (pa_cons ha (pa_cons (pe_tup (pa_tys G hc)) pa_nil rfl) (hst _)) (by decide +kernel) (by decide +kernel) (hst _) rfl).conv fun σ H Q h => ?_
    obtain ⟨w, ρ, S, d, S', st, hm, q⟩ := h
    obtain ⟨x, S1, h1, hm⟩ := bind_ok hm
    obtain ⟨ho, hm2⟩ := guard_ok hm
    obtain ⟨e, rfl⟩ := pure_ok hm2
    subst e
    refine ⟨w, ρ, S, x, S', st, h1, fun w1 v1 l1 k1 r1 rp1 => ?_⟩
    refine ⟨?_, fun tp hp => ?_⟩
    · rw [List.length_map, sizeLine_eq]
      omega
    · have l2 := Wd.new_le (w := w1) (p := tp) (o := .tup (ts.map fun t => V.ty (tyName t))) hp
      have k2 := Wd.new_ok (w := w1) (p := tp) (o := .tup (ts.map fun t => V.ty (tyName t))) k1 hp
      have rp2 := rp1.keep (l2.kp k1)
      exact ⟨v1, tp, _, _, _, _, rfl, upd_same, paired_ty ts, rp2.tyx ho, kit_any x ho ts, q (w1.new tp _) _ (l1.trans l2 st.ok k1) k2 (r1.new k1 hp) (.bl _)⟩
  · have h1 : ∃ t, ts = [t] ∧ okTy t X.env.scope c = true := by
      cases c <;> first | (exact absurd ⟨_, _, _, rfl⟩ hc2) | skip
      all_goals
        obtain _ | ⟨t, _ | ⟨u, r⟩⟩ := ts
        · cases hc
        · exact ⟨t, rfl, hc⟩
        · cases hc
    obtain ⟨t, rfl, ht⟩ := h1
    refine (pe_callB (id := "isinstance") call_isi hg hm PyProof.Rows.boot_isinstance (pa_cons ha (pa_cons (pe_ty G ht) pa_nil (okTy_star ht)) (hst _)) (by decide +kernel) (by decide +kernel) (hst _) ?_).conv fun σ H Q h => ?_
    · rw [okTy_star ht] <;> rfl
    obtain ⟨w, ρ, S, d, S', st, hm, q⟩ := h
    obtain ⟨x, S1, h1, hm⟩ := bind_ok hm
    obtain ⟨ho, hm2⟩ := guard_ok hm
    obtain ⟨e, rfl⟩ := pure_ok hm2
    subst e
    refine ⟨w, ρ, S, x, S', st, h1, fun w1 v1 l1 k1 r1 rp1 => ?_⟩
    refine ⟨v1, _, _, _, _, rfl, .ty _, rp1.tyx ho, kit_has x t ho, ?_⟩
    have := q w1 _ l1 k1 r1 (.bl _)
    simpa using this
end
end Ev

/-! Places, slices, comprehensions. -/
namespace Ev
open PySem PySem.Spec PyProof.Rows L2
section
variable {K : PySem.W.Frag} {fa : Nat → Addr} {X : Cx} {a b c : Expr} {ma mb mc : Env → M D} {pos : Pos}
theorem Rps.atI {w : Wd} {vs : List V} {ds : List D} {i : Int} {d : D} (h : Rps K fa w vs ds) (e : L2.atI ds i = some d) : ∃ v, L2.atI vs i = some v ∧ Rp K fa w v d := by
  unfold L2.atI at e ⊢
  rw [h.len]
  cases q : ixN ds.length i with
  | none =>
    rw [q] at e
    cases e
  | some j =>
    rw [q] at e
    obtain ⟨v, h1, h2⟩ := h.get (i := j) e
    exact ⟨v, h1, h2⟩
theorem s_idx (ha : PE X a (rdP X.K fa ma)) (hb : PE X b (rd X.K fa mb)) (hs : PlainIx b) : PE X (.Subscript a b pos) (rd X.K fa (fun ρ => M.bind (ma ρ) fun x => M.bind (mb ρ) fun j => idxM x j)) := by
  refine (pe_ix (ix_list.or ix_tup) ha hb hs).conv fun σ H Q h => ?_
  obtain ⟨w, ρ, S, d, S', st, hm, q⟩ := h
  obtain ⟨x, S1, h1, hm1⟩ := bind_ok hm
  obtain ⟨j, S2, h2, hm2⟩ := bind_ok hm1
  refine ⟨w, ρ, S, x, S1, st, h1, fun w1 v1 l1 k1 r1 rp1 => ?_⟩
  refine ⟨w1, ρ, S1, j, S2, st.next l1 k1 r1, h2, fun w2 v2 l2 k2 r2 rp2 => ?_⟩
  have l12 := l1.trans l2 st.ok k1
  have rx := rp1.mono l2 k1
  cases x <;> cases j <;> first | (cases hm2; done) | skip
  case tup.int xs i =>
    obtain ⟨e, rfl⟩ := opt_ok (show M.opt (L2.atI xs i) S2 = .ok d S' from hm2)
    cases rp2
    obtain ⟨p, vs, rfl, s1, _, rr⟩ := rx.tup
    obtain ⟨v, e1, r⟩ := rr.atI e
    exact .inr ⟨p, vs, i, v, rfl, rfl, s1, e1, q w2 v l12 k2 r2 r⟩
  case lst.int xs i =>
    obtain ⟨e, rfl⟩ := opt_ok (show M.opt (L2.atI xs i) S2 = .ok d S' from hm2)
    cases rp2
    obtain ⟨p, vs, rfl, s1, _, rr⟩ := rx.lst
    obtain ⟨v, e1, r⟩ := rr.atI e
    exact .inl ⟨p, vs, i, v, rfl, rfl, .of s1, e1, q w2 v l12 k2 r2 r⟩
  case rol.int xs i =>
    obtain ⟨e, rfl⟩ := opt_ok (show M.opt (L2.atI xs i) S2 = .ok d S' from hm2)
    cases rp2
    obtain ⟨p, vs, rfl, s1, _, rr⟩ := rx.rol
    obtain ⟨v, e1, r⟩ := rr.atI e
    exact .inl ⟨p, vs, i, v, rfl, rfl, s1.sq, e1, q w2 v l12 k2 r2 r⟩
  case loc.int n i =>
    have hm2 : (match S2[n]? with | some (.cell xs) => M.opt (L2.atI xs i) S2 | _ => .stk) = Res.ok d S' := hm2
    cases e0 : S2[n]? with
    | none =>
      rw [e0] at hm2
      cases hm2
    | some o =>
      cases o with
      | cell xs =>
        rw [e0] at hm2
        obtain ⟨e, rfl⟩ := opt_ok hm2
        cases rp2
        have rx := rx.val (fun _ z => nomatch z)
        cases rx with
        | loc hA =>
          obtain ⟨vs, s1, _, rr⟩ := r2.at_ _ _ _ hA e0
          obtain ⟨v, e1, r⟩ := rr.atI e
          exact .inl ⟨_, vs, i, v, rfl, rfl, .of s1, e1, q w2 v l12 k2 r2 r⟩
theorem Rps.cut {w : Wd} {vs : List V} {ds : List D} (h : Rps K fa w vs ds) (lo hi : Option Int) : Rps K fa w (cutV vs lo hi) (cut ds lo hi) := by
  unfold cutV Ev.cut
  rw [h.len]
  exact (h.drop _).take _
theorem cut_whole {α : Type} {xs : List α} {lo hi : Option Int} (h : HT.sIx xs.length 0 lo = 0 ∧ HT.sIx xs.length xs.length hi = xs.length) : cut xs lo hi = xs := by
  unfold cut
  rw [h.1, h.2, List.drop_zero, Nat.sub_zero, List.take_length]
abbrev rSlE (K : PySem.W.Frag) : V → Option Int → Option Int → Hp → VK → Prop := fun x lo hi H Q => rSlL K x lo hi H Q ∨ rSlA K x lo hi H Q
theorem sl_E : SlR X (rSlE X.K) := sl_list.or sl_tupA
theorem sll {w : Wd} {S : Sto} {x d : D} {v : V} {lo hi : Option Int} {Q : VK} (k : w.Ok) (r : SR K fa w S) (hx : RpP K fa w v x) (h : slD x lo hi = some d) (q : ∀ w' z, w.Le w' → w'.Ok → SR K fa w' S → RN K fa w w' z d → Q z w'.H) : rSlE K v lo hi w.H Q := by
  cases x <;> first | (cases h; done) | skip
  case tup xs =>
    cases (Option.some.inj h)
    obtain ⟨p, vs, rfl, s1, ll, rr⟩ := hx.tup
    refine .inr ⟨p, vs, rfl, s1, fun e => ?_, fun _ p hp => newT k r hp (Nat.le_trans (cutV_length vs lo hi) ll) (rr.cut lo hi) q⟩
    rw [rr.len] at e
    rw [cut_whole e] at q
    exact here k r q (Rp.tup s1 ll rr)
  case lst xs =>
    cases (Option.some.inj h)
    obtain ⟨p, vs, rfl, s1, ll, rr⟩ := hx.lst
    exact .inl ⟨p, vs, rfl, .of s1, fun p hp => newL k r hp (Nat.le_trans (cutV_length vs lo hi) ll) (rr.cut lo hi) q⟩
theorem s_slN {p2 : Pos} (ha : PE X a (rdP X.K fa ma)) : PE X (.Subscript a (.Slice none none none p2) pos) (rdN X.K fa (fun ρ => M.bind (ma ρ) fun x => M.opt (slD x none none))) := by
  refine (pe_slice sl_E ha po_none po_none).conv fun σ H Q h => ?_
  obtain ⟨w, ρ, S, d, S', st, hm, q⟩ := h
  obtain ⟨x, S1, h1, hm1⟩ := bind_ok hm
  obtain ⟨e, rfl⟩ := opt_ok hm1
  exact ⟨w, ρ, S, x, S', st, h1, fun w1 v1 l1 k1 r1 rp1 => sll k1 r1 rp1 e fun w' z l k r rn => q w' z (l1.trans l st.ok k1) k r (rn.back l1 st.ok k1)⟩
theorem toI_ok {x : D} {i : Int} {w : Wd} {v : V} (h : toI x = some i) (r : Rp K fa w v x) : v = .int i := by
  cases x <;> first | (cases h; done) | (cases h; cases r; rfl)
theorem s_slL {p2 : Pos} (ha : PE X a (rdP X.K fa ma)) (hb : PE X b (rd X.K fa mb)) : PE X (.Subscript a (.Slice (some b) none none p2) pos) (rdN X.K fa (fun ρ => M.bind (ma ρ) fun x => M.bind (mb ρ) fun l => M.bind (M.opt (toI l)) fun l => M.opt (slD x (some l) none))) := by
  refine (pe_slice sl_E ha (po_some hb) po_none).conv fun σ H Q h => ?_
  obtain ⟨w, ρ, S, d, S', st, hm, q⟩ := h
  obtain ⟨x, S1, h1, hm1⟩ := bind_ok hm
  obtain ⟨l, S2, h2, hm2⟩ := bind_ok hm1
  obtain ⟨i, S3, h3, hm3⟩ := bind_ok hm2
  obtain ⟨e3, rfl⟩ := opt_ok h3
  obtain ⟨e, rfl⟩ := opt_ok hm3
  refine ⟨w, ρ, S, x, S1, st, h1, fun w1 v1 l1 k1 r1 rp1 => ?_⟩
  refine ⟨w1, ρ, S1, l, S', st.next l1 k1 r1, h2, fun w2 v2 l2 k2 r2 rp2 => ?_⟩
  have l12 := l1.trans l2 st.ok k1
  exact ⟨i, toI_ok e3 rp2, sll k2 r2 (rp1.mono l2 k1) e fun w' z l k r rn => q w' z (l12.trans l st.ok k2) k r (rn.back l12 st.ok k2)⟩
theorem s_slU {p2 : Pos} (ha : PE X a (rdP X.K fa ma)) (hb : PE X b (rd X.K fa mb)) : PE X (.Subscript a (.Slice none (some b) none p2) pos) (rdN X.K fa (fun ρ => M.bind (ma ρ) fun x => M.bind (mb ρ) fun l => M.bind (M.opt (toI l)) fun l => M.opt (slD x none (some l)))) := by
  refine (pe_slice sl_E ha po_none (po_some hb)).conv fun σ H Q h => ?_
  obtain ⟨w, ρ, S, d, S', st, hm, q⟩ := h
  obtain ⟨x, S1, h1, hm1⟩ := bind_ok hm
  obtain ⟨l, S2, h2, hm2⟩ := bind_ok hm1
  obtain ⟨i, S3, h3, hm3⟩ := bind_ok hm2
  obtain ⟨e3, rfl⟩ := opt_ok h3
  obtain ⟨e, rfl⟩ := opt_ok hm3
  refine ⟨w, ρ, S, x, S1, st, h1, fun w1 v1 l1 k1 r1 rp1 => ?_⟩
  refine ⟨w1, ρ, S1, l, S', st.next l1 k1 r1, h2, fun w2 v2 l2 k2 r2 rp2 => ?_⟩
  have l12 := l1.trans l2 st.ok k1
  exact ⟨i, toI_ok e3 rp2, sll k2 r2 (rp1.mono l2 k1) e fun w' z l k r rn => q w' z (l12.trans l st.ok k2) k r (rn.back l12 st.ok k2)⟩
theorem s_slB {p2 : Pos} (ha : PE X a (rdP X.K fa ma)) (hb : PE X b (rd X.K fa mb)) (hc : PE X c (rd X.K fa mc)) : PE X (.Subscript a (.Slice (some b) (some c) none p2) pos) (rdN X.K fa (fun ρ => M.bind (ma ρ) fun x => M.bind (mb ρ) fun l => M.bind (M.opt (toI l)) fun l => M.bind (mc ρ) fun u => M.bind (M.opt (toI u)) fun u => M.opt (slD x (some l) (some u)))) := by
  refine (pe_slice sl_E ha (po_some hb) (po_some hc)).conv fun σ H Q h => ?_
  obtain ⟨w, ρ, S, d, S', st, hm, q⟩ := h
  obtain ⟨x, S1, h1, hm1⟩ := bind_ok hm
  obtain ⟨l, S2, h2, hm2⟩ := bind_ok hm1
  obtain ⟨i, S3, h3, hm3⟩ := bind_ok hm2
  obtain ⟨e3, rfl⟩ := opt_ok h3
  obtain ⟨u, S4, h4, hm4⟩ := bind_ok hm3
  obtain ⟨j, S5, h5, hm5⟩ := bind_ok hm4
  obtain ⟨e5, rfl⟩ := opt_ok h5
  obtain ⟨e, rfl⟩ := opt_ok hm5
  refine ⟨w, ρ, S, x, S1, st, h1, fun w1 v1 l1 k1 r1 rp1 => ?_⟩
  refine ⟨w1, ρ, S1, l, S3, st.next l1 k1 r1, h2, fun w2 v2 l2 k2 r2 rp2 => ⟨i, toI_ok e3 rp2, ?_⟩⟩
  have l12 := l1.trans l2 st.ok k1
  refine ⟨w2, ρ, S3, u, S', st.next l12 k2 r2, h4, fun w3 v3 l3 k3 r3 rp3 => ⟨j, toI_ok e5 rp3, ?_⟩⟩
  have l13 := l12.trans l3 st.ok k2
  exact sll k3 r3 ((rp1.mono l2 k1).mono l3 k2) e fun w' z l k r rn => q w' z (l13.trans l st.ok k3) k r (rn.back l13 st.ok k3)
theorem s_upper {x : Str} {p apos cpos : Pos} {mm : Str} (hmm : mm = ("upper" : Str)) (hl : (apos.endLine == cpos.line) = true) (ha : PE X (.Name x p) (rd X.K fa ma)) : PE X (.Call (.Attribute (.Name x p) mm apos) [] [] cpos) (rd X.K fa (fun ρ => M.bind (ma ρ) fun x => M.opt (upD x))) := by
  subst hmm
  refine (pe_bm0 PySem.F.plainAttrs_str PySem.F.slot_str_upper PySem.F.type_str_upper mt_upper ha rfl hl).conv fun σ H Q h => ?_
  obtain ⟨w, ρ, S, d, S', st, hm, q⟩ := h
  obtain ⟨x, S1, h1, hm1⟩ := bind_ok hm
  obtain ⟨e, rfl⟩ := opt_ok hm1
  refine ⟨w, ρ, S, x, S', st, h1, fun w1 v1 l1 k1 r1 rp1 => ?_⟩
  cases x <;> first | (cases e; done) | skip
  case str cs =>
    obtain ⟨c, e⟩ := ite_someB e
    subst e
    simp only [Bool.and_eq_true, decide_eq_true_eq, List.all_eq_true] at c
    obtain ⟨⟨c1, c2⟩, c3⟩ := c
    cases rp1 with
    | str t =>
      refine ⟨rfl, tx cs, rfl, rfl, by rw [tx_len]; omega, ?_⟩
      have e2 : Txt.upper (tx cs) = tx (upper cs) := by
        unfold upper
        exact (tx_codes _).symm
      rw [e2]
      exact q w1 _ l1 k1 r1 (.str ⟨by rw [sizeLine_eq]; omega, c2⟩)

/-! ### slots -/
theorem wipe_get (ρ : Env) : ∀ (vs : List Nat) (i : Nat), (Ev.wipe ρ vs)[i]? = if i ∈ vs then (if i < ρ.length then some none else none) else ρ[i]?
  | [], i => by simp [Ev.wipe]
  | v :: vs, i => by
    have ih := wipe_get ρ vs i
    have hl : ∀ vs : List Nat, (Ev.wipe ρ vs).length = ρ.length := fun vs => by
      induction vs with
      | nil => rfl
      | cons v vs ih => unfold Ev.wipe; rw [List.length_set, ih]
    unfold Ev.wipe
    by_cases h : v = i
    · subst h
      rw [List.getElem?_set, if_pos rfl, hl]
      simp
    · rw [List.getElem?_set, if_neg h, ih]
      have : i ∈ v :: vs ↔ i ∈ vs := by simp [Ne.symm h]
      simp only [this]
theorem wipe_getS (σ : L2.St) : ∀ (vs : List Nat) (i : Nat), (L2.wipe σ vs)[i]? = if i ∈ vs then (if i < σ.length then some none else none) else σ[i]?
  | [], i => by simp [L2.wipe]
  | v :: vs, i => by
    have ih := wipe_getS σ vs i
    unfold L2.wipe
    by_cases h : v = i
    · subst h
      rw [List.getElem?_set, if_pos rfl, L2.wipe_length]
      simp
    · rw [List.getElem?_set, if_neg h, ih]
      have : i ∈ v :: vs ↔ i ∈ vs := by simp [Ne.symm h]
      simp only [this]
theorem FR.wipe {w : Wd} {σ : L2.St} {ρ : Env} (f : FR K fa w σ ρ) (vs : List Nat) : FR K fa w (L2.wipe σ vs) (Ev.wipe ρ vs) := by
  have hl : ∀ vs : List Nat, (Ev.wipe ρ vs).length = ρ.length := fun vs => by
    induction vs with
    | nil => rfl
    | cons v vs ih => unfold Ev.wipe; rw [List.length_set, ih]
  have key : ∀ (i : Nat) x, (Ev.wipe ρ vs)[i]? = some (some x) → i ∉ vs ∧ ρ[i]? = some (some x) := fun i x e => by
    rw [wipe_get] at e
    split at e
    · split at e <;> cases e
    · exact ⟨by assumption, e⟩
  have keyS : ∀ i, i ∉ vs → (L2.wipe σ vs)[i]? = σ[i]? := fun i h => by rw [wipe_getS, if_neg h]
  refine ⟨by rw [L2.wipe_length, hl, f.len], fun i d e => ?_, fun i ds e => ?_, fun i j ds es a e1 e2 e3 e4 => ?_⟩
  · obtain ⟨h1, h2⟩ := key i _ e
    rw [keyS i h1]
    exact f.val i d h2
  · obtain ⟨h1, h2⟩ := key i _ e
    rw [keyS i h1]
    exact f.own i ds h2
  · obtain ⟨h1, h2⟩ := key i _ e1
    obtain ⟨h3, h4⟩ := key j _ e2
    rw [keyS i h1] at e3
    rw [keyS j h3] at e4
    exact f.dis i j ds es a h2 h4 e3 e4
/-- all slots but these stand -/
def Eqx (vs : List Nat) (σ σ' : L2.St) (ρ ρ' : Env) : Prop := σ'.length = σ.length ∧ ρ'.length = ρ.length ∧ (∀ i : Nat, i ∉ vs → σ'[i]? = σ[i]? ∧ ρ'[i]? = ρ[i]?) ∧ ∀ (i : Nat) ds, ρ'[i]? = some (some (.own ds)) → ρ[i]? = some (some (.own ds)) ∧ σ'[i]? = σ[i]?
theorem Eqx.refl (vs : List Nat) (σ : L2.St) (ρ : Env) : Eqx vs σ σ ρ ρ := ⟨rfl, rfl, fun _ _ => ⟨rfl, rfl⟩, fun _ _ e => ⟨e, rfl⟩⟩
theorem Eqx.trans {vs : List Nat} {σ σ1 σ2 : L2.St} {ρ ρ1 ρ2 : Env} (a : Eqx vs σ σ1 ρ ρ1) (b : Eqx vs σ1 σ2 ρ1 ρ2) : Eqx vs σ σ2 ρ ρ2 :=
  ⟨b.1.trans a.1, b.2.1.trans a.2.1, fun i h => ⟨(b.2.2.1 i h).1.trans (a.2.2.1 i h).1, (b.2.2.1 i h).2.trans (a.2.2.1 i h).2⟩, fun i ds e => by
    obtain ⟨e1, e2⟩ := b.2.2.2 i ds e
    obtain ⟨e3, e4⟩ := a.2.2.2 i ds e1
    exact ⟨e3, e2.trans e4⟩⟩
theorem Eqx.wipe {vs : List Nat} {σ σ' : L2.St} {ρ ρ' : Env} (h : Eqx vs σ σ' ρ ρ') : L2.wipe σ' vs = L2.wipe σ vs := by
  apply List.ext_getElem?
  intro i
  rw [wipe_getS, wipe_getS, h.1]
  split
  · rfl
  · exact (h.2.2.1 i (by assumption)).1
/-- a name gets a value -/
theorem FR.set {w : Wd} {σ : L2.St} {ρ : Env} {i : Nat} {v : V} {d : D} (f : FR K fa w σ ρ) (hi : i < σ.length) (r : Rp K fa w v d) : FR K fa w (σ.set i (some v)) (ρ.set i (some (.val d))) := by
  have hl := f.len
  refine ⟨by rw [List.length_set, List.length_set, hl], fun j e h => ?_, fun j es h => ?_, fun j k es fs a e1 e2 e3 e4 => ?_⟩
  · rw [List.getElem?_set] at h
    by_cases hj : i = j
    · subst hj
      rw [if_pos rfl, if_pos (by omega)] at h
      cases h
      exact ⟨v, by rw [List.getElem?_set, if_pos rfl, if_pos hi], r⟩
    · rw [if_neg hj] at h
      rw [List.getElem?_set, if_neg hj]
      exact f.val j e h
  · rw [List.getElem?_set] at h
    by_cases hj : i = j
    · subst hj
      rw [if_pos rfl, if_pos (by omega)] at h
      cases h
    · rw [if_neg hj] at h
      rw [List.getElem?_set, if_neg hj]
      exact f.own j es h
  · rw [List.getElem?_set] at e1 e2 e3 e4
    by_cases hj : i = j
    · subst hj
      rw [if_pos rfl, if_pos (by omega)] at e1
      cases e1
    · by_cases hk : i = k
      · subst hk
        rw [if_pos rfl, if_pos (by omega)] at e2
        cases e2
      · rw [if_neg hj] at e1 e3
        rw [if_neg hk] at e2 e4
        exact f.dis j k es fs a e1 e2 e3 e4
theorem Eqx.set {vs : List Nat} {i : Nat} (hi : i ∈ vs) (σ : L2.St) (ρ : Env) (v : V) (d : D) : Eqx vs σ (σ.set i (some v)) ρ (ρ.set i (some (.val d))) := by
  refine ⟨List.length_set .., List.length_set .., fun j h => ?_, fun j ds e => ?_⟩
  · have : i ≠ j := fun z => h (z ▸ hi)
    rw [List.getElem?_set, if_neg this, List.getElem?_set, if_neg this]
    exact ⟨rfl, rfl⟩
  · rw [List.getElem?_set] at e
    by_cases hj : i = j
    · subst hj
      rw [if_pos rfl] at e
      split at e <;> cases e
    · rw [if_neg hj] at e
      rw [List.getElem?_set, if_neg hj]
      exact ⟨e, rfl⟩

/-! ### targets -/
def gT (K : PySem.W.Frag) (fa : Nat → Addr) (vs : List Nat) (t : Tg) : TG := fun v σ H Q => ∃ (w : Wd) (ρ : Env) (d : D) (ρ' : Env), w.H = H ∧ w.Ok ∧ FR K fa w σ ρ ∧ Rp K fa w v d ∧ bindT t d ρ = some ρ' ∧ ∀ σ', FR K fa w σ' ρ' → Eqx vs σ σ' ρ ρ' → Q σ' H
def gTs (K : PySem.W.Frag) (fa : Nat → Addr) (vs : List Nat) (ts : Tgs) : TGs := fun us σ H Q => ∃ (w : Wd) (ρ : Env) (ds : List D) (ρ' : Env), w.H = H ∧ w.Ok ∧ FR K fa w σ ρ ∧ Rps K fa w us ds ∧ bindTs ts ds ρ = some ρ' ∧ ∀ σ', FR K fa w σ' ρ' → Eqx vs σ σ' ρ ρ' → Q σ' H
theorem _root_.L2.PG.conv {X : Cx} {e : Expr} {t t' : TG} (h : PG X e t) (c : ∀ (v : V) (σ : L2.St) (H : Hp) (Q : L2.St → Hp → Prop), t' v σ H Q → t v σ H Q) : PG X e t' := ⟨fun pins s σ H v u Q I r q => h.run pins s σ H v u Q I r (c v σ H Q q)⟩
theorem _root_.L2.PGs.conv {X : Cx} {e : List Expr} {t t' : TGs} (h : PGs X e t) (c : ∀ (v : List V) (σ : L2.St) (H : Hp) (Q : L2.St → Hp → Prop), t' v σ H Q → t v σ H Q) : PGs X e t' := ⟨fun pins s σ H v u Q I r q => h.run pins s σ H v u Q I r (c v σ H Q q)⟩
theorem lcB_ok {X : Cx} {cb : Bool} {x : Str} (h : lcB cb X.env.scope x = true) (hfn : cb = true → ∀ x, X.fn x = true) : Loc X.env.scope x ∧ (X.fn x = true ∨ X.env.scope.names.lookup x = some .local) := by
  rcases Bool.or_eq_true_iff.mp (show (locB X.env.scope x || (cb && celB X.env.scope x)) = true from h) with h | h
  · unfold locB at h
    split at h
    · exact ⟨.inl (by assumption), .inr (by assumption)⟩
    · cases h
  · obtain ⟨h1, h2⟩ := Bool.and_eq_true_iff.mp h
    unfold celB at h2
    split at h2
    · exact ⟨.inr (by assumption), .inl (hfn h1 x)⟩
    · cases h2
theorem tg_star {N : List Str} {c : Bool} {vs : List Nat} {t : Tg} {sc : Scope} {e : Expr} {es : List Expr} {env : PySem.Env} (h : okTg N c vs t sc e = true) : assignEach (e :: es) env = (false, assign e env) :: assignEach es env := by
  cases t <;> cases e <;> first | (cases h; done) | rfl
mutual
theorem s_tg {cb : Bool} {vs : List Nat} (hN : X.N.Nodup) (hc : X.calm = true) (hfn : cb = true → ∀ x, X.fn x = true) : ∀ (t : Tg) (e : Expr), okTg X.N cb vs t X.env.scope e = true → PG X e (gT X.K fa vs t)
  | .nm i, .Name x p, h => by
    have h : (decide (X.N[i]? = some x) && (lcB cb X.env.scope x && decide (i ∈ vs))) = true := h
    rw [Bool.and_eq_true, Bool.and_eq_true, decide_eq_true_eq, decide_eq_true_eq] at h
    obtain ⟨h1, h2, h3⟩ := h
    obtain ⟨hl, hf⟩ := lcB_ok h2 hfn
    refine ⟨fun pins s σ H v u Q I r hq => (pg_name hN h1 hl hf).run pins s σ H v u Q I r ?_⟩
    obtain ⟨w, ρ, d, ρ', e, k, f, rp, hb, q⟩ := hq
    cases (Option.some.inj hb)
    have hi : i < σ.length := by
      rw [I.len]
      exact (List.getElem?_eq_some_iff.mp h1).1
    exact q _ (f.set hi rp) (Eqx.set h3 σ ρ v d)
  | .tp ts, .Tuple es k p, h => by
    have h : okTgs X.N cb vs ts X.env.scope es = true := h
    have hst : ∀ {ts : Tgs} {es : List Expr}, okTgs X.N cb vs ts X.env.scope es = true → (assignEach es X.env).length = es.length ∧ (assignEach es X.env).findIdx? (·.1) = none := fun {ts es} => by
      induction es generalizing ts with
      | nil => intro _; exact ⟨rfl, rfl⟩
      | cons e es ih =>
        intro h
        cases ts with
        | nil => cases h
        | cons t ts =>
          have h : (okTg X.N cb vs t X.env.scope e && okTgs X.N cb vs ts X.env.scope es) = true := h
          rw [Bool.and_eq_true] at h
          obtain ⟨i1, i2⟩ := ih h.2
          rw [tg_star h.1]
          refine ⟨by rw [List.length_cons, List.length_cons, i1], ?_⟩
          rw [List.findIdx?_cons]
          simp [i2]
    obtain ⟨a1, a2⟩ := hst h
    refine (pg_tup (n := es.length) hc (s_tgs hN hc hfn ts es h) a1 a2).conv fun v σ H Q hq => ?_
    obtain ⟨w, ρ, d, ρ', e, k, f, rp, hb, q⟩ := hq
    cases d <;> first | (cases hb; done) | skip
    case tup xs =>
      cases rp with
      | tup s1 ll rr =>
        rw [← e]
        refine ⟨_, _, rfl, s1, ?_, w, ρ, xs, ρ', rfl, k, f, rr, hb, by rw [e]; exact q⟩
        rw [rr.len]
        have : ∀ {ts : Tgs} {es : List Expr} {xs : List D} {ρ ρ' : Env}, okTgs X.N cb vs ts X.env.scope es = true → bindTs ts xs ρ = some ρ' → xs.length = es.length := fun {ts es xs ρ ρ'} => by
          induction es generalizing ts xs ρ with
          | nil =>
            intro h1 h2
            cases ts with
            | nil =>
              cases xs with
              | nil => rfl
              | cons _ _ => cases h2
            | cons _ _ => cases h1
          | cons e es ih =>
            intro h1 h2
            cases ts with
            | nil => cases h1
            | cons t ts =>
              cases xs with
              | nil => cases h2
              | cons x xs =>
                have h1 : (okTg X.N cb vs t X.env.scope e && okTgs X.N cb vs ts X.env.scope es) = true := h1
                rw [Bool.and_eq_true] at h1
                have h2 : (match bindT t x ρ with | some ρ' => bindTs ts xs ρ' | none => none) = some ρ' := h2
                cases q : bindT t x ρ with
                | none =>
                  rw [q] at h2
                  cases h2
                | some ρ1 =>
                  rw [q] at h2
                  rw [List.length_cons, List.length_cons, ih h1.2 h2]
        exact this h hb
  | .nm _, .BoolOp _ _ _, h | .nm _, .NamedExpr _ _ _, h | .nm _, .BinOp _ _ _ _, h | .nm _, .UnaryOp _ _ _, h | .nm _, .Lambda _ _ _ _, h | .nm _, .IfExp _ _ _ _, h | .nm _, .Dict _ _ _, h | .nm _, .Set _ _ _, h | .nm _, .ListComp _ _ _ _, h | .nm _, .SetComp _ _ _ _, h | .nm _, .DictComp _ _ _ _ _, h | .nm _, .GeneratorExp _ _ _ _, h | .nm _, .Await _ _, h | .nm _, .Yield _ _, h | .nm _, .YieldFrom _ _, h | .nm _, .Compare _ _ _ _, h | .nm _, .Call _ _ _ _, h | .nm _, .FormattedValue _ _ _ _, h | .nm _, .JoinedStr _ _, h | .nm _, .Constant _ _ _, h | .nm _, .Attribute _ _ _, h | .nm _, .Subscript _ _ _, h | .nm _, .Starred _ _, h | .nm _, .List _ _, h | .nm _, .Tuple _ _ _, h | .nm _, .Slice _ _ _ _, h => by cases h
  | .tp _, .BoolOp _ _ _, h | .tp _, .NamedExpr _ _ _, h | .tp _, .BinOp _ _ _ _, h | .tp _, .UnaryOp _ _ _, h | .tp _, .Lambda _ _ _ _, h | .tp _, .IfExp _ _ _ _, h | .tp _, .Dict _ _ _, h | .tp _, .Set _ _ _, h | .tp _, .ListComp _ _ _ _, h | .tp _, .SetComp _ _ _ _, h | .tp _, .DictComp _ _ _ _ _, h | .tp _, .GeneratorExp _ _ _ _, h | .tp _, .Await _ _, h | .tp _, .Yield _ _, h | .tp _, .YieldFrom _ _, h | .tp _, .Compare _ _ _ _, h | .tp _, .Call _ _ _ _, h | .tp _, .FormattedValue _ _ _ _, h | .tp _, .JoinedStr _ _, h | .tp _, .Constant _ _ _, h | .tp _, .Attribute _ _ _, h | .tp _, .Subscript _ _ _, h | .tp _, .Starred _ _, h | .tp _, .Name _ _, h | .tp _, .List _ _, h | .tp _, .Slice _ _ _ _, h => by cases h
theorem s_tgs {cb : Bool} {vs : List Nat} (hN : X.N.Nodup) (hc : X.calm = true) (hfn : cb = true → ∀ x, X.fn x = true) : ∀ (ts : Tgs) (es : List Expr), okTgs X.N cb vs ts X.env.scope es = true → PGs X es (gTs X.K fa vs ts)
  | .nil, [], _ => by
    refine pgs_nil.conv fun us σ H Q hq => ?_
    obtain ⟨w, ρ, ds, ρ', e, k, f, rp, hb, q⟩ := hq
    cases ds with
    | nil =>
      cases rp
      cases (Option.some.inj hb)
      exact ⟨rfl, q σ f (Eqx.refl _ _ _)⟩
    | cons _ _ => cases hb
  | .nil, _ :: _, h => by cases h
  | .cons _ _, [], h => by cases h
  | .cons t ts, e :: es, h => by
    have h : (okTg X.N cb vs t X.env.scope e && okTgs X.N cb vs ts X.env.scope es) = true := h
    rw [Bool.and_eq_true] at h
    refine (pgs_cons (s_tg hN hc hfn t e h.1) (s_tgs hN hc hfn ts es h.2) (by rw [tg_star h.1] <;> rfl)).conv fun us σ H Q hq => ?_
    obtain ⟨w, ρ, ds, ρ', e, k, f, rp, hb, q⟩ := hq
    cases ds with
    | nil => cases hb
    | cons x xs =>
      have hb : (match bindT t x ρ with | some ρ' => bindTs ts xs ρ' | none => none) = some ρ' := hb
      cases q1 : bindT t x ρ with
      | none =>
        rw [q1] at hb
        cases hb
      | some ρ1 =>
        rw [q1] at hb
        cases rp with
        | cons r1 r2 => exact ⟨_, _, rfl, w, ρ, x, ρ1, e, k, f, r1, q1, fun σ1 f1 x1 => ⟨w, ρ1, xs, ρ', e, k, f1, r2, hb, fun σ2 f2 x2 => q σ2 f2 (x1.trans x2)⟩⟩
end
end
end Ev

/-! What is walked; comprehensions; every expression. -/
namespace Ev
open PySem PySem.Spec PyProof.Rows L2
/-! ### sources -/
inductive Src (K : PySem.W.Frag) (w : Wd) : It → List V → Prop
  | lst {a : Addr} {vs : List V} : w.H a = some (.lst vs) → a ∉ w.A → Src K w (Itl K a) vs
  | tup {a : Addr} {vs : List V} : SqT K w.H a vs → Src K w (Itt K a) vs
  | rng (n : Nat) : Src K w (Itr 0 n) ((List.range n).map fun (k : Nat) => V.int (k : Int))
section
variable {K : PySem.W.Frag} {fa : Nat → Addr} {w w' : Wd} {J : It} {vs : List V}
theorem Src.mono (s : Src K w J vs) (l : w.Le w') (k : w.Ok) : Src K w' J vs := by
  cases s with
  | lst h n => exact .lst (l.h _ _ h n) (l.nA h n)
  | tup h => exact .tup ((l.kp k).sqt h)
  | rng n => exact .rng n
theorem Src.go (s : Src K w J vs) {i : Nat} (h : i < vs.length) : J.go i w.H := by
  cases s with
  | lst e n => exact ⟨vs, vs[i], .of e, List.getElem?_eq_getElem h⟩
  | tup e => exact ⟨vs, vs[i], e, List.getElem?_eq_getElem h⟩
  | rng n =>
    show i < n
    simpa using h
theorem Src.stop (s : Src K w J vs) {i : Nat} (h : vs.length ≤ i) : J.stop i w.H := by
  cases s with
  | lst e n => exact ⟨vs, .of e, h⟩
  | tup e => exact ⟨vs, e, h⟩
  | rng n =>
    show n ≤ i
    simpa using h
theorem Src.yld (s : Src K w J vs) {i : Nat} {x : V} {H' : Hp} (y : J.yld i w.H x H') (hi : i < vs.length) : H' = w.H ∧ vs[i]? = some x := by
  cases s with
  | lst e n => exact ⟨y.1, y.2 _ (.of e)⟩
  | tup e => exact ⟨y.1, y.2 _ e⟩
  | rng n =>
    obtain ⟨e1, e2⟩ := y
    refine ⟨e1, ?_⟩
    have hn : i < n := by simpa using hi
    rw [e2, List.getElem?_map, List.getElem?_range hn, Int.zero_add]
    rfl
end
def rdI (K : PySem.W.Frag) (fa : Nat → Addr) (m : Env → M (List D)) : TI := fun σ H R => ∃ w ρ S ds S', Sit K fa w H σ ρ S ∧ m ρ S = .ok ds S' ∧ ∀ w' J vs, w.Le w' → w'.Ok → SR K fa w' S' → Rps K fa w' vs ds → Src K w' J vs → R J w'.H
theorem _root_.L2.PI.conv {X : Cx} {tg e : Expr} {t t' : TI} (h : PI X tg e t) (c : ∀ (σ : L2.St) (H : Hp) (R : It → Hp → Prop), t' σ H R → t σ H R) : PI X tg e t' := ⟨fun pins s σ H R I q => h.run pins s σ H R I (c σ H R q)⟩
section
variable {K : PySem.W.Frag} {fa : Nat → Addr} {X : Cx} {a b c : Expr} {ma mb mc : Env → M D} {pos : Pos}
def iSeq (K : PySem.W.Frag) (tl : TE) : TI := fun σ H R => tl σ H fun x H1 => (∃ a xs, x = .ref a ∧ SqL K H1 a xs ∧ R (Itl K a) H1) ∨ ∃ a xs, x = .ref a ∧ SqT K H1 a xs ∧ R (Itt K a) H1
theorem pi_seq {tg l : Expr} {tl : TE} (hl : PE X l tl) : PI X tg l (iSeq X.K tl) := by
  refine ⟨fun pins s σ H R I h => ?_⟩
  refine thn (hl.run pins s σ H _ I h) fun v s1 ⟨x, H1, I1, r1, q1⟩ => ?_
  rcases q1 with ⟨a, xs, e, hq, q⟩ | ⟨a, xs, e, hq, q⟩
  · subst e
    cases r1
    obtain ⟨its, rv, p, hz⟩ := I1.list hq
    refine wpAny_pyIter_list p.isList ?_
    refine ⟨s1.heap.objs.size, [s1.heap.objs.size], _, _, H1, rfl, I1.kept (t' := s1.toks) fun b o e => Heap.get?_push_of_some _ e, turn_list a _, ⟨_, Heap.get?_push_size _ rfl, rfl, rfl⟩, fun b hb => ?_, q⟩
    have e : b = s1.heap.objs.size := by simpa using hb
    subst e
    exact I1.fpOk (Nat.le_refl _) (I1.hok.fresh (Nat.le_refl _))
  · subst e
    cases r1
    obtain ⟨its, rv, p, hz⟩ := I1.tuple hq
    refine wpAny_pyIter_tuple (show s1.heap.IsTuple a its.toArray from p) ?_
    refine ⟨s1.heap.objs.size, [s1.heap.objs.size], _, _, H1, rfl, I1.kept (t' := s1.toks) fun b o e => Heap.get?_push_of_some _ e, turn_tuple a _, ⟨_, Heap.get?_push_size _ rfl, rfl, rfl⟩, fun b hb => ?_, q⟩
    have e : b = s1.heap.objs.size := by simpa using hb
    subst e
    exact I1.fpOk (Nat.le_refl _) (I1.hok.fresh (Nat.le_refl _))
theorem RpP.nA {w : Wd} {v : V} {ds : List D} (k : w.Ok) (r : RpP K fa w v (.lst ds)) : ∃ a vs, v = .ref a ∧ w.H a = some (.lst vs) ∧ a ∉ w.A ∧ vs.length ≤ sizeLine ∧ Rps K fa w vs ds := by
  rcases r with r | ⟨a, vs, es, e1, e2, h1, h2, h3, h4⟩
  · cases r with
    | lst a b c e => exact ⟨_, _, rfl, a, fun m => k.cf _ m b, c, e⟩
  · cases e2
    exact ⟨a, vs, e1, h1, h2, h3, h4⟩
theorem i_seq {tg : Expr} (ha : PE X a (rdP X.K fa ma)) : PI X tg a (rdI X.K fa (fun ρ => M.bind (ma ρ) fun x => M.opt (itemsD x))) := by
  refine (pi_seq ha).conv fun σ H R h => ?_
  obtain ⟨w, ρ, S, ds, S', st, hm, q⟩ := h
  obtain ⟨x, S1, h1, hm1⟩ := bind_ok hm
  obtain ⟨e, rfl⟩ := opt_ok hm1
  refine ⟨w, ρ, S, x, S', st, h1, fun w1 v1 l1 k1 r1 rp1 => ?_⟩
  cases x <;> first | (cases e; done) | skip
  case tup xs =>
    cases (Option.some.inj e)
    obtain ⟨p, vs, rfl, s1, _, rr⟩ := rp1.tup
    exact .inr ⟨p, vs, rfl, s1, q w1 _ vs l1 k1 r1 rr (.tup s1)⟩
  case lst xs =>
    cases (Option.some.inj e)
    obtain ⟨p, vs, rfl, s1, na, _, rr⟩ := rp1.nA k1
    exact .inl ⟨p, vs, rfl, .of s1, q w1 _ vs l1 k1 r1 rr (.lst s1 na)⟩
theorem rng_rps {w : Wd} (j : Int) : Rps K fa w ((List.range j.toNat).map fun (k : Nat) => V.int (k : Int)) (rngD j) := by
  unfold rngD
  generalize List.range j.toNat = l
  induction l with
  | nil => exact .nil
  | cons x l ih => exact .cons (.int _) ih
theorem i_rng {tg : Expr} {p : Pos} {cfg : Cfg} {fns gns : List Str} (G : Good X cfg fa fns gns) (hg : Gl X "range") (ha : PE X a (rd X.K fa ma)) (hst : starEach [a] X.env = [(false, eval a X.env)]) : PI X tg (.Call (.Name "range" p) [a] [] pos) (rdI X.K fa (fun ρ => M.bind (ma ρ) fun x => M.opt (rngO x))) := by
  refine (pi_range1 hg (G.bl _ (by decide +kernel)) (pa_cons ha pa_nil hst) hst).conv fun σ H R h => ?_
  obtain ⟨w, ρ, S, ds, S', st, hm, q⟩ := h
  obtain ⟨x, S1, h1, hm1⟩ := bind_ok hm
  obtain ⟨e, rfl⟩ := opt_ok hm1
  refine ⟨w, ρ, S, x, S', st, h1, fun w1 v1 l1 k1 r1 rp1 => ?_⟩
  cases x <;> first | (cases e; done) | skip
  case int j =>
    obtain ⟨c, e⟩ := ite_someB e
    subst e
    simp only [Bool.and_eq_true, decide_eq_true_eq] at c
    cases rp1
    exact ⟨j, rfl, by omega, by omega, q w1 _ _ l1 k1 r1 (rng_rps j) (.rng _)⟩

/-! ### comprehensions -/
theorem mapF_cons {c : D → M Bool} {f : D → M D} {x : D} {xs ys : List D} {S S' : Sto} (h : mapF' c f (x :: xs) S = .ok ys S') :
    ∃ k S1, c x S = .ok k S1 ∧ ((k = false ∧ mapF' c f xs S1 = .ok ys S') ∨ (k = true ∧ ∃ y S2 zs, f x S1 = .ok y S2 ∧ mapF' c f xs S2 = .ok zs S' ∧ ys = y :: zs)) := by
  unfold mapF' at h
  cases q : c x S with
  | stk =>
    rw [q] at h
    cases h
  | ok k S1 =>
    rw [q] at h
    refine ⟨k, S1, rfl, ?_⟩
    cases k with
    | false => exact .inl ⟨rfl, h⟩
    | true =>
      right
      refine ⟨rfl, ?_⟩
      have h : (match f x S1 with | .stk => Res.stk | .ok y S2 => (match mapF' c f xs S2 with | .stk => Res.stk | .ok ys S3 => Res.ok (y :: ys) S3)) = .ok ys S' := h
      cases q2 : f x S1 with
      | stk =>
        rw [q2] at h
        cases h
      | ok y S2 =>
        rw [q2] at h
        have h : (match mapF' c f xs S2 with | .stk => Res.stk | .ok ys S3 => Res.ok (y :: ys) S3) = .ok ys S' := h
        cases q3 : mapF' c f xs S2 with
        | stk =>
          rw [q3] at h
          cases h
        | ok zs S3 =>
          rw [q3] at h
          cases h
          exact ⟨y, S2, zs, rfl, q3, rfl⟩
theorem lcf_read {vs : List Nat} {t : Tg} {mi : Env → M (List D)} {mc : Env → M Bool} {me : Env → M D} {σ : L2.St} {H : Hp} {Q : VK}
    (h : rdN X.K fa (fun ρ => M.bind (mi ρ) fun xs => M.guard (decide (xs.length ≤ 1000000)) (M.bind (mapF' (fun d => M.bind (M.opt (bindT t d (Ev.wipe ρ vs))) fun ρ' => mc ρ') (fun d => M.bind (M.opt (bindT t d (Ev.wipe ρ vs))) fun ρ' => me ρ') xs) fun ys => M.pure (.lst ys))) σ H Q) :
    tLc (rdI X.K fa mi) (gT X.K fa vs t) (rdT X.K fa mc) (rd X.K fa me) vs σ H Q := by
  obtain ⟨w, ρ, S, d, S', st, hm, q⟩ := h
  obtain ⟨xs, S1, h1, hm1⟩ := bind_ok hm
  obtain ⟨hl, hm2⟩ := guard_ok hm1
  have hl := of_decide_eq_true hl
  obtain ⟨ys, S2, h2, hm3⟩ := bind_ok hm2
  obtain ⟨e, e3⟩ := pure_ok hm3
  subst e e3
  refine ⟨w, ρ, S, xs, S1, st, h1, fun w1 J us l1 k1 r1 rr src D0 hD => ?_⟩
  have hlen := rr.len
  have f1 := (st.fr.mono l1 st.ok).wipe vs
  -- the loop's word
  refine ⟨fun i m H => m = us.length - i ∧ i ≤ us.length ∧ ∃ (wi : Wd) (Si : Sto) (acc : List V) (dn rs : List D), wi.H = H ∧ w1.Le wi ∧ wi.Ok ∧ SR X.K fa wi Si ∧ wi.H D0 = some (.lst acc) ∧ ¬ wi.F D0 ∧ D0 ∉ wi.A ∧ acc.length ≤ i ∧ Rps X.K fa wi acc dn ∧
    mapF' (fun d => M.bind (M.opt (bindT t d (Ev.wipe ρ vs))) fun ρ' => mc ρ') (fun d => M.bind (M.opt (bindT t d (Ev.wipe ρ vs))) fun ρ' => me ρ') (xs.drop i) Si = .ok rs S' ∧ ys = dn ++ rs, ⟨us.length, by simp, Nat.zero_le _, ?_⟩, ?_⟩
  · obtain ⟨nf, na⟩ := new_free k1 hD
    exact ⟨w1.new D0 (.lst []), S1, [], [], ys, rfl, Wd.new_le hD, Wd.new_ok k1 hD, r1.new k1 hD, upd_same, nf, na, Nat.le_refl _, .nil, by rw [List.drop_zero]; exact h2, by simp⟩
  · rintro i m H ⟨rfl, hi', wi, Si, acc, dn, rs, rfl, li, ki, ri, eD, nfD, naD, hacc, racc, hmap, hys⟩
    have srci := src.mono li k1
    by_cases hlt : i < us.length
    · right
      refine ⟨srci.go hlt, fun H' => ∃ m', m' < us.length - i ∧ (m' = us.length - (i + 1) ∧ i + 1 ≤ us.length ∧ ∃ (wi : Wd) (Si : Sto) (acc : List V) (dn rs : List D), wi.H = H' ∧ w1.Le wi ∧ wi.Ok ∧ SR X.K fa wi Si ∧ wi.H D0 = some (.lst acc) ∧ ¬ wi.F D0 ∧ D0 ∉ wi.A ∧ acc.length ≤ i + 1 ∧ Rps X.K fa wi acc dn ∧
        mapF' (fun d => M.bind (M.opt (bindT t d (Ev.wipe ρ vs))) fun ρ' => mc ρ') (fun d => M.bind (M.opt (bindT t d (Ev.wipe ρ vs))) fun ρ' => me ρ') (xs.drop (i + 1)) Si = .ok rs S' ∧ ys = dn ++ rs), fun H' ⟨m', h1, h2⟩ => ⟨m', h1, h2⟩, fun x H' y => ?_⟩
      obtain ⟨rfl, hx⟩ := srci.yld y hlt
      obtain ⟨dx, hdx, rx⟩ := (rr.keep (li.kp k1)).getV hx
      have hxi : i < xs.length := by rw [← hlen]; exact hlt
      have ed : xs.drop i = dx :: xs.drop (i + 1) := by
        rw [List.drop_eq_getElem_cons hxi]
        rw [List.getElem?_eq_getElem hxi] at hdx
        rw [Option.some.inj hdx]
      rw [ed] at hmap
      obtain ⟨k, Sc, hk, alt⟩ := mapF_cons hmap
      obtain ⟨ρ', Sb, hb, hk2⟩ := bind_ok hk
      obtain ⟨eb, rfl⟩ := opt_ok hb
      have fi := f1.mono li k1
      refine ⟨wi, Ev.wipe ρ vs, dx, ρ', rfl, ki, fi, rx, eb, fun σ2 f2 x2 => ⟨?_, ?_⟩⟩
      · rw [x2.wipe]
        apply List.ext_getElem?
        intro j
        rw [wipe_getS, wipe_getS, L2.wipe_length]
        split
        · rfl
        · rfl
      · refine ⟨wi, ρ', Sb, k, Sc, ⟨rfl, ki, f2, ri⟩, hk2, fun w3 l3 k3 r3 => ?_⟩
        have l13 := li.trans l3 k1 ki
        have eD3 := l3.h _ _ eD naD
        have nfD3 := l3.nF eD nfD
        have naD3 := l3.nA eD naD
        rcases alt with ⟨rfl, hrest⟩ | ⟨rfl, yv, Sy, zs, hf, hrest, ezs⟩
        · refine iteF ?_
          exact ⟨us.length - (i + 1), by omega, rfl, hlt, w3, Sc, acc, dn, rs, rfl, l13, k3, r3, eD3, nfD3, naD3, by omega, racc.keep (l3.kp ki), hrest, hys⟩
        · refine iteT ?_
          obtain ⟨ρ2, Sb2, hb2, hf2⟩ := bind_ok hf
          obtain ⟨eb2, rfl⟩ := opt_ok hb2
          rw [eb] at eb2
          cases (Option.some.inj eb2)
          refine ⟨w3, ρ', Sb2, yv, Sy, ⟨rfl, k3, f2.mono l3 ki, r3⟩, hf2, fun w4 v4 l4 k4 r4 rp4 => ?_⟩
          have eD4 := l4.h _ _ eD3 naD3
          have nfD4 := l4.nF eD3 nfD3
          have naD4 := l4.nA eD3 naD3
          have hz : acc.length < sizeLine := by rw [sizeLine_eq]; omega
          refine ⟨acc, eD4, hz, us.length - (i + 1), by omega, rfl, hlt, w4.put D0 (acc ++ [v4]), Sy, acc ++ [v4], dn ++ [yv], zs, rfl, put_le (l13.trans l4 k1 k3) hD, put_ok k4 eD4 nfD4, put_sr r4 eD4 nfD4 naD4, upd_same, nfD4, naD4, by rw [List.length_append, List.length_singleton]; omega, ?_, hrest, by rw [hys, ezs, List.append_assoc]; rfl⟩
          exact (((racc.keep (l3.kp ki)).keep (l4.kp k3)).snoc rp4).keep (put_kp eD4 nfD4)
    · left
      have hn : i = us.length := by omega
      refine ⟨srci.stop (by omega), ?_⟩
      have hd : xs.drop i = [] := List.drop_eq_nil_of_le (by omega)
      rw [hd] at hmap
      have hmap : Res.ok ([] : List D) Si = Res.ok rs S' := hmap
      cases hmap
      rw [List.append_nil] at hys
      subst hys
      refine q wi (.ref D0) (l1.trans li st.ok k1) ki ri ⟨D0, acc, rfl, l1.free st.ok k1 hD, eD, nfD, naD, ?_, racc⟩
      rw [sizeLine_eq]
      omega
theorem s_lcf {elt tg iter : Expr} {ifs : List Expr} {scope : Scope} {vs : List Nat} {t : Tg} {mi : Env → M (List D)} {mc : Env → M Bool} {me : Env → M D} (hN : X.N.Nodup) (hc : X.calm = true) (ok : BlkOk X.N X.env.scope scope (ownOf X.N vs)) (hi : PI X tg iter (rdI X.K fa mi))
    (hg : ∀ (s : Shared) (H : Hp) (C : Addr) (cl : List (Str × Addr)) (fp : List Addr), PG (X.blk s H scope (compEnvC scope cl C X.env) fp) tg (gT X.K fa vs t))
    (ht : ∀ (s : Shared) (H : Hp) (C : Addr) (cl : List (Str × Addr)) (fp : List Addr), PTs (X.blk s H scope (compEnvC scope cl C X.env) fp) ifs (rdT X.K fa mc))
    (he : ∀ (s : Shared) (H : Hp) (C : Addr) (cl : List (Str × Addr)) (fp : List Addr), PE (X.blk s H scope (compEnvC scope cl C X.env) fp) elt (rd X.K fa me)) (hs : ∀ x, foldedSetIterable iter X.env x = pure x) :
    PE X (.ListComp elt [⟨tg, iter, ifs, 0⟩] scope pos) (rdN X.K fa (fun ρ => M.bind (mi ρ) fun xs => M.guard (decide (xs.length ≤ 1000000)) (M.bind (mapF' (fun d => M.bind (M.opt (bindT t d (Ev.wipe ρ vs))) fun ρ' => mc ρ') (fun d => M.bind (M.opt (bindT t d (Ev.wipe ρ vs))) fun ρ' => me ρ') xs) fun ys => M.pure (.lst ys)))) := by
  refine (pe_lc hc hN hi ok hg ht he hs).conv fun σ H Q h => ?_
  rw [ownOf_snd]
  exact lcf_read h
end
end Ev

/-! Every expression keeps what the model does. -/
namespace Ev
open PySem PySem.Spec PyProof.Rows L2
theorem bind_eq {α β : Type} {m : M α} {f : α → M β} {a : α} {S S1 : Sto} (h : m S = .ok a S1) : M.bind m f S = f a S1 := by
  show (match m S with | .stk => Res.stk | .ok a S' => f a S') = _
  rw [h]
theorem pw_bool {X : Cx} {o : PySem.BoolOp} {vs : List Expr} {p : Pos} {t : TT} (h : PT X (.BoolOp o vs p) t) (e : ∀ w1 w2, isTrue (.BoolOp o vs p) X.env w1 = isTrue (.BoolOp o vs p) X.env w2) : PW X (.BoolOp o vs p) t :=
  ⟨fun whole pins s σ H Q I hq => by rw [e whole (eval (.BoolOp o vs p) X.env)]; exact h.run pins s σ H Q I hq⟩
theorem mapF_tr {t : Tg} {ρ : Env} {g : Env → M D} : ∀ xs : List D, mapF' (fun _ => M.pure true) (fun d => M.bind (M.opt (bindT t d ρ)) fun ρ' => g ρ') xs = mapF' (fun d => M.bind (M.opt (bindT t d ρ)) fun _ => M.pure true) (fun d => M.bind (M.opt (bindT t d ρ)) fun ρ' => g ρ') xs
  | [] => rfl
  | x :: xs => by
    funext S
    unfold mapF'
    rw [mapF_tr xs]
    cases e : bindT t x ρ with
    | none => rfl
    | some ρ' => rfl
theorem b2 {a b : Bool} (h : (a && b) = true) : a = true ∧ b = true := Bool.and_eq_true_iff.mp h
section
variable {N fns gns : List Str}
theorem ok_noStar {e : E} {sc : Scope} {v : Expr} {p : Pos} : okE N fns gns e sc (.Starred v p) = false := by
  cases e <;> first | rfl | (rename_i a; cases a <;> rfl)
theorem ok_noSlice {e : E} {sc : Scope} {a b c : Option Expr} {p : Pos} : okE N fns gns e sc (.Slice a b c p) = false := by
  cases e <;> first | rfl | (rename_i a; cases a <;> rfl)
theorem ok_noSet {e : E} {sc : Scope} {a : List Expr} {k : Nat} {p : Pos} : okE N fns gns e sc (.Set a k p) = false := by
  cases e <;> first | rfl | (rename_i a; cases a <;> rfl)
theorem ok_star {e : E} {sc : Scope} {x : Expr} {xs : List Expr} {env : PySem.Env} (h : okE N fns gns e sc x = true) : starEach (x :: xs) env = (false, eval x env) :: starEach xs env := by
  cases x <;> first | rfl | (rw [ok_noStar] at h; cases h)
theorem ok_ix {e : E} {sc : Scope} {x : Expr} (h : okE N fns gns e sc x = true) : PlainIx x := by
  cases x <;> first | (intro _ _; rfl) | (rw [ok_noSlice] at h; cases h)
theorem ok_fold {e : E} {sc : Scope} {x : Expr} {env : PySem.Env} (h : okE N fns gns e sc x = true) (v : Value) : foldedSetIterable x env v = pure v := by
  cases x <;> first | rfl | (rw [ok_noSet] at h; cases h)
theorem ok_any {sc : Scope} {env : PySem.Env} {pos : Pos} : ∀ {es : Es} {xs : List Expr}, okEs N fns gns es sc xs = true → (backTo pos (starEach xs env)).any (·.1) = false
  | .nil, [], _ => rfl
  | .nil, _ :: _, h => by cases h
  | .cons _ _, [], h => by cases h
  | .cons e es, x :: xs, h => by
    obtain ⟨h1, k2⟩ := b2 (show (okE N fns gns e sc x && okEs N fns gns es sc xs) = true from h)
    rw [ok_star h1]
    show (false || (backTo pos (starEach xs env)).any (·.1)) = false
    rw [ok_any k2] <;> rfl
end
section
variable {X : Cx} {x : Str}
theorem gl_of (h : glB X.env.scope x = true) : Gl X x := by
  unfold glB at h
  show X.env.scope.names.lookup x = _
  split at h
  · assumption
  · cases h
theorem vis_of {sc : Scope} (h : visB sc x = true) : Vis sc x := by
  unfold visB at h
  split at h
  · exact .inl (by assumption)
  · exact .inr (.inl (by assumption))
  · exact .inr (.inr (by assumption))
  · cases h
theorem nm_of (h : nmB x = true) : (x == ("__debug__" : Str)) = false ∧ (x == ("__classdict__" : Str)) = false ∧ x ≠ ("__name__" : Str) := by
  obtain ⟨h1, k2⟩ := b2 (show (!(x == ("__debug__" : Str)) && (!(x == ("__classdict__" : Str)) && decide (x ≠ ("__name__" : Str)))) = true from h)
  obtain ⟨j2, k3⟩ := b2 k2
  exact ⟨Bool.not_eq_true' _ ▸ h1, Bool.not_eq_true' _ ▸ j2, of_decide_eq_true k3⟩
end
theorem Good.blk {X : Cx} {cfg : Cfg} {fa : Nat → Addr} {fns gns : List Str} (G : Good X cfg fa fns gns) (s : Shared) (H : Hp) (scope : Scope) (cenv : PySem.Env) (fp : List Addr) : Good (X.blk s H scope cenv fp) cfg fa fns gns :=
  ⟨G.nd, G.calm, G.units, G.bl, G.glo, G.fnv, G.fn⟩
section
variable {K : PySem.W.Frag} {fa : Nat → Addr} {X : Cx}
theorem const_rd {t : TE} {e : Expr} {d : D} {v : V} (h : PE X e (tC v)) (r : ∀ w : Wd, Rp X.K fa w v d) : PE X e (rd X.K fa (fun _ => M.pure d)) := h.conv fun σ H Q hq => by
  obtain ⟨w, ρ, S, d', S', st, hm, q⟩ := hq
  obtain ⟨e1, rfl⟩ := pure_ok hm
  subst e1
  have := q w v (.refl w) st.ok st.sr (r w)
  rw [st.h] at this
  exact this
theorem var_rd {i : Nat} {x : Str} {p : Pos} (h1 : X.N[i]? = some x) (hv : Vis X.env.scope x) (hd : (x == ("__debug__" : Str)) = false) (hcd : (x == ("__classdict__" : Str)) = false) : PE X (.Name x p) (rd X.K fa (fun ρ => M.opt (getV ρ i))) ∧ PE X (.Name x p) (rdP X.K fa (fun ρ => M.opt (peekV ρ i))) := by
  refine ⟨(pe_var h1 hv hd hcd).conv fun σ H Q hq => ?_, (pe_var h1 hv hd hcd).conv fun σ H Q hq => ?_⟩
  · obtain ⟨w, ρ, S, d, S', st, hm, q⟩ := hq
    obtain ⟨e, rfl⟩ := opt_ok hm
    have e2 : ρ[i]? = some (some (.val d)) := by
      unfold getV at e
      split at e
      · rename_i d' hd'
        rw [hd', Option.some.inj e]
      · cases e
    obtain ⟨v, h1, h2⟩ := st.fr.val i d e2
    refine ⟨v, h1, ?_⟩
    have := q w v (.refl w) st.ok st.sr h2
    rw [st.h] at this
    exact this
  · obtain ⟨w, ρ, S, d, S', st, hm, q⟩ := hq
    obtain ⟨e, rfl⟩ := opt_ok hm
    unfold peekV at e
    split at e
    · rename_i d' hd'
      cases (Option.some.inj e)
      obtain ⟨v, h1, h2⟩ := st.fr.val i d hd'
      refine ⟨v, h1, ?_⟩
      have := q w v (.refl w) st.ok st.sr (.inl h2)
      rw [st.h] at this
      exact this
    · rename_i xs hd'
      cases (Option.some.inj e)
      obtain ⟨a, vs, h1, h2, h3, h4, h5, h6⟩ := st.fr.own i xs hd'
      refine ⟨_, h1, ?_⟩
      have := q w (.ref a) (.refl w) st.ok st.sr (.inr ⟨a, vs, xs, rfl, rfl, h2, h4, h5, h6⟩)
      rw [st.h] at this
      exact this
    · cases e
/-- the operand's reading from the expression's -/
theorem pk_of {cfg : Cfg} {fns gns : List Str} {e : E} {py : Expr} (h : PE X py (rd X.K fa (ev cfg e))) (ok : okE X.N fns gns e X.env.scope py = true) : PE X py (rdP X.K fa (fun ρ => pkOf (ev cfg e ρ) e ρ)) := by
  by_cases hv : ∃ i, e = .var i
  · obtain ⟨i, rfl⟩ := hv
    cases py <;> first | (cases ok; done) | skip
    case Name x p =>
      obtain ⟨o1, o2⟩ := b2 (show (decide (X.N[i]? = some x) && (visB X.env.scope x && nmB x)) = true from ok)
      obtain ⟨o2, o3⟩ := b2 o2
      obtain ⟨n1, n2, _⟩ := nm_of o3
      exact (var_rd (of_decide_eq_true o1) (vis_of o2) n1 n2).2
  · have e1 : (fun ρ => pkOf (ev cfg e ρ) e ρ) = ev cfg e := by
      funext ρ
      cases e <;> first | rfl | exact absurd ⟨_, rfl⟩ hv
    rw [e1]
    exact h.conv fun σ H Q hq => rd_rdP hq
theorem RpP.monoR : ∀ (w w' : Wd) (v : V) (d : D), RpP K fa w v d → w.Le w' → w.Ok → RpP K fa w' v d := fun _ _ _ _ r l k => r.mono l k
theorem Rp.monoR : ∀ (w w' : Wd) (v : V) (d : D), Rp K fa w v d → w.Le w' → w.Ok → Rp K fa w' v d := fun _ _ _ _ r l k => r.keep (l.kp k)
end
theorem fr_rd {X : Cx} {fa : Nat → Addr} {py : Expr} {m : Env → M D} (h : PE X py (rdN X.K fa m)) : PE X py (rd X.K fa m) ∧ (True → PE X py (rdN X.K fa m)) := ⟨h.conv fun _ _ _ q => rdN_rd q, fun _ => h⟩
section
variable (cfg : Cfg) (fa : Nat → Addr) (fns gns : List Str)
def PEE (X : Cx) (py : Expr) (e : E) : Prop := PE X py (rd X.K fa (ev cfg e)) ∧ (isFr e = true → PE X py (rdN X.K fa (ev cfg e)))
theorem pee_fr {X : Cx} {py : Expr} {e : E} (h : PE X py (rdN X.K fa (ev cfg e))) : PEE cfg fa X py e := ⟨h.conv fun _ _ _ q => rdN_rd q, fun _ => h⟩
theorem pee_rd {X : Cx} {py : Expr} {e : E} (h : PE X py (rd X.K fa (ev cfg e))) (hf : isFr e = false) : PEE cfg fa X py e := ⟨h, fun z => by rw [hf] at z; cases z⟩
mutual
theorem sndE : ∀ (e : E) (X : Cx) (py : Expr), Good X cfg fa fns gns → okE X.N fns gns e X.env.scope py = true → PEE cfg fa X py e
  | .non, X, py, G, h => by
    cases py <;> first | (cases h; done) | skip
    case Constant c k p =>
      cases c <;> first | (cases h; done) | skip
      exact pee_rd cfg fa (const_rd (t := tC .non) pe_non fun _ => .non) rfl
  | .bl b, X, py, G, h => by
    cases py <;> first | (cases h; done) | skip
    case Constant c k p =>
      cases c <;> first | (cases h; done) | skip
      case bool c =>
        have e : b = c := eq_of_beq (show (b == c) = true from h)
        subst e
        exact pee_rd cfg fa (const_rd (t := tC .non) pe_bl fun _ => .bl b) rfl
  | .int i, X, py, G, h => by
    cases py <;> first | (cases h; done) | skip
    case Constant c k p =>
      cases c <;> first | (cases h; done) | skip
      case int j =>
        have e : i = j := of_decide_eq_true (show decide (i = j) = true from h)
        subst e
        exact pee_rd cfg fa (const_rd (t := tC .non) pe_int fun _ => .int i) rfl
  | .str cs, X, py, G, h => by
    cases py <;> first | (cases h; done) | skip
    case Constant c k p =>
      cases c <;> first | (cases h; done) | skip
      case str y =>
        obtain ⟨h1, k2⟩ := b2 (show (decide (y = tx cs) && (decide (cs.length ≤ 100000) && cs.all fun c => decide (c < 1114112))) = true from h)
        obtain ⟨j2, k3⟩ := b2 k2
        have e : y = tx cs := of_decide_eq_true h1
        subst e
        have hl : cs.length ≤ 100000 := of_decide_eq_true j2
        exact pee_rd cfg fa (const_rd (t := tC .non) pe_str fun _ => .str ⟨by rw [sizeLine_eq]; omega, fun c hc => of_decide_eq_true (List.all_eq_true.mp k3 c hc)⟩) rfl
  | .var i, X, py, G, h => by
    cases py <;> first | (cases h; done) | skip
    case Name x p =>
      obtain ⟨o1, o2⟩ := b2 (show (decide (X.N[i]? = some x) && (visB X.env.scope x && nmB x)) = true from h)
      obtain ⟨o2, o3⟩ := b2 o2
      obtain ⟨n1, n2, _⟩ := nm_of o3
      exact pee_rd cfg fa (var_rd (of_decide_eq_true o1) (vis_of o2) n1 n2).1 rfl
  | .glo k, X, py, G, h => by
    cases py <;> first | (cases h; done) | skip
    case Name x p =>
      obtain ⟨o1, o2⟩ := b2 (show (decide (gns[k]? = some x) && (glB X.env.scope x && nmB x)) = true from h)
      obtain ⟨o2, o3⟩ := b2 o2
      obtain ⟨n1, n2, _⟩ := nm_of o3
      refine pee_rd cfg fa ⟨fun pins s σ H Q I hq => ?_⟩ rfl
      obtain ⟨w, ρ, S, d, S', st, hm, q⟩ := hq
      obtain ⟨e, e2⟩ := opt_ok (show M.opt (cfg.G[k]?) S = .ok d S' from hm)
      subst e2
      obtain ⟨u, v, hmg, hr, hrp⟩ := G.glo k d x e (of_decide_eq_true o1)
      refine (pe_glob (gl_of o2) hmg hr n1).run pins s σ H Q I ?_
      have := q w v (.refl w) st.ok st.sr (hrp w)
      rw [st.h] at this
      exact this
  | .fnv f, X, py, G, h => by
    cases py <;> first | (cases h; done) | skip
    case Name x p =>
      obtain ⟨o1, o2⟩ := b2 (show (decide (fns[f]? = some x) && (glB X.env.scope x && nmB x)) = true from h)
      obtain ⟨o2, o3⟩ := b2 o2
      obtain ⟨n1, n2, _⟩ := nm_of o3
      exact pee_rd cfg fa (const_rd (t := tC .non) (pe_glob (v := .ref (fa f)) (gl_of o2) (G.fnv f x (of_decide_eq_true o1)) rfl n1) fun _ => .fn f) rfl
  | .bin op a b, X, py, G, h => by
    cases py <;> first | (cases h; done) | skip
    case BinOp x o y p =>
      obtain ⟨h1, k2⟩ := b2 (show (isOp o op && (okE X.N fns gns a X.env.scope x && okE X.N fns gns b X.env.scope y)) = true from h)
      obtain ⟨j2, k3⟩ := b2 k2
      have e := isOp_eq h1
      subst e
      exact pee_fr cfg fa (s_bin (pk_of (sndE a X x G j2).1 j2) (pk_of (sndE b X y G k3).1 k3))
  | .neg a, X, py, G, h => by
    cases py <;> first | (cases h; done) | skip
    case UnaryOp o x p =>
      cases o <;> first | (cases h; done) | skip
      exact pee_rd cfg fa (s_neg (sndE a X x G h).1) rfl
  | .cmp op a b, X, py, G, h => by
    cases py <;> first | (cases h; done) | skip
    case Compare x os ys p =>
      obtain _ | ⟨o, _ | ⟨o2, os⟩⟩ := os <;> obtain _ | ⟨y, _ | ⟨y2, ys⟩⟩ := ys <;> first | (cases h; done) | skip
      all_goals first | (cases o <;> cases h; done) | skip
      obtain ⟨h1, k2⟩ := b2 (show (isCop o op && (!behindInMarks o y && (okE X.N fns gns a X.env.scope x && okE X.N fns gns b X.env.scope y))) = true from h)
      obtain ⟨j2, k3⟩ := b2 k2
      obtain ⟨j3, k4⟩ := b2 k3
      have e := isCop_eq h1
      subst e
      exact pee_rd cfg fa (s_cmp G.units (Bool.not_eq_true' _ ▸ j2) (pk_of (sndE a X x G j3).1 j3) (pk_of (sndE b X y G k4).1 k4)) rfl
  | .chn o1 o2 a b c, X, py, G, h => by
    cases py <;> first | (cases h; done) | skip
    case Compare x os ys p =>
      obtain _ | ⟨o, _ | ⟨o', _ | ⟨o3, os⟩⟩⟩ := os <;> obtain _ | ⟨y, _ | ⟨z, _ | ⟨y2, ys⟩⟩⟩ := ys <;> first | (cases h; done) | skip
      all_goals first | (cases o <;> cases h; done) | skip
      obtain ⟨h1, k2⟩ := b2 (show (isCop o o1 && (isCop o' o2 && (!lastMarks [o, o'] [y, z] && (okE X.N fns gns a X.env.scope x && (okE X.N fns gns b X.env.scope y && okE X.N fns gns c X.env.scope z))))) = true from h)
      obtain ⟨j2, k3⟩ := b2 k2
      obtain ⟨j3, k4⟩ := b2 k3
      obtain ⟨j4, k5⟩ := b2 k4
      obtain ⟨j5, k6⟩ := b2 k5
      have e := isCop_eq h1
      subst e
      have e := isCop_eq j2
      subst e
      exact pee_rd cfg fa (s_chn G.units (Bool.not_eq_true' _ ▸ j3) (sndE a X x G j4).1 (sndE b X y G j5).1 (sndE c X z G k6).1) rfl
  | .isN a, X, py, G, h => by
    cases py <;> first | (cases h; done) | skip
    case Compare x os ys p =>
      obtain _ | ⟨o, _ | ⟨o2, os⟩⟩ := os <;> obtain _ | ⟨y, _ | ⟨y2, ys⟩⟩ := ys <;> first | (cases h; done) | skip
      all_goals first | (simp [okE] at h; done) | (simp [okB] at h; done) | skip
      cases o <;> first | (cases h; done) | skip
      cases y <;> first | (cases h; done) | skip
      case Constant c k p2 =>
        cases c <;> first | (cases h; done) | skip
        exact pee_rd cfg fa (s_isN (sndE a X x G h).1) rfl
  | .ntN a, X, py, G, h => by
    cases py <;> first | (cases h; done) | skip
    case Compare x os ys p =>
      obtain _ | ⟨o, _ | ⟨o2, os⟩⟩ := os <;> obtain _ | ⟨y, _ | ⟨y2, ys⟩⟩ := ys <;> first | (cases h; done) | skip
      all_goals first | (simp [okE] at h; done) | (simp [okB] at h; done) | skip
      cases o <;> first | (cases h; done) | skip
      cases y <;> first | (cases h; done) | skip
      case Constant c k p2 =>
        cases c <;> first | (cases h; done) | skip
        exact pee_rd cfg fa (s_ntN (sndE a X x G h).1) rfl
  | .and a b, X, py, G, h => by
    cases py <;> first | (cases h; done) | skip
    case BoolOp o vs p =>
      cases o <;> first | (cases h; done) | skip
      obtain _ | ⟨x, _ | ⟨y, _ | ⟨z, r⟩⟩⟩ := vs <;> first | (cases h; done) | skip
      · obtain ⟨h1, h2⟩ := b2 (show (okE X.N fns gns a X.env.scope x && okE X.N fns gns b X.env.scope y) = true from h)
        exact pee_rd cfg fa (s_and (sndE a X x G h1).1 (pe_one (sndE b X y G h2).1)) rfl
      · obtain ⟨h1, h2⟩ := b2 (show (okE X.N fns gns a X.env.scope x && okE X.N fns gns b X.env.scope (.BoolOp .And (y :: z :: r) p)) = true from h)
        exact pee_rd cfg fa (s_and (sndE a X x G h1).1 (sndE b X _ G h2).1) rfl
  | .or a b, X, py, G, h => by
    cases py <;> first | (cases h; done) | skip
    case BoolOp o vs p =>
      cases o <;> first | (cases h; done) | skip
      obtain _ | ⟨x, _ | ⟨y, _ | ⟨z, r⟩⟩⟩ := vs <;> first | (cases h; done) | skip
      · obtain ⟨h1, h2⟩ := b2 (show (okE X.N fns gns a X.env.scope x && okE X.N fns gns b X.env.scope y) = true from h)
        exact pee_rd cfg fa (s_or (sndE a X x G h1).1 (pe_one (sndE b X y G h2).1)) rfl
      · obtain ⟨h1, h2⟩ := b2 (show (okE X.N fns gns a X.env.scope x && okE X.N fns gns b X.env.scope (.BoolOp .Or (y :: z :: r) p)) = true from h)
        exact pee_rd cfg fa (s_or (sndE a X x G h1).1 (sndE b X _ G h2).1) rfl
  | .not a, X, py, G, h => by
    cases py <;> first | (cases h; done) | skip
    case UnaryOp o x p =>
      cases o <;> first | (cases h; done) | skip
      exact pee_rd cfg fa (s_not (sndE a X x G h).1) rfl
  | .ife c a b, X, py, G, h => by
    cases py <;> first | (cases h; done) | skip
    case IfExp t x y p =>
      obtain ⟨h1, k2⟩ := b2 (show (okB X.N fns gns c X.env.scope t && (okE X.N fns gns a X.env.scope x && okE X.N fns gns b X.env.scope y)) = true from h)
      obtain ⟨j2, k3⟩ := b2 k2
      exact pee_rd cfg fa (s_ife (sndB c X t G h1) (sndE a X x G j2).1 (sndE b X y G k3).1) rfl
  | .tup es, X, py, G, h => by
    cases py <;> first | (cases h; done) | skip
    case Tuple xs k p => exact pee_rd cfg fa (s_tup (sndEs es X xs G h).1) rfl
  | .lst es, X, py, G, h => by
    cases py <;> first | (cases h; done) | skip
    case List xs p => exact pee_fr cfg fa (s_lst (sndEs es X xs G h).1)
  | .cell es, X, py, G, h => by
    cases py <;> first | (cases h; done) | skip
    case List xs p => exact pee_rd cfg fa (s_cell (sndEs es X xs G h).1) rfl
  | .call f es, X, py, G, h => by
    cases py <;> first | (cases h; done) | skip
    case Call g xs kw p =>
      cases g <;> first | (cases h; done) | skip
      case Name x p2 =>
        cases kw <;> first | (cases h; done) | skip
        obtain ⟨h1, k2⟩ := b2 (show (decide (fns[f]? = some x) && (glB X.env.scope x && (nmB x && okEs X.N fns gns es X.env.scope xs))) = true from h)
        obtain ⟨j2, k3⟩ := b2 k2
        obtain ⟨j3, k4⟩ := b2 k3
        obtain ⟨n1, n2, _⟩ := nm_of j3
        refine pee_rd cfg fa (PE.conv (t := rdR X.K fa (fun ρ => M.bind (evs cfg es ρ) fun xs => cfg.C f xs)) ?_ fun σ H Q hq => rdR_rd (m := fun ρ => M.bind (evs cfg es ρ) fun xs => cfg.C f xs) ?_) rfl
        · by_cases hne : xs = []
          · subst hne
            cases es with
            | nil => exact s_call0 G (of_decide_eq_true h1) (gl_of j2) n1
            | cons _ _ => cases k4
          · refine s_call G (of_decide_eq_true h1) (gl_of j2) n1 (sndEs es X xs G k4).1 hne fun e r er => ?_
            subst er
            cases es with
            | nil => cases k4
            | cons e2 es =>
              obtain ⟨k1, k2⟩ := b2 (show (okE X.N fns gns e2 X.env.scope e && okEs X.N fns gns es X.env.scope r) = true from k4)
              exact ⟨ok_star k1, ok_any k2⟩
        · obtain ⟨w, ρ, S, d, S', st, hm, q⟩ := hq
          refine ⟨w, ρ, S, d, S', st, ?_, q⟩
          obtain ⟨ys, S1, g1, g2⟩ := bind_ok (show M.bind (evs cfg es ρ) (fun xs => M.bind (cfg.C f xs) fun r => M.pure r.d) S = .ok d S' from hm)
          obtain ⟨r, S2, g3, g4⟩ := bind_ok g2
          show M.bind (M.bind (evs cfg es ρ) fun xs => cfg.C f xs) (fun r => M.pure r.d) S = _
          rw [bind_eq (a := r) (S1 := S2) (by rw [bind_eq g1]; exact g3)]
          exact g4
  | .blt f es, X, py, G, h => by
    cases py <;> first | (cases h; done) | skip
    case Call g xs kw p =>
      cases g <;> first | (cases h; done) | skip
      case Name x p2 =>
        obtain _ | ⟨y, ys⟩ := xs <;> cases kw <;> first | (cases h; done) | skip
        obtain ⟨h1, k2⟩ := b2 (show (decide (x = nmBl f) && (glB X.env.scope x && okEs X.N fns gns es X.env.scope (y :: ys))) = true from h)
        obtain ⟨j2, k3⟩ := b2 k2
        have e : x = nmBl f := of_decide_eq_true h1
        subst e
        have hp := (sndEs es X (y :: ys) G k3).2
        cases es with
        | nil => cases k3
        | cons e2 es =>
          obtain ⟨k1, k2⟩ := b2 (show (okE X.N fns gns e2 X.env.scope y && okEs X.N fns gns es X.env.scope ys) = true from k3)
          exact pee_fr cfg fa (s_blt G (gl_of j2) hp (ok_star k1) (ok_any k2))
  | .isi a ts, X, py, G, h => by
    cases py <;> first | (cases h; done) | skip
    case Call g xs kw p =>
      cases g <;> first | (cases h; done) | skip
      case Name x p2 =>
        obtain _ | ⟨y, _ | ⟨c, _ | ⟨z, r⟩⟩⟩ := xs <;> cases kw <;> first | (cases h; done) | skip
        obtain ⟨h1, k2⟩ := b2 (show (decide (x = ("isinstance" : Str)) && (glB X.env.scope x && (okE X.N fns gns a X.env.scope y && okTyA ts X.env.scope c))) = true from h)
        obtain ⟨j2, k3⟩ := b2 k2
        obtain ⟨j3, k4⟩ := b2 k3
        have e : x = ("isinstance" : Str) := of_decide_eq_true h1
        subst e
        exact pee_rd cfg fa (s_isi G (gl_of j2) (sndE a X y G j3).1 (fun r => ok_star j3) k4) rfl
  | .idx a i, X, py, G, h => by
    cases py <;> first | (cases h; done) | skip
    case Subscript x y p =>
      obtain ⟨h1, k2⟩ := b2 (show (okE X.N fns gns a X.env.scope x && okE X.N fns gns i X.env.scope y) = true from h)
      exact pee_rd cfg fa (s_idx (pk_of (sndE a X x G h1).1 h1) (sndE i X y G k2).1 (ok_ix k2)) rfl
  | .slN a, X, py, G, h => by
    cases py <;> first | (cases h; done) | skip
    case Subscript x y p =>
      cases y <;> first | (cases h; done) | skip
      case Slice l u s p2 =>
        cases l <;> cases u <;> cases s <;> first | (cases h; done) | skip
        exact pee_fr cfg fa (s_slN (pk_of (sndE a X x G h).1 h))
  | .slL a lo, X, py, G, h => by
    cases py <;> first | (cases h; done) | skip
    case Subscript x y p =>
      cases y <;> first | (cases h; done) | skip
      case Slice l u s p2 =>
        cases l <;> cases u <;> cases s <;> first | (cases h; done) | skip
        case some.none.none l =>
          obtain ⟨h1, k2⟩ := b2 (show (okE X.N fns gns a X.env.scope x && okE X.N fns gns lo X.env.scope l) = true from h)
          exact pee_fr cfg fa (s_slL (pk_of (sndE a X x G h1).1 h1) (sndE lo X l G k2).1)
  | .slU a hi, X, py, G, h => by
    cases py <;> first | (cases h; done) | skip
    case Subscript x y p =>
      cases y <;> first | (cases h; done) | skip
      case Slice l u s p2 =>
        cases l <;> cases u <;> cases s <;> first | (cases h; done) | skip
        case none.some.none l =>
          obtain ⟨h1, k2⟩ := b2 (show (okE X.N fns gns a X.env.scope x && okE X.N fns gns hi X.env.scope l) = true from h)
          exact pee_fr cfg fa (s_slU (pk_of (sndE a X x G h1).1 h1) (sndE hi X l G k2).1)
  | .slB a lo hi, X, py, G, h => by
    cases py <;> first | (cases h; done) | skip
    case Subscript x y p =>
      cases y <;> first | (cases h; done) | skip
      case Slice l u s p2 =>
        cases l <;> cases u <;> cases s <;> first | (cases h; done) | skip
        case some.some.none l u =>
          obtain ⟨h1, k2⟩ := b2 (show (okE X.N fns gns a X.env.scope x && (okE X.N fns gns lo X.env.scope l && okE X.N fns gns hi X.env.scope u)) = true from h)
          obtain ⟨j2, k3⟩ := b2 k2
          exact pee_fr cfg fa (s_slB (pk_of (sndE a X x G h1).1 h1) (sndE lo X l G j2).1 (sndE hi X u G k3).1)
  | .rev a, X, py, G, h => by
    cases py <;> first | (cases h; done) | skip
    case Subscript x y p =>
      cases y <;> first | (cases h; done) | skip
      case Slice l u s p2 =>
        cases l <;> cases u <;> cases s <;> first | (cases h; done) | skip
        case none.none.some s =>
          cases s <;> first | (cases h; done) | skip
          case UnaryOp o z p3 =>
            cases o <;> cases z <;> first | (cases h; done) | skip
            case USub.Constant c k p4 =>
              cases c <;> first | (cases h; done) | skip
              case int j =>
                obtain ⟨h1, k2⟩ := b2 (show (decide (j = 1) && okE X.N fns gns a X.env.scope x) = true from h)
                have e : j = 1 := of_decide_eq_true h1
                subst e
                exact pee_fr cfg fa (s_rev (pk_of (sndE a X x G k2).1 k2))
  | .upper a, X, py, G, h => by
    cases a <;> cases py <;> first | (cases h; done) | skip
    case var.Call i g xs kw p =>
      cases g <;> first | (cases h; done) | skip
      case Attribute v m p2 =>
        cases v <;> cases xs <;> cases kw <;> first | (cases h; done) | skip
        case Name.nil.nil x p3 =>
          obtain ⟨h1, k2⟩ := b2 (show (decide (m = ("upper" : Str)) && ((p2.endLine == p.line) && okE X.N fns gns (.var i) X.env.scope (.Name x p3))) = true from h)
          obtain ⟨j2, k3⟩ := b2 k2
          exact pee_rd cfg fa (s_upper (of_decide_eq_true h1) j2 (sndE (.var i) X _ G k3).1) rfl
  | .lc t s e vs, X, py, G, h => by
    cases py <;> first | (cases h; done) | skip
    case ListComp elt gs scope p =>
      obtain _ | ⟨⟨tg, it, ifs, as⟩, _ | ⟨g2, gs⟩⟩ := gs <;> first | (cases h; done) | skip
      all_goals obtain _ | ⟨c1, ifs⟩ := ifs <;> obtain (_ | as) | as := as <;> first | (cases h; done) | (simp [okE] at h; done) | skip
      obtain ⟨h1, k2⟩ := b2 (show (blkC X.N X.env.scope scope (ownOf X.N vs) && (okTg X.N false vs t (relS scope X.env.scope) tg && (okI X.N fns gns s X.env.scope it && okE X.N fns gns e (relS scope X.env.scope) elt))) = true from h)
      obtain ⟨j2, k3⟩ := b2 k2
      obtain ⟨j3, k4⟩ := b2 k3
      obtain ⟨i1, i2⟩ := sndI s X tg it G j3
      have eq : ev cfg (.lc t s e vs) = fun ρ => M.bind (its cfg s ρ) fun xs => M.guard (decide (xs.length ≤ 1000000)) (M.bind (mapF' (fun d => M.bind (M.opt (bindT t d (Ev.wipe ρ vs))) fun _ => M.pure true) (fun d => M.bind (M.opt (bindT t d (Ev.wipe ρ vs))) fun ρ' => ev cfg e ρ') xs) fun ys => M.pure (.lst ys)) := by
        funext ρ
        show (M.bind (its cfg s ρ) fun xs => M.guard (decide (xs.length ≤ 1000000)) (M.bind (mapF' (fun _ => M.pure true) (fun d => M.bind (M.opt (bindT t d (Ev.wipe ρ vs))) fun ρ' => ev cfg e ρ') xs) fun ys => M.pure (D.lst ys))) = _
        simp only [mapF_tr]
      refine pee_fr cfg fa ?_
      rw [eq]
      exact (s_lcf (mc := fun _ => M.pure true) G.nd G.calm (blkOk_by h1) i1 (fun s H C cl fp => s_tg (cb := false) (X := X.blk s H scope (compEnvC scope cl C X.env) fp) G.nd G.calm (fun z => by cases z) t tg j2)
        (fun s H C cl fp => ⟨fun pins s2 σ H2 Q I hq => pts_nil.run pins s2 σ H2 Q I (by
          obtain ⟨w, ρ, S, d, S', st, hm, q⟩ := hq
          obtain ⟨e1, rfl⟩ := pure_ok hm
          subst e1
          have := q w (.refl w) st.ok st.sr
          rw [st.h] at this
          exact this)⟩)
        (fun s H C cl fp => (sndE e (X.blk s H scope (compEnvC scope cl C X.env) fp) elt (G.blk s H scope _ fp) k4).1) i2)
  | .lcf t s c e vs, X, py, G, h => by
    cases py <;> first | (cases h; done) | skip
    case ListComp elt gs scope p =>
      obtain _ | ⟨⟨tg, it, ifs, as⟩, _ | ⟨g2, gs⟩⟩ := gs <;> first | (cases h; done) | skip
      all_goals obtain _ | ⟨c1, _ | ⟨c2, ifs⟩⟩ := ifs <;> obtain (_ | as) | as := as <;> first | (cases h; done) | (simp [okE] at h; done) | skip
      obtain ⟨h1, k2⟩ := b2 (show (blkC X.N X.env.scope scope (ownOf X.N vs) && (okTg X.N false vs t (relS scope X.env.scope) tg && (okI X.N fns gns s X.env.scope it && (okB X.N fns gns c (relS scope X.env.scope) c1 && okE X.N fns gns e (relS scope X.env.scope) elt)))) = true from h)
      obtain ⟨j2, k3⟩ := b2 k2
      obtain ⟨j3, k4⟩ := b2 k3
      obtain ⟨j4, k5⟩ := b2 k4
      obtain ⟨i1, i2⟩ := sndI s X tg it G j3
      exact pee_fr cfg fa (s_lcf G.nd G.calm (blkOk_by h1) i1 (fun s H C cl fp => s_tg (cb := false) (X := X.blk s H scope (compEnvC scope cl C X.env) fp) G.nd G.calm (fun z => by cases z) t tg j2)
        (fun s H C cl fp => pts_one (sndB c (X.blk s H scope (compEnvC scope cl C X.env) fp) c1 (G.blk s H scope _ fp) j4))
        (fun s H C cl fp => (sndE e (X.blk s H scope (compEnvC scope cl C X.env) fp) elt (G.blk s H scope _ fp) k5).1) i2)
theorem sndEs : ∀ (es : Es) (X : Cx) (pys : List Expr), Good X cfg fa fns gns → okEs X.N fns gns es X.env.scope pys = true → PA X pys (rdA X.K fa (Rp X.K fa) (evs cfg es)) ∧ PA X pys (rdA X.K fa (RpP X.K fa) (pks cfg es))
  | .nil, X, [], G, h => ⟨a_nil, a_nil⟩
  | .nil, X, _ :: _, G, h => by cases h
  | .cons _ _, X, [], G, h => by cases h
  | .cons e es, X, x :: xs, G, h => by
    obtain ⟨h1, k2⟩ := b2 (show (okE X.N fns gns e X.env.scope x && okEs X.N fns gns es X.env.scope xs) = true from h)
    have he := (sndE e X x G h1).1
    have hs := sndEs es X xs G k2
    exact ⟨a_cons Rp.monoR he hs.1 (ok_star h1), a_cons RpP.monoR (pk_of he h1) hs.2 (ok_star h1)⟩
theorem sndB : ∀ (c : B) (X : Cx) (py : Expr), Good X cfg fa fns gns → okB X.N fns gns c X.env.scope py = true → PT X py (rdT X.K fa (tst cfg c))
  | .and a b, X, py, G, h => by
    cases py <;> first | (cases h; done) | skip
    case BoolOp o vs p =>
      cases o <;> first | (cases h; done) | skip
      obtain _ | ⟨x, _ | ⟨y, _ | ⟨z, r⟩⟩⟩ := vs <;> first | (cases h; done) | skip
      · obtain ⟨h1, h2⟩ := b2 (show (okB X.N fns gns a X.env.scope x && okB X.N fns gns b X.env.scope y) = true from h)
        exact (t_and (sndB a X x G h1) (pw_and1 (sndB b X y G h2))).pt
      · obtain ⟨h1, h2⟩ := b2 (show (okB X.N fns gns a X.env.scope x && okB X.N fns gns b X.env.scope (.BoolOp .And (y :: z :: r) p)) = true from h)
        exact (t_and (sndB a X x G h1) (pw_bool (sndB b X _ G h2) fun _ _ => rfl)).pt
  | .or a b, X, py, G, h => by
    cases py <;> first | (cases h; done) | skip
    case BoolOp o vs p =>
      cases o <;> first | (cases h; done) | skip
      obtain _ | ⟨x, _ | ⟨y, _ | ⟨z, r⟩⟩⟩ := vs <;> first | (cases h; done) | skip
      · obtain ⟨h1, h2⟩ := b2 (show (okB X.N fns gns a X.env.scope x && okB X.N fns gns b X.env.scope y) = true from h)
        exact (t_or (sndB a X x G h1) (pw_or1 (sndB b X y G h2))).pt
      · obtain ⟨h1, h2⟩ := b2 (show (okB X.N fns gns a X.env.scope x && okB X.N fns gns b X.env.scope (.BoolOp .Or (y :: z :: r) p)) = true from h)
        exact (t_or (sndB a X x G h1) (pw_bool (sndB b X _ G h2) fun _ _ => rfl)).pt
  | .not a, X, py, G, h => by
    cases py <;> first | (cases h; done) | skip
    case UnaryOp o x p =>
      cases o <;> first | (cases h; done) | skip
      exact t_not (sndB a X x G h)
  | .e e, X, py, G, h => by
    obtain ⟨h1, k2⟩ := b2 (show (plainT py && okE X.N fns gns e X.env.scope py) = true from h)
    exact t_val (pk_of (sndE e X py G k2).1 k2) h1
  | .cmp op a b, X, py, G, h => by
    cases py <;> first | (cases h; done) | skip
    case Compare x os ys p =>
      obtain _ | ⟨o, _ | ⟨o2, os⟩⟩ := os <;> obtain _ | ⟨y, _ | ⟨y2, ys⟩⟩ := ys <;> first | (cases h; done) | skip
      all_goals first | (cases o <;> cases h; done) | skip
      obtain ⟨h1, k2⟩ := b2 (show (isCop o op && (!behindInMarks o y && (okE X.N fns gns a X.env.scope x && okE X.N fns gns b X.env.scope y))) = true from h)
      obtain ⟨j2, k3⟩ := b2 k2
      obtain ⟨j3, k4⟩ := b2 k3
      have e := isCop_eq h1
      subst e
      exact s_cmpT G.units (Bool.not_eq_true' _ ▸ j2) (pk_of (sndE a X x G j3).1 j3) (pk_of (sndE b X y G k4).1 k4)
  | .chn o1 o2 a b c, X, py, G, h => by
    cases py <;> first | (cases h; done) | skip
    case Compare x os ys p =>
      obtain _ | ⟨o, _ | ⟨o', _ | ⟨o3, os⟩⟩⟩ := os <;> obtain _ | ⟨y, _ | ⟨z, _ | ⟨y2, ys⟩⟩⟩ := ys <;> first | (cases h; done) | skip
      all_goals first | (cases o <;> cases h; done) | skip
      obtain ⟨h1, k2⟩ := b2 (show (isCop o o1 && (isCop o' o2 && (!lastMarks [o, o'] [y, z] && (okE X.N fns gns a X.env.scope x && (okE X.N fns gns b X.env.scope y && okE X.N fns gns c X.env.scope z))))) = true from h)
      obtain ⟨j2, k3⟩ := b2 k2
      obtain ⟨j3, k4⟩ := b2 k3
      obtain ⟨j4, k5⟩ := b2 k4
      obtain ⟨j5, k6⟩ := b2 k5
      have e := isCop_eq h1
      subst e
      have e := isCop_eq j2
      subst e
      exact s_chnT G.units (Bool.not_eq_true' _ ▸ j3) (sndE a X x G j4).1 (sndE b X y G j5).1 (sndE c X z G k6).1
  | .isN a, X, py, G, h => by
    cases py <;> first | (cases h; done) | skip
    case Compare x os ys p =>
      obtain _ | ⟨o, _ | ⟨o2, os⟩⟩ := os <;> obtain _ | ⟨y, _ | ⟨y2, ys⟩⟩ := ys <;> first | (cases h; done) | skip
      all_goals first | (simp [okE] at h; done) | (simp [okB] at h; done) | skip
      cases o <;> first | (cases h; done) | skip
      cases y <;> first | (cases h; done) | skip
      case Constant c k p2 =>
        cases c <;> first | (cases h; done) | skip
        exact s_isNT (sndE a X x G h).1
  | .ntN a, X, py, G, h => by
    cases py <;> first | (cases h; done) | skip
    case Compare x os ys p =>
      obtain _ | ⟨o, _ | ⟨o2, os⟩⟩ := os <;> obtain _ | ⟨y, _ | ⟨y2, ys⟩⟩ := ys <;> first | (cases h; done) | skip
      all_goals first | (simp [okE] at h; done) | (simp [okB] at h; done) | skip
      cases o <;> first | (cases h; done) | skip
      cases y <;> first | (cases h; done) | skip
      case Constant c k p2 =>
        cases c <;> first | (cases h; done) | skip
        exact s_ntNT (sndE a X x G h).1
theorem sndI : ∀ (s : I) (X : Cx) (tg py : Expr), Good X cfg fa fns gns → okI X.N fns gns s X.env.scope py = true → PI X tg py (rdI X.K fa (its cfg s)) ∧ ∀ v, foldedSetIterable py X.env v = pure v
  | .seq e, X, tg, py, G, h => by
    have h : okE X.N fns gns e X.env.scope py = true := h
    exact ⟨i_seq (pk_of (sndE e X py G h).1 h), ok_fold h⟩
  | .rng e, X, tg, py, G, h => by
    cases py <;> first | (cases h; done) | skip
    case Call g xs kw p =>
      cases g <;> first | (cases h; done) | skip
      case Name x p2 =>
        obtain _ | ⟨y, _ | ⟨z, r⟩⟩ := xs <;> cases kw <;> first | (cases h; done) | skip
        obtain ⟨h1, k2⟩ := b2 (show (decide (x = ("range" : Str)) && (glB X.env.scope x && okE X.N fns gns e X.env.scope y)) = true from h)
        obtain ⟨j2, k3⟩ := b2 k2
        have e1 : x = ("range" : Str) := of_decide_eq_true h1
        subst e1
        exact ⟨i_rng G (gl_of j2) (sndE e X y G k3).1 (ok_star k3), fun v => rfl⟩
end
end
end Ev

/-! Statements: which term stands for which text; the worlds' steps behind them. -/
namespace Ev
open PySem PySem.Spec PyProof.Rows L2

def isCallE : E → Bool
  | .call _ _ => true
  | _ => false
/-- the store of a value: a comprehension's is exchanged, and is so for sure -/
def compB (sc : Scope) (x : Str) (p : Pos) : Expr → Bool
  | .ListComp _ _ s pos => !locB sc x || (p.line == pos.line) && !(s.names.any fun (n, k) => n == x && (k == .local || k == .cell))
  | .SetComp _ _ _ _ => false
  | .DictComp _ _ _ _ _ => false
  | _ => true
def noComp : Expr → Bool
  | .ListComp _ _ _ _ => false
  | .SetComp _ _ _ _ => false
  | .DictComp _ _ _ _ _ => false
  | _ => true
def noSwapV : Expr → Bool
  | .Tuple vs _ _ => vs.all (foldedForSure 8) || !(vs.length == 2 || vs.length == 3)
  | _ => true
/-- all is folded, or the names are not plain locals all -/
def noSwapT (sc : Scope) (ts : List Expr) : Bool := ts.any fun | .Name x _ => !locB sc x | _ => true
def nmL (N : List Str) (i : Nat) (sc : Scope) (x : Str) : Bool := decide (N[i]? = some x) && lcB true sc x
def nmP (N : List Str) (i : Nat) (sc : Scope) (x : Str) : Bool := decide (N[i]? = some x) && locB sc x
section
variable (N fns gns : List Str)
mutual
def okT : T → Scope → Stmt → Bool
  | .asg i e, sc, .Assign [.Name x p] v _ => nmL N i sc x && (compB sc x p v && okE N fns gns e sc v)
  | .asgO i e, sc, .Assign [.Name x p] v _ => nmL N i sc x && (compB sc x p v && ((isFr e || isCallE e) && okE N fns gns e sc v))
  | .par2 i j a b, sc, .Assign [.Tuple [.Name x px, .Name y py] _ _] (.Tuple [v1, v2] _ _) _ =>
    nmP N i sc x && (nmP N j sc y && (decide (i ≠ j) && ((py.line == px.line) && (!(x == y) && (!(foldedForSure 8 v1 && foldedForSure 8 v2) && (!(constantsAlone 8 v1 && constantsAlone 8 v2) && (okE N fns gns a sc v1 && okE N fns gns b sc v2)))))))
  | .par3 i j k oi a b c, sc, .Assign [.Tuple [.Name x px, .Name y py, .Name z pz] _ _] (.Tuple [v1, v2, v3] _ _) _ =>
    nmP N i sc x && (nmP N j sc y && (nmP N k sc z && (decide (i ≠ j) && (decide (i ≠ k) && (decide (j ≠ k) && ((py.line == px.line) && ((pz.line == px.line) && (!(x == y) && (!(x == z) && (!(y == z) && (!(foldedForSure 8 v1 && (foldedForSure 8 v2 && foldedForSure 8 v3)) && (!(constantsAlone 8 v1 && (constantsAlone 8 v2 && constantsAlone 8 v3)) && ((!oi || (isFr a || isCallE a)) && (okE N fns gns a sc v1 && (okE N fns gns b sc v2 && okE N fns gns c sc v3)))))))))))))))
  | .unp t e, sc, .Assign [.Tuple ts k p] v _ => okTg N true (List.range N.length) t sc (.Tuple ts k p) && ((noSwapV v || noSwapT sc ts) && okE N fns gns e sc v)
  | .setI i k v, sc, .Assign [.Subscript (.Name x _) ix _] v' _ => nmL N i sc x && (nmB x && (okE N fns gns v sc v' && okE N fns gns k sc ix))
  | .app i e, sc, .Expr (.Call (.Attribute (.Name x _) m apos) [v] [] cpos) _ => nmL N i sc x && (nmB x && (decide (m = ("append" : Str)) && ((apos.endLine == cpos.line) && okE N fns gns e sc v)))
  | .ret e, sc, .Return (some v) _ => okE N fns gns e sc v
  | .reto i, sc, .Return (some (.Name x _)) _ => nmL N i sc x && nmB x
  | .ifs c a b, sc, .If v p q _ => okB N fns gns c sc v && (okTs a sc p && okTs b sc q)
  | .fors t s b, sc, .For tg it p [] _ => okTg N true (List.range N.length) t sc tg && (okI N fns gns s sc it && okTs b sc p)
  | .whl c b, sc, .While v p [] _ => okB N fns gns c sc v && okTs b sc p
  | .exp e, sc, .Expr v _ => noComp v && okE N fns gns e sc v
  | _, _, _ => false
def okTs : Ts → Scope → List Stmt → Bool
  | .nil, _, [] => true
  | .cons t ts, sc, s :: ss => okT t sc s && okTs ts sc ss
  | _, _, _ => false
end
end

/-! ### readings of statements -/
def EdT (K : PySem.W.Frag) (fa : Nat → Addr) (w0 w : Wd) (D : Ends) (S' : Sto) : Fl → Prop
  | .nx ρ' => ∀ w' σ', Kp w w' → w0.Le w' → Sit K fa w' w'.H σ' ρ' S' → Yg w0.H σ' ρ' → D.nx σ' w'.H
  | .rt r => ∀ w' v, w0.Le w' → w'.Ok → SR K fa w' S' → RR K fa w0 w' v r → D.rt v w'.H
def rs (K : PySem.W.Frag) (fa : Nat → Addr) (w0 : Wd) (m : Env → M Fl) : TS := fun D σ H => ∃ w ρ S fl S', Sit K fa w H σ ρ S ∧ w0.Le w ∧ Yg w0.H σ ρ ∧ m ρ S = .ok fl S' ∧ EdT K fa w0 w D S' fl
theorem _root_.L2.PS.conv {X : Cx} {st : Stmt} {t t' : TS} (h : PS X st t) (c : ∀ D σ H, t' D σ H → t D σ H) : PS X st t' := ⟨fun pins s σ H D I q => h.run pins s σ H D I (c D σ H q)⟩
theorem _root_.L2.PSs.conv {X : Cx} {st : List Stmt} {t t' : TS} (h : PSs X st t) (c : ∀ D σ H, t' D σ H → t D σ H) : PSs X st t' := ⟨fun pins s σ H D I q => h.run pins s σ H D I (c D σ H q)⟩
section
variable {K : PySem.W.Frag} {fa : Nat → Addr} {w w' w0 w1 w2 : Wd} {σ : L2.St} {ρ : Env} {S S' : Sto}
theorem Kp.refl (w : Wd) : Kp w w := ⟨fun _ _ e => e, fun _ _ _ e => e, fun _ _ f e => ⟨f, e⟩, fun _ _ e => e⟩
theorem Kp.trans (a : Kp w w1) (b : Kp w1 w2) : Kp w w2 :=
  ⟨fun x xs e => b.tup x xs (a.tup x xs e), fun x o u e => b.frz x o u (a.frz x o u e), fun x xs f e => b.lst x xs (a.lst x xs f e).1 (a.lst x xs f e).2, fun n x e => b.loc n x (a.loc n x e)⟩
theorem EdT.kp {D : Ends} {fl : Fl} (h : EdT K fa w0 w D S fl) (k : Kp w w1) : EdT K fa w0 w1 D S fl := by
  cases fl with
  | nx ρ' => exact fun w' σ' k' l s y => h w' σ' (k.trans k') l s y
  | rt r => exact h

/-! ### slots -/
theorem FR.set' {i : Nat} {v : V} {d : D} (f : FR K fa w σ ρ) (r : Rp K fa w v d) : FR K fa w (σ.set i (some v)) (ρ.set i (some (.val d))) := by
  by_cases h : i < σ.length
  · exact f.set h r
  · rw [List.set_eq_of_length_le (by omega), List.set_eq_of_length_le (by rw [← f.len]; omega)]
    exact f
theorem Yg.set {H0 : Hp} {i : Nat} {v : V} {d : D} (y : Yg H0 σ ρ) : Yg H0 (σ.set i (some v)) (ρ.set i (some (.val d))) := by
  intro j ds a h1 h2
  rw [List.getElem?_set] at h1 h2
  by_cases hj : i = j
  · subst hj
    rw [if_pos rfl] at h1
    split at h1 <;> cases h1
  · rw [if_neg hj] at h1 h2
    exact y j ds a h1 h2
theorem Yg.eqx {H0 : Hp} {vs : List Nat} {σ' : L2.St} {ρ' : Env} (y : Yg H0 σ ρ) (e : Eqx vs σ σ' ρ ρ') : Yg H0 σ' ρ' := by
  intro j ds a h1 h2
  obtain ⟨e1, e2⟩ := e.2.2.2 j ds h1
  rw [e2] at h2
  exact y j ds a e1 h2
/-- a slot gets a list that nobody else holds -/
theorem FR.setO {i : Nat} {a : Addr} {vs : List V} {ds : List D} (f : FR K fa w σ ρ) (h : w.H a = some (.lst vs)) (nf : ¬ w.F a) (na : a ∉ w.A) (hl : vs.length ≤ sizeLine) (r : Rps K fa w vs ds)
    (hn : ∀ (j : Nat) es, ρ[j]? = some (some (.own es)) → σ[j]? ≠ some (some (.ref a))) : FR K fa w (σ.set i (some (.ref a))) (ρ.set i (some (.own ds))) := by
  have len := f.len
  refine ⟨by rw [List.length_set, List.length_set, len], fun j e h => ?_, fun j es h => ?_, fun j k es fs b e1 e2 e3 e4 => ?_⟩
  · rw [List.getElem?_set] at h
    by_cases hj : i = j
    · subst hj
      rw [if_pos rfl] at h
      split at h <;> cases h
    · rw [if_neg hj] at h
      rw [List.getElem?_set, if_neg hj]
      exact f.val j e h
  · rw [List.getElem?_set] at h
    by_cases hj : i = j
    · subst hj
      rw [if_pos rfl] at h
      split at h
      · cases h
        exact ⟨a, vs, by rw [List.getElem?_set, if_pos rfl, if_pos (by omega)], by assumption, nf, na, hl, r⟩
      · cases h
    · rw [if_neg hj] at h
      rw [List.getElem?_set, if_neg hj]
      exact f.own j es h
  · rw [List.getElem?_set] at e1 e2 e3 e4
    by_cases hj : i = j
    · by_cases hk : i = k
      · exact hj.symm.trans hk
      · rw [if_neg hk] at e2 e4
        subst hj
        rw [if_pos rfl] at e1 e3
        split at e3
        · cases e3
          exact absurd e4 (hn k fs e2)
        · cases e3
    · by_cases hk : i = k
      · rw [if_neg hj] at e1 e3
        subst hk
        rw [if_pos rfl] at e2 e4
        split at e4
        · cases e4
          exact absurd e3 (hn j es e1)
        · cases e4
      · rw [if_neg hj] at e1 e3
        rw [if_neg hk] at e2 e4
        exact f.dis j k es fs b e1 e2 e3 e4
theorem Yg.setO {H0 : Hp} {i : Nat} {a : Addr} {ds : List D} (y : Yg H0 σ ρ) (h : H0 a = none) : Yg H0 (σ.set i (some (.ref a))) (ρ.set i (some (.own ds))) := by
  intro j es b h1 h2
  rw [List.getElem?_set] at h1 h2
  by_cases hj : i = j
  · subst hj
    rw [if_pos rfl] at h1 h2
    split at h2
    · cases h2
      exact h
    · cases h2
  · rw [if_neg hj] at h1 h2
    exact y j es b h1 h2
/-- a new list's address is in no slot of the frame's own -/
theorem FR.new_ne (f : FR K fa w σ ρ) {a : Addr} (h : w.H a = none) (j : Nat) (es : List D) (e : ρ[j]? = some (some (.own es))) : σ[j]? ≠ some (some (.ref a)) := by
  obtain ⟨b, vs, h1, h2, _⟩ := f.own j es e
  intro z
  rw [h1] at z
  cases z
  rw [h] at h2
  cases h2

/-! ### lists of the frame's own are let stand -/
def Wd.fixS (w : Wd) (P : Addr → Prop) : Wd := { w with F := fun a => w.F a ∨ P a }
theorem fixS_kp (w : Wd) (P : Addr → Prop) : Kp w (w.fixS P) := ⟨fun _ _ e => e, fun _ _ _ e => e, fun _ _ f e => ⟨.inl f, e⟩, fun _ _ e => e⟩
theorem fixS_ok {P : Addr → Prop} (k : w.Ok) (h : ∀ a, P a → (∃ vs, w.H a = some (.lst vs)) ∧ a ∉ w.A) : (w.fixS P).Ok :=
  ⟨fun a f => f.elim (k.fz a) fun p => (h a p).1, k.ce, fun a m f => f.elim (k.cf a m) fun p => (h a p).2 m, k.nd⟩
theorem fixS_le {P : Addr → Prop} (l : w0.Le w) (h : ∀ a, P a → w0.H a = none) : w0.Le (w.fixS P) :=
  ⟨fun a f => .inl (l.f a f), fun a f => f.elim (l.fn a) fun p => .inr (h a p), l.a, l.h⟩
theorem fixS_sr {P : Addr → Prop} (r : SR K fa w S) : SR K fa (w.fixS P) S := r.keep (fixS_kp w P) rfl fun _ _ => rfl
theorem fixAll_get (ρ : Env) (i : Nat) : (fixAll ρ)[i]? = (ρ[i]?).map fun o => o.map SV.fix := by unfold fixAll; rw [List.getElem?_map]
theorem FR.fixAll (f : FR K fa w σ ρ) {P : Addr → Prop} (h : ∀ (i : Nat) ds a, ρ[i]? = some (some (.own ds)) → σ[i]? = some (some (.ref a)) → P a) : FR K fa (w.fixS P) σ (fixAll ρ) := by
  refine ⟨by unfold Ev.fixAll; rw [List.length_map]; exact f.len, fun i d e => ?_, fun i ds e => ?_, fun i j ds es a e => ?_⟩
  · rw [fixAll_get] at e
    cases q : ρ[i]? with
    | none =>
      rw [q] at e
      cases e
    | some o =>
      rw [q] at e
      cases o with
      | none => cases e
      | some sv =>
        cases sv with
        | val d' =>
          cases (Option.some.inj e)
          obtain ⟨v, h1, h2⟩ := f.val i _ q
          exact ⟨v, h1, h2.keep (fixS_kp w P)⟩
        | own xs =>
          cases (Option.some.inj e)
          obtain ⟨a, vs, h1, h2, h3, h4, h5, h6⟩ := f.own i xs q
          exact ⟨_, h1, .lst h2 (.inr (h i xs a q h1)) h5 (h6.keep (fixS_kp w P))⟩
  · rw [fixAll_get] at e
    cases q : ρ[i]? with
    | none =>
      rw [q] at e
      cases e
    | some o =>
      rw [q] at e
      cases o with
      | none => cases e
      | some sv => cases sv <;> cases (Option.some.inj e)
  · rw [fixAll_get] at e
    cases q : ρ[i]? with
    | none =>
      rw [q] at e
      cases e
    | some o =>
      rw [q] at e
      cases o with
      | none => cases e
      | some sv => cases sv <;> cases (Option.some.inj e)
/-- one list is let stand -/
theorem FR.fix1 {i : Nat} {a : Addr} {xs : List D} (f : FR K fa w σ ρ) (e : ρ[i]? = some (some (.own xs))) (ha : σ[i]? = some (some (.ref a))) : FR K fa (w.fixS fun b => b = a) σ (ρ.set i (some (.val (.lst xs)))) := by
  obtain ⟨a', vs, h1, h2, h3, h4, h5, h6⟩ := f.own i xs e
  rw [ha] at h1
  cases h1
  have kp := fixS_kp w fun b => b = a
  refine ⟨by rw [List.length_set]; exact f.len, fun j d h => ?_, fun j es h => ?_, fun j k es fs b e1 e2 e3 e4 => ?_⟩
  · rw [List.getElem?_set] at h
    by_cases hj : i = j
    · subst hj
      rw [if_pos rfl] at h
      split at h
      · cases h
        exact ⟨_, ha, .lst h2 (.inr rfl) h5 (h6.keep kp)⟩
      · cases h
    · rw [if_neg hj] at h
      obtain ⟨v, g1, g2⟩ := f.val j d h
      exact ⟨v, g1, g2.keep kp⟩
  · rw [List.getElem?_set] at h
    by_cases hj : i = j
    · subst hj
      rw [if_pos rfl] at h
      split at h <;> cases h
    · rw [if_neg hj] at h
      obtain ⟨b, us, g1, g2, g3, g4, g5, g6⟩ := f.own j es h
      refine ⟨b, us, g1, g2, fun z => z.elim g3 fun z => ?_, g4, g5, g6.keep kp⟩
      subst z
      exact hj (f.dis i j xs es b e h ha g1)
  · rw [List.getElem?_set] at e1 e2
    by_cases hj : i = j
    · subst hj
      rw [if_pos rfl] at e1
      split at e1 <;> cases e1
    · by_cases hk : i = k
      · subst hk
        rw [if_pos rfl] at e2
        split at e2 <;> cases e2
      · rw [if_neg hj] at e1
        rw [if_neg hk] at e2
        exact f.dis j k es fs b e1 e2 e3 e4
theorem Yg.fix1 {H0 : Hp} {i : Nat} {d : D} (y : Yg H0 σ ρ) : Yg H0 σ (ρ.set i (some (.val d))) := by
  intro j ds a h1 h2
  rw [List.getElem?_set] at h1
  by_cases hj : i = j
  · subst hj
    rw [if_pos rfl] at h1
    split at h1 <;> cases h1
  · rw [if_neg hj] at h1
    exact y j ds a h1 h2
/-- a list of the frame's own is written -/
theorem FR.put {i : Nat} {a : Addr} {vs : List V} {xs ds : List D} (f : FR K fa w σ ρ) (e : ρ[i]? = some (some (.own xs))) (ha : σ[i]? = some (some (.ref a))) (hl : vs.length ≤ sizeLine) (r : Rps K fa w vs ds) : FR K fa (w.put a vs) σ (ρ.set i (some (.own ds))) := by
  obtain ⟨a', us, h1, h2, h3, h4, h5, h6⟩ := f.own i xs e
  rw [ha] at h1
  cases h1
  have kp := put_kp (vs := vs) h2 h3
  have hi : i < ρ.length := (List.getElem?_eq_some_iff.mp e).1
  refine ⟨by rw [List.length_set]; exact f.len, fun j d h => ?_, fun j es h => ?_, fun j k es fs b e1 e2 e3 e4 => ?_⟩
  · rw [List.getElem?_set] at h
    by_cases hj : i = j
    · subst hj
      rw [if_pos rfl, if_pos hi] at h
      cases h
    · rw [if_neg hj] at h
      obtain ⟨v, g1, g2⟩ := f.val j d h
      exact ⟨v, g1, g2.keep kp⟩
  · rw [List.getElem?_set] at h
    by_cases hj : i = j
    · subst hj
      rw [if_pos rfl, if_pos hi] at h
      cases h
      exact ⟨a, vs, ha, upd_same, h3, h4, hl, r.keep kp⟩
    · rw [if_neg hj] at h
      obtain ⟨b, us', g1, g2, g3, g4, g5, g6⟩ := f.own j es h
      have hb : b ≠ a := fun z => by
        subst z
        exact hj (f.dis i j xs es b e h ha g1)
      refine ⟨b, us', g1, ?_, g3, g4, g5, g6.keep kp⟩
      show upd w.H a _ b = _
      rw [upd_ne hb]
      exact g2
  · rw [List.getElem?_set] at e1 e2
    have q : ∀ {j : Nat} {es : List D}, (if i = j then (if i < ρ.length then some (some (SV.own ds)) else none) else ρ[j]?) = some (some (.own es)) → ∃ es', ρ[j]? = some (some (.own es')) := fun {j es} h => by
      by_cases hj : i = j
      · subst hj
        exact ⟨xs, e⟩
      · rw [if_neg hj] at h
        exact ⟨es, h⟩
    obtain ⟨s1, q1⟩ := q e1
    obtain ⟨s2, q2⟩ := q e2
    exact f.dis j k s1 s2 b q1 q2 e3 e4
theorem Yg.put {H0 : Hp} {i : Nat} {xs ds : List D} (y : Yg H0 σ ρ) (e : ρ[i]? = some (some (.own xs))) : Yg H0 σ (ρ.set i (some (.own ds))) := by
  intro j es a h1 h2
  rw [List.getElem?_set] at h1
  by_cases hj : i = j
  · subst hj
    exact y i xs a e h2
  · rw [if_neg hj] at h1
    exact y j es a h1 h2
/-- a cell is written -/
theorem cell_kp {p : Addr} {us vs : List V} (k : w.Ok) (hp : p ∈ w.A) (h : w.H p = some (.lst us)) : Kp w (w.put p vs) := put_kp h (k.cf p hp)
theorem cell_sr {n : Nat} {p : Addr} {us vs : List V} {ds : List D} (k : w.Ok) (r : SR K fa w S) (hp : w.A[n]? = some p) (h : w.H p = some (.lst us)) (hl : vs.length ≤ sizeLine) (rr : Rps K fa w vs ds) : SR K fa (w.put p vs) (S.set n (.cell ds)) := by
  have kp := cell_kp (vs := vs) k (List.mem_of_getElem? hp) h
  refine ⟨by rw [List.length_set]; exact r.len, fun m a o e1 e2 => ?_⟩
  have e1 : w.A[m]? = some a := e1
  rw [List.getElem?_set] at e2
  by_cases hm : n = m
  · subst hm
    rw [hp] at e1
    cases e1
    rw [if_pos rfl] at e2
    split at e2
    · cases e2
      exact ⟨vs, upd_same, hl, rr.keep kp⟩
    · cases e2
  · rw [if_neg hm] at e2
    have q := r.at_ m a o e1 e2
    cases o with
    | cell es =>
      obtain ⟨us', h1, h2, h3⟩ := q
      have ha : a ≠ p := fun z => by
        subst z
        have i1 := (List.getElem?_eq_some_iff.mp e1)
        have i2 := (List.getElem?_eq_some_iff.mp hp)
        obtain ⟨j1, j2⟩ := i1
        obtain ⟨j3, j4⟩ := i2
        exact hm ((List.getElem_inj k.nd).mp (j4.trans j2.symm))
      refine ⟨us', ?_, h2, h3.keep kp⟩
      show upd w.H p _ a = _
      rw [upd_ne ha]
      exact h1
theorem cell_le {p : Addr} {us vs : List V} (l : w0.Le w) (hp : p ∈ w.A) (h : w.H p = some (.lst us)) : w0.Le (w.put p vs) := by
  refine ⟨l.f, l.fn, l.a, fun b o e m => ?_⟩
  show upd w.H p _ b = _
  have hb : b ≠ p := fun z => by
    subst z
    obtain ⟨t, e1, ht⟩ := l.a
    rw [e1] at hp
    rcases List.mem_append.mp hp with q | q
    · exact m q
    · rw [ht b q] at e
      cases e
  rw [upd_ne hb]
  exact l.h b o e m
theorem cell_fr {p : Addr} {us vs : List V} (f : FR K fa w σ ρ) (k : w.Ok) (hp : p ∈ w.A) (h : w.H p = some (.lst us)) : FR K fa (w.put p vs) σ ρ := by
  have kp := cell_kp (vs := vs) k hp h
  refine ⟨f.len, fun j d e => ?_, fun j es e => ?_, f.dis⟩
  · obtain ⟨v, g1, g2⟩ := f.val j d e
    exact ⟨v, g1, g2.keep kp⟩
  · obtain ⟨b, us', g1, g2, g3, g4, g5, g6⟩ := f.own j es e
    refine ⟨b, us', g1, ?_, g3, g4, g5, g6.keep kp⟩
    show upd w.H p _ b = _
    rw [upd_ne fun z => g4 (by rw [z]; exact hp)]
    exact g2
end
end Ev

/-! Statements keep what the model does. -/
namespace Ev
open PySem PySem.Spec PyProof.Rows L2

structure GoodS (X : Cx) (cfg : Cfg) (fa : Nat → Addr) (fns gns : List Str) : Prop where
  g : Good X cfg fa fns gns
  kind : X.env.scope.kind = .function
  fnt : ∀ x, X.fn x = true
  po : PassesOwn (model X.prog X.w) X.A X.env X.xe
section
variable {K : PySem.W.Frag} {fa : Nat → Addr} {X : Cx} {σ : L2.St} {H : Hp} {w0 : Wd}
abbrev rdO (K : PySem.W.Frag) (fa : Nat → Addr) (m : Env → M (List D)) : TE := rdG K fa (fun w w' v ds => Fresh K fa w w' v ds) m
theorem r_val {m : Env → M D} {i : Nat} {D : Ends} (k0 : w0.Ok) (h : rs K fa w0 (fun ρ => M.bind (m ρ) fun x => M.pure (.nx (ρ.set i (some (.val x))))) D σ H) : rd K fa m σ H (fun x H1 => D.nx (σ.set i (some x)) H1) := by
  obtain ⟨w, ρ, S, fl, S', st, l, y, hm, ed⟩ := h
  obtain ⟨x, S1, h1, hm⟩ := bind_ok hm
  obtain ⟨e, rfl⟩ := pure_ok hm
  subst e
  exact ⟨w, ρ, S, x, S', st, h1, fun w1 v l1 k1 r1 rp => ed w1 (σ.set i (some v)) (l1.kp st.ok) (l.trans l1 k0 st.ok) ⟨rfl, k1, (st.fr.mono l1 st.ok).set' rp, r1⟩ y.set⟩
theorem r_own {m : Env → M (List D)} {i : Nat} {D : Ends} (k0 : w0.Ok) (h : rs K fa w0 (fun ρ => M.bind (m ρ) fun x => M.pure (.nx (ρ.set i (some (.own x))))) D σ H) : rdO K fa m σ H (fun x H1 => D.nx (σ.set i (some x)) H1) := by
  obtain ⟨w, ρ, S, fl, S', st, l, y, hm, ed⟩ := h
  obtain ⟨x, S1, h1, hm⟩ := bind_ok hm
  obtain ⟨e, rfl⟩ := pure_ok hm
  subst e
  refine ⟨w, ρ, S, x, S', st, h1, fun w1 v l1 k1 r1 fr => ?_⟩
  obtain ⟨a, vs, rfl, n, e1, nf, na, hl, rr⟩ := fr
  have f1 := st.fr.mono l1 st.ok
  exact ed w1 _ (l1.kp st.ok) (l.trans l1 k0 st.ok) ⟨rfl, k1, f1.setO e1 nf na hl rr (fun j es e => st.fr.new_ne n j es e), r1⟩ (y.setO (l.free k0 st.ok n))
theorem rdO_rdN {cfg : Cfg} {e : E} {Q : VK} (hf : isFr e = true) (h : rdO K fa (evF cfg e) σ H Q) : rdN K fa (ev cfg e) σ H Q := by
  obtain ⟨w, ρ, S, xs, S', st, hm, q⟩ := h
  have hm : M.bind (ev cfg e ρ) (fun x => M.opt (match x with
    | .lst xs => some xs
    | _ => none)) S = .ok xs S' := by
    cases e <;> first | exact hm | cases hf
  obtain ⟨x, S1, h1, hm2⟩ := bind_ok hm
  cases x <;> first | (cases hm2; done) | skip
  cases hm2
  exact ⟨w, ρ, S, _, S', st, h1, q⟩

/-! ### small texts -/
theorem sw_no {v : Expr} {t : Option Expr} {l : Nat} {env : PySem.Env} (h : noComp v = true) : swapsWith v t l env = pure false := by
  cases v <;> first | rfl | cases h
theorem loc_of {N : List Str} {i : Nat} {sc : Scope} {x : Str} (h : nmP N i sc x = true) : N[i]? = some x ∧ sc.names.lookup x = some .local := by
  obtain ⟨h1, h2⟩ := b2 h
  refine ⟨of_decide_eq_true h1, ?_⟩
  unfold locB at h2
  split at h2
  · assumption
  · cases h2
def isStar : Expr → Bool
  | .Starred _ _ => true
  | _ => false
theorem any2 {a b : Expr} (ha : isStar a = false) (hb : isStar b = false) (f : Expr → Bool) (hf : ∀ v, isStar v = false → f v = false) : [a, b].any f = false := by simp only [List.any_cons, List.any_nil, hf a ha, hf b hb, Bool.or_self]
theorem any3 {a b c : Expr} (ha : isStar a = false) (hb : isStar b = false) (hc : isStar c = false) (f : Expr → Bool) (hf : ∀ v, isStar v = false → f v = false) : [a, b, c].any f = false := by simp only [List.any_cons, List.any_nil, hf a ha, hf b hb, hf c hc, Bool.or_self]
theorem noStar {N fns gns : List Str} {e : E} {sc : Scope} {v : Expr} (h : okE N fns gns e sc v = true) : isStar v = false := by
  cases v <;> first | rfl | (rw [ok_noStar] at h; cases h)
theorem eraseDups2 {x y : Str} (h : (x == y) = false) : [x, y].eraseDups = [x, y] := by
  have h' : (y == x) = false := by
    rw [Bool.eq_false_iff] at h ⊢
    exact fun e => h (by rw [beq_iff_eq] at e ⊢; exact e.symm)
  simp [List.eraseDups_cons, h', h]
theorem eraseDups3 {x y z : Str} (h : (x == y) = false) (h2 : (x == z) = false) (h3 : (y == z) = false) : [x, y, z].eraseDups = [x, y, z] := by
  have sy : ∀ {x y : Str}, (x == y) = false → (y == x) = false := fun {x y} h => by
    rw [Bool.eq_false_iff] at h ⊢
    exact fun e => h (by rw [beq_iff_eq] at e ⊢; exact e.symm)
  simp [List.eraseDups_cons, sy h, sy h2, sy h3]
theorem swap2 {env : PySem.Env} {x y : Str} {px py pt pt2 : Pos} {kt k2 : Nat} {a b : Expr} (hk : env.scope.kind = .function) (hx : env.scope.names.lookup x = some .local) (hy : env.scope.names.lookup y = some .local) (hl : (py.line == px.line) = true) (hne : (x == y) = false)
    (ha : isStar a = false) (hb : isStar b = false) (hf : (foldedForSure 8 a && foldedForSure 8 b) = false) (hc : (constantsAlone 8 a && constantsAlone 8 b) = false) :
    swappedStores [.Tuple [.Name x px, .Name y py] kt pt] (.Tuple [a, b] k2 pt2) env = pure (some [x, y]) := by
  have kx : env.kindOf x = some .local := hx
  have ky : env.kindOf y = some .local := hy
  have hbk : env.blockKind = .function := by unfold Env.blockKind; rw [hk]; rfl
  have h2 : [a, b].all (foldedForSure 8) = false := by
    show (foldedForSure 8 a && (foldedForSure 8 b && true)) = false
    rw [Bool.and_true]
    exact hf
  have h3 : [a, b].all (constantsAlone 8) = false := by
    show (constantsAlone 8 a && (constantsAlone 8 b && true)) = false
    rw [Bool.and_true]
    exact hc
  unfold swappedStores
  simp only [h2, h3, hbk, List.filterMap_cons, List.filterMap_nil, kx, ky, Expr.pos, List.head?_cons, Option.map_some, Option.getD_some, hl, beq_self_eq_true, Bool.and_self, if_true, eraseDups2 hne]
  rw [any2 ha hb]
  · rfl
  · intro v h
    cases v <;> first | rfl | cases h
theorem swap3 {env : PySem.Env} {x y z : Str} {px py pz pt pt2 : Pos} {kt k2 : Nat} {a b c : Expr} (hk : env.scope.kind = .function) (hx : env.scope.names.lookup x = some .local) (hy : env.scope.names.lookup y = some .local) (hz : env.scope.names.lookup z = some .local) (hl : (py.line == px.line) = true) (hlz : (pz.line == px.line) = true)
    (hne : (x == y) = false) (hne2 : (x == z) = false) (hne3 : (y == z) = false)
    (ha : isStar a = false) (hb : isStar b = false) (hcs : isStar c = false)
    (hf : (foldedForSure 8 a && (foldedForSure 8 b && foldedForSure 8 c)) = false) (hc : (constantsAlone 8 a && (constantsAlone 8 b && constantsAlone 8 c)) = false) :
    swappedStores [.Tuple [.Name x px, .Name y py, .Name z pz] kt pt] (.Tuple [a, b, c] k2 pt2) env = pure (some [x, y, z]) := by
  have kx : env.kindOf x = some .local := hx
  have ky : env.kindOf y = some .local := hy
  have kz : env.kindOf z = some .local := hz
  have hbk : env.blockKind = .function := by unfold Env.blockKind; rw [hk]; rfl
  have h2 : [a, b, c].all (foldedForSure 8) = false := by
    show (foldedForSure 8 a && (foldedForSure 8 b && (foldedForSure 8 c && true))) = false
    rw [Bool.and_true]
    exact hf
  have h3 : [a, b, c].all (constantsAlone 8) = false := by
    show (constantsAlone 8 a && (constantsAlone 8 b && (constantsAlone 8 c && true))) = false
    rw [Bool.and_true]
    exact hc
  unfold swappedStores
  simp only [h2, h3, hbk, List.filterMap_cons, List.filterMap_nil, kx, ky, kz, Expr.pos, List.head?_cons, Option.map_some, Option.getD_some, hl, hlz, beq_self_eq_true, Bool.and_self, if_true, eraseDups3 hne hne2 hne3]
  rw [any3 ha hb hcs]
  · rfl
  · intro v h
    cases v <;> first | rfl | cases h
theorem lc_of {X : Cx} {i : Nat} {x : Str} (hf : ∀ x, X.fn x = true) (h : nmL X.N i X.env.scope x = true) : X.N[i]? = some x ∧ Loc X.env.scope x ∧ Vis X.env.scope x ∧ (X.fn x = true ∨ X.env.scope.names.lookup x = some .local) := by
  obtain ⟨h1, h2⟩ := b2 h
  obtain ⟨h3, h4⟩ := lcB_ok h2 fun _ => hf
  exact ⟨of_decide_eq_true h1, h3, h3.elim (fun z => .inl z) (fun z => .inr (.inl z)), h4⟩
theorem filterMap_all {α β : Type} (f : α → Option β) : ∀ l : List α, (l.filterMap f).length = l.length → ∀ x ∈ l, (f x).isSome = true
  | [], _, x, hx => nomatch hx
  | a :: l, h, x, hx => by
    cases q : f a with
    | none =>
      rw [List.filterMap_cons, q] at h
      have := List.length_filterMap_le f l
      have h : (l.filterMap f).length = l.length + 1 := h
      omega
    | some b =>
      rw [List.filterMap_cons, q] at h
      rcases List.mem_cons.mp hx with e | hx
      · rw [e, q] <;> rfl
      · exact filterMap_all f l (by simpa using h) x hx
theorem swapN1 {env : PySem.Env} {ts : List Expr} {kt : Nat} {pt : Pos} {v : Expr} (h : noSwapV v = true) : swappedStores [.Tuple ts kt pt] v env = pure none := by
  cases v <;> first | rfl | skip
  case Tuple vs k p =>
    have h : (vs.all (foldedForSure 8) || !(vs.length == 2 || vs.length == 3)) = true := h
    unfold swappedStores
    by_cases c1 : (!(ts.length == 2 || ts.length == 3) || vs.length != ts.length || env.blockKind != .function) = true
    · simp only [c1, if_true]
    · rw [Bool.not_eq_true] at c1
      have hall : vs.all (foldedForSure 8) = true := by
        rw [Bool.or_eq_true] at h
        rcases h with h | h
        · exact h
        · simp only [Bool.or_eq_false_iff, bne_eq_false_iff_eq, Bool.not_eq_false'] at c1
          rw [c1.1.2, c1.1.1] at h
          cases h
      simp only [c1, hall, Bool.false_eq_true, if_false, if_true]
      first | rfl | (split <;> first | rfl | (split <;> rfl)) | skip
theorem swapN2 {env : PySem.Env} {ts : List Expr} {kt : Nat} {pt : Pos} {v : Expr} (h : noSwapT env.scope ts = true) : swappedStores [.Tuple ts kt pt] v env = pure none := by
  cases v <;> first | rfl | skip
  case Tuple vs k p =>
    obtain ⟨t, ht, hb⟩ := List.any_eq_true.mp h
    unfold swappedStores
    dsimp only
    split
    · rfl
    · split
      · rfl
      · split
        · rfl
        · rename_i hne
          exfalso
          rw [Bool.not_eq_true, Bool.or_eq_false_iff, bne_eq_false_iff_eq] at hne
          have q := filterMap_all _ ts hne.1 t ht
          cases t <;> first | (cases q; done) | skip
          case Name x px =>
            have hb : (!locB env.scope x) = true := hb
            have hk : (env.kindOf x == some .local) = false := by
              show (env.scope.names.lookup x == some .local) = false
              unfold locB at hb
              cases q2 : env.scope.names.lookup x with
              | none => rfl
              | some k =>
                rw [q2] at hb
                cases k <;> first | rfl | cases hb
            simp [hk] at q
theorem swapN {env : PySem.Env} {ts : List Expr} {kt : Nat} {pt : Pos} {v : Expr} (h : (noSwapV v || noSwapT env.scope ts) = true) : swappedStores [.Tuple ts kt pt] v env = pure none := by
  rcases Bool.or_eq_true_iff.mp h with h | h
  · exact swapN1 h
  · exact swapN2 h
end
end Ev

/-! Statements keep what the model does: every form. -/
namespace Ev
open PySem PySem.Spec PyProof.Rows L2
section
variable (cfg : Cfg) (fa : Nat → Addr) {fns gns : List Str} {X : Cx}
/-- a call, with what it hands back -/
theorem sndC {es : Es} {f : Nat} {py : Expr} (G : Good X cfg fa fns gns) (h : okE X.N fns gns (.call f es) X.env.scope py = true) : PE X py (rdR X.K fa (fun ρ => M.bind (evs cfg es ρ) fun xs => cfg.C f xs)) := by
  cases py <;> first | (cases h; done) | skip
  case Call g xs kw p =>
    cases g <;> first | (cases h; done) | skip
    case Name x p2 =>
      cases kw <;> first | (cases h; done) | skip
      obtain ⟨h1, k2⟩ := b2 (show (decide (fns[f]? = some x) && (glB X.env.scope x && (nmB x && okEs X.N fns gns es X.env.scope xs))) = true from h)
      obtain ⟨j2, k3⟩ := b2 k2
      obtain ⟨j3, k4⟩ := b2 k3
      obtain ⟨n1, n2, _⟩ := nm_of j3
      by_cases hne : xs = []
      · subst hne
        cases es with
        | nil => exact s_call0 G (of_decide_eq_true h1) (gl_of j2) n1
        | cons _ _ => cases k4
      · refine s_call G (of_decide_eq_true h1) (gl_of j2) n1 (sndEs cfg fa fns gns es X xs G k4).1 hne fun e r er => ?_
        subst er
        cases es with
        | nil => cases k4
        | cons e2 es =>
          obtain ⟨k1, k2⟩ := b2 (show (okE X.N fns gns e2 X.env.scope e && okEs X.N fns gns es X.env.scope r) = true from k4)
          exact ⟨ok_star k1, ok_any k2⟩
/-- an expression whose list nobody else holds -/
theorem sndF {e : E} {py : Expr} (G : Good X cfg fa fns gns) (hf : (isFr e || isCallE e) = true) (h : okE X.N fns gns e X.env.scope py = true) : PE X py (rdO X.K fa (evF cfg e)) := by
  by_cases hc : isFr e = true
  · exact ((sndE cfg fa fns gns e X py G h).2 hc).conv fun σ H Q q => rdO_rdN hc q
  · cases e <;> first | (exact absurd rfl hc) | (cases hf; done) | skip
    case call f es =>
      refine (sndC cfg fa G h).conv fun σ H Q hq => ?_
      obtain ⟨w, ρ, S, xs, S', st, hm, q⟩ := hq
      obtain ⟨ys, S1, g1, g2⟩ := bind_ok (show M.bind (evs cfg es ρ) (fun xs => M.bind (cfg.C f xs) fun r => M.opt (match r with
        | .own ys => some ys
        | _ => none)) S = .ok xs S' from hm)
      obtain ⟨r, S2, g3, g4⟩ := bind_ok g2
      cases r <;> first | (cases g4; done) | skip
      cases g4
      refine ⟨w, ρ, S, .own xs, S', st, ?_, q⟩
      show M.bind (evs cfg es ρ) (fun xs => cfg.C f xs) S = _
      rw [bind_eq g1]
      exact g3
/-- a comprehension that a name gets -/
theorem sndLc {e : E} {i : Nat} {x : Str} {elt : Expr} {gs : List Comprehension} {scope : Scope} {p pos spos : Pos} (G : GoodS X cfg fa fns gns) (hn : nmL X.N i X.env.scope x = true) (hlb : locB X.env.scope x = true) (hb : compB X.env.scope x p (.ListComp elt gs scope pos) = true) (h : okE X.N fns gns e X.env.scope (.ListComp elt gs scope pos) = true) :
    PS X (.Assign [.Name x p] (.ListComp elt gs scope pos) spos) (tAsg (rdN X.K fa (ev cfg e)) (gName i)) := by
  have hi := (lc_of G.fnt hn).1
  have hl : X.env.scope.names.lookup x = some .local := by
    unfold locB at hlb
    split at hlb
    · assumption
    · cases hlb
  have hb : (!locB X.env.scope x || (p.line == pos.line) && !(scope.names.any fun (n, k) => n == x && (k == .local || k == .cell))) = true := hb
  rw [hlb] at hb
  obtain ⟨hb1, hb2⟩ := b2 (show ((p.line == pos.line) && !(scope.names.any fun (n, k) => n == x && (k == .local || k == .cell))) = true from hb)
  have hsw : swapsWith (.ListComp elt gs scope pos) (some (.Name x p)) spos.line X.env = pure true := sw_true G.kind hl hb1 (Bool.not_eq_true' _ ▸ hb2)
  cases e <;> first | (cases h; done) | (rename_i a; cases a <;> cases h; done) | skip
  case lc t s e vs =>
    obtain _ | ⟨⟨tg, it, ifs, as⟩, _ | ⟨g2, gs⟩⟩ := gs <;> first | (cases h; done) | skip
    all_goals obtain _ | ⟨c1, ifs⟩ := ifs <;> obtain (_ | as) | as := as <;> first | (cases h; done) | (simp [okE] at h; done) | skip
    obtain ⟨h1, k2⟩ := b2 (show (blkC X.N X.env.scope scope (ownOf X.N vs) && (okTg X.N false vs t (relS scope X.env.scope) tg && (okI X.N fns gns s X.env.scope it && okE X.N fns gns e (relS scope X.env.scope) elt))) = true from h)
    obtain ⟨j2, k3⟩ := b2 k2
    obtain ⟨j3, k4⟩ := b2 k3
    obtain ⟨i1, i2⟩ := sndI cfg fa fns gns s X tg it G.g j3
    have eq : ev cfg (.lc t s e vs) = fun ρ => M.bind (its cfg s ρ) fun xs => M.guard (decide (xs.length ≤ 1000000)) (M.bind (mapF' (fun d => M.bind (M.opt (bindT t d (Ev.wipe ρ vs))) fun _ => M.pure true) (fun d => M.bind (M.opt (bindT t d (Ev.wipe ρ vs))) fun ρ' => ev cfg e ρ') xs) fun ys => M.pure (.lst ys)) := by
      funext ρ
      show (M.bind (its cfg s ρ) fun xs => M.guard (decide (xs.length ≤ 1000000)) (M.bind (mapF' (fun _ => M.pure true) (fun d => M.bind (M.opt (bindT t d (Ev.wipe ρ vs))) fun ρ' => ev cfg e ρ') xs) fun ys => M.pure (D.lst ys))) = _
      simp only [mapF_tr]
    rw [eq]
    refine (ps_setLc (te := rd X.K fa (ev cfg e)) (g := gT X.K fa vs t) (tt := rdT X.K fa fun _ => M.pure true) G.g.calm G.g.nd hi hl hsw i1 (blkOk_by h1) (fun s H C cl fp => s_tg (cb := false) (X := X.blk s H scope (compEnvC scope cl C X.env) fp) G.g.nd G.g.calm (fun z => by cases z) t tg j2)
      (fun s H C cl fp => ⟨fun pins s2 σ H2 Q I hq => pts_nil.run pins s2 σ H2 Q I (by
        obtain ⟨w, ρ, S, d, S', st, hm, q⟩ := hq
        obtain ⟨e1, rfl⟩ := pure_ok hm
        subst e1
        have := q w (.refl w) st.ok st.sr
        rw [st.h] at this
        exact this)⟩)
      (fun s H C cl fp => (sndE cfg fa fns gns e (X.blk s H scope (compEnvC scope cl C X.env) fp) elt (G.g.blk s H scope _ fp) k4).1) i2).conv fun D σ H hq => ?_
    rw [ownOf_snd]
    exact lcf_read hq
  case lcf t s c e vs =>
    obtain _ | ⟨⟨tg, it, ifs, as⟩, _ | ⟨g2, gs⟩⟩ := gs <;> first | (cases h; done) | skip
    all_goals obtain _ | ⟨c1, _ | ⟨c2, ifs⟩⟩ := ifs <;> obtain (_ | as) | as := as <;> first | (cases h; done) | (simp [okE] at h; done) | skip
    obtain ⟨h1, k2⟩ := b2 (show (blkC X.N X.env.scope scope (ownOf X.N vs) && (okTg X.N false vs t (relS scope X.env.scope) tg && (okI X.N fns gns s X.env.scope it && (okB X.N fns gns c (relS scope X.env.scope) c1 && okE X.N fns gns e (relS scope X.env.scope) elt)))) = true from h)
    obtain ⟨j2, k3⟩ := b2 k2
    obtain ⟨j3, k4⟩ := b2 k3
    obtain ⟨j4, k5⟩ := b2 k4
    obtain ⟨i1, i2⟩ := sndI cfg fa fns gns s X tg it G.g j3
    refine (ps_setLc (te := rd X.K fa (ev cfg e)) (g := gT X.K fa vs t) (tt := rdT X.K fa (tst cfg c)) G.g.calm G.g.nd hi hl hsw i1 (blkOk_by h1) (fun s H C cl fp => s_tg (cb := false) (X := X.blk s H scope (compEnvC scope cl C X.env) fp) G.g.nd G.g.calm (fun z => by cases z) t tg j2)
      (fun s H C cl fp => pts_one (sndB cfg fa fns gns c (X.blk s H scope (compEnvC scope cl C X.env) fp) c1 (G.g.blk s H scope _ fp) j4))
      (fun s H C cl fp => (sndE cfg fa fns gns e (X.blk s H scope (compEnvC scope cl C X.env) fp) elt (G.g.blk s H scope _ fp) k5).1) i2).conv fun D σ H hq => ?_
    rw [ownOf_snd]
    exact lcf_read hq
theorem sw_cel {env : PySem.Env} {v : Expr} {x : Str} {p : Pos} {l : Nat} (h : locB env.scope x = false) (hc : compB env.scope x p v = true) : swapsWith v (some (.Name x p)) l env = pure false := by
  have hk : (env.kindOf x == some .local) = false := by
    show (env.scope.names.lookup x == some .local) = false
    unfold locB at h
    cases q2 : env.scope.names.lookup x with
    | none => rfl
    | some k =>
      rw [q2] at h
      cases k <;> first | rfl | cases h
  cases v <;> first | rfl | (cases hc; done) | skip
  unfold swapsWith
  simp only [hk, Bool.and_false, Bool.false_and]
theorem comp_cases {sc : Scope} {x : Str} {p : Pos} {v : Expr} (h : compB sc x p v = true) : noComp v = true ∨ ∃ elt gs scope pos, v = .ListComp elt gs scope pos := by
  cases v <;> first | (exact .inl rfl) | (cases h; done) | exact .inr ⟨_, _, _, _, rfl⟩
theorem s_asg {e : E} {i : Nat} {x : Str} {v : Expr} {p spos : Pos} {w0 : Wd} (k0 : w0.Ok) (G : GoodS X cfg fa fns gns) (hn : nmL X.N i X.env.scope x = true) (hb : compB X.env.scope x p v = true) (h : okE X.N fns gns e X.env.scope v = true) :
    PS X (.Assign [.Name x p] v spos) (rs X.K fa w0 (ex cfg (.asg i e))) := by
  obtain ⟨hi, hl, hv, hf⟩ := lc_of G.fnt hn
  by_cases hloc : locB X.env.scope x = true
  · rcases comp_cases hb with hc | ⟨elt, gs, scope, pos, rfl⟩
    · exact (ps_set G.g.nd hi hl (sndE cfg fa fns gns e X v G.g h).1 (sw_no hc) hf).conv fun D σ H q => r_val k0 q
    · exact (sndLc cfg fa G hn hloc hb h).conv fun D σ H q => rdN_rd (r_val k0 q)
  · exact (ps_set G.g.nd hi hl (sndE cfg fa fns gns e X v G.g h).1 (sw_cel (by simpa using hloc) hb) hf).conv fun D σ H q => r_val k0 q
theorem lc_isFr {e : E} {N : List Str} {sc : Scope} {elt : Expr} {gs : List Comprehension} {scope : Scope} {pos : Pos} (h : okE N fns gns e sc (.ListComp elt gs scope pos) = true) : isFr e = true := by
  cases e <;> first | (cases h; done) | rfl | (rename_i a; cases a <;> cases h)
theorem s_asgO {e : E} {i : Nat} {x : Str} {v : Expr} {p spos : Pos} {w0 : Wd} (k0 : w0.Ok) (G : GoodS X cfg fa fns gns) (hn : nmL X.N i X.env.scope x = true) (hb : compB X.env.scope x p v = true) (hf : (isFr e || isCallE e) = true) (h : okE X.N fns gns e X.env.scope v = true) :
    PS X (.Assign [.Name x p] v spos) (rs X.K fa w0 (ex cfg (.asgO i e))) := by
  obtain ⟨hi, hl, hv, hfn⟩ := lc_of G.fnt hn
  by_cases hloc : locB X.env.scope x = true
  · rcases comp_cases hb with hc | ⟨elt, gs, scope, pos, rfl⟩
    · exact (ps_set G.g.nd hi hl (sndF cfg fa G.g hf h) (sw_no hc) hfn).conv fun D σ H q => r_own k0 q
    · exact (sndLc cfg fa G hn hloc hb h).conv fun D σ H q => rdO_rdN (lc_isFr h) (r_own k0 q)
  · exact (ps_set G.g.nd hi hl (sndF cfg fa G.g hf h) (sw_cel (by simpa using hloc) hb) hfn).conv fun D σ H q => r_own k0 q
theorem s_par2 {a b : E} {i j : Nat} {x y : Str} {v1 v2 : Expr} {px py pt pt2 spos : Pos} {kt k2 : Nat} {w0 : Wd} (k0 : w0.Ok) (G : GoodS X cfg fa fns gns) (hx : nmP X.N i X.env.scope x = true) (hy : nmP X.N j X.env.scope y = true) (hij : i ≠ j) (hl : (py.line == px.line) = true) (hne : (x == y) = false)
    (hf : (foldedForSure 8 v1 && foldedForSure 8 v2) = false) (hc : (constantsAlone 8 v1 && constantsAlone 8 v2) = false) (h1 : okE X.N fns gns a X.env.scope v1 = true) (h2 : okE X.N fns gns b X.env.scope v2 = true) :
    PS X (.Assign [.Tuple [.Name x px, .Name y py] kt pt] (.Tuple [v1, v2] k2 pt2) spos) (rs X.K fa w0 (ex cfg (.par2 i j a b))) := by
  obtain ⟨hi, lx⟩ := loc_of hx
  obtain ⟨hj, ly⟩ := loc_of hy
  refine (ps_par (ta := tCons (rd X.K fa (ev cfg a)) (tCons (rd X.K fa (ev cfg b)) tNil)) G.g.calm G.g.nd hi hj hij lx ly (pa_cons (sndE cfg fa fns gns a X v1 G.g h1).1 (pa_cons (sndE cfg fa fns gns b X v2 G.g h2).1 pa_nil (ok_star h2)) (ok_star h1)) (swap2 G.kind lx ly hl hne (noStar h1) (noStar h2) hf hc)).conv fun D σ H q => ?_
  obtain ⟨w, ρ, S, fl, S', st, l, y, hm, ed⟩ := q
  obtain ⟨d1, S1, g1, hm⟩ := bind_ok (show M.bind (ev cfg a ρ) (fun x => M.bind (ev cfg b ρ) fun y => M.pure (.nx ((ρ.set i (some (.val x))).set j (some (.val y))))) S = .ok fl S' from hm)
  obtain ⟨d2, S2, g2, hm⟩ := bind_ok hm
  obtain ⟨e, rfl⟩ := pure_ok hm
  subst e
  refine ⟨w, ρ, S, d1, S1, st, g1, fun w1 u1 l1 k1 r1 rp1 => ?_⟩
  refine ⟨w1, ρ, S1, d2, S', st.next l1 k1 r1, g2, fun w2 u2 l2 k2 r2 rp2 => ?_⟩
  have l12 := l1.trans l2 st.ok k1
  exact ⟨u1, u2, rfl, ed w2 _ (l12.kp st.ok) (l.trans l12 k0 st.ok) ⟨rfl, k2, ((st.fr.mono l12 st.ok).set' (rp1.keep (l2.kp k1))).set' rp2, r2⟩ y.set.set⟩
theorem Fresh.le {K : PySem.W.Frag} {fa : Nat → Addr} {w w1 w2 : Wd} {v : V} {ds : List D} (h : Fresh K fa w w1 v ds) (l : w1.Le w2) (k : w1.Ok) : Fresh K fa w w2 v ds := by
  obtain ⟨a, vs, e, n, e1, nf, na, hl, rr⟩ := h
  exact ⟨a, vs, e, n, l.h a _ e1 na, l.nF e1 nf, l.nA e1 na, hl, rr.keep (l.kp k)⟩
theorem s_par3 {oi : Bool} {a b c : E} {i j k : Nat} {x y z : Str} {v1 v2 v3 : Expr} {px py pz pt pt2 spos : Pos} {kt k2 : Nat} {w0 : Wd} (k0 : w0.Ok) (G : GoodS X cfg fa fns gns) (hx : nmP X.N i X.env.scope x = true) (hy : nmP X.N j X.env.scope y = true) (hz : nmP X.N k X.env.scope z = true) (hij : i ≠ j) (hik : i ≠ k) (hjk : j ≠ k)
    (hl : (py.line == px.line) = true) (hlz : (pz.line == px.line) = true) (hne : (x == y) = false) (hne2 : (x == z) = false) (hne3 : (y == z) = false)
    (hf : (foldedForSure 8 v1 && (foldedForSure 8 v2 && foldedForSure 8 v3)) = false) (hc : (constantsAlone 8 v1 && (constantsAlone 8 v2 && constantsAlone 8 v3)) = false) (ho : (!oi || (isFr a || isCallE a)) = true)
    (h1 : okE X.N fns gns a X.env.scope v1 = true) (h2 : okE X.N fns gns b X.env.scope v2 = true) (h3 : okE X.N fns gns c X.env.scope v3 = true) :
    PS X (.Assign [.Tuple [.Name x px, .Name y py, .Name z pz] kt pt] (.Tuple [v1, v2, v3] k2 pt2) spos) (rs X.K fa w0 (ex cfg (.par3 i j k oi a b c))) := by
  obtain ⟨hi, lx⟩ := loc_of hx
  obtain ⟨hj, ly⟩ := loc_of hy
  obtain ⟨hk, lz⟩ := loc_of hz
  have sw := swap3 (env := X.env) (kt := kt) (k2 := k2) (pt := pt) (pt2 := pt2) G.kind lx ly lz hl hlz hne hne2 hne3 (noStar h1) (noStar h2) (noStar h3) hf hc
  have pb := pa_cons (sndE cfg fa fns gns b X v2 G.g h2).1 (pa_cons (sndE cfg fa fns gns c X v3 G.g h3).1 pa_nil (ok_star h3)) (ok_star h2)
  cases oi with
  | false =>
    refine (ps_par3 G.g.calm G.g.nd hi hj hk hij hik hjk lx ly lz (pa_cons (sndE cfg fa fns gns a X v1 G.g h1).1 pb (ok_star h1)) sw).conv fun D σ H q => ?_
    obtain ⟨w, ρ, S, fl, S', st, l, y, hm, ed⟩ := q
    obtain ⟨d1, S1, g1, hm⟩ := bind_ok (show M.bind (ev cfg a ρ) (fun x => M.bind (ev cfg b ρ) fun y => M.bind (ev cfg c ρ) fun z => M.pure (.nx (((ρ.set i (some (.val x))).set j (some (.val y))).set k (some (.val z))))) S = .ok fl S' from hm)
    obtain ⟨d2, S2, g2, hm⟩ := bind_ok hm
    obtain ⟨d3, S3, g3, hm⟩ := bind_ok hm
    obtain ⟨e, rfl⟩ := pure_ok hm
    subst e
    refine ⟨w, ρ, S, d1, S1, st, g1, fun w1 u1 l1 k1 r1 rp1 => ?_⟩
    refine ⟨w1, ρ, S1, d2, S2, st.next l1 k1 r1, g2, fun w2 u2 l2 k2 r2 rp2 => ?_⟩
    have l12 := l1.trans l2 st.ok k1
    refine ⟨w2, ρ, S2, d3, S', st.next l12 k2 r2, g3, fun w3 u3 l3 k3 r3 rp3 => ?_⟩
    have l13 := l12.trans l3 st.ok k2
    exact ⟨u1, u2, u3, rfl, ed w3 _ (l13.kp st.ok) (l.trans l13 k0 st.ok) ⟨rfl, k3, (((st.fr.mono l13 st.ok).set' ((rp1.keep (l2.kp k1)).keep (l3.kp k2))).set' (rp2.keep (l3.kp k2))).set' rp3, r3⟩ y.set.set.set⟩
  | true =>
    refine (ps_par3 G.g.calm G.g.nd hi hj hk hij hik hjk lx ly lz (pa_cons (sndF cfg fa G.g ho h1) pb (ok_star h1)) sw).conv fun D σ H q => ?_
    obtain ⟨w, ρ, S, fl, S', st, l, y, hm, ed⟩ := q
    obtain ⟨d1, S1, g1, hm⟩ := bind_ok (show M.bind (evF cfg a ρ) (fun xs => M.bind (ev cfg b ρ) fun y => M.bind (ev cfg c ρ) fun z => M.pure (.nx (((ρ.set i (some (.own xs))).set j (some (.val y))).set k (some (.val z))))) S = .ok fl S' from hm)
    obtain ⟨d2, S2, g2, hm⟩ := bind_ok hm
    obtain ⟨d3, S3, g3, hm⟩ := bind_ok hm
    obtain ⟨e, rfl⟩ := pure_ok hm
    subst e
    refine ⟨w, ρ, S, d1, S1, st, g1, fun w1 u1 l1 k1 r1 rp1 => ?_⟩
    refine ⟨w1, ρ, S1, d2, S2, st.next l1 k1 r1, g2, fun w2 u2 l2 k2 r2 rp2 => ?_⟩
    have l12 := l1.trans l2 st.ok k1
    refine ⟨w2, ρ, S2, d3, S', st.next l12 k2 r2, g3, fun w3 u3 l3 k3 r3 rp3 => ?_⟩
    have l13 := l12.trans l3 st.ok k2
    obtain ⟨a, vs, rfl, n, e1, nf, na, hl, rr⟩ := (Fresh.le rp1 l2 k1).le l3 k2
    have f1 := (st.fr.mono l13 st.ok).setO (i := i) e1 nf na hl rr (fun j es e => st.fr.new_ne n j es e)
    exact ⟨_, u2, u3, rfl, ed w3 _ (l13.kp st.ok) (l.trans l13 k0 st.ok) ⟨rfl, k3, (f1.set' (rp2.keep (l3.kp k2))).set' rp3, r3⟩ (y.setO (l.free k0 st.ok n)).set.set⟩
end
end Ev

/-! Every statement keeps what the model does. -/
namespace Ev
open PySem PySem.Spec PyProof.Rows L2
/-! ### what a loop walks, let stand -/
inductive SrcF (K : PySem.W.Frag) (w : Wd) : It → List V → Prop
  | lst {a : Addr} {vs : List V} : w.H a = some (.lst vs) → w.F a → SrcF K w (Itl K a) vs
  | tup {a : Addr} {vs : List V} : SqT K w.H a vs → SrcF K w (Itt K a) vs
  | rng (n : Nat) : SrcF K w (Itr 0 n) ((List.range n).map fun (k : Nat) => V.int (k : Int))
section
variable {K : PySem.W.Frag} {fa : Nat → Addr} {w w' : Wd} {J : It} {vs : List V}
theorem SrcF.kp (s : SrcF K w J vs) (k : Kp w w') : SrcF K w' J vs := by
  cases s with
  | lst h n => exact .lst (k.lst _ _ n h).2 (k.lst _ _ n h).1
  | tup h => exact .tup (k.sqt h)
  | rng n => exact .rng n
theorem SrcF.go (s : SrcF K w J vs) {i : Nat} (h : i < vs.length) : J.go i w.H := by
  cases s with
  | lst e n => exact ⟨vs, vs[i], .of e, List.getElem?_eq_getElem h⟩
  | tup e => exact ⟨vs, vs[i], e, List.getElem?_eq_getElem h⟩
  | rng n =>
    show i < n
    simpa using h
theorem SrcF.stop (s : SrcF K w J vs) {i : Nat} (h : vs.length ≤ i) : J.stop i w.H := by
  cases s with
  | lst e n => exact ⟨vs, .of e, h⟩
  | tup e => exact ⟨vs, e, h⟩
  | rng n =>
    show n ≤ i
    simpa using h
theorem SrcF.yld (s : SrcF K w J vs) {i : Nat} {x : V} {H' : Hp} (y : J.yld i w.H x H') (hi : i < vs.length) : H' = w.H ∧ vs[i]? = some x := by
  cases s with
  | lst e n => exact ⟨y.1, y.2 _ (.of e)⟩
  | tup e => exact ⟨y.1, y.2 _ e⟩
  | rng n =>
    obtain ⟨e1, e2⟩ := y
    refine ⟨e1, ?_⟩
    have hn : i < n := by simpa using hi
    rw [e2, List.getElem?_map, List.getElem?_range hn, Int.zero_add]
    rfl
end
/-- what a loop begins with -/
def rdF (K : PySem.W.Frag) (fa : Nat → Addr) (cfg : Cfg) (w0 : Wd) (s : I) : TI := fun σ H R => ∃ w ρ S ds S', Sit K fa w H σ ρ S ∧ w0.Le w ∧ Yg w0.H σ ρ ∧ its cfg s ρ S = .ok ds S' ∧
  ∀ w' J vs, Kp w w' → w0.Le w' → Sit K fa w' w'.H σ (fixI s ρ) S' → Yg w0.H σ (fixI s ρ) → Rps K fa w' vs ds → SrcF K w' J vs → R J w'.H
section
variable (cfg : Cfg) (fa : Nat → Addr) (fns gns : List Str) {X : Cx} {w0 : Wd}
theorem fixI_e {e : E} (h : ∀ i, e ≠ .var i) (ρ : Env) : fixI (.seq e) ρ = ρ := by
  cases e <;> first | rfl | exact absurd rfl (h _)
theorem pkOf_e {e : E} (h : ∀ i, e ≠ .var i) (m : M D) (ρ : Env) : pkOf m e ρ = m := by
  cases e <;> first | rfl | exact absurd rfl (h _)
theorem i_for {s : I} {tg py : Expr} (k0 : w0.Ok) (G : Good X cfg fa fns gns) (h : okI X.N fns gns s X.env.scope py = true) : PI X tg py (rdF X.K fa cfg w0 s) := by
  cases s with
  | rng e =>
    cases py <;> first | (cases h; done) | skip
    case Call g xs kw pos =>
      cases g <;> first | (cases h; done) | skip
      case Name x p2 =>
        obtain _ | ⟨a, _ | ⟨z, r⟩⟩ := xs <;> cases kw <;> first | (cases h; done) | skip
        obtain ⟨h1, k2⟩ := b2 (show (decide (x = ("range" : Str)) && (glB X.env.scope x && okE X.N fns gns e X.env.scope a)) = true from h)
        obtain ⟨j2, k3⟩ := b2 k2
        have e1 : x = ("range" : Str) := of_decide_eq_true h1
        subst e1
        refine (pi_range1 (gl_of j2) (G.bl _ (by decide +kernel)) (pa_cons (sndE cfg fa fns gns e X a G k3).1 pa_nil (ok_star k3)) (ok_star k3)).conv fun σ H R h => ?_
        obtain ⟨w, ρ, S, ds, S', st, l, y, hm, q⟩ := h
        obtain ⟨x, S1, h1, hm1⟩ := bind_ok (show M.bind (ev cfg e ρ) (fun x => M.opt (rngO x)) S = .ok ds S' from hm)
        obtain ⟨e, rfl⟩ := opt_ok hm1
        refine ⟨w, ρ, S, x, S', st, h1, fun w1 v1 l1 k1 r1 rp1 => ?_⟩
        cases x <;> first | (cases e; done) | skip
        case int j =>
          obtain ⟨c, e⟩ := ite_someB e
          subst e
          simp only [Bool.and_eq_true, decide_eq_true_eq] at c
          cases rp1
          exact ⟨j, rfl, by omega, by omega, q w1 _ _ (l1.kp st.ok) (l.trans l1 k0 st.ok) ⟨rfl, k1, st.fr.mono l1 st.ok, r1⟩ y (rng_rps j) (.rng _)⟩
  | seq e =>
    change okE X.N fns gns e X.env.scope py = true at h
    by_cases hv : ∃ i, e = .var i
    · obtain ⟨i, rfl⟩ := hv
      cases py <;> first | (cases h; done) | skip
      case Name x p =>
        obtain ⟨o1, o2⟩ := b2 (show (decide (X.N[i]? = some x) && (visB X.env.scope x && nmB x)) = true from h)
        obtain ⟨o2, o3⟩ := b2 o2
        obtain ⟨n1, n2, _⟩ := nm_of o3
        refine (pi_seq (pe_var (of_decide_eq_true o1) (vis_of o2) n1 n2)).conv fun σ H R hq => ?_
        obtain ⟨w, ρ, S, ds, S', st, l, y, hm, q⟩ := hq
        obtain ⟨x, S1, h1, hm1⟩ := bind_ok (show M.bind (M.opt (peekV ρ i)) (fun x => M.opt (itemsD x)) S = .ok ds S' from hm)
        obtain ⟨e, rfl⟩ := opt_ok hm1
        obtain ⟨e2, rfl⟩ := opt_ok h1
        unfold peekV at e2
        split at e2
        · rename_i d' hd'
          cases (Option.some.inj e2)
          obtain ⟨v, g1, g2⟩ := st.fr.val i _ hd'
          refine ⟨v, g1, ?_⟩
          have hfix : fixI (.seq (.var i)) ρ = ρ := by
            show fixAt ρ i = ρ
            unfold fixAt
            rw [hd']
          have hs := st.h
          subst hs
          have go := fun J vs rr src => q w J vs (Kp.refl w) l (by rw [hfix]; exact st) (by rw [hfix]; exact y) rr src
          cases x <;> first | (cases e; done) | skip
          case tup xs =>
            cases (Option.some.inj e)
            cases g2 with
            | tup s1 _ rr => exact .inr ⟨_, _, rfl, s1, go _ _ rr (.tup s1)⟩
          case lst xs =>
            cases (Option.some.inj e)
            cases g2 with
            | lst s1 f1 _ rr => exact .inl ⟨_, _, rfl, .of s1, go _ _ rr (.lst s1 f1)⟩
        · rename_i xs hd'
          cases (Option.some.inj e2)
          cases (Option.some.inj e)
          obtain ⟨a, vs, g1, g2, g3, g4, g5, g6⟩ := st.fr.own i _ hd'
          refine ⟨_, g1, .inl ⟨a, vs, rfl, .of (by rw [← st.h]; exact g2), ?_⟩⟩
          have hfix : fixI (.seq (.var i)) ρ = ρ.set i (some (.val (.lst ds))) := by
            show fixAt ρ i = _
            unfold fixAt
            rw [hd']
          have kp := fixS_kp w fun b => b = a
          have := q (w.fixS fun b => b = a) (Itl X.K a) vs kp (fixS_le l fun b z => by subst z; exact y i ds _ hd' g1) (by rw [hfix]; exact ⟨rfl, fixS_ok st.ok fun b z => by subst z; exact ⟨⟨vs, g2⟩, g4⟩, st.fr.fix1 hd' g1, fixS_sr st.sr⟩) (by rw [hfix]; exact y.fix1) (g6.keep kp) (.lst g2 (.inr rfl))
          rw [← st.h]
          exact this
        · cases e2
    · have hv : ∀ i, e ≠ .var i := fun i z => hv ⟨i, z⟩
      refine (pi_seq (sndE cfg fa fns gns e X py G h).1).conv fun σ H R hq => ?_
      obtain ⟨w, ρ, S, ds, S', st, l, y, hm, q⟩ := hq
      obtain ⟨x, S1, h1, hm1⟩ := bind_ok (show M.bind (pkOf (ev cfg e ρ) e ρ) (fun x => M.opt (itemsD x)) S = .ok ds S' from hm)
      obtain ⟨e2, rfl⟩ := opt_ok hm1
      rw [pkOf_e hv] at h1
      refine ⟨w, ρ, S, x, S', st, h1, fun w1 v1 l1 k1 r1 rp1 => ?_⟩
      have go := fun J vs rr src => q w1 J vs (l1.kp st.ok) (l.trans l1 k0 st.ok) (by rw [fixI_e hv]; exact ⟨rfl, k1, st.fr.mono l1 st.ok, r1⟩) (by rw [fixI_e hv]; exact y) rr src
      cases x <;> first | (cases e2; done) | skip
      case tup xs =>
        cases (Option.some.inj e2)
        cases rp1 with
        | tup s1 _ rr => exact .inr ⟨_, _, rfl, s1, go _ _ rr (.tup s1)⟩
      case lst xs =>
        cases (Option.some.inj e2)
        cases rp1 with
        | lst s1 f1 _ rr => exact .inl ⟨_, _, rfl, .of s1, go _ _ rr (.lst s1 f1)⟩

/-! ### loops -/
theorem for_read {t : Tg} {s : I} {m : Env → M Fl} {vs : List Nat} {D : Ends} {σ : L2.St} {H : Hp} (k0 : w0.Ok) (h : rs X.K fa w0 (fun ρ => M.bind (its cfg s ρ) fun xs => forL (fun d ρ' => M.bind (M.opt (bindT t d ρ')) fun ρ'' => m ρ'') xs (fixI s ρ)) D σ H) :
    tFor (rdF X.K fa cfg w0 s) (gT X.K fa vs t) (rs X.K fa w0 m) D σ H := by
  obtain ⟨w, ρ, S, fl, S', st, l, y, hm, ed⟩ := h
  obtain ⟨ds, S1, h1, hm⟩ := bind_ok hm
  refine ⟨w, ρ, S, ds, S1, st, l, y, h1, fun w1 J us kp1 l1 st1 y1 rr src => ?_⟩
  have hlen := rr.len
  have ed := ed.kp kp1
  refine ⟨fun i n σ H => n = us.length - i ∧ i ≤ us.length ∧ ∃ (w2 : Wd) (ρ2 : Env) (S2 : Sto), Sit X.K fa w2 H σ ρ2 S2 ∧ w0.Le w2 ∧ Yg w0.H σ ρ2 ∧ Kp w1 w2 ∧ forL (fun d ρ' => M.bind (M.opt (bindT t d ρ')) fun ρ'' => m ρ'') (ds.drop i) ρ2 S2 = .ok fl S',
    ⟨us.length, by simp, Nat.zero_le _, w1, _, S1, st1, l1, y1, Kp.refl w1, by rw [List.drop_zero]; exact hm⟩, ?_⟩
  rintro i n σ H ⟨rfl, hi', w2, ρ2, S2, st2, l2, y2, kp2, hrun⟩
  have src2 := src.kp kp2
  have hH := st2.h
  subst hH
  by_cases hlt : i < us.length
  · right
    refine ⟨src2.go hlt, fun σ' H' => ∃ m', m' < us.length - i ∧ (m' = us.length - (i + 1) ∧ i + 1 ≤ us.length ∧ ∃ (w2 : Wd) (ρ2 : Env) (S2 : Sto), Sit X.K fa w2 H' σ' ρ2 S2 ∧ w0.Le w2 ∧ Yg w0.H σ' ρ2 ∧ Kp w1 w2 ∧ forL (fun d ρ' => M.bind (M.opt (bindT t d ρ')) fun ρ'' => m ρ'') (ds.drop (i + 1)) ρ2 S2 = .ok fl S'), fun σ' H' ⟨m', g1, g2⟩ => ⟨m', g1, g2⟩, fun x H' yl => ?_⟩
    obtain ⟨rfl, hx⟩ := src2.yld yl hlt
    obtain ⟨dx, hdx, rx⟩ := (rr.keep kp2).getV hx
    have hxi : i < ds.length := by rw [← hlen]; exact hlt
    have ed0 : ds.drop i = dx :: ds.drop (i + 1) := by
      rw [List.drop_eq_getElem_cons hxi]
      rw [List.getElem?_eq_getElem hxi] at hdx
      rw [Option.some.inj hdx]
    rw [ed0] at hrun
    obtain ⟨f1, S3, hb, hrest⟩ := bind_ok (show M.bind (M.bind (M.opt (bindT t dx ρ2)) fun ρ'' => m ρ'') (fun f => match f with
      | .nx ρ' => forL (fun d ρ' => M.bind (M.opt (bindT t d ρ')) fun ρ'' => m ρ'') (ds.drop (i + 1)) ρ'
      | .rt r => M.pure (.rt r)) S2 = .ok fl S' from hrun)
    obtain ⟨ρ3, S4, hb1, hb2⟩ := bind_ok hb
    obtain ⟨eb, rfl⟩ := opt_ok hb1
    refine ⟨w2, ρ2, dx, ρ3, rfl, st2.ok, st2.fr, rx, eb, fun σ2 fr2 x2 => ?_⟩
    refine ⟨w2, ρ3, S4, f1, S3, ⟨rfl, st2.ok, fr2, st2.sr⟩, l2, y2.eqx x2, hb2, ?_⟩
    cases f1 with
    | nx ρ' => exact fun w' σ' k' l' st' y' => ⟨us.length - (i + 1), by omega, rfl, hlt, w', ρ', S3, st', l', y', kp2.trans k', hrest⟩
    | rt r =>
      obtain ⟨e1, rfl⟩ := pure_ok (show M.pure (Fl.rt r) S3 = .ok fl S' from hrest)
      subst e1
      exact ed
  · left
    refine ⟨src2.stop (by omega), ?_⟩
    rw [List.drop_eq_nil_of_le (by omega)] at hrun
    obtain ⟨e1, rfl⟩ := pure_ok (show M.pure (Fl.nx ρ2) S2 = .ok fl S' from hrun)
    subst e1
    exact ed w2 σ kp2 l2 st2 y2
theorem whl_read {c : Env → M Bool} {m : Env → M Fl} {n : Nat} {D : Ends} {σ : L2.St} {H : Hp} (k0 : w0.Ok) (h : rs X.K fa w0 (fun ρ => whlL c m n ρ) D σ H) : tWhile (rdT X.K fa c) (rs X.K fa w0 m) D σ H := by
  obtain ⟨w, ρ, S, fl, S', st, l, y, hm, ed⟩ := h
  refine ⟨fun n σ H => ∃ (w2 : Wd) (ρ2 : Env) (S2 : Sto), Sit X.K fa w2 H σ ρ2 S2 ∧ w0.Le w2 ∧ Yg w0.H σ ρ2 ∧ Kp w w2 ∧ whlL c m n ρ2 S2 = .ok fl S', ⟨n, w, ρ, S, st, l, y, Kp.refl w, hm⟩, ?_⟩
  rintro n σ H ⟨w2, ρ2, S2, st2, l2, y2, kp2, hrun⟩
  cases n with
  | zero => cases hrun
  | succ n =>
    obtain ⟨k, S3, hc, hrest⟩ := bind_ok (show M.bind (c ρ2) (fun k => match k with
      | false => M.pure (.nx ρ2)
      | true => M.bind (m ρ2) fun f => match f with
        | .nx ρ' => whlL c m n ρ'
        | .rt r => M.pure (.rt r)) S2 = .ok fl S' from hrun)
    refine ⟨w2, ρ2, S2, k, S3, st2, hc, fun w3 l3 k3 r3 => ?_⟩
    have kp3 := kp2.trans (l3.kp st2.ok)
    have l03 := l2.trans l3 k0 st2.ok
    have st3 : Sit X.K fa w3 w3.H σ ρ2 S3 := ⟨rfl, k3, st2.fr.mono l3 st2.ok, r3⟩
    cases k with
    | false =>
      refine iteF ?_
      obtain ⟨e1, rfl⟩ := pure_ok (show M.pure (Fl.nx ρ2) S3 = .ok fl S' from hrest)
      subst e1
      exact ed w3 σ kp3 l03 st3 y2
    | true =>
      refine iteT ?_
      obtain ⟨f1, S4, hb, hr2⟩ := bind_ok (show M.bind (m ρ2) (fun f => match f with
        | .nx ρ' => whlL c m n ρ'
        | .rt r => M.pure (.rt r)) S3 = .ok fl S' from hrest)
      refine ⟨fun σ' H' => ∃ m', m' < n + 1 ∧ ∃ (w2 : Wd) (ρ2 : Env) (S2 : Sto), Sit X.K fa w2 H' σ' ρ2 S2 ∧ w0.Le w2 ∧ Yg w0.H σ' ρ2 ∧ Kp w w2 ∧ whlL c m m' ρ2 S2 = .ok fl S', fun σ' H' ⟨m', g1, g2⟩ => ⟨m', g1, g2⟩, w3, ρ2, S3, f1, S4, st3, l03, y2, hb, ?_⟩
      cases f1 with
      | nx ρ' => exact fun w' σ' k' l' st' y' => ⟨n, Nat.lt_succ_self n, w', ρ', S4, st', l', y', kp3.trans k', hr2⟩
      | rt r =>
        obtain ⟨e1, rfl⟩ := pure_ok (show M.pure (Fl.rt r) S4 = .ok fl S' from hr2)
        subst e1
        exact ed
end
end Ev

/-! Every statement keeps what the model does. -/
namespace Ev
open PySem PySem.Spec PyProof.Rows L2
section
variable (cfg : Cfg) (fa : Nat → Addr) (fns gns : List Str) {X : Cx} {w0 : Wd}
theorem s_unp {t : Tg} {e : E} {ts : List Expr} {k : Nat} {p spos : Pos} {v : Expr} (k0 : w0.Ok) (G : GoodS X cfg fa fns gns) (ht : okTg X.N true (List.range X.N.length) t X.env.scope (.Tuple ts k p) = true) (hn : (noSwapV v || noSwapT X.env.scope ts) = true) (h : okE X.N fns gns e X.env.scope v = true) :
    PS X (.Assign [.Tuple ts k p] v spos) (rs X.K fa w0 (ex cfg (.unp t e))) := by
  have hs : swapsWithSole [.Tuple ts k p] v spos.line X.env = pure false := by
    show swapsWith v (some (.Tuple ts k p)) spos.line X.env = pure false
    cases v <;> rfl
  have h1 : (assignEach [.Tuple ts k p] X.env).map (·.2) = [assign (.Tuple ts k p) X.env] := rfl
  refine (ps_asg (sndE cfg fa fns gns e X v G.g h).1 (s_tg (fa := fa) G.g.nd G.g.calm (fun _ => G.fnt) t _ ht) hs (swapN hn) h1).conv fun D σ H q => ?_
  obtain ⟨w, ρ, S, fl, S', st, l, y, hm, ed⟩ := q
  obtain ⟨x, S1, g1, hm⟩ := bind_ok (show M.bind (ev cfg e ρ) (fun x => M.bind (M.opt (bindT t x ρ)) fun ρ' => M.pure (.nx ρ')) S = .ok fl S' from hm)
  obtain ⟨ρ', S2, g2, hm1⟩ := bind_ok hm
  obtain ⟨e2, rfl⟩ := opt_ok g2
  obtain ⟨e3, rfl⟩ := pure_ok hm1
  subst e3
  refine ⟨w, ρ, S, x, S', st, g1, fun w1 v1 l1 k1 r1 rp1 => ?_⟩
  have f1 := st.fr.mono l1 st.ok
  exact ⟨w1, ρ, x, ρ', rfl, k1, f1, rp1, e2, fun σ' f2 x2 => ed w1 σ' (l1.kp st.ok) (l.trans l1 k0 st.ok) ⟨rfl, k1, f2, r1⟩ (y.eqx x2)⟩
theorem s_setI {i : Nat} {k v : E} {x : Str} {ix v' : Expr} {px p2 spos : Pos} (k0 : w0.Ok) (G : GoodS X cfg fa fns gns) (hn : nmL X.N i X.env.scope x = true) (hb : nmB x = true) (hv : okE X.N fns gns v X.env.scope v' = true) (hk : okE X.N fns gns k X.env.scope ix = true) :
    PS X (.Assign [.Subscript (.Name x px) ix p2] v' spos) (rs X.K fa w0 (ex cfg (.setI i k v))) := by
  obtain ⟨hi, hl, hvi, _⟩ := lc_of G.fnt hn
  obtain ⟨n1, n2, _⟩ := nm_of hb
  have hs : swapsWithSole [.Subscript (.Name x px) ix p2] v' spos.line X.env = pure false := by
    show swapsWith v' (some (.Subscript (.Name x px) ix p2)) spos.line X.env = pure false
    cases v' <;> rfl
  have ha : ∀ u, assign (.Subscript (.Name x px) ix p2) X.env u = (do
      let ov ← holding [u] (eval (.Name x px) X.env)
      let iv ← holding [u, ov] (eval ix X.env)
      standAt p2
      holding [u, ov, iv] (setItem ov iv u)
      release [u, ov, iv] []) := fun u => by
    cases ix <;> first | rfl | (rw [ok_noSlice] at hk; cases hk)
  refine (ps_asg (sndE cfg fa fns gns v X v' G.g hv).1 (pg_sub (pe_var hi hvi n1 n2) (sndE cfg fa fns gns k X ix G.g hk).1 set_list ha) hs rfl rfl).conv fun D σ H q => ?_
  obtain ⟨w, ρ, S, fl, S', st, l, y, h00, ed⟩ := q
  obtain ⟨d, S1, g1, hm⟩ := bind_ok (show M.bind (ev cfg v ρ) (fun x => M.bind (ev cfg k ρ) fun j => setM ρ i j x) S = .ok fl S' from h00)
  obtain ⟨j, S2, g2, hm1⟩ := bind_ok hm
  refine ⟨w, ρ, S, d, S1, st, g1, fun w1 v1 l1 k1 r1 rp1 => ?_⟩
  have f1 := st.fr.mono l1 st.ok
  have hq : (match ρ[i]?, j with
    | some (some (.own xs)), .int k => (match L2.ixN xs.length k with
      | some p => Res.ok (Fl.nx (ρ.set i (some (.own (xs.set p d))))) S2
      | none => .stk)
    | some (some (.val (.loc n))), .int k => (match S2[n]? with
      | some (.cell xs) => (match L2.ixN xs.length k with
        | some p => .ok (.nx ρ) (S2.set n (.cell (xs.set p d)))
        | none => .stk)
      | none => .stk)
    | _, _ => .stk) = .ok fl S' := hm1
  split at hq
  · rename_i xs kk hr
    obtain ⟨a, us, s1, s2, s3, s4, s5, s6⟩ := f1.own i xs hr
    refine ⟨_, s1, ?_⟩
    refine ⟨w1, ρ, S1, _, S2, ⟨rfl, k1, f1, r1⟩, g2, fun w2 v2 l2 k2 r2 rp2 => ?_⟩
    cases rp2
    split at hq
    · rename_i p hp
      cases hq
      have l12 := l1.trans l2 st.ok k1
      have f2 := f1.mono l2 k1
      have e2 := l2.h _ _ s2 s4
      have nf2 := l2.nF s2 s3
      have na2 := l2.nA s2 s4
      have rr2 := s6.keep (l2.kp k1)
      refine ⟨a, us, kk, p, rfl, rfl, e2, by rw [rr2.len]; exact hp, ?_⟩
      have rd := rp1.keep (l2.kp k1)
      refine ed (w2.put a (us.set p v1)) σ ((l12.kp st.ok).trans (put_kp e2 nf2)) (put_le (l.trans l12 k0 st.ok) (y i xs a hr s1)) ⟨rfl, put_ok k2 e2 nf2, f2.put hr s1 (by rw [List.length_set]; exact s5) (rr2.set rd p), put_sr r2 e2 nf2 na2⟩ (y.put hr)
    · cases hq
  · rename_i n kk hr
    obtain ⟨u, s1, s2⟩ := f1.val i _ hr
    refine ⟨_, s1, ?_⟩
    refine ⟨w1, ρ, S1, _, S2, ⟨rfl, k1, f1, r1⟩, g2, fun w2 v2 l2 k2 r2 rp2 => ?_⟩
    cases rp2
    have hu := s2.keep (l2.kp k1)
    cases hu with
    | loc hA =>
      split at hq
      · rename_i xs hS
        split at hq
        · rename_i p hp
          cases hq
          have l12 := l1.trans l2 st.ok k1
          have f2 := f1.mono l2 k1
          obtain ⟨us, e2, hz, rr2⟩ := r2.at_ _ _ _ hA hS
          have mA := List.mem_of_getElem? hA
          have rd := rp1.keep (l2.kp k1)
          refine ⟨_, us, kk, p, rfl, rfl, e2, by rw [rr2.len]; exact hp, ?_⟩
          exact ed (w2.put _ (us.set p v1)) σ ((l12.kp st.ok).trans (cell_kp k2 mA e2)) (cell_le (l.trans l12 k0 st.ok) mA e2) ⟨rfl, put_ok k2 e2 (k2.cf _ mA), cell_fr f2 k2 mA e2, cell_sr k2 r2 hA e2 (by rw [List.length_set]; exact hz) (rr2.set rd p)⟩ y
        · cases hq
      · cases hq
  · cases hq
theorem s_app {i : Nat} {e : E} {x m : Str} {v : Expr} {px apos cpos spos : Pos} (k0 : w0.Ok) (G : GoodS X cfg fa fns gns) (hn : nmL X.N i X.env.scope x = true) (hb : nmB x = true) (hm : m = ("append" : Str)) (hl : (apos.endLine == cpos.line) = true) (hv : okE X.N fns gns e X.env.scope v = true) :
    PS X (.Expr (.Call (.Attribute (.Name x px) m apos) [v] [] cpos) spos) (rs X.K fa w0 (ex cfg (.app i e))) := by
  subst hm
  obtain ⟨hi, hlo, hvi, _⟩ := lc_of G.fnt hn
  obtain ⟨n1, n2, _⟩ := nm_of hb
  have hst : ∀ r, starEach (v :: r) X.env = (false, eval v X.env) :: starEach r X.env := fun r => ok_star hv
  have hfew : ((backTo cpos (starEach [v] X.env)).all (fun x => !x.1) && (backToKw cpos (keywordEach [] X.env)).all (fun x => x.1.isSome)
      && decide (([v] : List Expr).length + ([] : List Keyword).length + (if ([] : List Keyword).isEmpty then 0 else 1) < 30)) = true := by
    rw [hst] <;> rfl
  refine (ps_expr (pe_bm PySem.F.plainAttrs_list PySem.F.slot_list_append PySem.F.type_list_append mt_append (pe_var hi hvi n1 n2) (pa_cons (sndE cfg fa fns gns e X v G.g hv).1 pa_nil (hst [])) rfl hfew hl (hst []) rfl)).conv fun D σ H q => ?_
  obtain ⟨w, ρ, S, fl, S', st, l, y, h00, ed⟩ := q
  obtain ⟨d, S1, g1, hm⟩ := bind_ok (show M.bind (ev cfg e ρ) (fun x => appM ρ i x) S = .ok fl S' from h00)
  have hq : (match ρ[i]? with
    | some (some (.own xs)) => if xs.length < 1000000 then Res.ok (Fl.nx (ρ.set i (some (.own (xs ++ [d]))))) S1 else .stk
    | _ => .stk) = .ok fl S' := hm
  split at hq
  · rename_i xs hr
    obtain ⟨a, us, s1, s2, s3, s4, s5, s6⟩ := st.fr.own i xs hr
    have hH := st.h
    subst hH
    refine ⟨_, s1, .inl ⟨rfl, us, .of s2⟩, w, ρ, S, d, S1, st, g1, fun w1 v1 l1 k1 r1 rp1 => ?_⟩
    split at hq
    · rename_i hlt
      cases hq
      have e1 := l1.h _ _ s2 s4
      have nf1 := l1.nF s2 s3
      have na1 := l1.nA s2 s4
      have rr1 := s6.keep (l1.kp st.ok)
      have hlen := rr1.len
      have hz : us.length + 1 ≤ sizeLine := by rw [sizeLine_eq, hlen]; omega
      refine ⟨a, us, v1, rfl, rfl, e1, by omega, ?_⟩
      exact ed (w1.put a (us ++ [v1])) σ ((l1.kp st.ok).trans (put_kp e1 nf1)) (put_le (l.trans l1 k0 st.ok) (y i xs a hr s1)) ⟨rfl, put_ok k1 e1 nf1, (st.fr.mono l1 st.ok).put hr s1 (by rw [List.length_append, List.length_singleton]; exact hz) (rr1.snoc rp1), put_sr r1 e1 nf1 na1⟩ (y.put hr)
    · cases hq
  · cases hq
theorem s_ret {e : E} {v : Expr} {spos : Pos} (k0 : w0.Ok) (G : GoodS X cfg fa fns gns) (hv : okE X.N fns gns e X.env.scope v = true) : PS X (.Return (some v) spos) (rs X.K fa w0 (ex cfg (.ret e))) := by
  refine (ps_ret (sndE cfg fa fns gns e X v G.g hv).1).conv fun D σ H q => ?_
  obtain ⟨w, ρ, S, fl, S', st, l, y, hm, ed⟩ := q
  obtain ⟨d, S1, g1, hm⟩ := bind_ok (show M.bind (ev cfg e (fixAll ρ)) (fun x => M.pure (.rt (.val x))) S = .ok fl S' from hm)
  obtain ⟨e3, rfl⟩ := pure_ok hm
  subst e3
  have hH := st.h
  subst hH
  let P : Addr → Prop := fun a => ∃ (i : Nat) (ds : List Ev.D), ρ[i]? = some (some (.own ds)) ∧ σ[i]? = some (some (.ref a))
  have hP : ∀ a, P a → (∃ vs, w.H a = some (.lst vs)) ∧ a ∉ w.A := fun a ⟨i, ds, e1, e2⟩ => by
    obtain ⟨b, vs, s1, s2, s3, s4, s5, s6⟩ := st.fr.own i ds e1
    rw [e2] at s1
    cases s1
    exact ⟨⟨vs, s2⟩, s4⟩
  have l0 : w0.Le (w.fixS P) := fixS_le l fun a ⟨i, ds, e1, e2⟩ => y i ds a e1 e2
  refine ⟨w.fixS P, fixAll ρ, S, d, S', ⟨rfl, fixS_ok st.ok hP, st.fr.fixAll fun i ds a e1 e2 => ⟨i, ds, e1, e2⟩, fixS_sr st.sr⟩, g1, fun w1 v1 l1 k1 r1 rp1 => ?_⟩
  exact ed w1 v1 (l0.trans l1 k0 (fixS_ok st.ok hP)) k1 r1 rp1
theorem s_reto {i : Nat} {x : Str} {px spos : Pos} (k0 : w0.Ok) (G : GoodS X cfg fa fns gns) (hn : nmL X.N i X.env.scope x = true) (hb : nmB x = true) : PS X (.Return (some (.Name x px)) spos) (rs X.K fa w0 (ex cfg (.reto i))) := by
  obtain ⟨hi, hl, hvi, _⟩ := lc_of G.fnt hn
  obtain ⟨n1, n2, _⟩ := nm_of hb
  refine (ps_ret (pe_var hi hvi n1 n2)).conv fun D σ H q => ?_
  obtain ⟨w, ρ, S, fl, S', st, l, y, h00, ed⟩ := q
  obtain ⟨hm, rfl⟩ := opt_ok h00
  split at hm
  · rename_i xs hr
    cases hm
    obtain ⟨a, us, s1, s2, s3, s4, s5, s6⟩ := st.fr.own i xs hr
    have hH := st.h
    subst hH
    exact ⟨_, s1, ed w _ l st.ok st.sr ⟨a, us, rfl, y i xs a hr s1, s2, s3, s4, s5, s6⟩⟩
  · cases hm
theorem okT_two {N fns gns : List Str} {t : T} {sc : Scope} {a b : Expr} {r : List Expr} {v : Expr} {p : Pos} (h : okT N fns gns t sc (.Assign (a :: b :: r) v p) = true) : False := by
  cases t <;> cases a <;> first | (cases h; done) | skip
  case par2.Tuple ts _ _ =>
    obtain _ | ⟨n1, _ | ⟨n2, _ | ⟨n3, ts⟩⟩⟩ := ts <;> first | (cases h; done) | skip
    all_goals cases n1 <;> first | (cases h; done) | skip
    all_goals cases n2 <;> first | (cases h; done) | skip
  case par3.Tuple ts _ _ =>
    obtain _ | ⟨n1, _ | ⟨n2, _ | ⟨n3, _ | ⟨n4, ts⟩⟩⟩⟩ := ts <;> first | (cases h; done) | skip
    all_goals cases n1 <;> first | (cases h; done) | skip
    all_goals cases n2 <;> first | (cases h; done) | skip
    all_goals cases n3 <;> first | (cases h; done) | skip
  case setI.Subscript o _ _ =>
    cases o <;> first | (cases h; done) | skip
mutual
theorem sndT (k0 : w0.Ok) : ∀ (t : T) (X : Cx) (py : Stmt), GoodS X cfg fa fns gns → okT X.N fns gns t X.env.scope py = true → PS X py (rs X.K fa w0 (ex cfg t))
  | .asg i e, X, py, G, h => by
    cases py <;> first | (cases h; done) | skip
    case Assign tgs v p =>
      obtain _ | ⟨tg, _ | ⟨t2, tgs⟩⟩ := tgs <;> first | (cases h; done) | skip
      all_goals cases tg <;> first | (cases h; done) | (exact (okT_two h).elim) | skip
      case Name x px =>
        obtain ⟨h1, k2⟩ := b2 (show (nmL X.N i X.env.scope x && (compB X.env.scope x px v && okE X.N fns gns e X.env.scope v)) = true from h)
        obtain ⟨j2, k3⟩ := b2 k2
        exact s_asg cfg fa k0 G h1 j2 k3
  | .asgO i e, X, py, G, h => by
    cases py <;> first | (cases h; done) | skip
    case Assign tgs v p =>
      obtain _ | ⟨tg, _ | ⟨t2, tgs⟩⟩ := tgs <;> first | (cases h; done) | skip
      all_goals cases tg <;> first | (cases h; done) | (exact (okT_two h).elim) | skip
      case Name x px =>
        obtain ⟨h1, k2⟩ := b2 (show (nmL X.N i X.env.scope x && (compB X.env.scope x px v && ((isFr e || isCallE e) && okE X.N fns gns e X.env.scope v))) = true from h)
        obtain ⟨j2, k3⟩ := b2 k2
        obtain ⟨j3, k4⟩ := b2 k3
        exact s_asgO cfg fa k0 G h1 j2 j3 k4
  | .par2 i j a b, X, py, G, h => by
    cases py <;> first | (cases h; done) | skip
    case Assign tgs v p =>
      obtain _ | ⟨tg, _ | ⟨t2, tgs⟩⟩ := tgs <;> first | (cases h; done) | skip
      all_goals cases tg <;> first | (cases h; done) | (exact (okT_two h).elim) | skip
      case Tuple ts kt pt =>
        obtain _ | ⟨n1, _ | ⟨n2, _ | ⟨n3, ts⟩⟩⟩ := ts <;> first | (cases h; done) | skip
        all_goals cases n1 <;> first | (cases h; done) | skip
        all_goals cases n2 <;> first | (cases h; done) | skip
        all_goals cases v <;> first | (cases h; done) | skip
        rename_i x px y py vs k2 pt2
        obtain _ | ⟨v1, _ | ⟨v2, _ | ⟨v3, vs⟩⟩⟩ := vs <;> first | (cases h; done) | skip
        obtain ⟨h1, m⟩ := b2 (show (nmP X.N i X.env.scope x && (nmP X.N j X.env.scope y && (decide (i ≠ j) && ((py.line == px.line) && (!(x == y) && (!(foldedForSure 8 v1 && foldedForSure 8 v2) && (!(constantsAlone 8 v1 && constantsAlone 8 v2) && (okE X.N fns gns a X.env.scope v1 && okE X.N fns gns b X.env.scope v2)))))))) = true from h)
        obtain ⟨h2, m⟩ := b2 m
        obtain ⟨h3, m⟩ := b2 m
        obtain ⟨h4, m⟩ := b2 m
        obtain ⟨h5, m⟩ := b2 m
        obtain ⟨h6, m⟩ := b2 m
        obtain ⟨h7, m⟩ := b2 m
        obtain ⟨h8, h9⟩ := b2 m
        exact s_par2 cfg fa k0 G h1 h2 (of_decide_eq_true h3) h4 (Bool.not_eq_true' _ ▸ h5) (Bool.not_eq_true' _ ▸ h6) (Bool.not_eq_true' _ ▸ h7) h8 h9
  | .par3 i j k oi a b c, X, py, G, h => by
    cases py <;> first | (cases h; done) | skip
    case Assign tgs v p =>
      obtain _ | ⟨tg, _ | ⟨t2, tgs⟩⟩ := tgs <;> first | (cases h; done) | skip
      all_goals cases tg <;> first | (cases h; done) | (exact (okT_two h).elim) | skip
      case Tuple ts kt pt =>
        obtain _ | ⟨n1, _ | ⟨n2, _ | ⟨n3, _ | ⟨n4, ts⟩⟩⟩⟩ := ts <;> first | (cases h; done) | skip
        all_goals cases n1 <;> first | (cases h; done) | skip
        all_goals cases n2 <;> first | (cases h; done) | skip
        all_goals cases n3 <;> first | (cases h; done) | skip
        all_goals cases v <;> first | (cases h; done) | skip
        rename_i x px y py z pz vs k2 pt2
        obtain _ | ⟨v1, _ | ⟨v2, _ | ⟨v3, _ | ⟨v4, vs⟩⟩⟩⟩ := vs <;> first | (cases h; done) | skip
        obtain ⟨h1, m⟩ := b2 (show (nmP X.N i X.env.scope x && (nmP X.N j X.env.scope y && (nmP X.N k X.env.scope z && (decide (i ≠ j) && (decide (i ≠ k) && (decide (j ≠ k) && ((py.line == px.line) && ((pz.line == px.line) && (!(x == y) && (!(x == z) && (!(y == z) && (!(foldedForSure 8 v1 && (foldedForSure 8 v2 && foldedForSure 8 v3)) && (!(constantsAlone 8 v1 && (constantsAlone 8 v2 && constantsAlone 8 v3)) && ((!oi || (isFr a || isCallE a)) && (okE X.N fns gns a X.env.scope v1 && (okE X.N fns gns b X.env.scope v2 && okE X.N fns gns c X.env.scope v3)))))))))))))))) = true from h)
        obtain ⟨h2, m⟩ := b2 m
        obtain ⟨h3, m⟩ := b2 m
        obtain ⟨h4, m⟩ := b2 m
        obtain ⟨h5, m⟩ := b2 m
        obtain ⟨h6, m⟩ := b2 m
        obtain ⟨h7, m⟩ := b2 m
        obtain ⟨h8, m⟩ := b2 m
        obtain ⟨h9, m⟩ := b2 m
        obtain ⟨h10, m⟩ := b2 m
        obtain ⟨h11, m⟩ := b2 m
        obtain ⟨h12, m⟩ := b2 m
        obtain ⟨h13, m⟩ := b2 m
        obtain ⟨h14, m⟩ := b2 m
        obtain ⟨h15, m⟩ := b2 m
        obtain ⟨h16, h17⟩ := b2 m
        exact s_par3 cfg fa k0 G h1 h2 h3 (of_decide_eq_true h4) (of_decide_eq_true h5) (of_decide_eq_true h6) h7 h8 (Bool.not_eq_true' _ ▸ h9) (Bool.not_eq_true' _ ▸ h10) (Bool.not_eq_true' _ ▸ h11) (Bool.not_eq_true' _ ▸ h12) (Bool.not_eq_true' _ ▸ h13) h14 h15 h16 h17
  | .unp t e, X, py, G, h => by
    cases py <;> first | (cases h; done) | skip
    case Assign tgs v p =>
      obtain _ | ⟨tg, _ | ⟨t2, tgs⟩⟩ := tgs <;> first | (cases h; done) | skip
      all_goals cases tg <;> first | (cases h; done) | (exact (okT_two h).elim) | skip
      case Tuple ts kt pt =>
        obtain ⟨h1, m⟩ := b2 (show (okTg X.N true (List.range X.N.length) t X.env.scope (.Tuple ts kt pt) && ((noSwapV v || noSwapT X.env.scope ts) && okE X.N fns gns e X.env.scope v)) = true from h)
        obtain ⟨h2, h3⟩ := b2 m
        exact s_unp cfg fa fns gns k0 G h1 h2 h3
  | .setI i k v, X, py, G, h => by
    cases py <;> first | (cases h; done) | skip
    case Assign tgs v' p =>
      obtain _ | ⟨tg, _ | ⟨t2, tgs⟩⟩ := tgs <;> first | (cases h; done) | skip
      all_goals cases tg <;> first | (cases h; done) | (exact (okT_two h).elim) | skip
      case Subscript o ix p2 =>
        cases o <;> first | (cases h; done) | skip
        case Name x px =>
          obtain ⟨h1, m⟩ := b2 (show (nmL X.N i X.env.scope x && (nmB x && (okE X.N fns gns v X.env.scope v' && okE X.N fns gns k X.env.scope ix))) = true from h)
          obtain ⟨h2, m⟩ := b2 m
          obtain ⟨h3, h4⟩ := b2 m
          exact s_setI cfg fa fns gns k0 G h1 h2 h3 h4
  | .app i e, X, py, G, h => by
    cases py <;> first | (cases h; done) | skip
    case Expr c p =>
      cases c <;> first | (cases h; done) | skip
      case Call g xs kw cp =>
        cases g <;> first | (cases h; done) | skip
        case Attribute o m ap =>
          cases o <;> first | (cases h; done) | skip
          case Name x px =>
            obtain _ | ⟨v, _ | ⟨v2, xs⟩⟩ := xs <;> cases kw <;> first | (cases h; done) | skip
            obtain ⟨h1, m1⟩ := b2 (show (nmL X.N i X.env.scope x && (nmB x && (decide (m = ("append" : Str)) && ((ap.endLine == cp.line) && okE X.N fns gns e X.env.scope v)))) = true from h)
            obtain ⟨h2, m1⟩ := b2 m1
            obtain ⟨h3, m1⟩ := b2 m1
            obtain ⟨h4, h5⟩ := b2 m1
            exact s_app cfg fa fns gns k0 G h1 h2 (of_decide_eq_true h3) h4 h5
  | .ret e, X, py, G, h => by
    cases py <;> first | (cases h; done) | skip
    case Return v p =>
      cases v <;> first | (cases h; done) | skip
      exact s_ret cfg fa fns gns k0 G h
  | .reto i, X, py, G, h => by
    cases py <;> first | (cases h; done) | skip
    case Return v p =>
      obtain _ | v := v <;> first | (cases h; done) | skip
      cases v <;> first | (cases h; done) | skip
      case Name x px =>
        obtain ⟨h1, h2⟩ := b2 (show (nmL X.N i X.env.scope x && nmB x) = true from h)
        exact s_reto cfg fa fns gns k0 G h1 h2
  | .ifs c a b, X, py, G, h => by
    cases py <;> first | (cases h; done) | skip
    case If v p q pos =>
      obtain ⟨h1, m⟩ := b2 (show (okB X.N fns gns c X.env.scope v && (okTs X.N fns gns a X.env.scope p && okTs X.N fns gns b X.env.scope q)) = true from h)
      obtain ⟨h2, h3⟩ := b2 m
      refine (ps_if (sndB cfg fa fns gns c X v G.g h1) (sndTs k0 a X p G h2) (sndTs k0 b X q G h3)).conv fun D σ H hq => ?_
      obtain ⟨w, ρ, S, fl, S', st, l, y, hm, ed⟩ := hq
      obtain ⟨k, S1, g1, hm⟩ := bind_ok (show M.bind (tst cfg c ρ) (fun k => match k with
        | true => exs cfg a ρ
        | false => exs cfg b ρ) S = .ok fl S' from hm)
      refine ⟨w, ρ, S, k, S1, st, g1, fun w1 l1 k1 r1 => ?_⟩
      have st1 := st.next l1 k1 r1
      cases k with
      | true => exact iteT ⟨w1, ρ, S1, fl, S', st1, l.trans l1 k0 st.ok, y, hm, ed.kp (l1.kp st.ok)⟩
      | false => exact iteF ⟨w1, ρ, S1, fl, S', st1, l.trans l1 k0 st.ok, y, hm, ed.kp (l1.kp st.ok)⟩
  | .fors t s b, X, py, G, h => by
    cases py <;> first | (cases h; done) | skip
    case For tg it p orelse pos =>
      cases orelse <;> first | (cases h; done) | skip
      obtain ⟨h1, m⟩ := b2 (show (okTg X.N true (List.range X.N.length) t X.env.scope tg && (okI X.N fns gns s X.env.scope it && okTs X.N fns gns b X.env.scope p)) = true from h)
      obtain ⟨h2, h3⟩ := b2 m
      exact (ps_for G.po G.g.calm (i_for cfg fa fns gns k0 G.g h2) (s_tg (fa := fa) G.g.nd G.g.calm (fun _ => G.fnt) t tg h1) (sndTs k0 b X p G h3) (sndI cfg fa fns gns s X tg it G.g h2).2).conv fun D σ H hq => for_read cfg fa k0 hq
  | .whl c b, X, py, G, h => by
    cases py <;> first | (cases h; done) | skip
    case While v p orelse pos =>
      cases orelse <;> first | (cases h; done) | skip
      obtain ⟨h1, h2⟩ := b2 (show (okB X.N fns gns c X.env.scope v && okTs X.N fns gns b X.env.scope p) = true from h)
      exact (ps_while G.po (sndB cfg fa fns gns c X v G.g h1) (sndTs k0 b X p G h2)).conv fun D σ H hq => whl_read fa k0 hq
  | .exp e, X, py, G, h => by
    cases py <;> first | (cases h; done) | skip
    case Expr v p =>
      obtain ⟨h1, h2⟩ := b2 (show (noComp v && okE X.N fns gns e X.env.scope v) = true from h)
      refine (ps_expr (sndE cfg fa fns gns e X v G.g h2).1 (sw_no h1)).conv fun D σ H hq => ?_
      obtain ⟨w, ρ, S, fl, S', st, l, y, hm, ed⟩ := hq
      obtain ⟨x, S1, g1, hm⟩ := bind_ok (show M.bind (ev cfg e ρ) (fun _ => M.pure (.nx ρ)) S = .ok fl S' from hm)
      obtain ⟨e1, rfl⟩ := pure_ok hm
      subst e1
      exact ⟨w, ρ, S, x, S', st, g1, fun w1 v1 l1 k1 r1 rp1 => ed w1 σ (l1.kp st.ok) (l.trans l1 k0 st.ok) (st.next l1 k1 r1) y⟩
theorem sndTs (k0 : w0.Ok) : ∀ (ts : Ts) (X : Cx) (pys : List Stmt), GoodS X cfg fa fns gns → okTs X.N fns gns ts X.env.scope pys = true → PSs X pys (rs X.K fa w0 (exs cfg ts))
  | .nil, X, [], G, h => pss_nil.conv fun D σ H hq => by
    obtain ⟨w, ρ, S, fl, S', st, l, y, hm, ed⟩ := hq
    obtain ⟨e1, rfl⟩ := pure_ok (show M.pure (Fl.nx ρ) S = .ok fl S' from hm)
    subst e1
    have hH := st.h
    subst hH
    exact ed w σ (Kp.refl w) l st y
  | .nil, X, _ :: _, G, h => by cases h
  | .cons _ _, X, [], G, h => by cases h
  | .cons t ts, X, p :: ps, G, h => by
    obtain ⟨h1, h2⟩ := b2 (show (okT X.N fns gns t X.env.scope p && okTs X.N fns gns ts X.env.scope ps) = true from h)
    refine (pss_cons (sndT k0 t X p G h1) (sndTs k0 ts X ps G h2)).conv fun D σ H hq => ?_
    obtain ⟨w, ρ, S, fl, S', st, l, y, hm, ed⟩ := hq
    obtain ⟨f1, S1, g1, hm⟩ := bind_ok (show M.bind (ex cfg t ρ) (fun f => match f with
      | .nx ρ' => exs cfg ts ρ'
      | .rt r => M.pure (.rt r)) S = .ok fl S' from hm)
    refine ⟨w, ρ, S, f1, S1, st, l, y, g1, ?_⟩
    cases f1 with
    | nx ρ' => exact fun w' σ' k' l' st' y' => ⟨w', ρ', S1, fl, S', st', l', y', hm, ed.kp k'⟩
    | rt r =>
      obtain ⟨e1, rfl⟩ := pure_ok (show M.pure (Fl.rt r) S1 = .ok fl S' from hm)
      subst e1
      exact ed
end
end
end Ev

namespace Ev
open PySem PySem.Spec PyProof.Rows L2
def plainArgs (ps : List Str) (p : Arguments) : Bool := p.posonlyargs.isEmpty && (p.vararg.isNone && (p.kwonlyargs.isEmpty && (p.kw_defaults.isEmpty && (p.kwarg.isNone && (p.defaults.isEmpty && decide (p.args.map (·.arg) = ps))))))
theorem lookup_zip : ∀ {ps : List Str} {us : List Value} {i : Nat} {x : Str} {u : Value}, ps.Nodup → ps[i]? = some x → us[i]? = some u → (ps.zip us).lookup x = some u
  | [], _, _, _, _, _, h, _ => by simp at h
  | _ :: _, [], _, _, _, _, _, h => by simp at h
  | p :: ps, w :: us, 0, x, u, nd, h1, h2 => by
    simp at h1 h2
    subst h1 h2
    simp [List.lookup]
  | p :: ps, w :: us, i + 1, x, u, nd, h1, h2 => by
    have h1 : ps[i]? = some x := by simpa using h1
    have hx : x ∈ ps := List.mem_of_getElem? h1
    have hne : (x == p) = false := by
      rw [beq_eq_false_iff_ne]
      intro e
      subst e
      exact (List.nodup_cons.mp nd).1 hx
    rw [List.zip_cons_cons, List.lookup_cons, hne]
    exact lookup_zip (List.nodup_cons.mp nd).2 h1 (by simpa using h2)
theorem filter_look : ∀ {ps : List Str} {us : List Value} {f : Str → Option Value}, us.length = ps.length → (∀ (i : Nat) x u, ps[i]? = some x → us[i]? = some u → f x = some u) → ps.filterMap (fun n => (f n).map fun v => (n, v)) = ps.zip us
  | [], [], _, _, _ => rfl
  | [], _ :: _, _, h, _ => by cases h
  | _ :: _, [], _, h, _ => by cases h
  | p :: ps, w :: us, f, h, hf => by
    rw [List.filterMap_cons, hf 0 p w rfl rfl, List.zip_cons_cons]
    show (p, w) :: _ = _
    rw [filter_look (by simpa using h) fun i x u h1 h2 => hf (i + 1) x u (by simpa using h1) (by simpa using h2)]
theorem bind_plain {ps : List Str} {x qual : Str} {params : Arguments} {body : List Stmt} {scope : Scope} (nd : ps.Nodup) (hp : plainArgs ps params = true) (kV doc pm : Value) (an : Option Addr) (cdv ct : Value) (us : List Value) (hl : us.length = ps.length) :
    bindArgs (PySem.W.fnOf x qual params body scope .none kV doc pm an cdv ct) ⟨us, []⟩ = pure (ps.zip us) := by
  obtain ⟨po, as, va, ko, kd, kw, df⟩ := params
  obtain ⟨h1, m⟩ := b2 hp
  obtain ⟨h2, m⟩ := b2 m
  obtain ⟨h3, m⟩ := b2 m
  obtain ⟨h4, m⟩ := b2 m
  obtain ⟨h5, m⟩ := b2 m
  obtain ⟨h6, h7⟩ := b2 m
  cases po <;> first | (cases h1; done) | skip
  cases va <;> first | (cases h2; done) | skip
  cases ko <;> first | (cases h3; done) | skip
  cases kd <;> first | (cases h4; done) | skip
  cases kw <;> first | (cases h5; done) | skip
  cases df <;> first | (cases h6; done) | skip
  have hlook : ∀ (i : Nat) x u, ps[i]? = some x → us[i]? = some u → (ps.zip us).lookup x = some u := fun i x u e1 e2 => lookup_zip nd e1 e2
  have hmiss : (ps.take ps.length).filter (fun n => ((ps.zip us).lookup n).isNone) = [] := by
    rw [List.take_length, List.filter_eq_nil_iff]
    intro y hy
    obtain ⟨i, hi, e⟩ := List.mem_iff_getElem.mp hy
    rw [hlook i y us[i] (by rw [List.getElem?_eq_getElem hi, e]) (List.getElem?_eq_getElem (by omega))]
    simp
  have hfin := filter_look (f := fun n => (ps.zip us).lookup n) hl hlook
  have hgt : ¬ (us.length > ps.length) := by omega
  have hpa : (as.map fun a => a.arg) = ps := of_decide_eq_true h7
  unfold bindArgs PySem.W.fnOf
  simp only [List.map_nil, List.nil_append, List.append_nil, hpa, List.forIn_nil, pure_bind, bind_pure, seqItems?, notAStandIn, Option.getD_none, List.toList_toArray, List.length_nil, Nat.zero_sub, Nat.sub_zero, List.drop_nil, List.zip_nil_right, hmiss, List.isEmpty_nil]
  rw [if_neg (by rw [hl]; simp), if_neg (by decide), if_neg (by decide), hfin]

/-! ### a table of defs -/
/-- a def as the text has it, and its term: N its slots' names (the parameters ps first) -/
structure Df where
  name : Str
  qual : Str
  params : Arguments
  body : List Stmt
  scope : Scope
  N : List Str
  ps : List Str
  fd : FD
def scopeB (N P : List Str) (sc : Scope) : Bool := (match sc.kind with
  | .function => true
  | _ => false) && (!sc.isCoroutine && (!sc.isGenerator && (decide N.Nodup && (decide (N.take P.length = P) && ((P.all fun x => match sc.names.lookup x with
  | some .local => true
  | some .cell => true
  | _ => false) && sc.names.all fun y => match y.2 with
  | .free => false
  | _ => true)))))
theorem scopeB_ok {N P : List Str} {sc : Scope} (h : scopeB N P sc = true) : FnScope N P sc := by
  obtain ⟨h1, m⟩ := b2 h
  obtain ⟨h2, m⟩ := b2 m
  obtain ⟨h3, m⟩ := b2 m
  obtain ⟨h4, m⟩ := b2 m
  obtain ⟨h5, m⟩ := b2 m
  obtain ⟨h6, h7⟩ := b2 m
  refine ⟨?_, Bool.not_eq_true' _ ▸ h2, Bool.not_eq_true' _ ▸ h3, of_decide_eq_true h4, of_decide_eq_true h5, fun x hx => ?_, fun y hy => ?_⟩
  · split at h1
    · assumption
    · cases h1
  · have q := List.all_eq_true.mp h6 x hx
    split at q
    · exact .inl (by assumption)
    · exact .inr (by assumption)
    · cases q
  · have q := List.all_eq_true.mp h7 y hy
    intro e
    rw [e] at q
    cases q
def Df.ok (fns gns : List Str) (d : Df) : Bool := scopeB d.N d.ps d.scope && (plainArgs d.ps d.params && ((d.fd.ps == d.ps.length) && ((d.fd.n == d.N.length) && okTs d.N fns gns d.fd.body d.scope d.body)))
structure Facts (K : PySem.W.Frag) (mg : Str → Option Value) (fa : Nat → Addr) (fns gns : List Str) (tab : List Df) (G : List D) : Prop where
  ok : ∀ d ∈ tab, d.ok fns gns = true
  nms : fns = tab.map (·.name)
  fn : ∀ (f : Nat) d, tab[f]? = some d → ∃ fdo, FunD K d.name d.qual d.params d.body d.scope [] [] (fa f) fdo
  mgf : ∀ (f : Nat) x, fns[f]? = some x → mg x = some (.ref (fa f))
  bl : ∀ x ∈ bnames, mg x = none
  glo : ∀ (k : Nat) d x, G[k]? = some d → gns[k]? = some x → ∃ u v, mg x = some u ∧ RelV v u ∧ ∀ w : Wd, Rp K fa w v d
section
variable {P : Program} {w : World} {K : PySem.W.Frag} {mg : Str → Option Value} {base : Heap} {fa : Nat → Addr} {fns gns : List Str} {tab : List Df} {G : List D}
theorem start_fr {N : List Str} {vs : List V} {ds : List D} {wd : Wd} {n : Nat} (hn : n = N.length) (r : Rps K fa wd vs ds) : FR K fa wd (L2.start N vs) (Ev.start n ds) := by
  have hl := r.len
  have key : ∀ (i : Nat) sv, (Ev.start n ds)[i]? = some (some sv) → i < ds.length ∧ ∃ d, ds[i]? = some d ∧ sv = .val d := fun i sv e => by
    unfold Ev.start at e
    by_cases hi : i < ds.length
    · rw [List.getElem?_append_left (by simpa using hi), List.getElem?_map, List.getElem?_eq_getElem hi] at e
      cases (Option.some.inj e)
      exact ⟨hi, _, List.getElem?_eq_getElem hi, rfl⟩
    · rw [List.getElem?_append_right (by simpa using hi), List.getElem?_replicate] at e
      split at e <;> cases e
  refine ⟨?_, fun i d e => ?_, fun i es e => ?_, fun i j es fs a e => ?_⟩
  · unfold L2.start Ev.start
    rw [List.length_append, List.length_append, List.length_map, List.length_map, List.length_replicate, List.length_replicate, hl, hn]
  · obtain ⟨hi, d', e1, e2⟩ := key i _ e
    cases e2
    obtain ⟨v, h1, h2⟩ := r.get e1
    refine ⟨v, ?_, h2⟩
    unfold L2.start
    rw [List.getElem?_append_left (by simpa [hl] using hi), List.getElem?_map, h1]
    rfl
  · obtain ⟨_, _, _, e2⟩ := key i _ e
    cases e2
  · obtain ⟨_, _, _, e2⟩ := key i _ e
    cases e2
theorem start_yg {N : List Str} {vs : List V} {ds : List D} {n : Nat} (H0 : Hp) : Yg H0 (L2.start N vs) (Ev.start n ds) := by
  intro i es a e
  unfold Ev.start at e
  by_cases hi : i < ds.length
  · rw [List.getElem?_append_left (by simpa using hi), List.getElem?_map, List.getElem?_eq_getElem hi] at e
    cases (Option.some.inj e)
  · rw [List.getElem?_append_right (by simpa using hi), List.getElem?_replicate] at e
    split at e <;> cases e
theorem callN_ok {n f : Nat} {W : Nat} {ds : List D} {S S' : Sto} {r : RV} (h : callN (tab.map Df.fd) G W n f ds S = .ok r S') : ∃ m d, n = m + 1 ∧ tab[f]? = some d ∧ ds.length = d.fd.ps ∧ ∃ fl, exs ⟨G, callN (tab.map Df.fd) G W m, W⟩ d.fd.body (Ev.start d.fd.n ds) S = .ok fl S' ∧ r = fin fl := by
  cases n with
  | zero => cases h
  | succ m =>
    have h : (match (tab.map Df.fd)[f]? with
      | none => M.stk
      | some fd => M.guard (ds.length == fd.ps) (M.bind (exs ⟨G, callN (tab.map Df.fd) G W m, W⟩ fd.body (Ev.start fd.n ds)) fun fl => M.pure (fin fl))) S = .ok r S' := h
    rw [List.getElem?_map] at h
    cases q : tab[f]? with
    | none =>
      rw [q] at h
      cases h
    | some d =>
      rw [q] at h
      obtain ⟨h1, h2⟩ := guard_ok (show M.guard (ds.length == d.fd.ps) (M.bind (exs ⟨G, callN (tab.map Df.fd) G W m, W⟩ d.fd.body (Ev.start d.fd.n ds)) fun fl => M.pure (fin fl)) S = .ok r S' from h)
      obtain ⟨fl, S1, h3, h4⟩ := bind_ok h2
      obtain ⟨e1, rfl⟩ := pure_ok h4
      exact ⟨m, d, rfl, rfl, by simpa using h1, fl, h3, e1.symm⟩
/-- every def keeps what its term says -/
theorem tab_ok (X : Facts K mg fa fns gns tab G) (W : Nat) : ∀ (n f : Nat) (d : Df) (fdo : FuncData), tab[f]? = some d → FunD K d.name d.qual d.params d.body d.scope [] [] (fa f) fdo → Binds K fdo d.ps [] ∧ FnOk P w K mg base CX0 n (fa f) fdo d.ps (spC K fa (callN (tab.map Df.fd) G W n f))
  | n, f, d, fdo, hd, F => by
    have ok := X.ok d (List.mem_of_getElem? hd)
    obtain ⟨k1, m⟩ := b2 ok
    obtain ⟨k2, m⟩ := b2 m
    obtain ⟨k3, m⟩ := b2 m
    obtain ⟨k4, k5⟩ := b2 m
    have sc := scopeB_ok k1
    have ndP : d.ps.Nodup := by rw [← sc.pre]; exact sc.nd.sublist (List.take_sublist _ _)
    have k3 : d.fd.ps = d.ps.length := by simpa using k3
    have k4 : d.fd.n = d.N.length := by simpa using k4
    refine ⟨F.bindsN fun kV doc pm an cdv ct us hl => bind_plain ndP k2 kV doc pm an cdv ct us hl, ?_⟩
    have len : ∀ {n : Nat} (vs : List V) (H : Hp) (Q : VK) (E : XK), spC K fa (callN (tab.map Df.fd) G W n f) vs H Q E → vs.length = d.ps.length := fun {n} vs H Q E h => by
      obtain ⟨wd, S, ds, r, S', e, ko, sr, rr, hc, q⟩ := h
      obtain ⟨m, d', _, e1, e2, _⟩ := callN_ok hc
      rw [hd] at e1
      cases e1
      rw [rr.len, e2, k3]
    cases n with
    | zero =>
      refine ⟨len, fun A outer s H args us vs Q E _ _ _ _ h => ?_⟩
      obtain ⟨wd, S, ds, r, S', e, ko, sr, rr, hc, q⟩ := h
      cases hc
    | succ n =>
      refine F.ok sc len fun cdv A outer s H vs Q E hr h => ?_
      obtain ⟨wd, S, ds, r, S', e, ko, sr, rr, hc, q⟩ := h
      obtain ⟨m, d', e0, e1, e2, fl, hrun, er⟩ := callN_ok hc
      cases e0
      rw [hd] at e1
      cases e1
      subst e
      let cfg : Cfg := ⟨G, callN (tab.map Df.fd) G W n, W⟩
      have good : GoodS (cxOf CX0 P w K mg base d.N d.qual d.scope (fa f) cdv A outer s wd.H E).nox cfg fa fns gns :=
        ⟨⟨sc.nd, rfl, by have := hr.un; show (A.deeper (envOfC d.qual d.scope s.heap.objs.size (fa f) cdv)).units + 64 < cLine; omega, X.bl, X.glo, X.mgf, fun g x hx => by
          rw [X.nms, List.getElem?_map] at hx
          cases q2 : tab[g]? with
          | none =>
            rw [q2] at hx
            cases hx
          | some dg =>
            obtain ⟨fdg, Fg⟩ := X.fn g dg q2
            obtain ⟨a3, a4⟩ := tab_ok X W n g dg fdg q2 Fg
            exact ⟨fdg, dg.ps, n, hr, Fg.kp, a3, a4⟩⟩, sc.kind, fun _ => rfl, PassesOwn.never⟩
      refine ⟨rs K fa wd (exs cfg d.fd.body), PSs.nox (sndTs cfg fa fns gns ko d.fd.body _ d.body good k5), ?_⟩
      refine ⟨wd, Ev.start d.fd.n ds, S, fl, S', ⟨rfl, ko, start_fr k4 rr, sr⟩, .refl wd, start_yg _, hrun, ?_⟩
      subst er
      cases fl with
      | nx ρ' => exact fun w' σ' k' l' st' y' => q w' _ l' st'.ok st'.sr .non
      | rt r => exact fun w' v l' k' r' rr' => q w' v l' k' r' rr'
termination_by n => n
end
end Ev

/-! A law's end: the head's facts, the table, the run of the term. -/
namespace Ev
open PySem PySem.Spec PyProof.Rows L2
/-- a constant of the module -/
inductive GV where
  | int (i : Int) | str (x : Str) | tup (vs : List He.Dv)
structure Gk where
  name : Str
  val : GV
def txB (x : Str) : Bool := decide (x.cps.toList.length ≤ 100000) && x.cps.toList.all fun c => decide (c < 1114112)
def dvD : He.Dv → D
  | .non => .non
  | .bl b => .bl b
  | .int i => .int i
  | .str x => .str (codesOf x)
  | _ => .non
def dvB : He.Dv → Bool
  | .non => true
  | .bl _ => true
  | .int _ => true
  | .str x => txB x
  | _ => false
def GV.d : GV → D
  | .int i => .int i
  | .str x => .str (codesOf x)
  | .tup vs => .tup (vs.map dvD)
def GV.ok : GV → Bool
  | .int _ => true
  | .str x => txB x
  | .tup vs => vs.all dvB
def Gk.fas (g : Gk) : List He.Fa := match g.val with
  | .int i => [.int g.name i]
  | .str x => [.str g.name x]
  | .tup _ => [.glo g.name]
def Gk.exB (K : PySem.W.Frag) (g : Gk) : Bool := match g.val with
  | .tup vs => He.tupB K g.name vs
  | _ => true
def Df.hd (d : Df) : He.DefD := ⟨(d.name, none), d.name, d.qual, d.params, d.body, d.scope, [], []⟩
def fasOf (tab : List Df) (cs : List Gk) : List He.Fa := (tab.map fun d => He.Fa.glo d.name) ++ (cs.flatMap Gk.fas ++ bnames.map He.Fa.free)
def exOf (cs : List Gk) (K : PySem.W.Frag) : Bool := cs.all (Gk.exB K)
theorem txB_ok {x : Str} (h : txB x = true) : TxOk (codesOf x) := by
  obtain ⟨h1, h2⟩ := b2 h
  exact ⟨Nat.le_trans (of_decide_eq_true h1) (by rw [sizeLine_eq]; decide), fun c hc => of_decide_eq_true (List.all_eq_true.mp h2 c hc)⟩
section
variable {K : PySem.W.Frag} {mg : Str → Option Value} {h : Heap} {w : World} {tab : List Df} {cs : List Gk}
def faOf (K : PySem.W.Frag) (tab : List Df) (f : Nat) : Addr := match tab[f]? with
  | some d => He.ga K d.name
  | none => 0
theorem rp_dv {fa : Nat → Addr} (wd : Wd) : ∀ {vs : List He.Dv}, vs.all dvB = true → Rps K fa wd (vs.map (He.Dv.v K)) (vs.map dvD)
  | [], _ => .nil
  | v :: vs, hv => by
    obtain ⟨h1, h2⟩ := b2 (show (dvB v && vs.all dvB) = true from hv)
    refine .cons ?_ (rp_dv wd h2)
    cases v <;> first | (cases h1; done) | skip
    case non => exact .non
    case bl b => exact .bl b
    case int i => exact .int i
    case str x =>
      have := Rp.str (K := K) (fa := fa) (w := wd) (txB_ok h1)
      rw [tx_codes] at this
      exact this
theorem facts_of (KX : K.In h) (G : h.Ns mainGlobals mg) (c : He.SaysX (fasOf tab cs) (tab.map Df.hd) [] [] (exOf cs) w h K)
    (ht : tab.all (Df.ok (tab.map (·.name)) (cs.map (·.name))) = true) (hc : cs.all (fun g => g.val.ok) = true) :
    Facts K mg (faOf K tab) (tab.map (·.name)) (cs.map (·.name)) tab (cs.map fun g => g.val.d) := by
  have cd := c.t.d
  have fac : ∀ f ∈ fasOf tab cs, f.ok K = true := fun f hf => He.SaysD.facts cd hf
  refine ⟨fun d hd => List.all_eq_true.mp ht d hd, rfl, fun f d hd => ?_, fun f x hx => ?_, fun x hx => ?_, fun k d x hd hx => ?_⟩
  · obtain ⟨fdo, F⟩ := cd.def_ f (d := d.hd) (by rw [List.getElem?_map, hd]; rfl)
    refine ⟨fdo, ?_⟩
    have e : faOf K tab f = He.fAd K d.hd.at_ := by
      unfold faOf
      rw [hd]
      rfl
    rw [e]
    exact F
  · rw [List.getElem?_map] at hx
    cases q : tab[f]? with
    | none =>
      rw [q] at hx
      cases hx
    | some d =>
      rw [q] at hx
      cases (Option.some.inj hx)
      have e : faOf K tab f = He.ga K d.name := by
        unfold faOf
        rw [q]
      rw [e]
      exact He.glo_ok KX G (fac _ (List.mem_append_left _ (List.mem_map.mpr ⟨d, List.mem_of_getElem? q, rfl⟩)))
  · exact He.free_ok KX G (fac _ (List.mem_append_right _ (List.mem_append_right _ (List.mem_map.mpr ⟨x, hx, rfl⟩))))
  · rw [List.getElem?_map] at hd hx
    cases q : cs[k]? with
    | none =>
      rw [q] at hd
      cases hd
    | some g =>
      rw [q] at hd hx
      cases (Option.some.inj hd)
      cases (Option.some.inj hx)
      have gm := List.mem_of_getElem? q
      have fa : ∀ f ∈ g.fas, f.ok K = true := fun f hf => fac f (List.mem_append_right _ (List.mem_append_left _ (List.mem_flatMap.mpr ⟨g, gm, hf⟩)))
      have ok : g.val.ok = true := List.all_eq_true.mp hc g gm
      have exb : g.exB K = true := List.all_eq_true.mp c.more g gm
      obtain ⟨nm, v⟩ := g
      cases v with
      | int i =>
        obtain ⟨t, e⟩ := He.int_ok KX G (fa (.int nm i) (List.mem_singleton.mpr rfl))
        exact ⟨_, .int i, e, ⟨t, rfl⟩, fun _ => .int i⟩
      | str x =>
        obtain ⟨t, e⟩ := He.str_ok KX G (fa (.str nm x) (List.mem_singleton.mpr rfl))
        refine ⟨_, .str x, e, ⟨t, rfl⟩, fun wd => ?_⟩
        have := Rp.str (K := K) (fa := faOf K tab) (w := wd) (txB_ok ok)
        rw [tx_codes] at this
        exact this
      | tup vs =>
        have e := He.glo_ok KX G (fa (.glo nm) (List.mem_singleton.mpr rfl))
        refine ⟨_, .ref (He.ga K nm), e, rfl, fun wd => .tup (He.tupB_ok exb wd.H) ?_ (rp_dv wd ok)⟩
        rcases He.tupB_ok exb (fun _ => none) with (z | ⟨o, z⟩) | ⟨ob, its, n, e1, e2, e3, e4, e5⟩
        · cases z
        · cases z
        · rw [e5.length]
          simpa using e4
theorem rps_ints {fa : Nat → Addr} (wd : Wd) : ∀ ns : List Int, Rps K fa wd (ns.map V.int) (ns.map D.int)
  | [] => .nil
  | n :: ns => .cons (.int n) (rps_ints wd ns)
theorem law_sp {fa : Nat → Addr} {C : List D → M RV} {H : Hp} {a : Addr} {ns : List Int} {E : XK} (hl : ns.length ≤ sizeLine) (ho : Only H) (hs : SqL K H a (ns.map V.int)) (hp : ∃ S', C [.rol (ns.map .int)] [] = .ok (.val (.bl true)) S') :
    spC K fa C [.ref a] H (fun v _ => v = .bl true) E := by
  obtain ⟨S', hp⟩ := hp
  have ro : RoL K H a (ns.map V.int) := by
    rcases hs with (hs | hs) | hs
    · rcases ho a with z | ⟨o, xs, z⟩
      · rw [z] at hs
        cases hs
      · rw [z] at hs
        cases hs
    · exact .inl hs
    · exact .inr hs
  refine ⟨⟨fun _ => False, [], H⟩, [], [.rol (ns.map .int)], _, S', rfl, ⟨fun _ f => f.elim, (fun _ m => by simp at m), (fun _ m => by simp at m), List.nodup_nil⟩, ⟨rfl, fun n a o e => by simp at e⟩, .cons (.rol ro (by rw [List.length_map]; exact hl) (rps_ints _ ns)) .nil, hp, fun w' v l k r rr => ?_⟩
  cases (show Rp K fa w' v (.bl true) from rr)
  rfl
/-- what walk_ofE asks of a law's def -/
theorem law_F {l : PySem.W.OpenLaw} {n k W f : Nat} {d : Df} {x : Str} {a : Addr} (KX : K.In h) (G : h.Ns mainGlobals mg) (c : He.SaysX (fasOf tab cs) (tab.map Df.hd) [] [] (exOf cs) w h K)
    (ht : tab.all (Df.ok (tab.map (·.name)) (cs.map (·.name))) = true) (hc : cs.all (fun g => g.val.ok) = true) (hn : n ≤ sizeLine) (hd : tab[f]? = some d) (hps : d.ps = [x]) (hmg : mg d.name = some (.ref a))
    (hp : ∀ ns : List Int, ns.length ≤ n → ∃ S', callN (tab.map Df.fd) (cs.map fun g => g.val.d) W k f [.rol (ns.map .int)] [] = .ok (.val (.bl true)) S') :
    ∃ (K : PySem.W.Frag) (fd : FuncData) (sp : Sp), K.In h ∧ (∀ (s : Shared) (u : Value), BindsTo s fd ⟨[u], []⟩ [(x, u)]) ∧
        (∀ (H : Hp) (a : Addr) (ns : List Int), ns.length ≤ n → Only H → SqL K H a (ns.map V.int) → sp [.ref a] H (fun v _ => v = .bl true) fun _ _ _ => False) ∧
        ∀ base : Heap, K.In base → base.Ns mainGlobals mg → FnOk l.prog w K mg base CX0 k a fd [x] sp := by
  have X := facts_of KX G c ht hc
  obtain ⟨fdo, F⟩ := X.fn f d hd
  have e : a = faOf K tab f := by
    have := X.mgf f d.name (by rw [List.getElem?_map, hd]; rfl)
    rw [hmg] at this
    cases this
    rfl
  subst e
  have ok := X.ok d (List.mem_of_getElem? hd)
  obtain ⟨k1, m⟩ := b2 ok
  obtain ⟨k2, m⟩ := b2 m
  have b : ∀ (s : Shared) (us : List Value), us.length = d.ps.length → BindsTo s fdo ⟨us, []⟩ (d.ps.zip us) := fun s us hl => by
    have sc := scopeB_ok k1
    have ndP : d.ps.Nodup := by rw [← sc.pre]; exact sc.nd.sublist (List.take_sublist _ _)
    exact F.bindsA (fun kV doc pm an cdv ct us hl => bind_plain ndP k2 kV doc pm an cdv ct us hl) s us hl
  rw [hps] at b
  refine ⟨K, fdo, spC K (faOf K tab) (callN (tab.map Df.fd) (cs.map fun g => g.val.d) W k f), KX, fun s u => b s [u] rfl, fun H a ns hl ho hs => law_sp (Nat.le_trans hl hn) ho hs (hp ns hl), fun base hb hb2 => ?_⟩
  have q := (tab_ok (P := l.prog) (w := w) (base := base) X W k f d fdo hd F).2
  rw [hps] at q
  exact q
end
end Ev

/-! Runs of the small machine, step by step. -/
namespace Ev
open PySem
section
variable {α β : Type} {S S' : Sto}
@[simp ↓] theorem bind_ap (m : M α) (f : α → M β) (S : Sto) : M.bind m f S = (match m S with | .stk => .stk | .ok a S' => f a S') := (rfl)
@[simp] theorem opt_some (a : α) (S : Sto) : M.opt (some a) S = .ok a S := (rfl)
@[simp] theorem opt_none (S : Sto) : (M.opt none : M α) S = .stk := (rfl)
@[simp] theorem pure_ap (a : α) (S : Sto) : M.pure a S = .ok a S := (rfl)
@[simp] theorem guard_t (m : M α) (S : Sto) : M.guard true m S = m S := (rfl)
@[simp] theorem guard_f (m : M α) (S : Sto) : M.guard false m S = .stk := (rfl)
@[simp] theorem stk_ap (S : Sto) : (M.stk : M α) S = .stk := (rfl)
theorem callN_succ {tab : List FD} {G : List D} {W n f : Nat} {ds : List D} {S : Sto} {fd : FD} (h : tab[f]? = some fd) (hl : (ds.length == fd.ps) = true) :
    callN tab G W (n + 1) f ds S = (match exs ⟨G, callN tab G W n, W⟩ fd.body (start fd.n ds) S with | .stk => .stk | .ok fl S' => .ok (fin fl) S') := by
  show (match tab[f]? with
      | none => M.stk
      | some fd => M.guard (ds.length == fd.ps) (M.bind (exs ⟨G, callN tab G W n, W⟩ fd.body (start fd.n ds)) fun fl => M.pure (fin fl))) S = _
  rw [h]
  show M.guard (ds.length == fd.ps) _ S = _
  rw [hl, guard_t, bind_ap]
  cases exs ⟨G, callN tab G W n, W⟩ fd.body (start fd.n ds) S <;> rfl
end
/-! ### operations on values of known kinds -/
section
variable (i j : Int) (a b : Bool) (s t : List Nat) (xs ys : List D) (x : D)
@[simp] theorem tru_non : D.tru .non = some false := (rfl)
@[simp] theorem tru_bl : D.tru (.bl b) = some b := (rfl)
@[simp] theorem tru_int : D.tru (.int i) = some (i != 0) := (rfl)
@[simp] theorem tru_str : D.tru (.str s) = some (!s.isEmpty) := (rfl)
@[simp] theorem tru_tup : D.tru (.tup xs) = some (!xs.isEmpty) := (rfl)
@[simp] theorem tru_lst : D.tru (.lst xs) = some (!xs.isEmpty) := (rfl)
@[simp] theorem add_ii : bop .add (.int i) (.int j) = some (.int (i + j)) := (rfl)
@[simp] theorem add_bi : bop .add (.bl b) (.int j) = some (.int (b2i b + j)) := (rfl)
@[simp] theorem sub_ii : bop .sub (.int i) (.int j) = some (.int (i - j)) := (rfl)
@[simp] theorem sub_bi : bop .sub (.bl b) (.int j) = some (.int (b2i b - j)) := (rfl)
@[simp] theorem mod_ii : bop .mod (.int i) (.int j) = if 0 < j then some (.int (i % j)) else none := (rfl)
theorem mul_ii : bop .mul (.int i) (.int j) = if mulOk i j then some (.int (i * j)) else none := (rfl)
theorem fdiv_ii : bop .fdiv (.int i) (.int j) = if divOk j then some (.int (i / j)) else none := (rfl)
@[simp] theorem pow_ii : bop .pow (.int i) (.int j) = if decide (0 ≤ j) && decide (j ≤ 1000) && sm64 i then some (.int (i ^ j.toNat)) else none := (rfl)
@[simp] theorem add_ll : bop .add (.lst xs) (.lst ys) = if xs.length + ys.length ≤ LIM then some (.lst (xs ++ ys)) else none := (rfl)
@[simp] theorem add_tt : bop .add (.tup xs) (.tup ys) = if xs.length + ys.length ≤ LIM then some (.tup (xs ++ ys)) else none := (rfl)
@[simp] theorem add_ss : bop .add (.str s) (.str t) = if s.length + t.length ≤ LIM then some (.str (s ++ t)) else none := (rfl)
@[simp] theorem mul_ti : bop .mul (.tup xs) (.int j) = if decide (2 ≤ j) && decide (j ≤ 1000) && !xs.isEmpty && decide (xs.length ≤ 1000) then some (.tup (rep j.toNat xs)) else none := (rfl)
@[simp] theorem mul_li : bop .mul (.lst xs) (.int j) = if decide (0 ≤ j) && decide (j ≤ 1000) && decide (xs.length ≤ 1000) then some (.lst (rep j.toNat xs)) else none := (rfl)
@[simp] theorem lt_ii : cop .lt (.int i) (.int j) = some (decide (i < j)) := (rfl)
@[simp] theorem le_ii : cop .le (.int i) (.int j) = some (decide (i ≤ j)) := (rfl)
@[simp] theorem gt_ii : cop .gt (.int i) (.int j) = some (decide (j < i)) := (rfl)
@[simp] theorem ge_ii : cop .ge (.int i) (.int j) = some (decide (j ≤ i)) := (rfl)
@[simp] theorem eqv_ii : D.eqv (.int i) (.int j) = (i == j) := (rfl)
@[simp] theorem eqv_ss : D.eqv (.str s) (.str t) = (s == t) := (rfl)
@[simp] theorem eqv_bb : D.eqv (.bl a) (.bl b) = (a == b) := (rfl)
@[simp] theorem eqv_tt : D.eqv (.tup xs) (.tup ys) = D.eqvs xs ys := (rfl)
@[simp] theorem eqv_ll : D.eqv (.lst xs) (.lst ys) = D.eqvs xs ys := (rfl)
@[simp] theorem eqvs_nn : D.eqvs [] [] = true := (rfl)
@[simp] theorem eqvs_cn : D.eqvs (x :: xs) [] = false := (rfl)
@[simp] theorem eqvs_nc : D.eqvs [] (x :: xs) = false := (rfl)
@[simp] theorem eqvs_cc (y : D) : D.eqvs (x :: xs) (y :: ys) = (D.eqv x y && D.eqvs xs ys) := (rfl)
@[simp] theorem cmpb_non : D.cmpb .non = true := (rfl)
@[simp] theorem cmpb_int : D.cmpb (.int i) = true := (rfl)
@[simp] theorem cmpb_bl : D.cmpb (.bl b) = true := (rfl)
@[simp] theorem cmpb_str : D.cmpb (.str s) = true := (rfl)
@[simp] theorem cmpb_tup : D.cmpb (.tup xs) = D.cmpbs xs := (rfl)
@[simp] theorem cmpb_lst : D.cmpb (.lst xs) = D.cmpbs xs := (rfl)
@[simp] theorem cmpb_rol : D.cmpb (.rol xs) = false := (rfl)
@[simp] theorem cmpb_loc (n : Nat) : D.cmpb (.loc n) = false := (rfl)
@[simp] theorem cmpb_fn (n : Nat) : D.cmpb (.fn n) = false := (rfl)
@[simp] theorem cmpbs_n : D.cmpbs [] = true := (rfl)
@[simp] theorem cmpbs_c : D.cmpbs (x :: xs) = (D.cmpb x && D.cmpbs xs) := (rfl)
@[simp] theorem dep_non : D.dep .non = 0 := (rfl)
@[simp] theorem dep_int : D.dep (.int i) = 0 := (rfl)
@[simp] theorem dep_bl : D.dep (.bl b) = 0 := (rfl)
@[simp] theorem dep_str : D.dep (.str s) = 0 := (rfl)
@[simp] theorem dep_tup : D.dep (.tup xs) = D.deps xs + 1 := (rfl)
@[simp] theorem dep_lst : D.dep (.lst xs) = D.deps xs + 1 := (rfl)
@[simp] theorem deps_n : D.deps [] = 0 := (rfl)
@[simp] theorem deps_c : D.deps (x :: xs) = max (D.dep x) (D.deps xs) := (rfl)
@[simp] theorem cop_eq (y : D) : cop .eq x y = if D.cmpb x && D.cmpb y && (decide (D.dep y ≤ 60) || decide (D.dep x ≤ 60)) then some (D.eqv x y) else none := (rfl)
@[simp] theorem cop_ne (y : D) : cop .ne x y = if D.cmpb x && D.cmpb y && (decide (D.dep y ≤ 60) || decide (D.dep x ≤ 60)) then some (!D.eqv x y) else none := (rfl)
@[simp] theorem flat_non : D.flat .non = true := (rfl)
@[simp] theorem flat_int : D.flat (.int i) = true := (rfl)
@[simp] theorem flat_bl : D.flat (.bl b) = true := (rfl)
@[simp] theorem flat_str : D.flat (.str s) = true := (rfl)
def flats : List D → Bool
  | [] => true
  | y :: ys => D.flat y && flats ys
theorem flats_all : ∀ ys : List D, flats ys = ys.all D.flat
  | [] => rfl
  | y :: ys => by
    show (D.flat y && flats ys) = (D.flat y && ys.all D.flat)
    rw [flats_all ys]
@[simp] theorem flats_n : flats [] = true := (rfl)
@[simp] theorem flats_c : flats (x :: xs) = (D.flat x && flats xs) := (rfl)
@[simp] theorem in_t {x : D} {ys : List D} (h1 : D.flat x = true) (h2 : flats ys = true) : cop .isin x (.tup ys) = some (inD x ys) := by
  show (if (D.flat x && ys.all D.flat) = true then _ else _) = _
  rw [h1, ← flats_all, h2] <;> rfl
@[simp] theorem in_l {x : D} {ys : List D} (h1 : D.flat x = true) (h2 : flats ys = true) : cop .isin x (.lst ys) = some (inD x ys) := by
  show (if (D.flat x && ys.all D.flat) = true then _ else _) = _
  rw [h1, ← flats_all, h2] <;> rfl
@[simp] theorem nin_t {x : D} {ys : List D} (h1 : D.flat x = true) (h2 : flats ys = true) : cop .notin x (.tup ys) = some (!inD x ys) := by
  show (if (D.flat x && ys.all D.flat) = true then _ else _) = _
  rw [h1, ← flats_all, h2] <;> rfl
@[simp] theorem nin_l {x : D} {ys : List D} (h1 : D.flat x = true) (h2 : flats ys = true) : cop .notin x (.lst ys) = some (!inD x ys) := by
  show (if (D.flat x && ys.all D.flat) = true then _ else _) = _
  rw [h1, ← flats_all, h2] <;> rfl
@[simp] theorem inD_n : inD x [] = false := (rfl)
@[simp] theorem inD_c (y : D) : inD x (y :: ys) = (D.eqv y x || inD x ys) := (rfl)
@[simp] theorem len_s : blt .len [.str s] = some (.int s.length) := (rfl)
@[simp] theorem len_t : blt .len [.tup xs] = some (.int xs.length) := (rfl)
@[simp] theorem len_l : blt .len [.lst xs] = some (.int xs.length) := (rfl)
@[simp] theorem len_r : blt .len [.rol xs] = some (.int xs.length) := (rfl)
@[simp] theorem abs_i : blt .abs [.int i] = some (.int (if i < 0 then -i else i)) := (rfl)
@[simp] theorem int_i : blt .int [.int i] = some (.int i) := (rfl)
@[simp] theorem int_b : blt .int [.bl b] = some (.int (b2i b)) := (rfl)
@[simp] theorem min_ii : blt .min2 [.int i, .int j] = some (.int (if j < i then j else i)) := (rfl)
@[simp] theorem max_ii : blt .max2 [.int i, .int j] = some (.int (if j > i then j else i)) := (rfl)
@[simp] theorem tuple_t : blt .tuple [.tup xs] = some (.tup xs) := (rfl)
@[simp] theorem tuple_l : blt .tuple [.lst xs] = some (.tup xs) := (rfl)
@[simp] theorem list_t : blt .list [.tup xs] = some (.lst xs) := (rfl)
@[simp] theorem list_l : blt .list [.lst xs] = some (.lst xs) := (rfl)
@[simp] theorem str_b : blt .str [.bl b] = some (.str (sBool b)) := (rfl)
@[simp] theorem all_l : blt .all [.lst xs] = (boolsOf xs).map fun bs => .bl (bs.all id) := (rfl)
@[simp] theorem b2i_t : b2i true = 1 := (rfl)
@[simp] theorem b2i_f : b2i false = 0 := (rfl)
@[simp] theorem rvd_v : RV.d (.val x) = x := (rfl)
@[simp] theorem rvd_o : RV.d (.own xs) = .lst xs := (rfl)
@[simp] theorem fin_r (r : RV) : fin (.rt r) = r := (rfl)
@[simp] theorem fin_n (ρ : Env) : fin (.nx ρ) = .val .non := (rfl)
@[simp] theorem neg_i : negD (.int i) = some (.int (-i)) := (rfl)
@[simp] theorem toI_i : toI (.int i) = some i := (rfl)
@[simp] theorem rev_l : revD (.lst xs) = some (.lst xs.reverse) := (rfl)
@[simp] theorem items_t : itemsD (.tup xs) = some xs := (rfl)
@[simp] theorem items_l : itemsD (.lst xs) = some xs := (rfl)
@[simp] theorem rng_i : rngO (.int j) = if decide (-1000000 ≤ j) && decide (j ≤ 1000000) then some (rngD j) else none := (rfl)
@[simp] theorem sl_t (lo hi : Option Int) : slD (.tup xs) lo hi = some (.tup (cut xs lo hi)) := (rfl)
@[simp] theorem sl_l (lo hi : Option Int) : slD (.lst xs) lo hi = some (.lst (cut xs lo hi)) := (rfl)
theorem idx_t (S : Sto) : idxM (.tup xs) (.int j) S = M.opt (L2.atI xs j) S := (rfl)
theorem idx_l (S : Sto) : idxM (.lst xs) (.int j) S = M.opt (L2.atI xs j) S := (rfl)
theorem idx_r (S : Sto) : idxM (.rol xs) (.int j) S = M.opt (L2.atI xs j) S := (rfl)
@[simp] theorem isN_non : D.isNon .non = true := (rfl)
@[simp] theorem isN_int : D.isNon (.int i) = false := (rfl)
@[simp] theorem isN_bl : D.isNon (.bl b) = false := (rfl)
@[simp] theorem isN_str : D.isNon (.str s) = false := (rfl)
@[simp] theorem isN_tup : D.isNon (.tup xs) = false := (rfl)
@[simp] theorem isN_lst : D.isNon (.lst xs) = false := (rfl)
@[simp] theorem isi_non : D.isiOk .non = true := (rfl)
@[simp] theorem isi_int : D.isiOk (.int i) = true := (rfl)
@[simp] theorem isi_bl : D.isiOk (.bl b) = true := (rfl)
@[simp] theorem isi_str : D.isiOk (.str s) = true := (rfl)
@[simp] theorem isi_tup : D.isiOk (.tup xs) = true := (rfl)
@[simp] theorem isi_lst : D.isiOk (.lst xs) = true := (rfl)
@[simp] theorem has_ii : Ty.has .int (.int i) = true := (rfl)
@[simp] theorem has_ib : Ty.has .int (.bl b) = true := (rfl)
@[simp] theorem has_is : Ty.has .int (.str s) = false := (rfl)
@[simp] theorem has_it : Ty.has .int (.tup xs) = false := (rfl)
@[simp] theorem has_il : Ty.has .int (.lst xs) = false := (rfl)
@[simp] theorem has_in : Ty.has .int .non = false := (rfl)
@[simp] theorem has_bi : Ty.has .bool (.int i) = false := (rfl)
@[simp] theorem has_bb : Ty.has .bool (.bl b) = true := (rfl)
@[simp] theorem has_bs : Ty.has .bool (.str s) = false := (rfl)
@[simp] theorem has_bt : Ty.has .bool (.tup xs) = false := (rfl)
@[simp] theorem has_bll : Ty.has .bool (.lst xs) = false := (rfl)
@[simp] theorem has_bn : Ty.has .bool .non = false := (rfl)
@[simp] theorem has_si : Ty.has .str (.int i) = false := (rfl)
@[simp] theorem has_sb : Ty.has .str (.bl b) = false := (rfl)
@[simp] theorem has_ss : Ty.has .str (.str s) = true := (rfl)
@[simp] theorem has_st : Ty.has .str (.tup xs) = false := (rfl)
@[simp] theorem has_sl : Ty.has .str (.lst xs) = false := (rfl)
@[simp] theorem has_sn : Ty.has .str .non = false := (rfl)
@[simp] theorem has_ti : Ty.has .tup (.int i) = false := (rfl)
@[simp] theorem has_tb : Ty.has .tup (.bl b) = false := (rfl)
@[simp] theorem has_ts : Ty.has .tup (.str s) = false := (rfl)
@[simp] theorem has_tt : Ty.has .tup (.tup xs) = true := (rfl)
@[simp] theorem has_tl : Ty.has .tup (.lst xs) = false := (rfl)
@[simp] theorem has_tn : Ty.has .tup .non = false := (rfl)
@[simp] theorem has_li : Ty.has .lst (.int i) = false := (rfl)
@[simp] theorem has_lb : Ty.has .lst (.bl b) = false := (rfl)
@[simp] theorem has_ls : Ty.has .lst (.str s) = false := (rfl)
@[simp] theorem has_lt : Ty.has .lst (.tup xs) = false := (rfl)
@[simp] theorem has_ll : Ty.has .lst (.lst xs) = true := (rfl)
@[simp] theorem has_ln : Ty.has .lst .non = false := (rfl)
end
theorem divOk_lt {j : Int} (h1 : 0 < j) (h2 : j ≤ 1000000000000000000000000000000000000) : divOk j = true := by
  have h3 : j < 2 ^ 4000 := Int.lt_of_le_of_lt h2 (by decide +kernel)
  unfold divOk
  rw [decide_eq_true h1, decide_eq_true h3] <;> rfl
@[simp] theorem sm64_lt {j : Int} (h1 : -1000000000000000000 ≤ j) (h2 : j ≤ 1000000000000000000) : sm64 j = true := by
  unfold sm64
  rw [decide_eq_true (by omega), decide_eq_true (by omega)] <;> rfl
/-- a product with a small factor -/
@[simp] theorem mul_r {i j : Int} (h1 : -1000000000000000000 ≤ j) (h2 : j ≤ 1000000000000000000) : bop .mul (.int i) (.int j) = some (.int (i * j)) := by
  rw [mul_ii]
  unfold mulOk
  rw [sm64_lt h1 h2] <;> rfl
@[simp] theorem mul_l {i j : Int} (h1 : -1000000000000000000 ≤ i) (h2 : i ≤ 1000000000000000000) : bop .mul (.int i) (.int j) = some (.int (i * j)) := by
  rw [mul_ii]
  unfold mulOk
  rw [sm64_lt h1 h2, Bool.true_or, Bool.or_true] <;> rfl
@[simp] theorem fdiv_lt {i j : Int} (h1 : 0 < j) (h2 : j ≤ 1000000000000000000000000000000000000) : bop .fdiv (.int i) (.int j) = some (.int (i / j)) := by
  rw [fdiv_ii, divOk_lt h1 h2] <;> rfl
theorem atI_nn {α : Type} {xs : List α} {i : Int} (h : 0 ≤ i) (h2 : i < xs.length) : L2.atI xs i = xs[i.toNat]? := by
  unfold L2.atI L2.ixN
  rw [if_pos h, if_pos h2] <;> rfl
@[simp] theorem ix_t {xs : List D} {j : Int} (S : Sto) (h : 0 ≤ j) (h2 : j < xs.length) : idxM (.tup xs) (.int j) S = M.opt (xs[j.toNat]?) S := by rw [idx_t, atI_nn h h2]
@[simp] theorem ix_l {xs : List D} {j : Int} (S : Sto) (h : 0 ≤ j) (h2 : j < xs.length) : idxM (.lst xs) (.int j) S = M.opt (xs[j.toNat]?) S := by rw [idx_l, atI_nn h h2]
@[simp] theorem ix_r {xs : List D} {j : Int} (S : Sto) (h : 0 ≤ j) (h2 : j < xs.length) : idxM (.rol xs) (.int j) S = M.opt (xs[j.toNat]?) S := by rw [idx_r, atI_nn h h2]
@[simp] theorem ix_t0 (x0 : D) (r : List D) (S : Sto) : idxM (.tup (x0 :: r)) (.int 0) S = .ok x0 S := by
  rw [idx_t, atI_nn (by decide) (by simp only [List.length_cons]; omega)]
  rfl
@[simp] theorem ix_t1 (x0 x1 : D) (r : List D) (S : Sto) : idxM (.tup (x0 :: x1 :: r)) (.int 1) S = .ok x1 S := by
  rw [idx_t, atI_nn (by decide) (by simp only [List.length_cons]; omega)]
  rfl
@[simp] theorem ix_t2 (x0 x1 x2 : D) (r : List D) (S : Sto) : idxM (.tup (x0 :: x1 :: x2 :: r)) (.int 2) S = .ok x2 S := by
  rw [idx_t, atI_nn (by decide) (by simp only [List.length_cons]; omega)]
  rfl
@[simp] theorem ix_t3 (x0 x1 x2 x3 : D) (r : List D) (S : Sto) : idxM (.tup (x0 :: x1 :: x2 :: x3 :: r)) (.int 3) S = .ok x3 S := by
  rw [idx_t, atI_nn (by decide) (by simp only [List.length_cons]; omega)]
  rfl
@[simp] theorem ix_t4 (x0 x1 x2 x3 x4 : D) (r : List D) (S : Sto) : idxM (.tup (x0 :: x1 :: x2 :: x3 :: x4 :: r)) (.int 4) S = .ok x4 S := by
  rw [idx_t, atI_nn (by decide) (by simp only [List.length_cons]; omega)]
  rfl
@[simp] theorem ix_t5 (x0 x1 x2 x3 x4 x5 : D) (r : List D) (S : Sto) : idxM (.tup (x0 :: x1 :: x2 :: x3 :: x4 :: x5 :: r)) (.int 5) S = .ok x5 S := by
  rw [idx_t, atI_nn (by decide) (by simp only [List.length_cons]; omega)]
  rfl
@[simp] theorem ix_t6 (x0 x1 x2 x3 x4 x5 x6 : D) (r : List D) (S : Sto) : idxM (.tup (x0 :: x1 :: x2 :: x3 :: x4 :: x5 :: x6 :: r)) (.int 6) S = .ok x6 S := by
  rw [idx_t, atI_nn (by decide) (by simp only [List.length_cons]; omega)]
  rfl
@[simp] theorem ix_t7 (x0 x1 x2 x3 x4 x5 x6 x7 : D) (r : List D) (S : Sto) : idxM (.tup (x0 :: x1 :: x2 :: x3 :: x4 :: x5 :: x6 :: x7 :: r)) (.int 7) S = .ok x7 S := by
  rw [idx_t, atI_nn (by decide) (by simp only [List.length_cons]; omega)]
  rfl
@[simp] theorem ix_l0 (x0 : D) (r : List D) (S : Sto) : idxM (.lst (x0 :: r)) (.int 0) S = .ok x0 S := by
  rw [idx_l, atI_nn (by decide) (by simp only [List.length_cons]; omega)]
  rfl
@[simp] theorem ix_l1 (x0 x1 : D) (r : List D) (S : Sto) : idxM (.lst (x0 :: x1 :: r)) (.int 1) S = .ok x1 S := by
  rw [idx_l, atI_nn (by decide) (by simp only [List.length_cons]; omega)]
  rfl
@[simp] theorem ix_l2 (x0 x1 x2 : D) (r : List D) (S : Sto) : idxM (.lst (x0 :: x1 :: x2 :: r)) (.int 2) S = .ok x2 S := by
  rw [idx_l, atI_nn (by decide) (by simp only [List.length_cons]; omega)]
  rfl
@[simp] theorem ix_l3 (x0 x1 x2 x3 : D) (r : List D) (S : Sto) : idxM (.lst (x0 :: x1 :: x2 :: x3 :: r)) (.int 3) S = .ok x3 S := by
  rw [idx_l, atI_nn (by decide) (by simp only [List.length_cons]; omega)]
  rfl
@[simp] theorem ix_l4 (x0 x1 x2 x3 x4 : D) (r : List D) (S : Sto) : idxM (.lst (x0 :: x1 :: x2 :: x3 :: x4 :: r)) (.int 4) S = .ok x4 S := by
  rw [idx_l, atI_nn (by decide) (by simp only [List.length_cons]; omega)]
  rfl
@[simp] theorem ix_l5 (x0 x1 x2 x3 x4 x5 : D) (r : List D) (S : Sto) : idxM (.lst (x0 :: x1 :: x2 :: x3 :: x4 :: x5 :: r)) (.int 5) S = .ok x5 S := by
  rw [idx_l, atI_nn (by decide) (by simp only [List.length_cons]; omega)]
  rfl
@[simp] theorem ix_l6 (x0 x1 x2 x3 x4 x5 x6 : D) (r : List D) (S : Sto) : idxM (.lst (x0 :: x1 :: x2 :: x3 :: x4 :: x5 :: x6 :: r)) (.int 6) S = .ok x6 S := by
  rw [idx_l, atI_nn (by decide) (by simp only [List.length_cons]; omega)]
  rfl
@[simp] theorem ix_l7 (x0 x1 x2 x3 x4 x5 x6 x7 : D) (r : List D) (S : Sto) : idxM (.lst (x0 :: x1 :: x2 :: x3 :: x4 :: x5 :: x6 :: x7 :: r)) (.int 7) S = .ok x7 S := by
  rw [idx_l, atI_nn (by decide) (by simp only [List.length_cons]; omega)]
  rfl
theorem ix_c {S : Sto} {n : Nat} {xs : List D} {j : Int} (hS : S[n]? = some (.cell xs)) (h : 0 ≤ j) (h2 : j < xs.length) : idxM (.loc n) (.int j) S = M.opt (xs[j.toNat]?) S := by
  show (match S[n]? with
    | some (.cell xs) => M.opt (L2.atI xs j) S
    | _ => .stk) = _
  rw [hS]
  show M.opt (L2.atI xs j) S = _
  rw [atI_nn h h2]
/-! ### the terms, step by step -/
@[simp ↓] theorem e_non (X : Cfg)  (ρ : Env) (S : Sto) : ev X (.non) ρ S = .ok (.non) S := (rfl)
@[simp ↓] theorem e_bl (X : Cfg) (b : Bool) (ρ : Env) (S : Sto) : ev X (.bl b) ρ S = .ok (.bl b) S := (rfl)
@[simp ↓] theorem e_int (X : Cfg) (i : Int) (ρ : Env) (S : Sto) : ev X (.int i) ρ S = .ok (.int i) S := (rfl)
@[simp ↓] theorem e_str (X : Cfg) (cs : List Nat) (ρ : Env) (S : Sto) : ev X (.str cs) ρ S = .ok (.str cs) S := (rfl)
@[simp ↓] theorem e_fnv (X : Cfg) (f : Nat) (ρ : Env) (S : Sto) : ev X (.fnv f) ρ S = .ok (.fn f) S := (rfl)
@[simp ↓] theorem e_var (X : Cfg) (i : Nat) (ρ : Env) (S : Sto) : ev X (.var i) ρ S = (M.opt (getV ρ i)) S := (rfl)
@[simp ↓] theorem e_glo (X : Cfg) (k : Nat) (ρ : Env) (S : Sto) : ev X (.glo k) ρ S = (M.opt (X.G[k]?)) S := (rfl)
@[simp ↓] theorem e_bin (X : Cfg) (op : BOp) (a b : E) (ρ : Env) (S : Sto) : ev X (.bin op a b) ρ S = (M.bind (pkOf (ev X a ρ) a ρ) (fun x => M.bind (pkOf (ev X b ρ) b ρ) (fun y => M.opt (bop op x y)))) S := (rfl)
@[simp ↓] theorem e_neg (X : Cfg) (a : E) (ρ : Env) (S : Sto) : ev X (.neg a) ρ S = (M.bind (ev X a ρ) (fun x => M.opt (negD x))) S := (rfl)
@[simp ↓] theorem e_cmp (X : Cfg) (op : COp) (a b : E) (ρ : Env) (S : Sto) : ev X (.cmp op a b) ρ S = (M.bind (pkOf (ev X a ρ) a ρ) (fun x => M.bind (pkOf (ev X b ρ) b ρ) (fun y => M.opt ((cop op x y).map .bl)))) S := (rfl)
@[simp ↓] theorem e_isN (X : Cfg) (a : E) (ρ : Env) (S : Sto) : ev X (.isN a) ρ S = (M.bind (ev X a ρ) (fun x => M.pure (.bl x.isNon))) S := (rfl)
@[simp ↓] theorem e_ntN (X : Cfg) (a : E) (ρ : Env) (S : Sto) : ev X (.ntN a) ρ S = (M.bind (ev X a ρ) (fun x => M.pure (.bl (!x.isNon)))) S := (rfl)
@[simp ↓] theorem e_chn (X : Cfg) (o1 o2 : COp) (a b c : E) (ρ : Env) (S : Sto) : ev X (.chn o1 o2 a b c) ρ S = (M.bind (ev X a ρ) (fun x => M.bind (ev X b ρ) (fun y => M.bind (M.opt (cop o1 x y)) (fun k => match k with | true => M.bind (ev X c ρ) (fun z => M.opt ((cop o2 y z).map .bl)) | false => M.pure (.bl false))))) S := (rfl)
@[simp ↓] theorem e_and (X : Cfg) (a b : E) (ρ : Env) (S : Sto) : ev X (.and a b) ρ S = (M.bind (ev X a ρ) (fun x => M.bind (M.opt x.tru) (fun k => match k with | true => ev X b ρ | false => M.pure x))) S := (rfl)
@[simp ↓] theorem e_or (X : Cfg) (a b : E) (ρ : Env) (S : Sto) : ev X (.or a b) ρ S = (M.bind (ev X a ρ) (fun x => M.bind (M.opt x.tru) (fun k => match k with | true => M.pure x | false => ev X b ρ))) S := (rfl)
@[simp ↓] theorem e_not (X : Cfg) (a : E) (ρ : Env) (S : Sto) : ev X (.not a) ρ S = (M.bind (ev X a ρ) (fun x => M.bind (M.opt x.tru) (fun k => M.pure (.bl (!k))))) S := (rfl)
@[simp ↓] theorem e_ife (X : Cfg) (c : B) (a b : E) (ρ : Env) (S : Sto) : ev X (.ife c a b) ρ S = (M.bind (tst X c ρ) (fun k => match k with | true => ev X a ρ | false => ev X b ρ)) S := (rfl)
@[simp ↓] theorem e_tup (X : Cfg) (es : Es) (ρ : Env) (S : Sto) : ev X (.tup es) ρ S = (M.bind (evs X es ρ) (fun xs => M.guard (decide (xs.length ≤ 100)) (M.pure (.tup xs)))) S := (rfl)
@[simp ↓] theorem e_lst (X : Cfg) (es : Es) (ρ : Env) (S : Sto) : ev X (.lst es) ρ S = (M.bind (evs X es ρ) (fun xs => M.guard (decide (xs.length ≤ 100)) (M.pure (.lst xs)))) S := (rfl)
@[simp ↓] theorem e_cell (X : Cfg) (es : Es) (ρ : Env) (S : Sto) : ev X (.cell es) ρ S = (M.bind (evs X es ρ) (fun xs => M.guard (decide (xs.length ≤ 100)) (fun S => .ok (.loc S.length) (S ++ [.cell xs])))) S := (rfl)
@[simp ↓] theorem e_call (X : Cfg) (f : Nat) (es : Es) (ρ : Env) (S : Sto) : ev X (.call f es) ρ S = (M.bind (evs X es ρ) (fun xs => M.bind (X.C f xs) (fun r => M.pure r.d))) S := (rfl)
@[simp ↓] theorem e_blt (X : Cfg) (f : Bl) (es : Es) (ρ : Env) (S : Sto) : ev X (.blt f es) ρ S = (M.bind (pks X es ρ) (fun xs => M.opt (blt f xs))) S := (rfl)
@[simp ↓] theorem e_isi (X : Cfg) (a : E) (ts : List Ty) (ρ : Env) (S : Sto) : ev X (.isi a ts) ρ S = (M.bind (ev X a ρ) (fun x => M.guard x.isiOk (M.pure (.bl (ts.any fun t => t.has x))))) S := (rfl)
@[simp ↓] theorem e_idx (X : Cfg) (a i : E) (ρ : Env) (S : Sto) : ev X (.idx a i) ρ S = (M.bind (pkOf (ev X a ρ) a ρ) (fun x => M.bind (ev X i ρ) (fun j => idxM x j))) S := (rfl)
@[simp ↓] theorem e_slN (X : Cfg) (a : E) (ρ : Env) (S : Sto) : ev X (.slN a) ρ S = (M.bind (pkOf (ev X a ρ) a ρ) (fun x => M.opt (slD x none none))) S := (rfl)
@[simp ↓] theorem e_slL (X : Cfg) (a lo : E) (ρ : Env) (S : Sto) : ev X (.slL a lo) ρ S = (M.bind (pkOf (ev X a ρ) a ρ) (fun x => M.bind (ev X lo ρ) (fun l => M.bind (M.opt (toI l)) (fun l => M.opt (slD x (some l) none))))) S := (rfl)
@[simp ↓] theorem e_slU (X : Cfg) (a hi : E) (ρ : Env) (S : Sto) : ev X (.slU a hi) ρ S = (M.bind (pkOf (ev X a ρ) a ρ) (fun x => M.bind (ev X hi ρ) (fun u => M.bind (M.opt (toI u)) (fun u => M.opt (slD x none (some u)))))) S := (rfl)
@[simp ↓] theorem e_slB (X : Cfg) (a lo hi : E) (ρ : Env) (S : Sto) : ev X (.slB a lo hi) ρ S = (M.bind (pkOf (ev X a ρ) a ρ) (fun x => M.bind (ev X lo ρ) (fun l => M.bind (M.opt (toI l)) (fun l => M.bind (ev X hi ρ) (fun u => M.bind (M.opt (toI u)) (fun u => M.opt (slD x (some l) (some u)))))))) S := (rfl)
@[simp ↓] theorem e_rev (X : Cfg) (a : E) (ρ : Env) (S : Sto) : ev X (.rev a) ρ S = (M.bind (pkOf (ev X a ρ) a ρ) (fun x => M.opt (revD x))) S := (rfl)
@[simp ↓] theorem e_upper (X : Cfg) (a : E) (ρ : Env) (S : Sto) : ev X (.upper a) ρ S = (M.bind (ev X a ρ) (fun x => M.opt (upD x))) S := (rfl)
@[simp ↓] theorem es_n (X : Cfg)  (ρ : Env) (S : Sto) : evs X .nil ρ S = (M.pure []) S := (rfl)
@[simp ↓] theorem es_c (X : Cfg) (e : E) (es : Es) (ρ : Env) (S : Sto) : evs X (.cons e es) ρ S = (M.bind (ev X e ρ) (fun x => M.bind (evs X es ρ) (fun xs => M.pure (x :: xs)))) S := (rfl)
@[simp ↓] theorem ps_n (X : Cfg)  (ρ : Env) (S : Sto) : pks X .nil ρ S = (M.pure []) S := (rfl)
@[simp ↓] theorem ps_c (X : Cfg) (e : E) (es : Es) (ρ : Env) (S : Sto) : pks X (.cons e es) ρ S = (M.bind (pkOf (ev X e ρ) e ρ) (fun x => M.bind (pks X es ρ) (fun xs => M.pure (x :: xs)))) S := (rfl)
@[simp ↓] theorem t_andB (X : Cfg) (a b : B) (ρ : Env) (S : Sto) : tst X (.and a b) ρ S = (M.bind (tst X a ρ) (fun k => match k with | true => tst X b ρ | false => M.pure false)) S := (rfl)
@[simp ↓] theorem t_orB (X : Cfg) (a b : B) (ρ : Env) (S : Sto) : tst X (.or a b) ρ S = (M.bind (tst X a ρ) (fun k => match k with | true => M.pure true | false => tst X b ρ)) S := (rfl)
@[simp ↓] theorem t_notB (X : Cfg) (a : B) (ρ : Env) (S : Sto) : tst X (.not a) ρ S = (M.bind (tst X a ρ) (fun k => M.pure (!k))) S := (rfl)
@[simp ↓] theorem t_e (X : Cfg) (e : E) (ρ : Env) (S : Sto) : tst X (.e e) ρ S = (M.bind (pkOf (ev X e ρ) e ρ) (fun x => M.opt x.tru)) S := (rfl)
@[simp ↓] theorem t_cmp (X : Cfg) (op : COp) (a b : E) (ρ : Env) (S : Sto) : tst X (.cmp op a b) ρ S = (M.bind (pkOf (ev X a ρ) a ρ) (fun x => M.bind (pkOf (ev X b ρ) b ρ) (fun y => M.opt (cop op x y)))) S := (rfl)
@[simp ↓] theorem t_chn (X : Cfg) (o1 o2 : COp) (a b c : E) (ρ : Env) (S : Sto) : tst X (.chn o1 o2 a b c) ρ S = (M.bind (ev X a ρ) (fun x => M.bind (ev X b ρ) (fun y => M.bind (M.opt (cop o1 x y)) (fun k => match k with | true => M.bind (ev X c ρ) (fun z => M.opt (cop o2 y z)) | false => M.pure false)))) S := (rfl)
@[simp ↓] theorem t_isN (X : Cfg) (a : E) (ρ : Env) (S : Sto) : tst X (.isN a) ρ S = (M.bind (ev X a ρ) (fun x => M.pure x.isNon)) S := (rfl)
@[simp ↓] theorem t_ntN (X : Cfg) (a : E) (ρ : Env) (S : Sto) : tst X (.ntN a) ρ S = (M.bind (ev X a ρ) (fun x => M.pure (!x.isNon))) S := (rfl)
@[simp ↓] theorem i_seqE (X : Cfg) (e : E) (ρ : Env) (S : Sto) : its X (.seq e) ρ S = (M.bind (pkOf (ev X e ρ) e ρ) (fun x => M.opt (itemsD x))) S := (rfl)
@[simp ↓] theorem i_rngE (X : Cfg) (e : E) (ρ : Env) (S : Sto) : its X (.rng e) ρ S = (M.bind (ev X e ρ) (fun x => M.opt (rngO x))) S := (rfl)
@[simp ↓] theorem x_asg (X : Cfg) (i : Nat) (e : E) (ρ : Env) (S : Sto) : ex X (.asg i e) ρ S = (M.bind (ev X e ρ) (fun x => M.pure (.nx (ρ.set i (some (.val x)))))) S := (rfl)
@[simp ↓] theorem x_asgO (X : Cfg) (i : Nat) (e : E) (ρ : Env) (S : Sto) : ex X (.asgO i e) ρ S = (M.bind (evF X e ρ) (fun x => M.pure (.nx (ρ.set i (some (.own x)))))) S := (rfl)
@[simp ↓] theorem x_par2 (X : Cfg) (i j : Nat) (a b : E) (ρ : Env) (S : Sto) : ex X (.par2 i j a b) ρ S = (M.bind (ev X a ρ) (fun x => M.bind (ev X b ρ) (fun y => M.pure (.nx ((ρ.set i (some (.val x))).set j (some (.val y))))))) S := (rfl)
@[simp ↓] theorem x_par3f (X : Cfg) (i j k : Nat) (a b c : E) (ρ : Env) (S : Sto) : ex X (.par3 i j k false a b c) ρ S = (M.bind (ev X a ρ) (fun x => M.bind (ev X b ρ) (fun y => M.bind (ev X c ρ) (fun z => M.pure (.nx (((ρ.set i (some (.val x))).set j (some (.val y))).set k (some (.val z)))))))) S := (rfl)
@[simp ↓] theorem x_par3t (X : Cfg) (i j k : Nat) (a b c : E) (ρ : Env) (S : Sto) : ex X (.par3 i j k true a b c) ρ S = (M.bind (evF X a ρ) (fun x => M.bind (ev X b ρ) (fun y => M.bind (ev X c ρ) (fun z => M.pure (.nx (((ρ.set i (some (.own x))).set j (some (.val y))).set k (some (.val z)))))))) S := (rfl)
@[simp ↓] theorem x_unp (X : Cfg) (t : Tg) (e : E) (ρ : Env) (S : Sto) : ex X (.unp t e) ρ S = (M.bind (ev X e ρ) (fun x => M.bind (M.opt (bindT t x ρ)) (fun ρ' => M.pure (.nx ρ')))) S := (rfl)
@[simp ↓] theorem x_setI (X : Cfg) (i : Nat) (k v : E) (ρ : Env) (S : Sto) : ex X (.setI i k v) ρ S = (M.bind (ev X v ρ) (fun x => M.bind (ev X k ρ) (fun j => setM ρ i j x))) S := (rfl)
@[simp ↓] theorem x_app (X : Cfg) (i : Nat) (e : E) (ρ : Env) (S : Sto) : ex X (.app i e) ρ S = (M.bind (ev X e ρ) (fun x => appM ρ i x)) S := (rfl)
@[simp ↓] theorem x_ret (X : Cfg) (e : E) (ρ : Env) (S : Sto) : ex X (.ret e) ρ S = (M.bind (ev X e (fixAll ρ)) (fun x => M.pure (.rt (.val x)))) S := (rfl)
@[simp ↓] theorem x_ifs (X : Cfg) (c : B) (a b : Ts) (ρ : Env) (S : Sto) : ex X (.ifs c a b) ρ S = (M.bind (tst X c ρ) (fun k => match k with | true => exs X a ρ | false => exs X b ρ)) S := (rfl)
@[simp ↓] theorem x_fors (X : Cfg) (t : Tg) (s : I) (b : Ts) (ρ : Env) (S : Sto) : ex X (.fors t s b) ρ S = (M.bind (its X s ρ) (fun xs => forL (fun d ρ' => M.bind (M.opt (bindT t d ρ')) fun ρ'' => exs X b ρ'') xs (fixI s ρ))) S := (rfl)
@[simp ↓] theorem x_whl (X : Cfg) (c : B) (b : Ts) (ρ : Env) (S : Sto) : ex X (.whl c b) ρ S = whlL (fun ρ' => tst X c ρ') (fun ρ' => exs X b ρ') X.W ρ S := (rfl)
@[simp ↓] theorem x_exp (X : Cfg) (e : E) (ρ : Env) (S : Sto) : ex X (.exp e) ρ S = (M.bind (ev X e ρ) (fun x => M.pure (.nx ρ))) S := (rfl)
@[simp ↓] theorem xs_n (X : Cfg)  (ρ : Env) (S : Sto) : exs X .nil ρ S = (M.pure (.nx ρ)) S := (rfl)
@[simp ↓] theorem xs_c (X : Cfg) (t : T) (ts : Ts) (ρ : Env) (S : Sto) : exs X (.cons t ts) ρ S = (M.bind (ex X t ρ) (fun f => match f with | .nx ρ' => exs X ts ρ' | .rt r => M.pure (.rt r))) S := (rfl)
theorem x_reto {X : Cfg} {i : Nat} {ρ : Env} {S : Sto} {xs : List D} (h : ρ[i]? = some (some (.own xs))) : ex X (.reto i) ρ S = .ok (.rt (.own xs)) S := by
  show M.opt (match ρ[i]? with
    | some (some (.own xs)) => some (Fl.rt (.own xs))
    | _ => none) S = _
  rw [h] <;> rfl
theorem e_lc (X : Cfg) (t : Tg) (s : I) (e : E) (vs : List Nat) (ρ : Env) (S : Sto) : ev X (.lc t s e vs) ρ S = (M.bind (its X s ρ) (fun xs => M.guard (decide (xs.length ≤ 1000000)) (M.bind (mapF' (fun _ => M.pure true) (fun d => M.bind (M.opt (bindT t d (wipe ρ vs))) fun ρ' => ev X e ρ') xs) fun ys => M.pure (.lst ys)))) S := (rfl)
theorem e_lcf (X : Cfg) (t : Tg) (s : I) (c : B) (e : E) (vs : List Nat) (ρ : Env) (S : Sto) : ev X (.lcf t s c e vs) ρ S = (M.bind (its X s ρ) (fun xs => M.guard (decide (xs.length ≤ 1000000)) (M.bind (mapF' (fun d => M.bind (M.opt (bindT t d (wipe ρ vs))) fun ρ' => tst X c ρ') (fun d => M.bind (M.opt (bindT t d (wipe ρ vs))) fun ρ' => ev X e ρ') xs) fun ys => M.pure (.lst ys)))) S := (rfl)
@[simp ↓] theorem p_var (m : M D) (i : Nat) (ρ : Env) (S : Sto) : pkOf m (.var i) ρ S = M.opt (peekV ρ i) S := (rfl)
@[simp ↓] theorem p_non (m : M D)  (ρ : Env) (S : Sto) : pkOf m (.non ) ρ S = m S := (rfl)
@[simp ↓] theorem p_bl (m : M D) (b : Bool) (ρ : Env) (S : Sto) : pkOf m (.bl b) ρ S = m S := (rfl)
@[simp ↓] theorem p_int (m : M D) (i : Int) (ρ : Env) (S : Sto) : pkOf m (.int i) ρ S = m S := (rfl)
@[simp ↓] theorem p_str (m : M D) (cs : List Nat) (ρ : Env) (S : Sto) : pkOf m (.str cs) ρ S = m S := (rfl)
@[simp ↓] theorem p_glo (m : M D) (k : Nat) (ρ : Env) (S : Sto) : pkOf m (.glo k) ρ S = m S := (rfl)
@[simp ↓] theorem p_fnv (m : M D) (f : Nat) (ρ : Env) (S : Sto) : pkOf m (.fnv f) ρ S = m S := (rfl)
@[simp ↓] theorem p_bin (m : M D) (op : BOp) (a b : E) (ρ : Env) (S : Sto) : pkOf m (.bin op a b) ρ S = m S := (rfl)
@[simp ↓] theorem p_neg (m : M D) (a : E) (ρ : Env) (S : Sto) : pkOf m (.neg a) ρ S = m S := (rfl)
@[simp ↓] theorem p_cmp (m : M D) (op : COp) (a b : E) (ρ : Env) (S : Sto) : pkOf m (.cmp op a b) ρ S = m S := (rfl)
@[simp ↓] theorem p_chn (m : M D) (o1 o2 : COp) (a b c : E) (ρ : Env) (S : Sto) : pkOf m (.chn o1 o2 a b c) ρ S = m S := (rfl)
@[simp ↓] theorem p_isN (m : M D) (a : E) (ρ : Env) (S : Sto) : pkOf m (.isN a) ρ S = m S := (rfl)
@[simp ↓] theorem p_ntN (m : M D) (a : E) (ρ : Env) (S : Sto) : pkOf m (.ntN a) ρ S = m S := (rfl)
@[simp ↓] theorem p_and (m : M D) (a b : E) (ρ : Env) (S : Sto) : pkOf m (.and a b) ρ S = m S := (rfl)
@[simp ↓] theorem p_or (m : M D) (a b : E) (ρ : Env) (S : Sto) : pkOf m (.or a b) ρ S = m S := (rfl)
@[simp ↓] theorem p_not (m : M D) (a : E) (ρ : Env) (S : Sto) : pkOf m (.not a) ρ S = m S := (rfl)
@[simp ↓] theorem p_ife (m : M D) (c : B) (a b : E) (ρ : Env) (S : Sto) : pkOf m (.ife c a b) ρ S = m S := (rfl)
@[simp ↓] theorem p_tup (m : M D) (es : Es) (ρ : Env) (S : Sto) : pkOf m (.tup es) ρ S = m S := (rfl)
@[simp ↓] theorem p_lst (m : M D) (es : Es) (ρ : Env) (S : Sto) : pkOf m (.lst es) ρ S = m S := (rfl)
@[simp ↓] theorem p_cell (m : M D) (es : Es) (ρ : Env) (S : Sto) : pkOf m (.cell es) ρ S = m S := (rfl)
@[simp ↓] theorem p_call (m : M D) (f : Nat) (es : Es) (ρ : Env) (S : Sto) : pkOf m (.call f es) ρ S = m S := (rfl)
@[simp ↓] theorem p_blt (m : M D) (f : Bl) (es : Es) (ρ : Env) (S : Sto) : pkOf m (.blt f es) ρ S = m S := (rfl)
@[simp ↓] theorem p_isi (m : M D) (a : E) (ts : List Ty) (ρ : Env) (S : Sto) : pkOf m (.isi a ts) ρ S = m S := (rfl)
@[simp ↓] theorem p_idx (m : M D) (a i : E) (ρ : Env) (S : Sto) : pkOf m (.idx a i) ρ S = m S := (rfl)
@[simp ↓] theorem p_slN (m : M D) (a : E) (ρ : Env) (S : Sto) : pkOf m (.slN a) ρ S = m S := (rfl)
@[simp ↓] theorem p_slL (m : M D) (a b : E) (ρ : Env) (S : Sto) : pkOf m (.slL a b) ρ S = m S := (rfl)
@[simp ↓] theorem p_slU (m : M D) (a b : E) (ρ : Env) (S : Sto) : pkOf m (.slU a b) ρ S = m S := (rfl)
@[simp ↓] theorem p_slB (m : M D) (a b c : E) (ρ : Env) (S : Sto) : pkOf m (.slB a b c) ρ S = m S := (rfl)
@[simp ↓] theorem p_rev (m : M D) (a : E) (ρ : Env) (S : Sto) : pkOf m (.rev a) ρ S = m S := (rfl)
@[simp ↓] theorem p_upper (m : M D) (a : E) (ρ : Env) (S : Sto) : pkOf m (.upper a) ρ S = m S := (rfl)
@[simp ↓] theorem p_lc (m : M D) (t : Tg) (s : I) (e : E) (vs : List Nat) (ρ : Env) (S : Sto) : pkOf m (.lc t s e vs) ρ S = m S := (rfl)
@[simp ↓] theorem p_lcf (m : M D) (t : Tg) (s : I) (c : B) (e : E) (vs : List Nat) (ρ : Env) (S : Sto) : pkOf m (.lcf t s c e vs) ρ S = m S := (rfl)
@[simp ↓] theorem f_non (X : Cfg)  (ρ : Env) (S : Sto) : evF X (.non ) ρ S = M.bind (ev X (.non ) ρ) (fun x => M.opt (match x with | .lst xs => some xs | _ => none)) S := (rfl)
@[simp ↓] theorem f_bl (X : Cfg) (b : Bool) (ρ : Env) (S : Sto) : evF X (.bl b) ρ S = M.bind (ev X (.bl b) ρ) (fun x => M.opt (match x with | .lst xs => some xs | _ => none)) S := (rfl)
@[simp ↓] theorem f_int (X : Cfg) (i : Int) (ρ : Env) (S : Sto) : evF X (.int i) ρ S = M.bind (ev X (.int i) ρ) (fun x => M.opt (match x with | .lst xs => some xs | _ => none)) S := (rfl)
@[simp ↓] theorem f_str (X : Cfg) (cs : List Nat) (ρ : Env) (S : Sto) : evF X (.str cs) ρ S = M.bind (ev X (.str cs) ρ) (fun x => M.opt (match x with | .lst xs => some xs | _ => none)) S := (rfl)
@[simp ↓] theorem f_glo (X : Cfg) (k : Nat) (ρ : Env) (S : Sto) : evF X (.glo k) ρ S = M.bind (ev X (.glo k) ρ) (fun x => M.opt (match x with | .lst xs => some xs | _ => none)) S := (rfl)
@[simp ↓] theorem f_fnv (X : Cfg) (f : Nat) (ρ : Env) (S : Sto) : evF X (.fnv f) ρ S = M.bind (ev X (.fnv f) ρ) (fun x => M.opt (match x with | .lst xs => some xs | _ => none)) S := (rfl)
@[simp ↓] theorem f_bin (X : Cfg) (op : BOp) (a b : E) (ρ : Env) (S : Sto) : evF X (.bin op a b) ρ S = M.bind (ev X (.bin op a b) ρ) (fun x => M.opt (match x with | .lst xs => some xs | _ => none)) S := (rfl)
@[simp ↓] theorem f_neg (X : Cfg) (a : E) (ρ : Env) (S : Sto) : evF X (.neg a) ρ S = M.bind (ev X (.neg a) ρ) (fun x => M.opt (match x with | .lst xs => some xs | _ => none)) S := (rfl)
@[simp ↓] theorem f_cmp (X : Cfg) (op : COp) (a b : E) (ρ : Env) (S : Sto) : evF X (.cmp op a b) ρ S = M.bind (ev X (.cmp op a b) ρ) (fun x => M.opt (match x with | .lst xs => some xs | _ => none)) S := (rfl)
@[simp ↓] theorem f_chn (X : Cfg) (o1 o2 : COp) (a b c : E) (ρ : Env) (S : Sto) : evF X (.chn o1 o2 a b c) ρ S = M.bind (ev X (.chn o1 o2 a b c) ρ) (fun x => M.opt (match x with | .lst xs => some xs | _ => none)) S := (rfl)
@[simp ↓] theorem f_isN (X : Cfg) (a : E) (ρ : Env) (S : Sto) : evF X (.isN a) ρ S = M.bind (ev X (.isN a) ρ) (fun x => M.opt (match x with | .lst xs => some xs | _ => none)) S := (rfl)
@[simp ↓] theorem f_ntN (X : Cfg) (a : E) (ρ : Env) (S : Sto) : evF X (.ntN a) ρ S = M.bind (ev X (.ntN a) ρ) (fun x => M.opt (match x with | .lst xs => some xs | _ => none)) S := (rfl)
@[simp ↓] theorem f_and (X : Cfg) (a b : E) (ρ : Env) (S : Sto) : evF X (.and a b) ρ S = M.bind (ev X (.and a b) ρ) (fun x => M.opt (match x with | .lst xs => some xs | _ => none)) S := (rfl)
@[simp ↓] theorem f_or (X : Cfg) (a b : E) (ρ : Env) (S : Sto) : evF X (.or a b) ρ S = M.bind (ev X (.or a b) ρ) (fun x => M.opt (match x with | .lst xs => some xs | _ => none)) S := (rfl)
@[simp ↓] theorem f_not (X : Cfg) (a : E) (ρ : Env) (S : Sto) : evF X (.not a) ρ S = M.bind (ev X (.not a) ρ) (fun x => M.opt (match x with | .lst xs => some xs | _ => none)) S := (rfl)
@[simp ↓] theorem f_ife (X : Cfg) (c : B) (a b : E) (ρ : Env) (S : Sto) : evF X (.ife c a b) ρ S = M.bind (ev X (.ife c a b) ρ) (fun x => M.opt (match x with | .lst xs => some xs | _ => none)) S := (rfl)
@[simp ↓] theorem f_tup (X : Cfg) (es : Es) (ρ : Env) (S : Sto) : evF X (.tup es) ρ S = M.bind (ev X (.tup es) ρ) (fun x => M.opt (match x with | .lst xs => some xs | _ => none)) S := (rfl)
@[simp ↓] theorem f_lst (X : Cfg) (es : Es) (ρ : Env) (S : Sto) : evF X (.lst es) ρ S = M.bind (ev X (.lst es) ρ) (fun x => M.opt (match x with | .lst xs => some xs | _ => none)) S := (rfl)
@[simp ↓] theorem f_cell (X : Cfg) (es : Es) (ρ : Env) (S : Sto) : evF X (.cell es) ρ S = M.bind (ev X (.cell es) ρ) (fun x => M.opt (match x with | .lst xs => some xs | _ => none)) S := (rfl)
@[simp ↓] theorem f_blt (X : Cfg) (f : Bl) (es : Es) (ρ : Env) (S : Sto) : evF X (.blt f es) ρ S = M.bind (ev X (.blt f es) ρ) (fun x => M.opt (match x with | .lst xs => some xs | _ => none)) S := (rfl)
@[simp ↓] theorem f_isi (X : Cfg) (a : E) (ts : List Ty) (ρ : Env) (S : Sto) : evF X (.isi a ts) ρ S = M.bind (ev X (.isi a ts) ρ) (fun x => M.opt (match x with | .lst xs => some xs | _ => none)) S := (rfl)
@[simp ↓] theorem f_idx (X : Cfg) (a i : E) (ρ : Env) (S : Sto) : evF X (.idx a i) ρ S = M.bind (ev X (.idx a i) ρ) (fun x => M.opt (match x with | .lst xs => some xs | _ => none)) S := (rfl)
@[simp ↓] theorem f_slN (X : Cfg) (a : E) (ρ : Env) (S : Sto) : evF X (.slN a) ρ S = M.bind (ev X (.slN a) ρ) (fun x => M.opt (match x with | .lst xs => some xs | _ => none)) S := (rfl)
@[simp ↓] theorem f_slL (X : Cfg) (a b : E) (ρ : Env) (S : Sto) : evF X (.slL a b) ρ S = M.bind (ev X (.slL a b) ρ) (fun x => M.opt (match x with | .lst xs => some xs | _ => none)) S := (rfl)
@[simp ↓] theorem f_slU (X : Cfg) (a b : E) (ρ : Env) (S : Sto) : evF X (.slU a b) ρ S = M.bind (ev X (.slU a b) ρ) (fun x => M.opt (match x with | .lst xs => some xs | _ => none)) S := (rfl)
@[simp ↓] theorem f_slB (X : Cfg) (a b c : E) (ρ : Env) (S : Sto) : evF X (.slB a b c) ρ S = M.bind (ev X (.slB a b c) ρ) (fun x => M.opt (match x with | .lst xs => some xs | _ => none)) S := (rfl)
@[simp ↓] theorem f_rev (X : Cfg) (a : E) (ρ : Env) (S : Sto) : evF X (.rev a) ρ S = M.bind (ev X (.rev a) ρ) (fun x => M.opt (match x with | .lst xs => some xs | _ => none)) S := (rfl)
@[simp ↓] theorem f_upper (X : Cfg) (a : E) (ρ : Env) (S : Sto) : evF X (.upper a) ρ S = M.bind (ev X (.upper a) ρ) (fun x => M.opt (match x with | .lst xs => some xs | _ => none)) S := (rfl)
@[simp ↓] theorem f_lc (X : Cfg) (t : Tg) (s : I) (e : E) (vs : List Nat) (ρ : Env) (S : Sto) : evF X (.lc t s e vs) ρ S = M.bind (ev X (.lc t s e vs) ρ) (fun x => M.opt (match x with | .lst xs => some xs | _ => none)) S := (rfl)
@[simp ↓] theorem f_lcf (X : Cfg) (t : Tg) (s : I) (c : B) (e : E) (vs : List Nat) (ρ : Env) (S : Sto) : evF X (.lcf t s c e vs) ρ S = M.bind (ev X (.lcf t s c e vs) ρ) (fun x => M.opt (match x with | .lst xs => some xs | _ => none)) S := (rfl)
@[simp] theorem gv_v {ρ : Env} {i : Nat} {d : D} (h : ρ[i]? = some (some (.val d))) : getV ρ i = some d := by
  unfold getV
  rw [h]
@[simp] theorem pv_v {ρ : Env} {i : Nat} {d : D} (h : ρ[i]? = some (some (.val d))) : peekV ρ i = some d := by
  unfold peekV
  rw [h]
theorem pv_o {ρ : Env} {i : Nat} {xs : List D} (h : ρ[i]? = some (some (.own xs))) : peekV ρ i = some (.lst xs) := by
  unfold peekV
  rw [h]
@[simp] theorem fx_n : fixAll [] = [] := (rfl)
@[simp] theorem fx_c0 (ρ : Env) : fixAll (none :: ρ) = none :: fixAll ρ := (rfl)
@[simp] theorem fx_cv (d : D) (ρ : Env) : fixAll (some (.val d) :: ρ) = some (.val d) :: fixAll ρ := (rfl)
@[simp] theorem fx_co (xs : List D) (ρ : Env) : fixAll (some (.own xs) :: ρ) = some (.val (.lst xs)) :: fixAll ρ := (rfl)
@[simp] theorem bt_nm (i : Nat) (d : D) (ρ : Env) : bindT (.nm i) d ρ = some (ρ.set i (some (.val d))) := (rfl)
@[simp] theorem bt_tp (ts : Tgs) (xs : List D) (ρ : Env) : bindT (.tp ts) (.tup xs) ρ = bindTs ts xs ρ := (rfl)
@[simp] theorem bts_n (ρ : Env) : bindTs .nil [] ρ = some ρ := (rfl)
@[simp] theorem bts_c (t : Tg) (ts : Tgs) (x : D) (xs : List D) (ρ : Env) : bindTs (.cons t ts) (x :: xs) ρ = (match bindT t x ρ with | some ρ' => bindTs ts xs ρ' | none => none) := (rfl)
@[simp] theorem wp_n (ρ : Env) : wipe ρ [] = ρ := (rfl)
@[simp] theorem wp_c (ρ : Env) (v : Nat) (vs : List Nat) : wipe ρ (v :: vs) = (wipe ρ vs).set v none := (rfl)
@[simp] theorem fi_rng (e : E) (ρ : Env) : fixI (.rng e) ρ = ρ := (rfl)
theorem fi_var {ρ : Env} {i : Nat} {d : D} (h : ρ[i]? = some (some (.val d))) : fixI (.seq (.var i)) ρ = ρ := by
  show fixAt ρ i = ρ
  unfold fixAt
  rw [h]
/-! ### comprehensions -/
theorem mapF_nil (c : D → M Bool) (f : D → M D) (S : Sto) : mapF' c f [] S = .ok [] S := rfl
theorem mapF_fil {c : D → M Bool} {f : D → M D} {p : D → Bool} {g : D → D} {S : Sto} : ∀ {xs : List D}, (∀ x ∈ xs, c x S = .ok (p x) S) → (∀ x ∈ xs, p x = true → f x S = .ok (g x) S) → mapF' c f xs S = .ok ((xs.filter p).map g) S
  | [], _, _ => rfl
  | x :: xs, hc, hf => by
    have ih := mapF_fil (xs := xs) (fun y hy => hc y (List.mem_cons_of_mem _ hy)) (fun y hy => hf y (List.mem_cons_of_mem _ hy))
    unfold mapF'
    rw [hc x List.mem_cons_self]
    cases hp : p x with
    | false =>
      rw [List.filter_cons, hp]
      exact ih
    | true =>
      have e := hf x List.mem_cons_self hp
      show (match f x S with | .stk => Res.stk | .ok y S2 => (match mapF' c f xs S2 with | .stk => Res.stk | .ok ys S3 => Res.ok (y :: ys) S3)) = _
      rw [e]
      show (match mapF' c f xs S with | .stk => Res.stk | .ok ys S3 => Res.ok (g x :: ys) S3) = _
      rw [ih, List.filter_cons, hp]
      rfl
theorem mapF_map {f : D → M D} {g : D → D} {S : Sto} {xs : List D} (hf : ∀ x ∈ xs, f x S = .ok (g x) S) : mapF' (fun _ => M.pure true) f xs S = .ok (xs.map g) S := by
  have := mapF_fil (c := fun _ => M.pure true) (p := fun _ => true) (f := f) (g := g) (S := S) (xs := xs) (fun _ _ => rfl) (fun x hx _ => hf x hx)
  rw [this, List.filter_eq_self.mpr fun _ _ => rfl]
theorem bools_map (g : D → Bool) : ∀ xs : List D, boolsOf (xs.map fun x => .bl (g x)) = some (xs.map g)
  | [] => rfl
  | x :: xs => by
    show (match boolsOf (xs.map fun x => D.bl (g x)) with | some bs => some (g x :: bs) | none => none) = _
    rw [bools_map g xs]
    rfl
/-- elements made one after another, each with some good, the store kept good -/
theorem mapF_any {f : D → M D} {P : Sto → Prop} {Q : D → Prop} : ∀ {xs : List D} {S : Sto}, P S → (∀ x ∈ xs, ∀ S, P S → ∃ d S', f x S = .ok d S' ∧ P S' ∧ Q d) → ∃ ds S', mapF' (fun _ => M.pure true) f xs S = .ok ds S' ∧ P S' ∧ (∀ d ∈ ds, Q d) ∧ ds.length = xs.length
  | [], S, h, _ => ⟨[], S, rfl, h, (fun _ z => by simp at z), rfl⟩
  | x :: xs, S, h, hf => by
    obtain ⟨d, S1, e1, h1, q1⟩ := hf x List.mem_cons_self S h
    obtain ⟨ds, S2, e2, h2, q2, l2⟩ := mapF_any (xs := xs) h1 fun y hy => hf y (List.mem_cons_of_mem _ hy)
    refine ⟨d :: ds, S2, ?_, h2, fun z hz => ?_, by rw [List.length_cons, List.length_cons, l2]⟩
    · unfold mapF'
      show (match f x S with | .stk => Res.stk | .ok y S2 => (match mapF' (fun _ => M.pure true) f xs S2 with | .stk => Res.stk | .ok ys S3 => Res.ok (y :: ys) S3)) = _
      rw [e1]
      show (match mapF' (fun _ => M.pure true) f xs S1 with | .stk => Res.stk | .ok ys S3 => Res.ok (d :: ys) S3) = _
      rw [e2]
    · rcases List.mem_cons.mp hz with e | hz
      · rw [e]
        exact q1
      · exact q2 z hz
/-- a loop that always goes on -/
theorem forL_inv {b : D → Env → M Fl} {P : Nat → Env → Sto → Prop} : ∀ {xs : List D} {i : Nat} {ρ : Env} {S : Sto}, P i ρ S → (∀ (j : Nat) x ρ S, xs[j]? = some x → P (i + j) ρ S → ∃ ρ' S', b x ρ S = .ok (.nx ρ') S' ∧ P (i + j + 1) ρ' S') → ∃ ρ' S', forL b xs ρ S = .ok (.nx ρ') S' ∧ P (i + xs.length) ρ' S'
  | [], i, ρ, S, h, _ => ⟨ρ, S, rfl, h⟩
  | x :: xs, i, ρ, S, h, hs => by
    obtain ⟨ρ1, S1, e1, h1⟩ := hs 0 x ρ S rfl h
    obtain ⟨ρ2, S2, e2, h2⟩ := forL_inv (xs := xs) (i := i + 1) h1 fun j y ρ S hy hp => by
      have := hs (j + 1) y ρ S (by simpa using hy) (by rw [show i + (j + 1) = i + 1 + j from by omega]; exact hp)
      rw [show i + 1 + j + 1 = i + (j + 1) + 1 from by omega]
      exact this
    refine ⟨ρ2, S2, ?_, by rw [List.length_cons, show i + (xs.length + 1) = i + 1 + xs.length from by omega]; exact h2⟩
    show M.bind (b x ρ) _ S = _
    rw [bind_ap, e1]
    exact e2
theorem ev_lc {X : Cfg} {t : Tg} {s : I} {e : E} {vs : List Nat} {ρ : Env} {S S1 S2 : Sto} {xs ys : List D} (hi : its X s ρ S = .ok xs S1) (hl : xs.length ≤ 1000000)
    (hm : mapF' (fun _ => M.pure true) (fun d => M.bind (M.opt (bindT t d (wipe ρ vs))) fun ρ' => ev X e ρ') xs S1 = .ok ys S2) : ev X (.lc t s e vs) ρ S = .ok (.lst ys) S2 := by
  show M.bind (its X s ρ) (fun xs => M.guard (decide (xs.length ≤ 1000000)) (M.bind (mapF' (fun _ => M.pure true) (fun d => M.bind (M.opt (bindT t d (wipe ρ vs))) fun ρ' => ev X e ρ') xs) fun ys => M.pure (D.lst ys))) S = _
  rw [bind_ap, hi]
  show M.guard (decide (xs.length ≤ 1000000)) _ S1 = _
  rw [decide_eq_true hl, guard_t, bind_ap, hm]
  rfl
theorem ev_lcf {X : Cfg} {t : Tg} {s : I} {c : B} {e : E} {vs : List Nat} {ρ : Env} {S S1 S2 : Sto} {xs ys : List D} (hi : its X s ρ S = .ok xs S1) (hl : xs.length ≤ 1000000)
    (hm : mapF' (fun d => M.bind (M.opt (bindT t d (wipe ρ vs))) fun ρ' => tst X c ρ') (fun d => M.bind (M.opt (bindT t d (wipe ρ vs))) fun ρ' => ev X e ρ') xs S1 = .ok ys S2) : ev X (.lcf t s c e vs) ρ S = .ok (.lst ys) S2 := by
  show M.bind (its X s ρ) (fun xs => M.guard (decide (xs.length ≤ 1000000)) (M.bind (mapF' (fun d => M.bind (M.opt (bindT t d (wipe ρ vs))) fun ρ' => tst X c ρ') (fun d => M.bind (M.opt (bindT t d (wipe ρ vs))) fun ρ' => ev X e ρ') xs) fun ys => M.pure (D.lst ys))) S = _
  rw [bind_ap, hi]
  show M.guard (decide (xs.length ≤ 1000000)) _ S1 = _
  rw [decide_eq_true hl, guard_t, bind_ap, hm]
  rfl
end Ev


/-! The laws' draws: a weir of two numbers. -/
namespace Ev
open PySem
/-- ten to the 240th -/
def eBig : E := (.bin .mul (.bin .mul (.bin .mul (.bin .pow (.int 10) (.int 60)) (.bin .pow (.int 10) (.int 60))) (.bin .pow (.int 10) (.int 60))) (.bin .pow (.int 10) (.int 60)))
def bWeir : Ts := .cons (.asg 2 (.bin .add (.bin .mul (.int 30011) (.var 1)) (.int 67))) (.cons (.ifs (.cmp .lt (.var 1) (.blt .len (.cons (.var 0) .nil))) (.cons (.asg 2 (.bin .mod (.blt .abs (.cons (.blt .int (.cons (.idx (.var 0) (.var 1)) .nil)) .nil)) eBig)) (.nil)) (.cons (.ifs (.cmp .gt (.blt .len (.cons (.var 0) .nil)) (.int 0)) (.cons (.asg 2 (.bin .add (.var 2) (.bin .mod (.blt .abs (.cons (.blt .int (.cons (.idx (.var 0) (.int 0)) .nil)) .nil)) (.int 1000367)))) (.nil)) (.nil)) (.nil))) (.cons (.ret (.cell (.cons (.ife (.cmp .ge (.var 2) (.bin .pow (.int 10) (.int 18))) (.var 2) (.int 0)) (.cons (.bin .add (.bin .mod (.blt .int (.cons (.bin .add (.bin .add (.bin .mul (.bin .mod (.var 2) (.int 2147483003)) (.int 11)) (.bin .mul (.int 79) (.var 1))) (.int 37)) .nil)) (.int 2147483003)) (.int 1)) .nil)))) (.nil)))
def lpC : B := (.or (.cmp .lt (.var 3) (.var 1)) (.cmp .eq (.var 3) (.int 1)))
def lpB : Ts := .cons (.setI 0 (.int 1) (.bin .mod (.blt .int (.cons (.bin .add (.bin .mul (.idx (.var 0) (.int 1)) (.int 23003)) (.int 89)) .nil)) (.int 2147483003))) (.cons (.asg 2 (.bin .add (.bin .mul (.var 2) (.int 8192)) (.bin .mod (.blt .int (.cons (.bin .fdiv (.idx (.var 0) (.int 1)) (.int 65629)) .nil)) (.int 8192)))) (.cons (.asg 3 (.bin .mul (.var 3) (.int 8192))) (.nil)))
def bDrop : Ts := .cons (.ifs (.cmp .gt (.idx (.var 0) (.int 0)) (.int 0)) (.cons (.asg 2 (.bin .mod (.blt .int (.cons (.idx (.var 0) (.int 0)) .nil)) (.var 1))) (.cons (.setI 0 (.int 0) (.bin .fdiv (.idx (.var 0) (.int 0)) (.var 1))) (.cons (.ret (.var 2)) (.nil)))) (.nil)) (.cons (.unp (.tp (.cons (.nm 2) (.cons (.nm 3) (.nil)))) (.tup (.cons (.int 0) (.cons (.int 1) .nil)))) (.cons (.whl lpC lpB) (.cons (.ret (.bin .mod (.blt .int (.cons (.var 2) .nil)) (.var 1))) (.nil))))

theorem big_ok (X : Cfg) (ρ : Env) : ev X eBig ρ = M.pure (.int (10 ^ 240)) := by
  funext S
  rfl

theorem ix_loc (n : Nat) (j : Int) (S : Sto) : idxM (.loc n) (.int j) S = (match S[n]? with | some (.cell xs) => M.opt (L2.atI xs j) S | _ => .stk) := (rfl)
@[simp] theorem atI_0 {α : Type} (x y : α) : L2.atI [x, y] 0 = some x := (rfl)
@[simp] theorem atI_1 {α : Type} (x y : α) : L2.atI [x, y] 1 = some y := (rfl)
@[simp] theorem ixN_0 : L2.ixN 2 0 = some 0 := (rfl)
@[simp] theorem ixN_1 : L2.ixN 2 1 = some 1 := (rfl)
local macro_rules
  | `(tactic| trivial) => `(tactic| simp [setM, ix_loc, *])
/-- a weir stands at n -/
def Wr (S : Sto) (n : Nat) : Prop := ∃ a b : Int, S[n]? = some (.cell [.int a, .int b]) ∧ 0 ≤ a ∧ 0 ≤ b
theorem whl_F {c : Env → M Bool} {b : Env → M Fl} {n : Nat} {ρ : Env} {S S' : Sto} (h : c ρ S = .ok false S') : whlL c b (n + 1) ρ S = .ok (.nx ρ) S' := by
  show M.bind (c ρ) _ S = _
  rw [bind_ap, h]
  rfl
theorem whl_T {c : Env → M Bool} {b : Env → M Fl} {n : Nat} {ρ ρ' : Env} {S S1 S' : Sto} (h : c ρ S = .ok true S1) (hb : b ρ S1 = .ok (.nx ρ') S') : whlL c b (n + 1) ρ S = whlL c b n ρ' S' := by
  show M.bind (c ρ) _ S = _
  rw [bind_ap, h]
  show M.bind (b ρ) _ S1 = _
  rw [bind_ap, hb]
theorem get_set {S : Sto} {n : Nat} {o o' : Ob} (h : S[n]? = some o) : (S.set n o')[n]? = some o' := by
  have := (List.getElem?_eq_some_iff.mp h).1
  rw [List.getElem?_set, if_pos rfl, if_pos this]
section
variable {X : Cfg} {n : Nat} {m a b f w : Int} {S : Sto}
theorem lp_c1 (hc : w < m ∨ w = 1) : tst X lpC [some (.val (.loc n)), some (.val (.int m)), some (.val (.int f)), some (.val (.int w))] S = .ok true S := by
  unfold lpC
  by_cases h1 : w < m
  · trivial
  · have h2 : w = 1 := by omega
    subst h2
    trivial
theorem lp_c0 (h1 : ¬ w < m) (h2 : ¬ w = 1) : tst X lpC [some (.val (.loc n)), some (.val (.int m)), some (.val (.int f)), some (.val (.int w))] S = .ok false S := by
  unfold lpC
  trivial
theorem lp_b (hS : S[n]? = some (.cell [.int a, .int b])) : exs X lpB [some (.val (.loc n)), some (.val (.int m)), some (.val (.int f)), some (.val (.int w))] S = .ok (.nx [some (.val (.loc n)), some (.val (.int m)), some (.val (.int (f * 8192 + (b * 23003 + 89) % 2147483003 / 65629 % 8192))), some (.val (.int (w * 8192)))]) (S.set n (.cell [.int a, .int ((b * 23003 + 89) % 2147483003)])) := by
  have hg := get_set (o' := .cell [.int a, .int ((b * 23003 + 89) % 2147483003)]) hS
  unfold lpB
  trivial
end
theorem lp_run {X : Cfg} {n : Nat} {m : Int} (t : Nat) : ∀ (a b f w : Int) (fuel : Nat) (S : Sto), S[n]? = some (.cell [.int a, .int b]) → 0 ≤ b → 0 ≤ f → 1 ≤ w → m ≤ w * 8192 ^ t → (t = 0 → w ≠ 1) → t + 1 ≤ fuel →
    ∃ b' f' w', whlL (fun ρ => tst X lpC ρ) (fun ρ => exs X lpB ρ) fuel [some (.val (.loc n)), some (.val (.int m)), some (.val (.int f)), some (.val (.int w))] S = .ok (.nx [some (.val (.loc n)), some (.val (.int m)), some (.val (.int f')), some (.val (.int w'))]) (S.set n (.cell [.int a, .int b'])) ∧ 0 ≤ b' ∧ 0 ≤ f' := by
  have stop : ∀ (a b f w : Int) (fuel : Nat) (S : Sto), S[n]? = some (.cell [.int a, .int b]) → 0 ≤ b → 0 ≤ f → ¬ w < m → ¬ w = 1 → 1 ≤ fuel →
    ∃ b' f' w', whlL (fun ρ => tst X lpC ρ) (fun ρ => exs X lpB ρ) fuel [some (.val (.loc n)), some (.val (.int m)), some (.val (.int f)), some (.val (.int w))] S = .ok (.nx [some (.val (.loc n)), some (.val (.int m)), some (.val (.int f')), some (.val (.int w'))]) (S.set n (.cell [.int a, .int b'])) ∧ 0 ≤ b' ∧ 0 ≤ f' := fun a b f w fuel S hS hb hf h1 h2 hfu => by
    cases fuel with
    | zero => omega
    | succ fuel =>
      rw [whl_F (lp_c0 h1 h2)]
      refine ⟨b, f, w, ?_, hb, hf⟩
      congr 1
      obtain ⟨hl, he⟩ := List.getElem?_eq_some_iff.mp hS
      rw [← he, List.set_getElem_self]
  induction t with
  | zero =>
    intro a b f w fuel S hS hb hf hw hm ht hfu
    rw [Int.pow_zero] at hm
    exact stop a b f w fuel S hS hb hf (by omega) (ht rfl) (by omega)
  | succ t ih =>
    intro a b f w fuel S hS hb hf hw hm ht hfu
    by_cases hc : w < m ∨ w = 1
    · cases fuel with
      | zero => omega
      | succ fuel =>
        rw [whl_T (lp_c1 hc) (lp_b hS)]
        have hn : 0 ≤ (b * 23003 + 89) % 2147483003 := Int.emod_nonneg _ (by omega)
        obtain ⟨b', f', w', e, i1, i2⟩ := ih a ((b * 23003 + 89) % 2147483003) (f * 8192 + (b * 23003 + 89) % 2147483003 / 65629 % 8192) (w * 8192) fuel (S.set n (.cell [.int a, .int ((b * 23003 + 89) % 2147483003)]))
          (get_set hS) hn (by have := Int.emod_nonneg ((b * 23003 + 89) % 2147483003 / 65629) (show (8192 : Int) ≠ 0 by decide); omega) (by omega) (by rw [Int.pow_succ, Int.mul_comm (8192 ^ t) 8192, ← Int.mul_assoc] at hm; exact hm) (fun _ => by omega) (by omega)
        rw [List.set_set] at e
        exact ⟨b', f', w', e, i1, i2⟩
    · exact stop a b f w fuel S hS hb hf (fun z => hc (.inl z)) (fun z => hc (.inr z)) (by omega)
theorem drop_run {X : Cfg} (hW : 10 ≤ X.W) {S : Sto} {n : Nat} {m : Int} (h : Wr S n) (hm : 0 < m) (hb : m ≤ 8192 ^ 5) : ∃ r a b, exs X bDrop [some (.val (.loc n)), some (.val (.int m)), none, none] S = .ok (.rt (.val (.int r))) (S.set n (.cell [.int a, .int b])) ∧ 0 ≤ r ∧ r < m ∧ 0 ≤ a ∧ 0 ≤ b := by
  obtain ⟨a, b, hS, ha, hb0⟩ := h
  by_cases hp : 0 < a
  · refine ⟨a % m, a / m, b, ?_, Int.emod_nonneg _ (by omega), Int.emod_lt_of_pos _ hm, Int.ediv_nonneg ha (by omega), hb0⟩
    have hg := get_set (o' := .cell [.int (a / m), .int b]) hS
    have hdv : m ≤ 1000000000000000000000000000000000000 := Int.le_trans hb (by decide +kernel)
    unfold bDrop
    trivial
  · obtain ⟨b', f', w', e, i1, i2⟩ := lp_run (X := X) (n := n) (m := m) 5 a b 0 1 X.W S hS hb0 (Int.le_refl 0) (Int.le_refl 1) (by rw [Int.one_mul]; exact hb) (fun z => by cases z) (by omega)
    refine ⟨f' % m, a, b', ?_, Int.emod_nonneg _ (by omega), Int.emod_lt_of_pos _ hm, ha, i1⟩
    unfold bDrop
    trivial
def bFin : Ts := (.cons (.ret (.cell (.cons (.ife (.cmp .ge (.var 2) (.bin .pow (.int 10) (.int 18))) (.var 2) (.int 0)) (.cons (.bin .add (.bin .mod (.blt .int (.cons (.bin .add (.bin .add (.bin .mul (.bin .mod (.var 2) (.int 2147483003)) (.int 11)) (.bin .mul (.int 79) (.var 1))) (.int 37)) .nil)) (.int 2147483003)) (.int 1)) .nil)))) (.nil))
theorem w_fin {X : Cfg} {S : Sto} {d : D} {k : Int} {c : Int} (hc : 0 ≤ c) : ∃ a b : Int, exs X bFin [some (.val d), some (.val (.int k)), some (.val (.int c))] S = .ok (.rt (.val (.loc S.length))) (S ++ [.cell [.int a, .int b]]) ∧ 0 ≤ a ∧ 0 ≤ b := by
  have h0 : 0 ≤ (c % 2147483003 * 11 + 79 * k + 37) % 2147483003 := Int.emod_nonneg _ (by omega)
  unfold bFin
  by_cases h1 : (1000000000000000000 : Int) ≤ c
  · refine ⟨c, (c % 2147483003 * 11 + 79 * k + 37) % 2147483003 + 1, ?_, hc, by omega⟩
    simp [h1]
  · refine ⟨0, (c % 2147483003 * 11 + 79 * k + 37) % 2147483003 + 1, ?_, Int.le_refl 0, by omega⟩
    simp [h1]
theorem w_abs (z : Int) : (if z < 0 then -z else z) = z.natAbs := by split <;> omega
theorem big_ex : ∃ B : Int, 0 < B ∧ ∀ (X : Cfg) (ρ : Env) (S : Sto), ev X eBig ρ S = .ok (.int B) S := ⟨10 ^ 240, by decide +kernel, fun X ρ S => by rw [big_ok]; exact pure_ap _ _⟩
theorem p_big (m : M D) (ρ : Env) (S : Sto) : pkOf m eBig ρ S = m S := (rfl)
theorem weir_run {X : Cfg} {S : Sto} {ns : List Int} {k : Int} (hk : 0 ≤ k) : ∃ a b : Int, exs X bWeir [some (.val (.rol (ns.map .int))), some (.val (.int k)), none] S = .ok (.rt (.val (.loc S.length))) (S ++ [.cell [.int a, .int b]]) ∧ 0 ≤ a ∧ 0 ≤ b := by
  obtain ⟨B, hB, hb⟩ := big_ex
  by_cases h1 : k < ns.length
  · have h3 : k.toNat < ns.length := by omega
    obtain ⟨a, b, e, i1, i2⟩ := w_fin (X := X) (S := S) (d := .rol (ns.map .int)) (k := k) (c := (ns[k.toNat].natAbs : Int) % B) (Int.emod_nonneg _ (by omega))
    refine ⟨a, b, ?_, i1, i2⟩
    rw [← e]
    unfold bWeir bFin
    simp [↓p_big, ↓hb, h1, w_abs, hB, hk, h3]
  · by_cases h2 : 0 < ns.length
    · obtain ⟨a, b, e, i1, i2⟩ := w_fin (X := X) (S := S) (d := .rol (ns.map .int)) (k := k) (c := 30011 * k + 67 + (ns[0].natAbs : Int) % 1000367) (by have := Int.emod_nonneg (ns[0].natAbs : Int) (show (1000367 : Int) ≠ 0 by decide); omega)
      refine ⟨a, b, ?_, i1, i2⟩
      rw [← e]
      unfold bWeir bFin
      simp [h1, h2, w_abs]
    · obtain ⟨a, b, e, i1, i2⟩ := w_fin (X := X) (S := S) (d := .rol (ns.map .int)) (k := k) (c := 30011 * k + 67) (by omega)
      refine ⟨a, b, ?_, i1, i2⟩
      rw [← e]
      unfold bWeir bFin
      simp [h1, h2, w_abs]
/-- what a draw leaves -/
theorem wr_set {S : Sto} {n : Nat} {a b : Int} (h : Wr S n) (ha : 0 ≤ a) (hb : 0 ≤ b) : Wr (S.set n (.cell [.int a, .int b])) n := by
  obtain ⟨a', b', h, _⟩ := h
  exact ⟨a, b, get_set h, ha, hb⟩
theorem wr_new {S : Sto} {a b : Int} (ha : 0 ≤ a) (hb : 0 ≤ b) : Wr (S ++ [.cell [.int a, .int b]]) S.length := ⟨a, b, by simp, ha, hb⟩
end Ev

/-! Texts of plain signs, slices. -/
namespace Ev
open PySem L2
theorem upper_as {cs : List Nat} (h : ∀ c ∈ cs, c < 128) : upper cs = cs.map PyProof.Rows.up1 := by
  unfold upper
  rw [PyProof.Rows.upper_ascii (x := ⟨cs.toArray⟩) (by simpa using h)]
  simp [codesOf]
theorem up1_lt {c : Nat} (h : c < 128) : PyProof.Rows.up1 c < 128 := by
  unfold PyProof.Rows.up1
  split <;> omega
theorem up_ok {cs : List Nat} (h : ∀ c ∈ cs, c < 128) (hl : cs.length ≤ 1000) : upD (.str cs) = some (.str (cs.map PyProof.Rows.up1)) := by
  show (if (decide (cs.length ≤ 1000) && (upper cs).all (fun c => decide (c < 1114112)) && decide ((upper cs).length ≤ 4000)) = true then some (D.str (upper cs)) else none) = _
  rw [upper_as h, if_pos]
  rw [decide_eq_true hl, Bool.true_and, Bool.and_eq_true, List.all_eq_true, decide_eq_true_eq, List.length_map]
  refine ⟨fun c hc => ?_, by omega⟩
  obtain ⟨x, hx, rfl⟩ := List.mem_map.mp hc
  have := up1_lt (h x hx)
  exact decide_eq_true (by omega)
theorem str_i {i : Int} (h1 : -1000000000000000000000000000000000000000000000000000000000000000000 < i) (h2 : i < 1000000000000000000000000000000000000000000000000000000000000000000) :
    ∃ ds, blt .str [.int i] = some (.str ds) ∧ ds.length ≤ 70 ∧ ∀ c ∈ ds, c < 128 := by
  have hn : i.natAbs < 10 ^ 66 := by omega
  have hn2 : i.natAbs < 2 ^ 1000 := Nat.lt_trans hn (by decide +kernel)
  refine ⟨codesOf (toString i : String), ?_, ?_, fun c hc => ?_⟩
  · show (if i.natAbs < 2 ^ 1000 then some (D.str (codesOf (toString i : String))) else none) = _
    rw [if_pos hn2]
  · have := int_text_length_le10 (a := i) (k := 66) (by omega) hn
    rw [cdsStr, List.length_map, String.length_toList]
    omega
  · rw [cdsStr] at hc
    obtain ⟨x, hx, rfl⟩ := List.mem_map.mp hc
    exact PySem.int_ascii i x hx
theorem sIx_s {n d : Nat} {k : Int} (h : 0 ≤ k) : HT.sIx n d (some k) = min k.toNat n := by
  show (if k < 0 then _ else _) = _
  rw [if_neg (by omega)]
theorem cut_to {xs : List D} {k : Int} (h : 0 ≤ k) : cut xs none (some k) = xs.take k.toNat := by
  unfold cut
  rw [sIx_s h, HT.sIx_none, List.drop_zero, Nat.sub_zero, ← List.take_take, List.take_length]
theorem cut_from {xs : List D} {k : Int} (h : 0 ≤ k) : cut xs (some k) none = xs.drop k.toNat := by
  unfold cut
  rw [sIx_s h, HT.sIx_none]
  by_cases hk : k.toNat ≤ xs.length
  · rw [Nat.min_eq_left hk, List.take_of_length_le (by rw [List.length_drop]; omega)]
  · rw [List.drop_eq_nil_of_le (by omega), List.drop_eq_nil_of_le (by omega), List.take_nil]
/-! ### suites -/
section
variable {X : Cfg} {c : B} {a b r : Ts} {t : T} {ρ ρ' : Env} {S S1 S2 : Sto} {v : RV}
theorem if_rt (ht : tst X c ρ S = .ok true S1) (h : exs X a ρ S1 = .ok (.rt v) S2) : exs X (.cons (.ifs c a b) r) ρ S = .ok (.rt v) S2 := by
  simp only [xs_c, bind_ap, x_ifs, ht, h, pure_ap]
theorem if_rtF (ht : tst X c ρ S = .ok false S1) (h : exs X b ρ S1 = .ok (.rt v) S2) : exs X (.cons (.ifs c a b) r) ρ S = .ok (.rt v) S2 := by
  simp only [xs_c, bind_ap, x_ifs, ht, h, pure_ap]
theorem if_nx (ht : tst X c ρ S = .ok true S1) (h : exs X a ρ S1 = .ok (.nx ρ') S2) : exs X (.cons (.ifs c a b) r) ρ S = exs X r ρ' S2 := by
  simp only [xs_c, bind_ap, x_ifs, ht, h, pure_ap]
theorem if_nxF (ht : tst X c ρ S = .ok false S1) (h : exs X b ρ S1 = .ok (.nx ρ') S2) : exs X (.cons (.ifs c a b) r) ρ S = exs X r ρ' S2 := by
  simp only [xs_c, bind_ap, x_ifs, ht, h, pure_ap]
theorem st_nx (h : ex X t ρ S = .ok (.nx ρ') S1) : exs X (.cons t r) ρ S = exs X r ρ' S1 := by
  rw [xs_c, bind_ap, h]
theorem st_rt (h : ex X t ρ S = .ok (.rt v) S1) : exs X (.cons t r) ρ S = .ok (.rt v) S1 := by
  rw [xs_c, bind_ap, h]
  rfl
end
/-- a loop that always goes on -/
theorem fors_inv {X : Cfg} {t : Tg} {s : I} {b : Ts} {ρ : Env} {S S1 : Sto} {xs : List D} {P : Nat → Env → Sto → Prop} (hi : its X s ρ S = .ok xs S1) (h0 : P 0 (fixI s ρ) S1)
    (hs : ∀ (j : Nat) x ρ S, xs[j]? = some x → P j ρ S → ∃ ρ1, bindT t x ρ = some ρ1 ∧ ∃ ρ' S', exs X b ρ1 S = .ok (.nx ρ') S' ∧ P (j + 1) ρ' S') : ∃ ρ' S', ex X (.fors t s b) ρ S = .ok (.nx ρ') S' ∧ P xs.length ρ' S' := by
  obtain ⟨ρ', S', e, h⟩ := forL_inv (b := fun d ρ' => M.bind (M.opt (bindT t d ρ')) fun ρ'' => exs X b ρ'') (P := P) (xs := xs) (i := 0) h0 (fun j x ρ S hx hp => by
    rw [Nat.zero_add] at hp ⊢
    obtain ⟨ρ1, e1, ρ', S', e2, h2⟩ := hs j x ρ S hx hp
    refine ⟨ρ', S', ?_, h2⟩
    show M.bind (M.opt (bindT t x ρ)) _ S = _
    rw [bind_ap, e1]
    exact e2)
  rw [Nat.zero_add] at h
  refine ⟨ρ', S', ?_, h⟩
  rw [x_fors, bind_ap, hi]
  exact e
/-- xs = xs + [..] -/
theorem asg_app {X : Cfg} {i : Nat} {es : Es} {ρ : Env} {S S1 : Sto} {xs ys : List D} (hg : peekV ρ i = some (.lst xs)) (he : ev X (.lst es) ρ S = .ok (.lst ys) S1) (hl : xs.length + ys.length ≤ 16000000) :
    ex X (.asg i (.bin .add (.var i) (.lst es))) ρ S = .ok (.nx (ρ.set i (some (.val (.lst (xs ++ ys)))))) S1 := by
  have q : xs.length + ys.length ≤ LIM := Nat.le_trans hl (by decide)
  simp only [x_asg, bind_ap, e_bin, p_var, hg, opt_some, p_lst, he, add_ll, if_pos q, pure_ap]
@[simp] theorem rev_t2 (x y : D) (r : List D) : revD (.tup (x :: y :: r)) = some (.tup (x :: y :: r).reverse) := by
  show (if decide (2 ≤ (x :: y :: r).length) = true then some (D.tup (x :: y :: r).reverse) else none) = _
  rw [if_pos (decide_eq_true (by simp))]
theorem rngD_get {m : Int} {j : Nat} {x : D} (h : (rngD m)[j]? = some x) : x = .int j := by
  unfold rngD at h
  rw [List.getElem?_map] at h
  cases q : (List.range m.toNat)[j]? with
  | none =>
    rw [q] at h
    cases h
  | some k =>
    rw [q] at h
    obtain ⟨h1, h2⟩ := List.getElem?_eq_some_iff.mp q
    rw [List.getElem_range] at h2
    subst h2
    exact (Option.some.inj h).symm
end Ev

namespace Hd
open PySem PySem.Spec PyProof.Rows L2 Ev
def top (i : Nat) : Stmt := PySem.Challenge.pw_lockbooks_k01_locks_books_and_claims.main.body.getD i (.Pass ⟨0, 0, 0, 0⟩)
def mk (x : Str) (i : Nat) (ps : List Str) (N : List Str) (n : Nat) (b : Ts) : Df := ⟨x, x, defArgs (top i), defBody (top i), defScope (top i), N, ps, ⟨ps.length, n, b⟩⟩
/-- is_int -/
def b_is_int : Ts := .cons (.ret (.and (.isi (.var 0) [.int]) (.and (.not (.isi (.var 0) [.bool])) (.chn .le .le (.var 1) (.var 0) (.var 2))))) (.nil)
def d_is_int : Df := mk "is_int" 4 ["value", "low", "high"] ["value", "low", "high"] 3 b_is_int
/-- is_one_of -/
def b_is_one_of : Ts := .cons (.ret (.and (.isi (.var 0) [.str]) (.cmp .isin (.var 0) (.var 1)))) (.nil)
def d_is_one_of : Df := mk "is_one_of" 5 ["value", "words"] ["value", "words"] 2 b_is_one_of
/-- is_lock -/
def b_is_lock : Ts := .cons (.ifs (.or (.not (.e (.isi (.var 0) [.tup]))) (.cmp .ne (.blt .len (.cons (.var 0) .nil)) (.int 4))) (.cons (.ret (.bl false)) (.nil)) (.nil)) (.cons (.ifs (.or (.not (.e (.call 0 (.cons (.idx (.var 0) (.int 0)) (.cons (.int 1) (.cons (.int 4) .nil)))))) (.or (.not (.e (.call 0 (.cons (.idx (.var 0) (.int 1)) (.cons (.int 1) (.cons (.int 20) .nil)))))) (.not (.e (.call 0 (.cons (.idx (.var 0) (.int 2)) (.cons (.int 0) (.cons (.int 100) .nil)))))))) (.cons (.ret (.bl false)) (.nil)) (.nil)) (.cons (.ret (.and (.call 0 (.cons (.idx (.var 0) (.int 3)) (.cons (.int 0) (.cons (.int 10) .nil)))) (.cmp .le (.bin .mul (.idx (.var 0) (.int 0)) (.idx (.var 0) (.int 3))) (.idx (.var 0) (.int 2))))) (.nil)))
def d_is_lock : Df := mk "is_lock" 6 ["value"] ["value"] 1 b_is_lock
/-- is_entry -/
def b_is_entry : Ts := .cons (.ifs (.or (.not (.e (.isi (.var 0) [.tup]))) (.or (.not (.chn .le .le (.int 1) (.blt .len (.cons (.var 0) .nil)) (.int 3))) (.not (.e (.isi (.idx (.var 0) (.int 0)) [.str]))))) (.cons (.ret (.bl false)) (.nil)) (.nil)) (.cons (.ifs (.cmp .isin (.idx (.var 0) (.int 0)) (.tup (.cons (.str [116, 117, 114, 110]) (.cons (.str [111, 117, 116]) (.cons (.str [101, 110, 100]) .nil))))) (.cons (.ret (.cmp .eq (.blt .len (.cons (.var 0) .nil)) (.int 1))) (.nil)) (.nil)) (.cons (.ifs (.cmp .eq (.idx (.var 0) (.int 0)) (.str [105, 110])) (.cons (.ret (.and (.cmp .eq (.blt .len (.cons (.var 0) .nil)) (.int 2)) (.call 0 (.cons (.idx (.var 0) (.int 1)) (.cons (.int 1) (.cons (.int 4) .nil)))))) (.nil)) (.nil)) (.cons (.ifs (.cmp .eq (.idx (.var 0) (.int 0)) (.str [114, 101, 115, 116])) (.cons (.ret (.and (.cmp .eq (.blt .len (.cons (.var 0) .nil)) (.int 2)) (.call 0 (.cons (.idx (.var 0) (.int 1)) (.cons (.int 1) (.cons (.int 60) .nil)))))) (.nil)) (.nil)) (.cons (.ret (.and (.cmp .eq (.idx (.var 0) (.int 0)) (.str [103, 111])) (.and (.cmp .eq (.blt .len (.cons (.var 0) .nil)) (.int 3)) (.and (.call 1 (.cons (.idx (.var 0) (.int 1)) (.cons (.glo 1) .nil))) (.call 0 (.cons (.idx (.var 0) (.int 2)) (.cons (.int 0) (.cons (.bin .sub (.var 1) (.int 1)) .nil)))))))) (.nil)))))
def d_is_entry : Df := mk "is_entry" 7 ["value", "many"] ["value", "many"] 2 b_is_entry
/-- is_book -/
def b_is_book : Ts := .cons (.ifs (.or (.not (.e (.isi (.var 0) [.tup]))) (.or (.cmp .ne (.blt .len (.cons (.var 0) .nil)) (.int 2)) (.not (.e (.call 2 (.cons (.idx (.var 0) (.int 0)) .nil)))))) (.cons (.ret (.bl false)) (.nil)) (.nil)) (.cons (.ifs (.or (.not (.e (.isi (.idx (.var 0) (.int 1)) [.tup]))) (.not (.chn .le .le (.int 1) (.blt .len (.cons (.idx (.var 0) (.int 1)) .nil)) (.glo 0)))) (.cons (.ret (.bl false)) (.nil)) (.nil)) (.cons (.ret (.blt .all (.cons (.lc (.nm 1) (.seq (.idx (.var 0) (.int 1))) (.call 3 (.cons (.var 1) (.cons (.blt .len (.cons (.idx (.var 0) (.int 1)) .nil)) .nil))) [1]) .nil))) (.nil)))
def d_is_book : Df := mk "is_book" 8 ["value"] ["value", "entry"] 2 b_is_book
/-- is_claim -/
def b_is_claim : Ts := .cons (.ifs (.or (.not (.e (.isi (.var 0) [.tup]))) (.or (.cmp .ne (.blt .len (.cons (.var 0) .nil)) (.int 4)) (.not (.e (.call 1 (.cons (.idx (.var 0) (.int 0)) (.cons (.glo 2) .nil))))))) (.cons (.ret (.bl false)) (.nil)) (.nil)) (.cons (.ret (.and (.call 0 (.cons (.idx (.var 0) (.int 1)) (.cons (.int 0) (.cons (.int 100) .nil)))) (.and (.call 0 (.cons (.idx (.var 0) (.int 2)) (.cons (.int 0) (.cons (.int 100) .nil)))) (.call 0 (.cons (.idx (.var 0) (.int 3)) (.cons (.int 0) (.cons (.int 10000) .nil))))))) (.nil))
def d_is_claim : Df := mk "is_claim" 9 ["value"] ["value"] 1 b_is_claim
/-- _law_weir -/
def b__law_weir : Ts := .cons (.asg 2 (.bin .add (.bin .mul (.int 30011) (.var 1)) (.int 67))) (.cons (.ifs (.cmp .lt (.var 1) (.blt .len (.cons (.var 0) .nil))) (.cons (.asg 2 (.bin .mod (.blt .abs (.cons (.blt .int (.cons (.idx (.var 0) (.var 1)) .nil)) .nil)) (.bin .mul (.bin .mul (.bin .mul (.bin .pow (.int 10) (.int 60)) (.bin .pow (.int 10) (.int 60))) (.bin .pow (.int 10) (.int 60))) (.bin .pow (.int 10) (.int 60))))) (.nil)) (.cons (.ifs (.cmp .gt (.blt .len (.cons (.var 0) .nil)) (.int 0)) (.cons (.asg 2 (.bin .add (.var 2) (.bin .mod (.blt .abs (.cons (.blt .int (.cons (.idx (.var 0) (.int 0)) .nil)) .nil)) (.int 1000367)))) (.nil)) (.nil)) (.nil))) (.cons (.ret (.cell (.cons (.ife (.cmp .ge (.var 2) (.bin .pow (.int 10) (.int 18))) (.var 2) (.int 0)) (.cons (.bin .add (.bin .mod (.blt .int (.cons (.bin .add (.bin .add (.bin .mul (.bin .mod (.var 2) (.int 2147483003)) (.int 11)) (.bin .mul (.int 79) (.var 1))) (.int 37)) .nil)) (.int 2147483003)) (.int 1)) .nil)))) (.nil)))
def d__law_weir : Df := mk "_law_weir" 11 ["_law_script", "_law_k"] ["_law_script", "_law_k", "_law_cell"] 3 b__law_weir
def b__law_drop_1 : Ts := .cons (.setI 0 (.int 1) (.bin .mod (.blt .int (.cons (.bin .add (.bin .mul (.idx (.var 0) (.int 1)) (.int 23003)) (.int 89)) .nil)) (.int 2147483003))) (.cons (.asg 2 (.bin .add (.bin .mul (.var 2) (.int 8192)) (.bin .mod (.blt .int (.cons (.bin .fdiv (.idx (.var 0) (.int 1)) (.int 65629)) .nil)) (.int 8192)))) (.cons (.asg 3 (.bin .mul (.var 3) (.int 8192))) (.nil)))
/-- _law_drop -/
def b__law_drop : Ts := .cons (.ifs (.cmp .gt (.idx (.var 0) (.int 0)) (.int 0)) (.cons (.asg 2 (.bin .mod (.blt .int (.cons (.idx (.var 0) (.int 0)) .nil)) (.var 1))) (.cons (.setI 0 (.int 0) (.bin .fdiv (.idx (.var 0) (.int 0)) (.var 1))) (.cons (.ret (.var 2)) (.nil)))) (.nil)) (.cons (.unp (.tp (.cons (.nm 2) (.cons (.nm 3) (.nil)))) (.tup (.cons (.int 0) (.cons (.int 1) .nil)))) (.cons (.whl (.or (.cmp .lt (.var 3) (.var 1)) (.cmp .eq (.var 3) (.int 1))) b__law_drop_1) (.cons (.ret (.bin .mod (.blt .int (.cons (.var 2) .nil)) (.var 1))) (.nil))))
def d__law_drop : Df := mk "_law_drop" 12 ["_law_weir_here", "_law_many"] ["_law_weir_here", "_law_many", "_law_found", "_law_wide"] 4 b__law_drop
/-- _law_any -/
def b__law_any : Ts := .cons (.ret (.idx (.var 1) (.call 7 (.cons (.var 0) (.cons (.blt .len (.cons (.var 1) .nil)) .nil))))) (.nil)
def d__law_any : Df := mk "_law_any" 13 ["_law_weir_here", "_law_things"] ["_law_weir_here", "_law_things"] 2 b__law_any
/-- _law_one_entry -/
def b__law_one_entry : Ts := .cons (.asg 2 (.call 8 (.cons (.var 0) (.cons (.lst (.cons (.str [105, 110]) (.cons (.str [105, 110]) (.cons (.str [116, 117, 114, 110]) (.cons (.str [116, 117, 114, 110]) (.cons (.str [111, 117, 116]) (.cons (.str [111, 117, 116]) (.cons (.str [103, 111]) (.cons (.str [103, 111]) (.cons (.str [103, 111]) (.cons (.str [114, 101, 115, 116]) (.cons (.str [101, 110, 100]) .nil)))))))))))) .nil)))) (.cons (.ifs (.cmp .eq (.var 2) (.str [105, 110])) (.cons (.ret (.tup (.cons (.var 2) (.cons (.bin .add (.int 1) (.call 7 (.cons (.var 0) (.cons (.int 4) .nil)))) .nil)))) (.nil)) (.nil)) (.cons (.ifs (.cmp .eq (.var 2) (.str [114, 101, 115, 116])) (.cons (.ret (.tup (.cons (.var 2) (.cons (.call 8 (.cons (.var 0) (.cons (.lst (.cons (.int 1) (.cons (.int 2) (.cons (.int 7) (.cons (.int 60) .nil))))) .nil))) .nil)))) (.nil)) (.nil)) (.cons (.ifs (.cmp .eq (.var 2) (.str [103, 111])) (.cons (.asg 3 (.call 8 (.cons (.var 0) (.cons (.lst (.cons (.str [104, 101, 114, 101]) (.cons (.str [104, 101, 114, 101]) (.cons (.str [116, 104, 101, 114, 101]) (.cons (.str [116, 104, 101, 114, 101]) (.cons (.str [102, 117, 108, 108]) (.cons (.str [101, 109, 112, 116, 121]) (.cons (.str [104, 105, 103, 104]) (.cons (.str [97, 108, 119, 97, 121, 115]) .nil))))))))) .nil)))) (.cons (.ret (.tup (.cons (.var 2) (.cons (.var 3) (.cons (.call 7 (.cons (.var 0) (.cons (.var 1) .nil))) .nil))))) (.nil))) (.nil)) (.cons (.ret (.tup (.cons (.var 2) .nil))) (.nil)))))
def d__law_one_entry : Df := mk "_law_one_entry" 14 ["_law_weir_here", "_law_many"] ["_law_weir_here", "_law_many", "_law_word", "_law_test"] 4 b__law_one_entry
/-- _law_log_book -/
def b__law_log_book : Ts := .cons (.par2 4 5 (.call 8 (.cons (.var 0) (.cons (.lst (.cons (.int 1) (.cons (.int 1) (.cons (.int 2) (.cons (.int 3) (.cons (.int 4) .nil)))))) .nil))) (.call 7 (.cons (.var 0) (.cons (.int 4) .nil)))) (.cons (.asg 1 (.tup (.cons (.var 4) (.cons (.bin .add (.int 1) (.call 7 (.cons (.var 0) (.cons (.int 6) .nil)))) (.cons (.bin .add (.bin .mul (.var 4) (.var 5)) (.call 7 (.cons (.var 0) (.cons (.int 9) .nil)))) (.cons (.var 5) .nil)))))) (.cons (.asg 2 (.bin .add (.int 1) (.call 7 (.cons (.var 0) (.cons (.int 8) .nil))))) (.cons (.asg 3 (.blt .tuple (.cons (.lc (.nm 8) (.rng (.var 2)) (.call 9 (.cons (.var 0) (.cons (.var 2) .nil))) [8]) .nil))) (.cons (.ifs (.cmp .gt (.call 7 (.cons (.var 0) (.cons (.int 3) .nil))) (.int 0)) (.cons (.asg 6 (.lst (.cons (.tup (.cons (.str [105, 110]) (.cons (.bin .add (.int 1) (.call 7 (.cons (.var 0) (.cons (.int 3) .nil)))) .nil))) (.cons (.tup (.cons (.str [116, 117, 114, 110]) .nil)) (.cons (.tup (.cons (.str [111, 117, 116]) .nil)) .nil))))) (.cons (.asg 3 (.blt .tuple (.cons (.bin .add (.bin .add (.var 6) (.var 6)) (.lst (.cons (.tup (.cons (.str [103, 111]) (.cons (.str [104, 101, 114, 101]) (.cons (.int 0) .nil)))) (.cons (.tup (.cons (.str [103, 111]) (.cons (.str [116, 104, 101, 114, 101]) (.cons (.call 7 (.cons (.var 0) (.cons (.int 4) .nil))) .nil)))) .nil)))) .nil))) (.cons (.ifs (.cmp .eq (.call 7 (.cons (.var 0) (.cons (.int 2) .nil))) (.int 0)) (.cons (.asg 7 (.call 7 (.cons (.var 0) (.cons (.int 8) .nil)))) (.cons (.asg 3 (.bin .add (.bin .add (.slU (.var 3) (.var 7)) (.tup (.cons (.call 9 (.cons (.var 0) (.cons (.int 8) .nil))) .nil))) (.slL (.var 3) (.bin .add (.var 7) (.int 1))))) (.nil))) (.nil)) (.nil)))) (.nil)) (.cons (.ret (.tup (.cons (.var 1) (.cons (.var 3) .nil)))) (.nil))))))
def d__law_log_book : Df := mk "_law_log_book" 15 ["_law_weir_here"] ["_law_weir_here", "_law_lock", "_law_many", "_law_entries_so", "_law_room", "_law_less", "_law_side", "_law_spot", "_law_turn"] 9 b__law_log_book
/-- _law_is_whole -/
def b__law_is_whole : Ts := .cons (.ret (.and (.isi (.var 0) [.int]) (.and (.not (.isi (.var 0) [.bool])) (.chn .le .le (.var 1) (.var 0) (.var 2))))) (.nil)
def d__law_is_whole : Df := mk "_law_is_whole" 16 ["_law_thing", "_law_low", "_law_high"] ["_law_thing", "_law_low", "_law_high"] 3 b__law_is_whole
/-- _law_is_lock -/
def b__law_is_lock : Ts := .cons (.ifs (.or (.not (.e (.isi (.var 0) [.tup]))) (.cmp .ne (.blt .len (.cons (.var 0) .nil)) (.int 4))) (.cons (.ret (.bl false)) (.nil)) (.nil)) (.cons (.asg 1 (.tup (.cons (.int 4) (.cons (.int 20) (.cons (.int 100) (.cons (.int 10) .nil)))))) (.cons (.ifs (.cmp .ne (.lcf (.nm 2) (.rng (.int 4)) (.not (.e (.call 11 (.cons (.idx (.var 0) (.var 2)) (.cons (.ife (.cmp .gt (.var 2) (.int 1)) (.int 0) (.int 1)) (.cons (.idx (.var 1) (.var 2)) .nil)))))) (.var 2) [2]) (.lst (.nil))) (.cons (.ret (.bl false)) (.nil)) (.nil)) (.cons (.ret (.cmp .le (.bin .mul (.idx (.var 0) (.int 0)) (.idx (.var 0) (.int 3))) (.idx (.var 0) (.int 2)))) (.nil))))
def d__law_is_lock : Df := mk "_law_is_lock" 17 ["_law_thing"] ["_law_thing", "_law_tops", "_law_place"] 3 b__law_is_lock
/-- _law_is_entry -/
def b__law_is_entry : Ts := .cons (.ifs (.or (.not (.e (.isi (.var 0) [.tup]))) (.or (.cmp .eq (.var 0) (.tup (.nil))) (.not (.e (.isi (.idx (.var 0) (.int 0)) [.str]))))) (.cons (.ret (.bl false)) (.nil)) (.nil)) (.cons (.ifs (.cmp .isin (.idx (.var 0) (.int 0)) (.tup (.cons (.str [116, 117, 114, 110]) (.cons (.str [111, 117, 116]) (.cons (.str [101, 110, 100]) .nil))))) (.cons (.ret (.cmp .eq (.blt .len (.cons (.var 0) .nil)) (.int 1))) (.nil)) (.nil)) (.cons (.ifs (.cmp .isin (.idx (.var 0) (.int 0)) (.tup (.cons (.str [105, 110]) (.cons (.str [114, 101, 115, 116]) .nil)))) (.cons (.ret (.and (.cmp .eq (.blt .len (.cons (.var 0) .nil)) (.int 2)) (.call 11 (.cons (.idx (.var 0) (.int 1)) (.cons (.int 1) (.cons (.ife (.cmp .eq (.idx (.var 0) (.int 0)) (.str [105, 110])) (.int 4) (.int 60)) .nil)))))) (.nil)) (.nil)) (.cons (.ifs (.or (.cmp .ne (.idx (.var 0) (.int 0)) (.str [103, 111])) (.or (.cmp .ne (.blt .len (.cons (.var 0) .nil)) (.int 3)) (.not (.e (.isi (.idx (.var 0) (.int 1)) [.str]))))) (.cons (.ret (.bl false)) (.nil)) (.nil)) (.cons (.asg 2 (.lst (.cons (.str [97, 108, 119, 97, 121, 115]) (.cons (.str [104, 101, 114, 101]) (.cons (.str [116, 104, 101, 114, 101]) (.cons (.str [102, 117, 108, 108]) (.cons (.str [101, 109, 112, 116, 121]) (.cons (.str [104, 105, 103, 104]) .nil)))))))) (.cons (.ret (.and (.cmp .isin (.idx (.var 0) (.int 1)) (.var 2)) (.call 11 (.cons (.idx (.var 0) (.int 2)) (.cons (.int 0) (.cons (.bin .sub (.var 1) (.int 1)) .nil)))))) (.nil))))))
def d__law_is_entry : Df := mk "_law_is_entry" 18 ["_law_thing", "_law_many"] ["_law_thing", "_law_many", "_law_tests_so"] 3 b__law_is_entry
/-- _law_is_book -/
def b__law_is_book : Ts := .cons (.ifs (.or (.not (.e (.isi (.var 0) [.tup]))) (.or (.cmp .ne (.blt .len (.cons (.var 0) .nil)) (.int 2)) (.not (.e (.call 12 (.cons (.idx (.var 0) (.int 0)) .nil)))))) (.cons (.ret (.bl false)) (.nil)) (.nil)) (.cons (.ifs (.or (.not (.e (.isi (.idx (.var 0) (.int 1)) [.tup]))) (.not (.chn .le .le (.int 1) (.blt .len (.cons (.idx (.var 0) (.int 1)) .nil)) (.int 8)))) (.cons (.ret (.bl false)) (.nil)) (.nil)) (.cons (.ret (.cmp .eq (.lcf (.nm 1) (.seq (.idx (.var 0) (.int 1))) (.not (.e (.call 13 (.cons (.var 1) (.cons (.blt .len (.cons (.idx (.var 0) (.int 1)) .nil)) .nil))))) (.var 1) [1]) (.lst (.nil)))) (.nil)))
def d__law_is_book : Df := mk "_law_is_book" 19 ["_law_thing"] ["_law_thing", "_law_entry"] 2 b__law_is_book
/-- _law_is_claim -/
def b__law_is_claim : Ts := .cons (.ifs (.or (.not (.e (.isi (.var 0) [.tup]))) (.or (.cmp .ne (.blt .len (.cons (.var 0) .nil)) (.int 4)) (.not (.e (.isi (.idx (.var 0) (.int 0)) [.str]))))) (.cons (.ret (.bl false)) (.nil)) (.nil)) (.cons (.ifs (.or (.cmp .notin (.idx (.var 0) (.int 0)) (.tup (.cons (.str [109, 105, 110, 117, 116, 101, 115]) (.cons (.str [119, 97, 116, 101, 114]) .nil)))) (.not (.e (.call 11 (.cons (.idx (.var 0) (.int 3)) (.cons (.int 0) (.cons (.int 10000) .nil))))))) (.cons (.ret (.bl false)) (.nil)) (.nil)) (.cons (.ret (.and (.call 11 (.cons (.idx (.var 0) (.int 1)) (.cons (.int 0) (.cons (.int 100) .nil)))) (.call 11 (.cons (.idx (.var 0) (.int 2)) (.cons (.int 0) (.cons (.int 100) .nil)))))) (.nil)))
def d__law_is_claim : Df := mk "_law_is_claim" 20 ["_law_thing"] ["_law_thing"] 1 b__law_is_claim
/-- _law_stuff -/
def b__law_stuff : Ts := .cons (.ifs (.or (.cmp .eq (.var 1) (.int 0)) (.cmp .lt (.call 7 (.cons (.var 0) (.cons (.int 9) .nil))) (.int 6))) (.cons (.asg 3 (.lst (.cons (.int 0) (.cons (.int 1) (.cons (.int 2) (.cons (.int 4) (.cons (.int 5) (.cons (.int 8) (.cons (.int 20) (.cons (.int 60) (.cons (.int 61) (.cons (.neg (.int 1)) (.cons (.bl true) (.cons (.bl false) (.cons (.non) (.cons (.str []) (.cons (.str [105, 110]) (.cons (.str [103, 111]) (.cons (.str [104, 101, 114, 101]) (.cons (.bin .pow (.int 10) (.int 38)) (.cons (.tup (.nil)) (.cons (.lst (.nil)) .nil)))))))))))))))))))))) (.cons (.ret (.call 8 (.cons (.var 0) (.cons (.bin .add (.var 3) (.lst (.cons (.tup (.cons (.str [116, 117, 114, 110]) .nil)) (.cons (.tup (.cons (.str [105, 110]) (.cons (.int 1) .nil))) (.cons (.tup (.cons (.str [103, 111]) (.cons (.str [104, 105, 103, 104]) (.cons (.int 0) .nil)))) (.cons (.tup (.cons (.int 1) (.cons (.int 5) (.cons (.int 10) (.cons (.int 2) .nil))))) .nil)))))) .nil)))) (.nil))) (.nil)) (.cons (.asg 2 (.lc (.nm 4) (.rng (.call 7 (.cons (.var 0) (.cons (.int 4) .nil)))) (.call 16 (.cons (.var 0) (.cons (.bin .sub (.var 1) (.int 1)) .nil))) [4])) (.cons (.ret (.ife (.cmp .eq (.call 7 (.cons (.var 0) (.cons (.int 3) .nil))) (.int 0)) (.var 2) (.blt .tuple (.cons (.var 2) .nil)))) (.nil)))
def d__law_stuff : Df := mk "_law_stuff" 21 ["_law_weir_here", "_law_deep"] ["_law_weir_here", "_law_deep", "_law_row", "_law_some", "_law_turn"] 5 b__law_stuff
/-- _law_shaken -/
def b__law_shaken : Ts := .cons (.ifs (.or (.not (.e (.isi (.var 1) [.tup, .lst]))) (.or (.cmp .eq (.blt .len (.cons (.var 1) .nil)) (.int 0)) (.cmp .eq (.call 7 (.cons (.var 0) (.cons (.int 8) .nil))) (.int 0)))) (.cons (.asg 3 (.lst (.cons (.call 16 (.cons (.var 0) (.cons (.int 2) .nil))) .nil))) (.cons (.ifs (.e (.isi (.var 1) [.str])) (.cons (.asg 3 (.bin .add (.var 3) (.lst (.cons (.str [105, 110]) (.cons (.str [111, 117, 116]) (.cons (.str [116, 117, 114, 110]) (.cons (.str [101, 110, 100]) (.cons (.str [114, 101, 115, 116]) (.cons (.str [116, 104, 101, 114, 101]) (.cons (.bin .add (.var 1) (.str [115])) (.cons (.upper (.var 1)) .nil))))))))))) (.nil)) (.cons (.ifs (.e (.isi (.var 1) [.int])) (.cons (.asg 3 (.bin .add (.var 3) (.lst (.cons (.bin .add (.var 1) (.int 1)) (.cons (.bin .sub (.var 1) (.int 1)) (.cons (.not (.var 1)) (.cons (.blt .str (.cons (.var 1) .nil)) (.cons (.bin .add (.var 1) (.int 60)) .nil)))))))) (.nil)) (.nil)) (.nil))) (.cons (.ret (.call 8 (.cons (.var 0) (.cons (.var 3) .nil)))) (.nil)))) (.nil)) (.cons (.par3 4 5 6 true (.blt .list (.cons (.var 1) .nil)) (.call 7 (.cons (.var 0) (.cons (.blt .len (.cons (.var 1) .nil)) .nil))) (.call 7 (.cons (.var 0) (.cons (.int 9) .nil)))) (.cons (.ifs (.cmp .eq (.var 6) (.int 0)) (.cons (.asgO 4 (.bin .add (.slU (.var 4) (.var 5)) (.slL (.var 4) (.bin .add (.var 5) (.int 1))))) (.nil)) (.cons (.ifs (.cmp .eq (.var 6) (.int 1)) (.cons (.asgO 4 (.bin .add (.slU (.var 4) (.bin .add (.var 5) (.int 1))) (.slL (.var 4) (.var 5)))) (.nil)) (.cons (.ifs (.cmp .eq (.var 6) (.int 2)) (.cons (.asgO 4 (.rev (.var 4))) (.nil)) (.cons (.ifs (.cmp .eq (.var 6) (.int 3)) (.cons (.ret (.ife (.e (.isi (.var 1) [.tup])) (.var 4) (.blt .tuple (.cons (.var 4) .nil)))) (.nil)) (.cons (.setI 4 (.var 5) (.ife (.cmp .gt (.var 2) (.int 0)) (.call 17 (.cons (.var 0) (.cons (.idx (.var 4) (.var 5)) (.cons (.bin .sub (.var 2) (.int 1)) .nil)))) (.call 16 (.cons (.var 0) (.cons (.int 1) .nil))))) (.nil))) (.nil))) (.nil))) (.nil))) (.cons (.ret (.ife (.e (.isi (.var 1) [.tup])) (.blt .tuple (.cons (.var 4) .nil)) (.var 4))) (.nil))))
def d__law_shaken : Df := mk "_law_shaken" 22 ["_law_weir_here", "_law_thing", "_law_deep"] ["_law_weir_here", "_law_thing", "_law_deep", "_law_near", "_law_row", "_law_k", "_law_way"] 7 b__law_shaken
/-- _law_is_told -/
def b__law_is_told : Ts := .cons (.ret (.and (.isi (.var 0) [.bool]) (.cmp .eq (.var 0) (.var 1)))) (.nil)
def d__law_is_told : Df := mk "_law_is_told" 23 ["_law_found", "_law_due"] ["_law_found", "_law_due"] 2 b__law_is_told
def b_law_1 : Ts := .cons (.ifs (.not (.e (.call 18 (.cons (.call 2 (.cons (.var 6) .nil)) (.cons (.call 12 (.cons (.var 6) .nil)) .nil))))) (.cons (.ret (.bl false)) (.nil)) (.nil)) (.cons (.ifs (.not (.e (.call 18 (.cons (.call 4 (.cons (.var 6) .nil)) (.cons (.call 14 (.cons (.var 6) .nil)) .nil))))) (.cons (.ret (.bl false)) (.nil)) (.nil)) (.cons (.ifs (.not (.e (.call 18 (.cons (.call 5 (.cons (.var 6) .nil)) (.cons (.call 15 (.cons (.var 6) .nil)) .nil))))) (.cons (.ret (.bl false)) (.nil)) (.nil)) (.nil)))
def b_law_2 : Ts := .cons (.asg 5 (.bin .add (.var 5) (.lst (.cons (.tup (.cons (.var 7) (.cons (.int 5) (.cons (.int 100) (.cons (.int 2) .nil))))) (.cons (.tup (.cons (.int 1) (.cons (.var 7) (.cons (.int 10) (.cons (.int 2) .nil))))) (.cons (.tup (.cons (.int 1) (.cons (.int 5) (.cons (.var 7) (.cons (.int 0) .nil))))) (.cons (.tup (.cons (.int 1) (.cons (.int 5) (.cons (.int 10) (.cons (.var 7) .nil))))) .nil))))))) (.cons (.asg 5 (.bin .add (.var 5) (.lst (.cons (.tup (.cons (.tup (.cons (.int 1) (.cons (.int 5) (.cons (.int 10) (.cons (.int 2) .nil))))) (.cons (.tup (.cons (.tup (.cons (.str [105, 110]) (.cons (.var 7) .nil))) .nil)) .nil))) (.cons (.tup (.cons (.tup (.cons (.int 1) (.cons (.int 5) (.cons (.int 10) (.cons (.int 2) .nil))))) (.cons (.tup (.cons (.tup (.cons (.str [114, 101, 115, 116]) (.cons (.var 7) .nil))) .nil)) .nil))) .nil))))) (.cons (.asg 5 (.bin .add (.var 5) (.lst (.cons (.tup (.cons (.tup (.cons (.int 1) (.cons (.int 5) (.cons (.int 10) (.cons (.int 2) .nil))))) (.cons (.tup (.cons (.tup (.cons (.str [103, 111]) (.cons (.str [104, 101, 114, 101]) (.cons (.var 7) .nil)))) (.cons (.tup (.cons (.str [101, 110, 100]) .nil)) .nil))) .nil))) .nil)))) (.cons (.asg 5 (.bin .add (.var 5) (.lst (.cons (.tup (.cons (.str [109, 105, 110, 117, 116, 101, 115]) (.cons (.var 7) (.cons (.int 0) (.cons (.var 7) .nil))))) .nil)))) (.cons (.asg 5 (.bin .add (.var 5) (.lst (.cons (.tup (.cons (.str [119, 97, 116, 101, 114]) (.cons (.int 0) (.cons (.var 7) (.cons (.int 0) .nil))))) (.cons (.tup (.cons (.str [119, 97, 116, 101, 114]) (.cons (.int 0) (.cons (.int 0) (.cons (.var 7) .nil))))) .nil))))) (.nil)))))
def b_law_3 : Ts := .cons (.asg 10 (.call 17 (.cons (.var 2) (.cons (.var 6) (.cons (.int 4) .nil))))) (.cons (.asg 5 (.bin .add (.var 5) (.lst (.cons (.var 10) (.cons (.call 17 (.cons (.var 2) (.cons (.var 10) (.cons (.int 4) .nil)))) (.cons (.call 17 (.cons (.var 2) (.cons (.var 6) (.cons (.int 4) .nil)))) .nil)))))) (.nil))
def b_law_4 : Ts := .cons (.asg 2 (.call 6 (.cons (.var 0) (.cons (.var 1) .nil)))) (.cons (.asg 3 (.call 10 (.cons (.var 2) .nil))) (.cons (.par2 8 9 (.call 7 (.cons (.var 2) (.cons (.int 101) .nil))) (.call 7 (.cons (.var 2) (.cons (.int 101) .nil)))) (.cons (.asg 4 (.tup (.cons (.call 8 (.cons (.var 2) (.cons (.lst (.cons (.str [109, 105, 110, 117, 116, 101, 115]) (.cons (.str [119, 97, 116, 101, 114]) .nil))) .nil))) (.cons (.var 8) (.cons (.var 9) (.cons (.call 7 (.cons (.var 2) (.cons (.int 10001) .nil))) .nil)))))) (.cons (.asg 5 (.lst (.cons (.var 3) (.cons (.idx (.var 3) (.int 0)) (.cons (.idx (.var 3) (.int 1)) (.cons (.var 4) (.cons (.blt .list (.cons (.var 3) .nil)) (.cons (.blt .list (.cons (.var 4) .nil)) (.cons (.rev (.var 3)) (.cons (.bin .add (.var 4) (.tup (.cons (.int 0) .nil))) .nil)))))))))) (.cons (.fors (.nm 6) (.seq (.lst (.cons (.var 3) (.cons (.var 3) (.cons (.var 3) (.cons (.idx (.var 3) (.int 0)) (.cons (.var 4) (.cons (.var 4) .nil)))))))) b_law_3) (.cons (.fors (.nm 7) (.seq (.lst (.cons (.neg (.int 1)) (.cons (.int 0) (.cons (.int 1) (.cons (.int 4) (.cons (.int 5) (.cons (.int 10) (.cons (.int 11) (.cons (.int 20) (.cons (.int 21) (.cons (.int 60) (.cons (.int 61) (.cons (.int 100) (.cons (.int 101) (.cons (.int 10000) (.cons (.int 10001) (.cons (.bl true) (.cons (.non) .nil))))))))))))))))))) b_law_2) (.cons (.asg 5 (.bin .add (.var 5) (.lst (.cons (.tup (.cons (.tup (.cons (.int 1) (.cons (.int 5) (.cons (.int 10) (.cons (.int 2) .nil))))) (.cons (.bin .mul (.tup (.cons (.tup (.cons (.str [116, 117, 114, 110]) .nil)) .nil)) (.int 8)) .nil))) (.cons (.tup (.cons (.tup (.cons (.int 1) (.cons (.int 5) (.cons (.int 10) (.cons (.int 2) .nil))))) (.cons (.bin .mul (.tup (.cons (.tup (.cons (.str [116, 117, 114, 110]) .nil)) .nil)) (.int 9)) .nil))) (.cons (.tup (.cons (.tup (.cons (.int 1) (.cons (.int 5) (.cons (.int 10) (.cons (.int 2) .nil))))) (.cons (.tup (.nil)) .nil))) .nil)))))) (.cons (.fors (.nm 6) (.seq (.bin .add (.var 5) (.lst (.cons (.tup (.cons (.int 2) (.cons (.int 5) (.cons (.int 10) (.cons (.int 5) .nil))))) (.cons (.tup (.cons (.int 2) (.cons (.int 5) (.cons (.int 9) (.cons (.int 5) .nil))))) (.cons (.call 16 (.cons (.var 2) (.cons (.int 3) .nil))) .nil)))))) b_law_1) (.nil)))))))))
/-- law -/
def b_law : Ts := .cons (.fors (.nm 1) (.rng (.blt .max2 (.cons (.int 1) (.cons (.blt .min2 (.cons (.int 10) (.cons (.blt .len (.cons (.var 0) .nil)) .nil))) .nil)))) b_law_4) (.cons (.ret (.bl true)) (.nil))
def d_law : Df := mk "law" 24 ["_law_script"] ["_law_script", "_law_k", "_law_weir_here", "_law_log_book_here", "_law_claim", "_law_things", "_law_thing", "_law_amount", "_law_each", "_law_other", "_law_first_so"] 11 b_law
def tab : List Df := ([d_is_int, d_is_one_of, d_is_lock, d_is_entry, d_is_book, d_is_claim, d__law_weir, d__law_drop, d__law_any, d__law_one_entry, d__law_log_book, d__law_is_whole, d__law_is_lock, d__law_is_entry, d__law_is_book, d__law_is_claim, d__law_stuff, d__law_shaken, d__law_is_told, d_law] : List Df)
def cs : List Gk := ([⟨"MOST_ENTRIES", .int (8)⟩, ⟨"TESTS", .tup [.str "always", .str "here", .str "there", .str "full", .str "empty", .str "high"]⟩, ⟨"MEASURES", .tup [.str "minutes", .str "water"]⟩] : List Gk)
def loose : List Str := (["MOST_ENTRIES", "TESTS", "MEASURES", "is_int", "is_one_of", "is_lock", "is_entry", "is_book", "is_claim", "_law_weir", "_law_drop", "_law_any", "_law_one_entry", "_law_log_book", "_law_is_whole", "_law_is_lock", "_law_is_entry", "_law_is_book", "_law_is_claim", "_law_stuff", "_law_shaken", "_law_is_told"] : List Str)
theorem cs_good : cs.all (fun g => g.val.ok) = true := by decide +kernel
theorem tab_good : tab.all (Df.ok (tab.map (·.name)) (cs.map (·.name))) = true := by decide +kernel
abbrev R : PySem.W.OpenRow := PySem.W.OpenLaw.row PySem.Challenge.rw_lockbooks_k01_locks_books_and_claims
abbrev hk : PySem.W.Hook := He.hookX 5 (fasOf tab cs) (tab.map Df.hd) [] [] (exOf cs)
def ob (s : PySem.W.SharedT) : He.AlX := He.obsX 5 (fasOf tab cs) (tab.map Df.hd) [] [] (exOf cs) (HandSHeadRun.getT s)
theorem ob_eq (s : PySem.W.SharedT) : ob s = hk.obs s.abs := He.obsX_eq (HandSHeadRun.getT_eq s)
theorem run (w : World) : HandSHeadRun.RunEq R (PySem.W.view R.prog [24]) hk ob 1500 loose w := by
  intro os
  kernel_rfl
end Hd
namespace Hd
open PySem Ev
def GG : List D := cs.map fun g => g.val.d
abbrev C (n : Nat) : Calls := callN (tab.map Df.fd) GG 1000 n
abbrev X (n : Nat) : Cfg := ⟨GG, C n, 1000⟩
theorem c_is_int (n : Nat) (a0 a1 a2 : D) (S : Sto) : C (n+1) 0 [a0, a1, a2] S = (match exs (X n) b_is_int [some (.val a0), some (.val a1), some (.val a2)] S with | .stk => .stk | .ok fl S' => .ok (fin fl) S') := callN_succ (fd := d_is_int.fd) rfl rfl
theorem c_is_one_of (n : Nat) (a0 a1 : D) (S : Sto) : C (n+1) 1 [a0, a1] S = (match exs (X n) b_is_one_of [some (.val a0), some (.val a1)] S with | .stk => .stk | .ok fl S' => .ok (fin fl) S') := callN_succ (fd := d_is_one_of.fd) rfl rfl
theorem c_is_lock (n : Nat) (a0 : D) (S : Sto) : C (n+1) 2 [a0] S = (match exs (X n) b_is_lock [some (.val a0)] S with | .stk => .stk | .ok fl S' => .ok (fin fl) S') := callN_succ (fd := d_is_lock.fd) rfl rfl
theorem c_is_entry (n : Nat) (a0 a1 : D) (S : Sto) : C (n+1) 3 [a0, a1] S = (match exs (X n) b_is_entry [some (.val a0), some (.val a1)] S with | .stk => .stk | .ok fl S' => .ok (fin fl) S') := callN_succ (fd := d_is_entry.fd) rfl rfl
theorem c_is_book (n : Nat) (a0 : D) (S : Sto) : C (n+1) 4 [a0] S = (match exs (X n) b_is_book [some (.val a0), none] S with | .stk => .stk | .ok fl S' => .ok (fin fl) S') := callN_succ (fd := d_is_book.fd) rfl rfl
theorem c_is_claim (n : Nat) (a0 : D) (S : Sto) : C (n+1) 5 [a0] S = (match exs (X n) b_is_claim [some (.val a0)] S with | .stk => .stk | .ok fl S' => .ok (fin fl) S') := callN_succ (fd := d_is_claim.fd) rfl rfl
theorem c__law_weir (n : Nat) (a0 a1 : D) (S : Sto) : C (n+1) 6 [a0, a1] S = (match exs (X n) b__law_weir [some (.val a0), some (.val a1), none] S with | .stk => .stk | .ok fl S' => .ok (fin fl) S') := callN_succ (fd := d__law_weir.fd) rfl rfl
theorem c__law_drop (n : Nat) (a0 a1 : D) (S : Sto) : C (n+1) 7 [a0, a1] S = (match exs (X n) b__law_drop [some (.val a0), some (.val a1), none, none] S with | .stk => .stk | .ok fl S' => .ok (fin fl) S') := callN_succ (fd := d__law_drop.fd) rfl rfl
theorem c__law_any (n : Nat) (a0 a1 : D) (S : Sto) : C (n+1) 8 [a0, a1] S = (match exs (X n) b__law_any [some (.val a0), some (.val a1)] S with | .stk => .stk | .ok fl S' => .ok (fin fl) S') := callN_succ (fd := d__law_any.fd) rfl rfl
theorem c__law_one_entry (n : Nat) (a0 a1 : D) (S : Sto) : C (n+1) 9 [a0, a1] S = (match exs (X n) b__law_one_entry [some (.val a0), some (.val a1), none, none] S with | .stk => .stk | .ok fl S' => .ok (fin fl) S') := callN_succ (fd := d__law_one_entry.fd) rfl rfl
theorem c__law_log_book (n : Nat) (a0 : D) (S : Sto) : C (n+1) 10 [a0] S = (match exs (X n) b__law_log_book [some (.val a0), none, none, none, none, none, none, none, none] S with | .stk => .stk | .ok fl S' => .ok (fin fl) S') := callN_succ (fd := d__law_log_book.fd) rfl rfl
theorem c__law_is_whole (n : Nat) (a0 a1 a2 : D) (S : Sto) : C (n+1) 11 [a0, a1, a2] S = (match exs (X n) b__law_is_whole [some (.val a0), some (.val a1), some (.val a2)] S with | .stk => .stk | .ok fl S' => .ok (fin fl) S') := callN_succ (fd := d__law_is_whole.fd) rfl rfl
theorem c__law_is_lock (n : Nat) (a0 : D) (S : Sto) : C (n+1) 12 [a0] S = (match exs (X n) b__law_is_lock [some (.val a0), none, none] S with | .stk => .stk | .ok fl S' => .ok (fin fl) S') := callN_succ (fd := d__law_is_lock.fd) rfl rfl
theorem c__law_is_entry (n : Nat) (a0 a1 : D) (S : Sto) : C (n+1) 13 [a0, a1] S = (match exs (X n) b__law_is_entry [some (.val a0), some (.val a1), none] S with | .stk => .stk | .ok fl S' => .ok (fin fl) S') := callN_succ (fd := d__law_is_entry.fd) rfl rfl
theorem c__law_is_book (n : Nat) (a0 : D) (S : Sto) : C (n+1) 14 [a0] S = (match exs (X n) b__law_is_book [some (.val a0), none] S with | .stk => .stk | .ok fl S' => .ok (fin fl) S') := callN_succ (fd := d__law_is_book.fd) rfl rfl
theorem c__law_is_claim (n : Nat) (a0 : D) (S : Sto) : C (n+1) 15 [a0] S = (match exs (X n) b__law_is_claim [some (.val a0)] S with | .stk => .stk | .ok fl S' => .ok (fin fl) S') := callN_succ (fd := d__law_is_claim.fd) rfl rfl
theorem c__law_stuff (n : Nat) (a0 a1 : D) (S : Sto) : C (n+1) 16 [a0, a1] S = (match exs (X n) b__law_stuff [some (.val a0), some (.val a1), none, none, none] S with | .stk => .stk | .ok fl S' => .ok (fin fl) S') := callN_succ (fd := d__law_stuff.fd) rfl rfl
theorem c__law_shaken (n : Nat) (a0 a1 a2 : D) (S : Sto) : C (n+1) 17 [a0, a1, a2] S = (match exs (X n) b__law_shaken [some (.val a0), some (.val a1), some (.val a2), none, none, none, none] S with | .stk => .stk | .ok fl S' => .ok (fin fl) S') := callN_succ (fd := d__law_shaken.fd) rfl rfl
theorem c__law_is_told (n : Nat) (a0 a1 : D) (S : Sto) : C (n+1) 18 [a0, a1] S = (match exs (X n) b__law_is_told [some (.val a0), some (.val a1)] S with | .stk => .stk | .ok fl S' => .ok (fin fl) S') := callN_succ (fd := d__law_is_told.fd) rfl rfl
theorem c_law (n : Nat) (a0 : D) (S : Sto) : C (n+1) 19 [a0] S = (match exs (X n) b_law [some (.val a0), none, none, none, none, none, none, none, none, none, none] S with | .stk => .stk | .ok fl S' => .ok (fin fl) S') := callN_succ (fd := d_law.fd) rfl rfl
@[simp] theorem g_0 : GG[0]? = some (.int (8)) := rfl
@[simp] theorem g_1 : GG[1]? = some (.tup [.str [97, 108, 119, 97, 121, 115], .str [104, 101, 114, 101], .str [116, 104, 101, 114, 101], .str [102, 117, 108, 108], .str [101, 109, 112, 116, 121], .str [104, 105, 103, 104]]) := rfl
@[simp] theorem g_2 : GG[2]? = some (.tup [.str [109, 105, 110, 117, 116, 101, 115], .str [119, 97, 116, 101, 114]]) := rfl
end Hd
namespace Hd
open PySem Ev
local macro_rules
  | `(tactic| trivial) => `(tactic| simp [*])
def isI (d : D) (lo hi : Int) : Bool := match d with
  | .int i => decide (lo ≤ i) && decide (i ≤ hi)
  | _ => false
theorem isI_i (i lo hi : Int) : isI (.int i) lo hi = (decide (lo ≤ i) && decide (i ≤ hi)) := rfl
theorem isI_T {d : D} {lo hi : Int} (h : isI d lo hi = true) : ∃ i, d = .int i ∧ lo ≤ i ∧ i ≤ hi := by
  cases d <;> first | (cases h; done) | skip
  case int i =>
    rw [isI_i, Bool.and_eq_true, decide_eq_true_eq, decide_eq_true_eq] at h
    exact ⟨i, rfl, h⟩
@[simp] theorem is_int_ok (n : Nat) (d : D) (lo hi : Int) (S : Sto) (h : d.isiOk = true) : C (n+1) 0 [d, .int lo, .int hi] S = .ok (.val (.bl (isI d lo hi))) S := by
  rw [c_is_int, b_is_int]
  cases d <;> first | (cases h; done) | skip
  case int i =>
    rw [isI_i]
    by_cases h1 : lo ≤ i <;> by_cases h2 : i ≤ hi <;> trivial
  all_goals
    rw [show isI _ lo hi = false from rfl]
    trivial
def isS (d : D) (ws : List D) : Bool := match d with
  | .str cs => inD (.str cs) ws
  | _ => false
@[simp] theorem is_one_of_ok (n : Nat) (d : D) (ws : List D) (S : Sto) (h : d.isiOk = true) (hw : flats ws = true) : C (n+1) 1 [d, .tup ws] S = .ok (.val (.bl (isS d ws))) S := by
  rw [c_is_one_of, b_is_one_of]
  cases d <;> first | (cases h; done) | skip
  case str cs =>
    rw [show isS (.str cs) ws = inD (.str cs) ws from rfl]
    trivial
  all_goals
    rw [show isS _ ws = false from rfl]
    trivial
def mulLe (a e c : D) : Bool := match a, e, c with
  | .int a, .int e, .int c => decide (a * e ≤ c)
  | _, _, _ => false
@[simp] theorem mulLe_i (a e c : Int) : mulLe (.int a) (.int e) (.int c) = decide (a * e ≤ c) := rfl
def isLk (d : D) : Bool := match d with
  | .tup [a, b, c, e] => isI a 1 4 && (isI b 1 20 && (isI c 0 100 && (isI e 0 10 && mulLe a e c)))
  | _ => false
theorem isiOk_of {d : D} (h : d.cmpb = true) : d.isiOk = true := by
  cases d <;> first | rfl | cases h
@[simp] theorem is_lock_ok (n : Nat) (d : D) (S : Sto) (h : d.cmpb = true) : C (n+2) 2 [d] S = .ok (.val (.bl (isLk d))) S := by
  rw [c_is_lock, b_is_lock]
  cases d <;> first | (cases h; done) | skip
  case tup xs =>
    rcases xs with _ | ⟨a, _ | ⟨b, _ | ⟨c, _ | ⟨e, _ | ⟨f, r⟩⟩⟩⟩⟩
    case cons.cons.cons.cons.nil =>
      simp only [cmpb_tup, cmpbs_c, Bool.and_eq_true] at h
      obtain ⟨h1, h2, h3, h4, _⟩ := h
      have k1 := isiOk_of h1
      have k2 := isiOk_of h2
      have k3 := isiOk_of h3
      have k4 := isiOk_of h4
      rw [show isLk (.tup [a, b, c, e]) = (isI a 1 4 && (isI b 1 20 && (isI c 0 100 && (isI e 0 10 && mulLe a e c)))) from rfl]
      cases i1 : isI a 1 4
      · trivial
      · cases i2 : isI b 1 20
        · trivial
        · cases i3 : isI c 0 100
          · trivial
          · cases i4 : isI e 0 10
            · trivial
            · obtain ⟨i, rfl, j1, j2⟩ := isI_T i1
              obtain ⟨i', rfl, j3, j4⟩ := isI_T i3
              obtain ⟨i'', rfl, j5, j6⟩ := isI_T i4
              have t1 : -1000000000000000000 ≤ i := by omega
              have t2 : i ≤ 1000000000000000000 := by omega
              trivial
    case cons.cons.cons.cons.cons =>
      have hz : ((r.length : Int) + 1 + 1 + 1 + 1 + 1 == 4) = false := by rw [beq_eq_false_iff_ne]; omega
      rw [show isLk _ = false from rfl]
      trivial
    all_goals
      rw [show isLk _ = false from rfl]
      trivial
  all_goals
    rw [show isLk _ = false from rfl]
    trivial
@[simp] theorem law_is_whole_ok (n : Nat) (d : D) (lo hi : Int) (S : Sto) (h : d.isiOk = true) : C (n+1) 11 [d, .int lo, .int hi] S = .ok (.val (.bl (isI d lo hi))) S := by
  rw [c__law_is_whole, b__law_is_whole]
  cases d <;> first | (cases h; done) | skip
  case int i =>
    rw [isI_i]
    by_cases h1 : lo ≤ i <;> by_cases h2 : i ≤ hi <;> trivial
  all_goals
    rw [show isI _ lo hi = false from rfl]
    trivial
theorem rng4 : rngD 4 = [.int 0, .int 1, .int 2, .int 3] := rfl
@[simp] theorem law_is_lock_ok (n : Nat) (d : D) (S : Sto) (h : d.cmpb = true) : C (n+2) 12 [d] S = .ok (.val (.bl (isLk d))) S := by
  rw [c__law_is_lock, b__law_is_lock]
  cases d <;> first | (cases h; done) | skip
  case tup xs =>
    rcases xs with _ | ⟨a, _ | ⟨b, _ | ⟨c, _ | ⟨e, _ | ⟨f, r⟩⟩⟩⟩⟩
    case cons.cons.cons.cons.nil =>
      simp only [cmpb_tup, cmpbs_c, Bool.and_eq_true] at h
      obtain ⟨h1, h2, h3, h4, _⟩ := h
      have k1 := isiOk_of h1
      have k2 := isiOk_of h2
      have k3 := isiOk_of h3
      have k4 := isiOk_of h4
      rw [show isLk (.tup [a, b, c, e]) = (isI a 1 4 && (isI b 1 20 && (isI c 0 100 && (isI e 0 10 && mulLe a e c)))) from rfl]
      cases i1 : isI a 1 4 <;> cases i2 : isI b 1 20 <;> cases i3 : isI c 0 100 <;> cases i4 : isI e 0 10
      case true.true.true.true =>
        obtain ⟨i, rfl, j1, j2⟩ := isI_T i1
        obtain ⟨i', rfl, j3, j4⟩ := isI_T i3
        obtain ⟨i'', rfl, j5, j6⟩ := isI_T i4
        have t1 : -1000000000000000000 ≤ i := by omega
        have t2 : i ≤ 1000000000000000000 := by omega
        simp [↓e_lcf, mapF', rng4, *]
      all_goals simp [↓e_lcf, mapF', rng4, *]
    case cons.cons.cons.cons.cons =>
      have hz : ((r.length : Int) + 1 + 1 + 1 + 1 + 1 == 4) = false := by rw [beq_eq_false_iff_ne]; omega
      rw [show isLk _ = false from rfl]
      trivial
    all_goals
      rw [show isLk _ = false from rfl]
      trivial
  all_goals
    rw [show isLk _ = false from rfl]
    trivial

def wT : List Nat := [116, 117, 114, 110]
def wO : List Nat := [111, 117, 116]
def wE : List Nat := [101, 110, 100]
def wI : List Nat := [105, 110]
def wR : List Nat := [114, 101, 115, 116]
def wG : List Nat := [103, 111]
theorem ne2 {x y : List Nat} (h : ¬ x = y) : (x == y) = false ∧ (y == x) = false := by
  constructor <;> rw [beq_eq_false_iff_ne]
  · exact h
  · exact fun e => h e.symm
/-- a word is one of the six or none -/
theorem words (w : List Nat) : w = [116, 117, 114, 110] ∨ w = [111, 117, 116] ∨ w = [101, 110, 100] ∨ w = [105, 110] ∨ w = [114, 101, 115, 116] ∨ w = [103, 111] ∨
    (((w == [116, 117, 114, 110]) = false ∧ ([116, 117, 114, 110] == w) = false) ∧ ((w == [111, 117, 116]) = false ∧ ([111, 117, 116] == w) = false) ∧ ((w == [101, 110, 100]) = false ∧ ([101, 110, 100] == w) = false) ∧
     ((w == [105, 110]) = false ∧ ([105, 110] == w) = false) ∧ ((w == [114, 101, 115, 116]) = false ∧ ([114, 101, 115, 116] == w) = false) ∧ ((w == [103, 111]) = false ∧ ([103, 111] == w) = false)) := by
  by_cases h1 : w = [116, 117, 114, 110]
  · exact .inl h1
  by_cases h2 : w = [111, 117, 116]
  · exact .inr (.inl h2)
  by_cases h3 : w = [101, 110, 100]
  · exact .inr (.inr (.inl h3))
  by_cases h4 : w = [105, 110]
  · exact .inr (.inr (.inr (.inl h4)))
  by_cases h5 : w = [114, 101, 115, 116]
  · exact .inr (.inr (.inr (.inr (.inl h5))))
  by_cases h6 : w = [103, 111]
  · exact .inr (.inr (.inr (.inr (.inr (.inl h6)))))
  exact .inr (.inr (.inr (.inr (.inr (.inr ⟨ne2 h1, ne2 h2, ne2 h3, ne2 h4, ne2 h5, ne2 h6⟩)))))
def tests : List D := [.str [97, 108, 119, 97, 121, 115], .str [104, 101, 114, 101], .str [116, 104, 101, 114, 101], .str [102, 117, 108, 108], .str [101, 109, 112, 116, 121], .str [104, 105, 103, 104]]
def isEn (d : D) (m : Int) : Bool := match d with
  | .tup [.str w] => w == [116, 117, 114, 110] || (w == [111, 117, 116] || w == [101, 110, 100])
  | .tup [.str w, x] => (w == [105, 110] && isI x 1 4) || (w == [114, 101, 115, 116] && isI x 1 60)
  | .tup [.str w, t, x] => w == [103, 111] && (isS t tests && isI x 0 (m - 1))
  | _ => false
theorem isEn_1 (w : List Nat) (m : Int) : isEn (.tup [.str w]) m = (w == [116, 117, 114, 110] || (w == [111, 117, 116] || w == [101, 110, 100])) := rfl
theorem isEn_2 (w : List Nat) (x : D) (m : Int) : isEn (.tup [.str w, x]) m = ((w == [105, 110] && isI x 1 4) || (w == [114, 101, 115, 116] && isI x 1 60)) := rfl
theorem isEn_3 (w : List Nat) (t x : D) (m : Int) : isEn (.tup [.str w, t, x]) m = (w == [103, 111] && (isS t tests && isI x 0 (m - 1))) := rfl
@[simp] theorem is_entry_ok (n : Nat) (d : D) (m : Int) (S : Sto) (h : d.cmpb = true) : C (n+2) 3 [d, .int m] S = .ok (.val (.bl (isEn d m))) S := by
  rw [c_is_entry, b_is_entry]
  cases d <;> first | (cases h; done) | skip
  case tup xs =>
    rcases xs with _ | ⟨a, xs⟩
    · rw [show isEn _ m = false from rfl]
      trivial
    · cases a <;> first | (simp at h; done) | skip
      case str w =>
        rcases xs with _ | ⟨x, _ | ⟨y, _ | ⟨z, r⟩⟩⟩
        · rw [isEn_1]
          rcases words w with rfl | rfl | rfl | rfl | rfl | rfl | ⟨⟨a1, a2⟩, ⟨a3, a4⟩, ⟨a5, a6⟩, ⟨a7, a8⟩, ⟨a9, a10⟩, ⟨a11, a12⟩⟩ <;> trivial
        · rw [isEn_2]
          simp only [cmpb_tup, cmpbs_c, Bool.and_eq_true] at h
          have k1 := isiOk_of h.2.1
          rcases words w with rfl | rfl | rfl | rfl | rfl | rfl | ⟨⟨a1, a2⟩, ⟨a3, a4⟩, ⟨a5, a6⟩, ⟨a7, a8⟩, ⟨a9, a10⟩, ⟨a11, a12⟩⟩ <;> trivial
        · rw [isEn_3]
          simp only [cmpb_tup, cmpbs_c, Bool.and_eq_true] at h
          have k1 := isiOk_of h.2.1
          have k2 := isiOk_of h.2.2.1
          have hf : flats tests = true := rfl
          have hg : GG[1]? = some (.tup tests) := g_1
          rcases words w with rfl | rfl | rfl | rfl | rfl | rfl | ⟨⟨a1, a2⟩, ⟨a3, a4⟩, ⟨a5, a6⟩, ⟨a7, a8⟩, ⟨a9, a10⟩, ⟨a11, a12⟩⟩
          case inr.inr.inr.inr.inr.inl => cases is : isS x tests <;> simp [-g_1, *]
          all_goals trivial
        · have hz : ¬ ((r.length : Int) + 1 + 1 + 1 + 1 ≤ 3) := by omega
          have hz0 : (1 : Int) ≤ (r.length : Int) + 1 + 1 + 1 + 1 := by omega
          rw [show isEn _ m = false from rfl]
          trivial
      all_goals
        rw [show isEn _ m = false from rfl]
        have hz0 : (1 : Int) ≤ (xs.length : Int) + 1 := by omega
        by_cases hl : (xs.length : Int) + 1 ≤ 3 <;> trivial
  all_goals
    rw [show isEn _ m = false from rfl]
    trivial
@[simp] theorem law_is_entry_ok (n : Nat) (d : D) (m : Int) (S : Sto) (h : d.cmpb = true) : C (n+2) 13 [d, .int m] S = .ok (.val (.bl (isEn d m))) S := by
  rw [c__law_is_entry, b__law_is_entry]
  cases d <;> first | (cases h; done) | skip
  case tup xs =>
    have h' := h
    rcases xs with _ | ⟨a, xs⟩
    · rw [show isEn _ m = false from rfl]
      trivial
    · have hc : D.cmpb a = true ∧ D.cmpbs xs = true := by simpa using h
      obtain ⟨c1, c2⟩ := hc
      cases a <;> first | (simp at h; done) | skip
      case str w =>
        rcases xs with _ | ⟨x, _ | ⟨y, _ | ⟨z, r⟩⟩⟩
        · rw [isEn_1]
          rcases words w with rfl | rfl | rfl | rfl | rfl | rfl | ⟨⟨a1, a2⟩, ⟨a3, a4⟩, ⟨a5, a6⟩, ⟨a7, a8⟩, ⟨a9, a10⟩, ⟨a11, a12⟩⟩ <;> trivial
        · rw [isEn_2]
          simp only [cmpb_tup, cmpbs_c, Bool.and_eq_true] at h
          have k1 := isiOk_of h.2.1
          have b1 := h.2.1
          rcases words w with rfl | rfl | rfl | rfl | rfl | rfl | ⟨⟨a1, a2⟩, ⟨a3, a4⟩, ⟨a5, a6⟩, ⟨a7, a8⟩, ⟨a9, a10⟩, ⟨a11, a12⟩⟩ <;> trivial
        · rw [isEn_3]
          simp only [cmpb_tup, cmpbs_c, Bool.and_eq_true] at h
          have k1 := isiOk_of h.2.1
          have k2 := isiOk_of h.2.2.1
          have b1 := h.2.1
          have b2 := h.2.2.1
          rcases words w with rfl | rfl | rfl | rfl | rfl | rfl | ⟨⟨a1, a2⟩, ⟨a3, a4⟩, ⟨a5, a6⟩, ⟨a7, a8⟩, ⟨a9, a10⟩, ⟨a11, a12⟩⟩
          case inr.inr.inr.inr.inr.inl =>
            cases x <;> first | (cases k1; done) | skip
            case str t =>
              rw [show isS (.str t) tests = inD (.str t) tests from rfl]
              have hin : cop .isin (.str t) (.lst [.str [97, 108, 119, 97, 121, 115], .str [104, 101, 114, 101], .str [116, 104, 101, 114, 101], .str [102, 117, 108, 108], .str [101, 109, 112, 116, 121], .str [104, 105, 103, 104]]) = some (inD (.str t) tests) := in_l rfl rfl
              cases is : inD (.str t) tests <;> rw [is] at hin <;> simp [-in_l, *]
            all_goals
              rw [show isS _ tests = false from rfl]
              trivial
          all_goals trivial
        · have hz : ((r.length : Int) + 1 + 1 + 1 + 1 == 1) = false := by rw [beq_eq_false_iff_ne]; omega
          have hz2 : ((r.length : Int) + 1 + 1 + 1 + 1 == 2) = false := by rw [beq_eq_false_iff_ne]; omega
          have hz3 : ((r.length : Int) + 1 + 1 + 1 + 1 == 3) = false := by rw [beq_eq_false_iff_ne]; omega
          have hcc : D.cmpb x = true ∧ D.cmpb y = true ∧ D.cmpb z = true ∧ D.cmpbs r = true := by simpa using c2
          obtain ⟨d1, d2, d3, d4⟩ := hcc
          rw [show isEn _ m = false from rfl]
          rcases words w with rfl | rfl | rfl | rfl | rfl | rfl | ⟨⟨a1, a2⟩, ⟨a3, a4⟩, ⟨a5, a6⟩, ⟨a7, a8⟩, ⟨a9, a10⟩, ⟨a11, a12⟩⟩ <;> trivial
      all_goals
        rw [show isEn _ m = false from rfl]
        trivial
  all_goals
    rw [show isEn _ m = false from rfl]
    trivial
end Hd

namespace Hd
open PySem Ev
local macro_rules
  | `(tactic| trivial) => `(tactic| simp [*])
theorem cmpbs_mem : ∀ {xs : List D}, D.cmpbs xs = true → ∀ x ∈ xs, D.cmpb x = true
  | [], _, x, hx => by simp at hx
  | y :: ys, h, x, hx => by
    rw [cmpbs_c, Bool.and_eq_true] at h
    rcases List.mem_cons.mp hx with e | hx
    · rw [e]
      exact h.1
    · exact cmpbs_mem h.2 x hx
def isBk (d : D) : Bool := match d with
  | .tup [a, .tup es] => isLk a && (decide ((1 : Int) ≤ es.length) && (decide ((es.length : Int) ≤ 8) && es.all fun e => isEn e es.length))
  | _ => false
theorem isBk_t (a : D) (es : List D) : isBk (.tup [a, .tup es]) = (isLk a && (decide ((1 : Int) ≤ es.length) && (decide ((es.length : Int) ≤ 8) && es.all fun e => isEn e es.length))) := rfl
@[simp high] theorem lc_entries (n : Nat) (a : D) (es : List D) (S : Sto) (hl : (es.length : Int) ≤ 8) (h : D.cmpbs es = true) :
    ev (X (n+2)) (.lc (.nm 1) (.seq (.idx (.var 0) (.int 1))) (.call 3 (.cons (.var 1) (.cons (.blt .len (.cons (.idx (.var 0) (.int 1)) .nil)) .nil))) [1]) [some (.val (.tup [a, .tup es])), none] S = .ok (.lst (es.map fun e => .bl (isEn e es.length))) S := by
  refine ev_lc (xs := es) (S1 := S) (by trivial) (by omega) (mapF_map (g := fun e => .bl (isEn e es.length)) fun x hx => ?_)
  have hc := cmpbs_mem h x hx
  simp [*]
@[simp] theorem is_book_ok (n : Nat) (d : D) (S : Sto) (h : d.cmpb = true) : C (n+3) 4 [d] S = .ok (.val (.bl (isBk d))) S := by
  rw [c_is_book, b_is_book]
  cases d <;> first | (simp at h; done) | skip
  case tup xs =>
    rcases xs with _ | ⟨a, _ | ⟨b, _ | ⟨c, r⟩⟩⟩
    case cons.cons.nil =>
      simp only [cmpb_tup, cmpbs_c, Bool.and_eq_true] at h
      obtain ⟨h1, h2, _⟩ := h
      cases b <;> first | (simp at h2; done) | skip
      case tup es =>
        rw [isBk_t]
        rw [cmpb_tup] at h2
        cases i1 : isLk a
        · trivial
        · by_cases i2 : (1 : Int) ≤ es.length
          · by_cases i3 : (es.length : Int) ≤ 8
            · simp [bools_map, *]
            · trivial
          · trivial
      all_goals
        rw [show isBk _ = false from rfl]
        cases i1 : isLk a <;> trivial
    case cons.cons.cons =>
      have hz : ((r.length : Int) + 1 + 1 + 1 == 2) = false := by rw [beq_eq_false_iff_ne]; omega
      rw [show isBk (.tup (a :: b :: c :: r)) = false from by cases b <;> rfl]
      trivial
    all_goals
      rw [show isBk _ = false from rfl]
      trivial
  all_goals
    rw [show isBk _ = false from rfl]
    trivial
theorem cmpbs_of : ∀ {xs : List D}, (∀ x ∈ xs, D.cmpb x = true) → D.cmpbs xs = true
  | [], _ => rfl
  | y :: ys, h => by
    rw [cmpbs_c, h y List.mem_cons_self, cmpbs_of fun x hx => h x (List.mem_cons_of_mem _ hx)] <;> rfl
theorem eqvs_nil (xs : List D) : D.eqvs xs [] = xs.isEmpty := by cases xs <;> rfl
theorem filter_all (p : D → Bool) : ∀ xs : List D, (xs.filter fun x => !p x).isEmpty = xs.all p
  | [] => rfl
  | x :: xs => by
    rw [List.filter_cons, List.all_cons]
    cases h : p x
    · simp
    · simpa using filter_all p xs
@[simp] theorem lcf_entries (n : Nat) (a : D) (es : List D) (S : Sto) (hl : (es.length : Int) ≤ 8) (h : D.cmpbs es = true) :
    ev (X (n+2)) (.lcf (.nm 1) (.seq (.idx (.var 0) (.int 1))) (.not (.e (.call 13 (.cons (.var 1) (.cons (.blt .len (.cons (.idx (.var 0) (.int 1)) .nil)) .nil))))) (.var 1) [1]) [some (.val (.tup [a, .tup es])), none] S = .ok (.lst (es.filter fun e => !isEn e es.length)) S := by
  have hm := mapF_fil (c := fun d => M.bind (M.opt (bindT (.nm 1) d (wipe [some (.val (.tup [a, .tup es])), none] [1]))) fun ρ' => tst (X (n+2)) (.not (.e (.call 13 (.cons (.var 1) (.cons (.blt .len (.cons (.idx (.var 0) (.int 1)) .nil)) .nil))))) ρ')
    (f := fun d => M.bind (M.opt (bindT (.nm 1) d (wipe [some (.val (.tup [a, .tup es])), none] [1]))) fun ρ' => ev (X (n+2)) (.var 1) ρ') (p := fun e => !isEn e es.length) (g := fun e => e) (S := S) (xs := es) (fun x hx => by
      have hc := cmpbs_mem h x hx
      trivial) (fun x hx _ => by trivial)
  rw [List.map_id'] at hm
  exact ev_lcf (xs := es) (S1 := S) (by trivial) (by omega) hm
@[simp] theorem law_is_book_ok (n : Nat) (d : D) (S : Sto) (h : d.cmpb = true) : C (n+3) 14 [d] S = .ok (.val (.bl (isBk d))) S := by
  rw [c__law_is_book, b__law_is_book]
  cases d <;> first | (simp at h; done) | skip
  case tup xs =>
    rcases xs with _ | ⟨a, _ | ⟨b, _ | ⟨c, r⟩⟩⟩
    case cons.cons.nil =>
      simp only [cmpb_tup, cmpbs_c, Bool.and_eq_true] at h
      obtain ⟨h1, h2, _⟩ := h
      cases b <;> first | (simp at h2; done) | skip
      case tup es =>
        rw [isBk_t]
        rw [cmpb_tup] at h2
        cases i1 : isLk a
        · trivial
        · by_cases i2 : (1 : Int) ≤ es.length
          · by_cases i3 : (es.length : Int) ≤ 8
            · have hcf : D.cmpbs (es.filter fun e => !isEn e es.length) = true := cmpbs_of fun x hx => cmpbs_mem h2 x (List.mem_filter.mp hx).1
              simp [eqvs_nil, filter_all, *]
            · trivial
          · trivial
      all_goals
        rw [show isBk _ = false from rfl]
        cases i1 : isLk a <;> trivial
    case cons.cons.cons =>
      have hz : ((r.length : Int) + 1 + 1 + 1 == 2) = false := by rw [beq_eq_false_iff_ne]; omega
      rw [show isBk (.tup (a :: b :: c :: r)) = false from by cases b <;> rfl]
      trivial
    all_goals
      rw [show isBk _ = false from rfl]
      trivial
  all_goals
    rw [show isBk _ = false from rfl]
    trivial
def meas : List D := [.str [109, 105, 110, 117, 116, 101, 115], .str [119, 97, 116, 101, 114]]
def isCl (d : D) : Bool := match d with
  | .tup [a, b, c, e] => isS a meas && (isI b 0 100 && (isI c 0 100 && isI e 0 10000))
  | _ => false
theorem isCl_t (a b c e : D) : isCl (.tup [a, b, c, e]) = (isS a meas && (isI b 0 100 && (isI c 0 100 && isI e 0 10000))) := rfl
@[simp] theorem is_claim_ok (n : Nat) (d : D) (S : Sto) (h : d.cmpb = true) : C (n+2) 5 [d] S = .ok (.val (.bl (isCl d))) S := by
  rw [c_is_claim, b_is_claim]
  cases d <;> first | (simp at h; done) | skip
  case tup xs =>
    rcases xs with _ | ⟨a, _ | ⟨b, _ | ⟨c, _ | ⟨e, _ | ⟨f, r⟩⟩⟩⟩⟩
    case cons.cons.cons.cons.nil =>
      simp only [cmpb_tup, cmpbs_c, Bool.and_eq_true] at h
      obtain ⟨h1, h2, h3, h4, _⟩ := h
      have k1 := isiOk_of h1
      have k2 := isiOk_of h2
      have k3 := isiOk_of h3
      have k4 := isiOk_of h4
      have hf : flats meas = true := rfl
      have hg : GG[2]? = some (.tup meas) := g_2
      rw [isCl_t]
      cases i1 : isS a meas <;> cases i2 : isI b 0 100 <;> cases i3 : isI c 0 100 <;> simp [-g_2, *]
    case cons.cons.cons.cons.cons =>
      have hz : ((r.length : Int) + 1 + 1 + 1 + 1 + 1 == 4) = false := by rw [beq_eq_false_iff_ne]; omega
      rw [show isCl _ = false from rfl]
      trivial
    all_goals
      rw [show isCl _ = false from rfl]
      trivial
  all_goals
    rw [show isCl _ = false from rfl]
    trivial
@[simp] theorem law_is_claim_ok (n : Nat) (d : D) (S : Sto) (h : d.cmpb = true) : C (n+2) 15 [d] S = .ok (.val (.bl (isCl d))) S := by
  rw [c__law_is_claim, b__law_is_claim]
  cases d <;> first | (simp at h; done) | skip
  case tup xs =>
    rcases xs with _ | ⟨a, _ | ⟨b, _ | ⟨c, _ | ⟨e, _ | ⟨f, r⟩⟩⟩⟩⟩
    case cons.cons.cons.cons.nil =>
      simp only [cmpb_tup, cmpbs_c, Bool.and_eq_true] at h
      obtain ⟨h1, h2, h3, h4, _⟩ := h
      have k1 := isiOk_of h1
      have k2 := isiOk_of h2
      have k3 := isiOk_of h3
      have k4 := isiOk_of h4
      rw [isCl_t]
      cases a <;> first | (simp at h1; done) | skip
      case str w =>
        have hin : cop .notin (.str w) (.tup [.str [109, 105, 110, 117, 116, 101, 115], .str [119, 97, 116, 101, 114]]) = some (!inD (.str w) meas) := nin_t rfl rfl
        rw [show isS (.str w) meas = inD (.str w) meas from rfl]
        cases i1 : inD (.str w) meas <;> rw [i1] at hin <;> cases i2 : isI b 0 100 <;> cases i3 : isI c 0 100 <;> cases i4 : isI e 0 10000 <;> simp [-nin_t, *]
      all_goals
        rw [show isS _ meas = false from rfl]
        trivial
    case cons.cons.cons.cons.cons =>
      have hz : ((r.length : Int) + 1 + 1 + 1 + 1 + 1 == 4) = false := by rw [beq_eq_false_iff_ne]; omega
      rw [show isCl _ = false from rfl]
      trivial
    all_goals
      rw [show isCl _ = false from rfl]
      trivial
  all_goals
    rw [show isCl _ = false from rfl]
    trivial
@[simp] theorem is_told_ok (n : Nat) (a b : Bool) (S : Sto) : C (n+1) 18 [.bl a, .bl b] S = .ok (.val (.bl (a == b))) S := by
  rw [c__law_is_told, b__law_is_told]
  cases a <;> cases b <;> trivial
end Hd

namespace Hd
open PySem Ev
local macro_rules
  | `(tactic| trivial) => `(tactic| simp [*])
/-- a draw's state: the weir stands, the store is as long -/
def St (S : Sto) (c l : Nat) : Prop := Wr S c ∧ S.length = l
theorem drop_ok (n c l : Nat) (m : Int) (S : Sto) (h : St S c l) (hm : 0 < m) (hb : m ≤ 1000000) : ∃ r S', C (n+1) 7 [.loc c, .int m] S = .ok (.val (.int r)) S' ∧ St S' c l ∧ 0 ≤ r ∧ r < m := by
  obtain ⟨r, a, b, e, h1, h2, h3, h4⟩ := drop_run (X := X n) (show 10 ≤ 1000 by decide) h.1 hm (Int.le_trans hb (by decide))
  refine ⟨r, S.set c (.cell [.int a, .int b]), ?_, ⟨wr_set h.1 h3 h4, by rw [List.length_set]; exact h.2⟩, h1, h2⟩
  rw [c__law_drop, show b__law_drop = bDrop from rfl, e]
  rfl
theorem any_ok (n c l : Nat) (xs : List D) (S : Sto) (h : St S c l) (hx : xs ≠ []) (hl : xs.length ≤ 1000) : ∃ x S', C (n+2) 8 [.loc c, .lst xs] S = .ok (.val x) S' ∧ St S' c l ∧ x ∈ xs := by
  have hp : 0 < xs.length := List.length_pos_iff.mpr hx
  obtain ⟨r, S1, e, h1, h2, h3⟩ := drop_ok n c l xs.length S h (by omega) (by omega)
  have h4 : r.toNat < xs.length := by omega
  refine ⟨xs[r.toNat], S1, ?_, h1, List.getElem_mem h4⟩
  rw [c__law_any, b__law_any]
  have hg : xs[r.toNat]? = some xs[r.toNat] := List.getElem?_eq_getElem h4
  simp [e, h2, h3, hg]
/-! ### things of some size -/
mutual
def th (a : Nat) : D → Bool
  | .non => true
  | .bl _ => true
  | .int i => decide (-1000000000000000000000000000000000000000000000000000000000000 - 100 * (a : Int) ≤ i) && decide (i ≤ 1000000000000000000000000000000000000000000000000000000000000 + 100 * (a : Int))
  | .str cs => decide (cs.length ≤ 400 + a) && cs.all fun c => decide (c < 128)
  | .tup xs => decide (xs.length ≤ 40 + a) && ths a xs
  | .lst xs => decide (xs.length ≤ 40 + a) && ths a xs
  | _ => false
def ths (a : Nat) : List D → Bool
  | [] => true
  | x :: xs => th a x && ths a xs
end
theorem ths_c (a : Nat) (x : D) (xs : List D) : ths a (x :: xs) = (th a x && ths a xs) := (rfl)
theorem th_t (a : Nat) (xs : List D) : th a (.tup xs) = (decide (xs.length ≤ 40 + a) && ths a xs) := (rfl)
theorem th_l (a : Nat) (xs : List D) : th a (.lst xs) = (decide (xs.length ≤ 40 + a) && ths a xs) := (rfl)
theorem th_i (a : Nat) (i : Int) : th a (.int i) = (decide (-1000000000000000000000000000000000000000000000000000000000000 - 100 * (a : Int) ≤ i) && decide (i ≤ 1000000000000000000000000000000000000000000000000000000000000 + 100 * (a : Int))) := (rfl)
theorem th_s (a : Nat) (cs : List Nat) : th a (.str cs) = (decide (cs.length ≤ 400 + a) && cs.all fun c => decide (c < 128)) := (rfl)
theorem ths_iff {a : Nat} : ∀ {xs : List D}, ths a xs = true ↔ ∀ x ∈ xs, th a x = true
  | [] => ⟨fun _ x hx => by simp at hx, fun _ => rfl⟩
  | y :: ys => by
    rw [ths_c, Bool.and_eq_true, ths_iff]
    simp
theorem th_int {a : Nat} {i : Int} (h : -1000000000000 ≤ i) (h2 : i ≤ 1000000000000) : th a (.int i) = true := by
  rw [th_i, decide_eq_true (by omega), decide_eq_true (by omega)] <;> rfl
mutual
theorem th_mono {a b : Nat} (hab : a ≤ b) : ∀ {d : D}, th a d = true → th b d = true
  | .non, _ => rfl
  | .bl _, _ => rfl
  | .int i, h => by
    rw [th_i, Bool.and_eq_true, decide_eq_true_eq, decide_eq_true_eq] at h ⊢
    omega
  | .str cs, h => by
    rw [th_s, Bool.and_eq_true, decide_eq_true_eq] at h ⊢
    exact ⟨by omega, h.2⟩
  | .tup xs, h => by
    rw [th_t, Bool.and_eq_true, decide_eq_true_eq] at h ⊢
    exact ⟨by omega, ths_mono hab h.2⟩
  | .lst xs, h => by
    rw [th_l, Bool.and_eq_true, decide_eq_true_eq] at h ⊢
    exact ⟨by omega, ths_mono hab h.2⟩
  | .rol _, h => by cases h
  | .loc _, h => by cases h
  | .fn _, h => by cases h
theorem ths_mono {a b : Nat} (hab : a ≤ b) : ∀ {xs : List D}, ths a xs = true → ths b xs = true
  | [], _ => rfl
  | x :: xs, h => by
    rw [ths_c, Bool.and_eq_true] at h ⊢
    exact ⟨th_mono hab h.1, ths_mono hab h.2⟩
end
mutual
theorem th_cmpb {a : Nat} : ∀ {d : D}, th a d = true → D.cmpb d = true
  | .non, _ => rfl
  | .bl _, _ => rfl
  | .int i, h => rfl
  | .str cs, h => rfl
  | .tup xs, h => by
    rw [th_t, Bool.and_eq_true] at h
    exact ths_cmpb h.2
  | .lst xs, h => by
    rw [th_l, Bool.and_eq_true] at h
    exact ths_cmpb h.2
  | .rol _, h => by cases h
  | .loc _, h => by cases h
  | .fn _, h => by cases h
theorem ths_cmpb {a : Nat} : ∀ {xs : List D}, ths a xs = true → D.cmpbs xs = true
  | [], _ => rfl
  | x :: xs, h => by
    rw [ths_c, Bool.and_eq_true] at h
    rw [cmpbs_c, th_cmpb h.1, ths_cmpb h.2] <;> rfl
end
theorem cut_mem {xs : List D} {lo hi : Option Int} {x : D} (h : x ∈ cut xs lo hi) : x ∈ xs := List.mem_of_mem_drop (List.mem_of_mem_take h)
theorem cut_len (xs : List D) (lo hi : Option Int) : (cut xs lo hi).length ≤ xs.length := by
  unfold cut
  rw [List.length_take, List.length_drop]
  omega
theorem th_tt {a : Nat} {xs : List D} (hl : xs.length ≤ 40 + a) (h : ∀ x ∈ xs, th a x = true) : th a (.tup xs) = true := by
  rw [th_t, decide_eq_true hl, ths_iff.mpr h] <;> rfl
theorem th_ll {a : Nat} {xs : List D} (hl : xs.length ≤ 40 + a) (h : ∀ x ∈ xs, th a x = true) : th a (.lst xs) = true := by
  rw [th_l, decide_eq_true hl, ths_iff.mpr h] <;> rfl
theorem one_entry_ok (n c l : Nat) (m : Int) (S : Sto) (h : St S c l) (hm : 0 < m) (hb : m ≤ 100) : ∃ d S', C (n+3) 9 [.loc c, .int m] S = .ok (.val d) S' ∧ St S' c l ∧ th 0 d = true := by
  obtain ⟨x, S1, e1, h1, hx⟩ := any_ok n c l [.str [105, 110], .str [105, 110], .str [116, 117, 114, 110], .str [116, 117, 114, 110], .str [111, 117, 116], .str [111, 117, 116], .str [103, 111], .str [103, 111], .str [103, 111], .str [114, 101, 115, 116], .str [101, 110, 100]] S h (by simp) (by simp)
  rw [c__law_one_entry, b__law_one_entry]
  have hx2 : x = .str [105, 110] ∨ x = .str [103, 111] ∨ x = .str [114, 101, 115, 116] ∨ x = .str [116, 117, 114, 110] ∨ x = .str [111, 117, 116] ∨ x = .str [101, 110, 100] := by
    simp only [List.mem_cons, List.not_mem_nil, or_false] at hx
    rcases hx with z | z | z | z | z | z | z | z | z | z | z <;> simp [z]
  rcases hx2 with rfl | rfl | rfl | rfl | rfl | rfl
  · obtain ⟨r, S2, e2, h2, b1, b2⟩ := drop_ok (n+1) c l 4 S1 h1 (by decide) (by decide)
    refine ⟨.tup [.str [105, 110], .int (1 + r)], S2, by simp [e1, e2], h2, ?_⟩
    rw [th_t, ths_c, ths_c, th_int (by omega) (by omega)]
    rfl
  · obtain ⟨t, S2, e2, h2, ht⟩ := any_ok n c l [.str [104, 101, 114, 101], .str [104, 101, 114, 101], .str [116, 104, 101, 114, 101], .str [116, 104, 101, 114, 101], .str [102, 117, 108, 108], .str [101, 109, 112, 116, 121], .str [104, 105, 103, 104], .str [97, 108, 119, 97, 121, 115]] S1 h1 (by simp) (by simp)
    obtain ⟨r, S3, e3, h3, b1, b2⟩ := drop_ok (n+1) c l m S2 h2 hm (by omega)
    refine ⟨.tup [.str [103, 111], t, .int r], S3, by simp [e1, e2, e3], h3, ?_⟩
    have hth : th 0 t = true := ths_iff.mp (show ths 0 [.str [104, 101, 114, 101], .str [104, 101, 114, 101], .str [116, 104, 101, 114, 101], .str [116, 104, 101, 114, 101], .str [102, 117, 108, 108], .str [101, 109, 112, 116, 121], .str [104, 105, 103, 104], .str [97, 108, 119, 97, 121, 115]] = true from rfl) t ht
    rw [th_t, ths_c, ths_c, ths_c, th_int (by omega) (by omega), hth]
    rfl
  · obtain ⟨t, S2, e2, h2, ht⟩ := any_ok n c l [.int 1, .int 2, .int 7, .int 60] S1 h1 (by simp) (by simp)
    refine ⟨.tup [.str [114, 101, 115, 116], t], S2, by simp [e1, e2], h2, ?_⟩
    have hth : th 0 t = true := ths_iff.mp (show ths 0 [.int 1, .int 2, .int 7, .int 60] = true from rfl) t ht
    rw [th_t, ths_c, ths_c, hth]
    rfl
  · exact ⟨.tup [.str [116, 117, 114, 110]], S1, by simp [e1], h1, rfl⟩
  · exact ⟨.tup [.str [111, 117, 116]], S1, by simp [e1], h1, rfl⟩
  · exact ⟨.tup [.str [101, 110, 100]], S1, by simp [e1], h1, rfl⟩
/-- a book: a lock of four, its entries -/
theorem log_book_ok (n c l : Nat) (S : Sto) (h : St S c l) : ∃ lk es S', C (n+4) 10 [.loc c] S = .ok (.val (.tup [lk, .tup es])) S' ∧ St S' c l ∧ th 0 lk = true ∧ th 0 (.tup es) = true := by
  obtain ⟨x, S1, e1, h1, hx⟩ := any_ok (n+1) c l [.int 1, .int 1, .int 2, .int 3, .int 4] S h (by simp) (by simp)
  obtain ⟨rm, rfl, r1, r2⟩ : ∃ rm : Int, x = .int rm ∧ 1 ≤ rm ∧ rm ≤ 4 := by
    simp only [List.mem_cons, List.not_mem_nil, or_false] at hx
    rcases hx with z | z | z | z | z <;> exact ⟨_, z, by decide, by decide⟩
  obtain ⟨ls, S2, e2, h2, l1, l2⟩ := drop_ok (n+2) c l 4 S1 h1 (by decide) (by decide)
  obtain ⟨p, S3, e3, h3, p1, p2⟩ := drop_ok (n+2) c l 6 S2 h2 (by decide) (by decide)
  obtain ⟨q, S4, e4, h4, q1, q2⟩ := drop_ok (n+2) c l 9 S3 h3 (by decide) (by decide)
  obtain ⟨mn, S5, e5, h5, m1, m2⟩ := drop_ok (n+2) c l 8 S4 h4 (by decide) (by decide)
  have t1 : -1000000000000000000 ≤ rm := by omega
  have t2 : rm ≤ 1000000000000000000 := by omega
  have hlk : th 0 (.tup [.int rm, .int (1 + p), .int (rm * ls + q), .int ls]) = true := by
    have b1 : 0 ≤ rm * ls := Int.mul_nonneg (by omega) l1
    have b2 : rm * ls ≤ 4 * 3 := Int.mul_le_mul r2 (by omega) l1 (by omega)
    rw [th_t, ths_c, ths_c, ths_c, ths_c, th_int (by omega) (by omega), th_int (by omega) (by omega), th_int (by omega) (by omega), th_int (by omega) (by omega)]
    rfl
  have hlc : ∃ es S6, ev (X (n+3)) (.lc (.nm 8) (.rng (.var 2)) (.call 9 (.cons (.var 0) (.cons (.var 2) .nil))) [8]) [some (.val (.loc c)), some (.val (.tup [.int rm, .int (1 + p), .int (rm * ls + q), .int ls])), some (.val (.int (1 + mn))), none, some (.val (.int rm)), some (.val (.int ls)), none, none, none] S5 = .ok (.lst es) S6 ∧ St S6 c l ∧ (∀ d ∈ es, th 0 d = true) ∧ es.length = (1 + mn).toNat := by
    have hr : (rngD (1 + mn)).length = (1 + mn).toNat := by unfold rngD; simp
    obtain ⟨ds, S6, g1, g2, g3, g4⟩ := mapF_any (f := fun d => M.bind (M.opt (bindT (.nm 8) d (wipe [some (.val (.loc c)), some (.val (.tup [.int rm, .int (1 + p), .int (rm * ls + q), .int ls])), some (.val (.int (1 + mn))), none, some (.val (.int rm)), some (.val (.int ls)), none, none, none] [8]))) fun ρ' => ev (X (n+3)) (.call 9 (.cons (.var 0) (.cons (.var 2) .nil))) ρ')
      (P := fun S => St S c l) (Q := fun d => th 0 d = true) (xs := rngD (1 + mn)) (S := S5) h5 (fun x hx S hS => by
        obtain ⟨d, S', e, k1, k2⟩ := one_entry_ok n c l (1 + mn) S hS (by omega) (by omega)
        exact ⟨d, S', by simp [e], k1, k2⟩)
    refine ⟨ds, S6, ev_lc (xs := rngD (1 + mn)) (S1 := S5) (by
      have a1 : -1000000 ≤ 1 + mn := by omega
      have a2 : 1 + mn ≤ 1000000 := by omega
      trivial) (by rw [hr]; omega) g1, g2, g3, by rw [g4, hr]⟩
  obtain ⟨es, S6, e6, h6, t6, l6⟩ := hlc
  obtain ⟨w, S7, e7, h7, w1, w2⟩ := drop_ok (n+2) c l 3 S6 h6 (by decide) (by decide)
  have hes : th 0 (.tup es) = true := th_tt (by omega) t6
  rw [c__law_log_book, b__law_log_book]
  by_cases hw : 0 < w
  · obtain ⟨v, S8, e8, h8, v1, v2⟩ := drop_ok (n+2) c l 3 S7 h7 (by decide) (by decide)
    obtain ⟨u, S9, e9, h9, u1, u2⟩ := drop_ok (n+2) c l 4 S8 h8 (by decide) (by decide)
    obtain ⟨k, S10, e10, h10, k1, k2⟩ := drop_ok (n+2) c l 2 S9 h9 (by decide) (by decide)
    have hL : (100 : Nat) ≤ LIM := by decide
    have hin : th 0 (.tup [.str [105, 110], .int (1 + v)]) = true := by
      rw [th_t, ths_c, ths_c, th_int (by omega) (by omega)]
      rfl
    have hgo : th 0 (.tup [.str [103, 111], .str [116, 104, 101, 114, 101], .int u]) = true := by
      rw [th_t, ths_c, ths_c, ths_c, th_int (by omega) (by omega)]
      rfl
    have h8l : ∀ d ∈ [D.tup [.str [105, 110], .int (1 + v)], .tup [.str [116, 117, 114, 110]], .tup [.str [111, 117, 116]], .tup [.str [105, 110], .int (1 + v)], .tup [.str [116, 117, 114, 110]], .tup [.str [111, 117, 116]], .tup [.str [103, 111], .str [104, 101, 114, 101], .int 0], .tup [.str [103, 111], .str [116, 104, 101, 114, 101], .int u]], th 0 d = true := by
      refine ths_iff.mp ?_
      rw [ths_c, ths_c, ths_c, ths_c, ths_c, ths_c, ths_c, ths_c, hin, hgo]
      rfl
    generalize hes8 : [D.tup [.str [105, 110], .int (1 + v)], .tup [.str [116, 117, 114, 110]], .tup [.str [111, 117, 116]], .tup [.str [105, 110], .int (1 + v)], .tup [.str [116, 117, 114, 110]], .tup [.str [111, 117, 116]], .tup [.str [103, 111], .str [104, 101, 114, 101], .int 0], .tup [.str [103, 111], .str [116, 104, 101, 114, 101], .int u]] = e8s at h8l
    have h8len : e8s.length = 8 := by rw [← hes8] <;> rfl
    by_cases hk : k = 0
    · subst hk
      obtain ⟨sp, S11, e11, h11, s1, s2⟩ := drop_ok (n+2) c l 8 S10 h10 (by decide) (by decide)
      obtain ⟨oe, S12, e12, h12, t12⟩ := one_entry_ok n c l 8 S11 h11 (by decide) (by decide)
      have c1 := cut_len e8s none (some sp)
      have c2 := cut_len e8s (some (sp + 1)) none
      have c3 : (cut e8s none (some sp)).length ≤ 16777215 := by omega
      have c4 : (cut e8s none (some sp)).length + 1 + (cut e8s (some (sp + 1)) none).length ≤ 16777216 := by omega
      refine ⟨.tup [.int rm, .int (1 + p), .int (rm * ls + q), .int ls], cut e8s none (some sp) ++ (oe :: cut e8s (some (sp + 1)) none), S12, ?_, h12, hlk, th_tt (by rw [List.length_append, List.length_cons]; omega) fun d hd => ?_⟩
      · simp [e1, e2, e3, e4, e5, t1, t2, e6, e7, hw, e8, e9, e10, e11, hes8, e12, c3, c4, LIM]
      · rcases List.mem_append.mp hd with hd | hd
        · exact h8l d (cut_mem hd)
        · rcases List.mem_cons.mp hd with hd | hd
          · rw [hd]
            exact t12
          · exact h8l d (cut_mem hd)
    · refine ⟨.tup [.int rm, .int (1 + p), .int (rm * ls + q), .int ls], e8s, S10, ?_, h10, hlk, th_tt (by omega) h8l⟩
      have hk0 : (k == 0) = false := by simpa using hk
      rw [← hes8]
      simp [e1, e2, e3, e4, e5, t1, t2, e6, e7, hw, e8, e9, e10, hk0, LIM]
  · refine ⟨.tup [.int rm, .int (1 + p), .int (rm * ls + q), .int ls], es, S7, ?_, h7, hlk, hes⟩
    simp [e1, e2, e3, e4, e5, t1, t2, e6, e7, hw]
end Hd

namespace Hd
open PySem Ev
local macro_rules
  | `(tactic| trivial) => `(tactic| simp [*])
def some24 : List D := [.int 0, .int 1, .int 2, .int 4, .int 5, .int 8, .int 20, .int 60, .int 61, .int (-1), .bl true, .bl false, .non, .str [], .str [105, 110], .str [103, 111], .str [104, 101, 114, 101], .int 100000000000000000000000000000000000000, .tup [], .lst [],
  .tup [.str [116, 117, 114, 110]], .tup [.str [105, 110], .int 1], .tup [.str [103, 111], .str [104, 105, 103, 104], .int 0], .tup [.int 1, .int 5, .int 10, .int 2]]
theorem some24_th : ths 0 some24 = true := by rfl
theorem stuff_ok (n c l : Nat) : ∀ (k : Nat) (z : Int) (S : Sto), z = k → z ≤ 10 → St S c l → ∃ d S', C (n+k+3) 16 [.loc c, .int z] S = .ok (.val d) S' ∧ St S' c l ∧ th 0 d = true := by
  intro k
  induction k with
  | zero =>
    intro z S hz hz2 h
    have hz0 : z = 0 := by omega
    subst hz0
    obtain ⟨x, S1, e1, h1, hx⟩ := any_ok n c l some24 S h (by simp [some24]) (by simp [some24])
    refine ⟨x, S1, ?_, h1, ths_iff.mp some24_th x hx⟩
    unfold some24 at e1
    rw [c__law_stuff, b__law_stuff]
    simp [e1, LIM]
  | succ k ih =>
    intro z S hz hz2 h
    have hz0 : (z == 0) = false := by rw [beq_eq_false_iff_ne]; omega
    rw [show n + (k + 1) + 3 = n + k + 3 + 1 from by omega]
    obtain ⟨r, S1, e1, h1, r1, r2⟩ := drop_ok (n+k+2) c l 9 S h (by decide) (by decide)
    by_cases hr : r < 6
    · obtain ⟨x, S2, e2, h2, hx⟩ := any_ok (n+k+1) c l some24 S1 h1 (by simp [some24]) (by simp [some24])
      refine ⟨x, S2, ?_, h2, ths_iff.mp some24_th x hx⟩
      unfold some24 at e2
      rw [c__law_stuff, b__law_stuff]
      simp [e1, e2, hz0, hr, LIM]
    · obtain ⟨m, S2, e2, h2, m1, m2⟩ := drop_ok (n+k+2) c l 4 S1 h1 (by decide) (by decide)
      have hlen : (rngD m).length = m.toNat := by unfold rngD; simp
      obtain ⟨ds, S3, g1, g2, g3, g4⟩ := mapF_any (f := fun d => M.bind (M.opt (bindT (.nm 4) d (wipe [some (.val (.loc c)), some (.val (.int z)), none, none, none] [4]))) fun ρ' => ev (X (n+k+3)) (.call 16 (.cons (.var 0) (.cons (.bin .sub (.var 1) (.int 1)) .nil))) ρ')
        (P := fun S => St S c l) (Q := fun d => th 0 d = true) (xs := rngD m) (S := S2) h2 (fun x hx S hS => by
          obtain ⟨d, S', e, k1, k2⟩ := ih (z - 1) S (by omega) (by omega) hS
          exact ⟨d, S', by simp [e], k1, k2⟩)
      have hlc : ev (X (n+k+3)) (.lc (.nm 4) (.rng (.call 7 (.cons (.var 0) (.cons (.int 4) .nil)))) (.call 16 (.cons (.var 0) (.cons (.bin .sub (.var 1) (.int 1)) .nil))) [4]) [some (.val (.loc c)), some (.val (.int z)), none, none, none] S1 = .ok (.lst ds) S3 :=
        ev_lc (xs := rngD m) (S1 := S2) (by
          have a1 : -1000000 ≤ m := by omega
          have a2 : m ≤ 1000000 := by omega
          simp [e2, a1, a2]) (by rw [hlen]; omega) g1
      obtain ⟨q, S4, e4, h4, q1, q2⟩ := drop_ok (n+k+2) c l 3 S3 g2 (by decide) (by decide)
      have hl : ds.length ≤ 40 := by omega
      rw [c__law_stuff, b__law_stuff]
      by_cases hq : q = 0
      · refine ⟨.lst ds, S4, ?_, h4, th_ll (by omega) g3⟩
        simp [e1, hz0, hr, hlc, e4, hq]
      · have hq0 : (q == 0) = false := by simpa using hq
        refine ⟨.tup ds, S4, ?_, h4, th_tt (by omega) g3⟩
        simp [e1, hz0, hr, hlc, e4, hq0]
/-- the leaf's end: any of what is near -/
def bLeaf : Ts := .cons (.asg 3 (.lst (.cons (.call 16 (.cons (.var 0) (.cons (.int 2) .nil))) .nil))) (.cons (.ifs (.e (.isi (.var 1) [.str])) (.cons (.asg 3 (.bin .add (.var 3) (.lst (.cons (.str [105, 110]) (.cons (.str [111, 117, 116]) (.cons (.str [116, 117, 114, 110]) (.cons (.str [101, 110, 100]) (.cons (.str [114, 101, 115, 116]) (.cons (.str [116, 104, 101, 114, 101]) (.cons (.bin .add (.var 1) (.str [115])) (.cons (.upper (.var 1)) .nil))))))))))) (.nil)) (.cons (.ifs (.e (.isi (.var 1) [.int])) (.cons (.asg 3 (.bin .add (.var 3) (.lst (.cons (.bin .add (.var 1) (.int 1)) (.cons (.bin .sub (.var 1) (.int 1)) (.cons (.not (.var 1)) (.cons (.blt .str (.cons (.var 1) .nil)) (.cons (.bin .add (.var 1) (.int 60)) .nil)))))))) (.nil)) (.nil)) (.nil))) (.cons (.ret (.call 8 (.cons (.var 0) (.cons (.var 3) .nil)))) (.nil)))
theorem leaf_ok (n c l a : Nat) (d : D) (z : Int) (S : Sto) (h : St S c l) (ht : th a d = true) (ha : a ≤ 100) :
    ∃ d' S', exs (X (n+5)) bLeaf [some (.val (.loc c)), some (.val d), some (.val (.int z)), none, none, none, none] S = .ok (.rt (.val d')) S' ∧ St S' c l ∧ th (a+1) d' = true := by
  obtain ⟨x, S1, e1, h1, t1⟩ := stuff_ok n c l 2 2 S rfl (by decide) h
  have tx : th (a+1) x = true := th_mono (by omega) t1
  unfold bLeaf
  have oth : ∀ xs : List D, (∀ y ∈ xs, th (a+1) y = true) → xs ≠ [] → xs.length ≤ 1000 → ∃ d' S', C (n+5) 8 [.loc c, .lst xs] S1 = .ok (.val d') S' ∧ St S' c l ∧ th (a+1) d' = true := fun xs hx hne hl => by
    obtain ⟨y, S2, e2, h2, hy⟩ := any_ok (n+3) c l xs S1 h1 hne hl
    exact ⟨y, S2, e2, h2, hx y hy⟩
  have plain : ∃ d' S', C (n+5) 8 [.loc c, .lst [x]] S1 = .ok (.val d') S' ∧ St S' c l ∧ th (a+1) d' = true := oth [x] (by simpa using tx) (by simp) (by simp)
  cases d <;> first | (cases ht; done) | skip
  case str cs =>
    rw [th_s, Bool.and_eq_true, decide_eq_true_eq, List.all_eq_true] at ht
    obtain ⟨hl, hc⟩ := ht
    have hc : ∀ c ∈ cs, c < 128 := fun c hx => of_decide_eq_true (hc c hx)
    have hu := up_ok hc (by omega)
    obtain ⟨d', S2, e2, h2, t2⟩ := oth [x, .str [105, 110], .str [111, 117, 116], .str [116, 117, 114, 110], .str [101, 110, 100], .str [114, 101, 115, 116], .str [116, 104, 101, 114, 101], .str (cs ++ [115]), .str (cs.map PyProof.Rows.up1)] (by
      have k1 : th (a+1) (.str (cs ++ [115])) = true := by
        rw [th_s, Bool.and_eq_true, decide_eq_true_eq, List.all_eq_true, List.length_append]
        refine ⟨by simp; omega, fun y hy => ?_⟩
        rcases List.mem_append.mp hy with hy | hy
        · exact decide_eq_true (hc y hy)
        · rw [List.mem_singleton.mp hy] <;> rfl
      have k2 : th (a+1) (.str (cs.map PyProof.Rows.up1)) = true := by
        rw [th_s, Bool.and_eq_true, decide_eq_true_eq, List.all_eq_true, List.length_map]
        refine ⟨by omega, fun y hy => ?_⟩
        obtain ⟨u, hu, rfl⟩ := List.mem_map.mp hy
        exact decide_eq_true (up1_lt (hc u hu))
      have k3 : ∀ w ∈ [D.str [105, 110], .str [111, 117, 116], .str [116, 117, 114, 110], .str [101, 110, 100], .str [114, 101, 115, 116], .str [116, 104, 101, 114, 101]], th (a+1) w = true := fun w hw => th_mono (Nat.zero_le _) (ths_iff.mp (show ths 0 [D.str [105, 110], .str [111, 117, 116], .str [116, 117, 114, 110], .str [101, 110, 100], .str [114, 101, 115, 116], .str [116, 104, 101, 114, 101]] = true from rfl) w hw)
      simp only [List.mem_cons, List.not_mem_nil, or_false, forall_eq_or_imp, forall_eq] at k3 ⊢
      exact ⟨tx, k3.1, k3.2.1, k3.2.2.1, k3.2.2.2.1, k3.2.2.2.2.1, k3.2.2.2.2.2, k1, k2⟩) (by simp) (by simp)
    have c1 : cs.length ≤ 16777215 := by omega
    exact ⟨d', S2, by simp [e1, e2, hu, c1, LIM], h2, t2⟩
  case int i =>
    have ht0 := ht
    rw [th_i, Bool.and_eq_true, decide_eq_true_eq, decide_eq_true_eq] at ht
    obtain ⟨ds, es, dl, dc⟩ := str_i (i := i) (by omega) (by omega)
    obtain ⟨d', S2, e2, h2, t2⟩ := oth [x, .int (i + 1), .int (i - 1), .bl (!(i != 0)), .str ds, .int (i + 60)] (by
      have k1 : th (a+1) (.int (i + 1)) = true := by
        rw [th_i, Bool.and_eq_true, decide_eq_true_eq, decide_eq_true_eq]
        omega
      have k2 : th (a+1) (.int (i - 1)) = true := by
        rw [th_i, Bool.and_eq_true, decide_eq_true_eq, decide_eq_true_eq]
        omega
      have k3 : th (a+1) (.int (i + 60)) = true := by
        rw [th_i, Bool.and_eq_true, decide_eq_true_eq, decide_eq_true_eq]
        omega
      have k4 : th (a+1) (.str ds) = true := by
        rw [th_s, Bool.and_eq_true, decide_eq_true_eq, List.all_eq_true]
        exact ⟨by omega, fun y hy => decide_eq_true (dc y hy)⟩
      simp only [List.mem_cons, List.not_mem_nil, or_false, forall_eq_or_imp, forall_eq]
      exact ⟨tx, k1, k2, rfl, k4, k3⟩) (by simp) (by simp)
    exact ⟨d', S2, by simp [e1, e2, es, LIM, -Bool.not_eq_true', -bne_iff_ne], h2, t2⟩
  case bl b =>
    obtain ⟨d', S2, e2, h2, t2⟩ := oth [x, .int (b2i b + 1), .int (b2i b - 1), .bl (!b), .str (sBool b), .int (b2i b + 60)] (by
      have kb : 0 ≤ b2i b ∧ b2i b ≤ 1 := by cases b <;> decide
      have k4 : th (a+1) (.str (sBool b)) = true := th_mono (Nat.zero_le _) (by cases b <;> rfl)
      simp only [List.mem_cons, List.not_mem_nil, or_false, forall_eq_or_imp, forall_eq]
      exact ⟨tx, th_int (by omega) (by omega), th_int (by omega) (by omega), rfl, k4, th_int (by omega) (by omega)⟩) (by simp) (by simp)
    exact ⟨d', S2, by simp [e1, e2, LIM], h2, t2⟩
  all_goals
    obtain ⟨d', S2, e2, h2, t2⟩ := plain
    exact ⟨d', S2, by simp [e1, e2], h2, t2⟩
def bShT : B := (.or (.not (.e (.isi (.var 1) [.tup, .lst]))) (.or (.cmp .eq (.blt .len (.cons (.var 1) .nil)) (.int 0)) (.cmp .eq (.call 7 (.cons (.var 0) (.cons (.int 8) .nil))) (.int 0))))
def bShR : Ts := (.cons (.par3 4 5 6 true (.blt .list (.cons (.var 1) .nil)) (.call 7 (.cons (.var 0) (.cons (.blt .len (.cons (.var 1) .nil)) .nil))) (.call 7 (.cons (.var 0) (.cons (.int 9) .nil)))) (.cons (.ifs (.cmp .eq (.var 6) (.int 0)) (.cons (.asgO 4 (.bin .add (.slU (.var 4) (.var 5)) (.slL (.var 4) (.bin .add (.var 5) (.int 1))))) (.nil)) (.cons (.ifs (.cmp .eq (.var 6) (.int 1)) (.cons (.asgO 4 (.bin .add (.slU (.var 4) (.bin .add (.var 5) (.int 1))) (.slL (.var 4) (.var 5)))) (.nil)) (.cons (.ifs (.cmp .eq (.var 6) (.int 2)) (.cons (.asgO 4 (.rev (.var 4))) (.nil)) (.cons (.ifs (.cmp .eq (.var 6) (.int 3)) (.cons (.ret (.ife (.e (.isi (.var 1) [.tup])) (.var 4) (.blt .tuple (.cons (.var 4) .nil)))) (.nil)) (.cons (.setI 4 (.var 5) (.ife (.cmp .gt (.var 2) (.int 0)) (.call 17 (.cons (.var 0) (.cons (.idx (.var 4) (.var 5)) (.cons (.bin .sub (.var 2) (.int 1)) .nil)))) (.call 16 (.cons (.var 0) (.cons (.int 1) .nil))))) (.nil))) (.nil))) (.nil))) (.nil))) (.cons (.ret (.ife (.e (.isi (.var 1) [.tup])) (.blt .tuple (.cons (.var 4) .nil)) (.var 4))) (.nil))))
theorem b_sh : b__law_shaken = .cons (.ifs bShT bLeaf .nil) bShR := rfl
/-- a tuple or a list of these -/
def isTL (d : D) (xs : List D) : Prop := d = .tup xs ∨ d = .lst xs
theorem shR_ok (n c l a : Nat) (d : D) (xs : List D) (z : Int) (S : Sto) (hd : isTL d xs) (hx : xs ≠ []) (h : St S c l) (hl : xs.length ≤ 40 + a) (ht : ∀ x ∈ xs, th a x = true) (ha : a ≤ 100)
    (rec : ∀ (x : D) (S : Sto), St S c l → th a x = true → ∃ y S', (if 0 < z then C (n+5) 17 [.loc c, x, .int (z - 1)] S else C (n+5) 16 [.loc c, .int 1] S) = .ok (.val y) S' ∧ St S' c l ∧ th (a+1) y = true) :
    ∃ d' S', exs (X (n+5)) bShR [some (.val (.loc c)), some (.val d), some (.val (.int z)), none, none, none, none] S = .ok (.rt (.val d')) S' ∧ St S' c l ∧ th (a+1) d' = true := by
  have hp : 0 < xs.length := List.length_pos_iff.mpr hx
  obtain ⟨k, S1, e1, h1, k1, k2⟩ := drop_ok (n+4) c l xs.length S h (by omega) (by omega)
  obtain ⟨w, S2, e2, h2, w1, w2⟩ := drop_ok (n+4) c l 9 S1 h1 (by decide) (by decide)
  have hm : ∀ x ∈ xs, th (a+1) x = true := fun x hx => th_mono (by omega) (ht x hx)
  have done : ∀ ys : List D, ys.length ≤ 40 + (a + 1) → (∀ y ∈ ys, th (a+1) y = true) → th (a+1) (.tup ys) = true ∧ th (a+1) (.lst ys) = true := fun ys g1 g2 => ⟨th_tt g1 g2, th_ll g1 g2⟩
  -- the last statement
  have last : ∀ (ys : List D) (S3 : Sto), ys.length ≤ 40 + (a + 1) → (∀ y ∈ ys, th (a+1) y = true) → ∃ d', th (a+1) d' = true ∧ exs (X (n+5)) (.cons (.ret (.ife (.e (.isi (.var 1) [.tup])) (.blt .tuple (.cons (.var 4) .nil)) (.var 4))) (.nil)) [some (.val (.loc c)), some (.val d), some (.val (.int z)), none, some (.own ys), some (.val (.int k)), some (.val (.int w))] S3 = .ok (.rt (.val d')) S3 := fun ys S3 g1 g2 => by
    rcases hd with rfl | rfl
    · exact ⟨.tup ys, (done ys g1 g2).1, by simp⟩
    · exact ⟨.lst ys, (done ys g1 g2).2, by simp⟩
  have par : ex (X (n+5)) (.par3 4 5 6 true (.blt .list (.cons (.var 1) .nil)) (.call 7 (.cons (.var 0) (.cons (.blt .len (.cons (.var 1) .nil)) .nil))) (.call 7 (.cons (.var 0) (.cons (.int 9) .nil)))) [some (.val (.loc c)), some (.val d), some (.val (.int z)), none, none, none, none] S = .ok (.nx [some (.val (.loc c)), some (.val d), some (.val (.int z)), none, some (.own xs), some (.val (.int k)), some (.val (.int w))]) S2 := by
    rcases hd with rfl | rfl <;> simp [e1, e2]
  unfold bShR
  rw [st_nx par]
  have po : ∀ (ys : List D), peekV [some (.val (.loc c)), some (.val d), some (.val (.int z)), none, some (.own ys), some (.val (.int k)), some (.val (.int w))] 4 = some (.lst ys) := fun ys => rfl
  have hc1 := cut_to (xs := xs) (k := k) k1
  have hc2 := cut_from (xs := xs) (k := k + 1) (by omega)
  have hc3 := cut_to (xs := xs) (k := k + 1) (by omega)
  have hc4 := cut_from (xs := xs) (k := k) k1
  have lim : (100000 : Nat) ≤ LIM := by decide
  have fin : ∀ (ys : List D) (S3 : Sto), St S3 c l → ys.length ≤ 40 + (a + 1) → (∀ y ∈ ys, th (a+1) y = true) → ex (X (n+5)) (.ifs (.cmp .eq (.var 6) (.int 0)) (.cons (.asgO 4 (.bin .add (.slU (.var 4) (.var 5)) (.slL (.var 4) (.bin .add (.var 5) (.int 1))))) (.nil)) (.cons (.ifs (.cmp .eq (.var 6) (.int 1)) (.cons (.asgO 4 (.bin .add (.slU (.var 4) (.bin .add (.var 5) (.int 1))) (.slL (.var 4) (.var 5)))) (.nil)) (.cons (.ifs (.cmp .eq (.var 6) (.int 2)) (.cons (.asgO 4 (.rev (.var 4))) (.nil)) (.cons (.ifs (.cmp .eq (.var 6) (.int 3)) (.cons (.ret (.ife (.e (.isi (.var 1) [.tup])) (.var 4) (.blt .tuple (.cons (.var 4) .nil)))) (.nil)) (.cons (.setI 4 (.var 5) (.ife (.cmp .gt (.var 2) (.int 0)) (.call 17 (.cons (.var 0) (.cons (.idx (.var 4) (.var 5)) (.cons (.bin .sub (.var 2) (.int 1)) .nil)))) (.call 16 (.cons (.var 0) (.cons (.int 1) .nil))))) (.nil))) (.nil))) (.nil))) (.nil)))
      [some (.val (.loc c)), some (.val d), some (.val (.int z)), none, some (.own xs), some (.val (.int k)), some (.val (.int w))] S2 = .ok (.nx [some (.val (.loc c)), some (.val d), some (.val (.int z)), none, some (.own ys), some (.val (.int k)), some (.val (.int w))]) S3 →
      ∃ d' S', exs (X (n+5)) (.cons (.ifs (.cmp .eq (.var 6) (.int 0)) (.cons (.asgO 4 (.bin .add (.slU (.var 4) (.var 5)) (.slL (.var 4) (.bin .add (.var 5) (.int 1))))) (.nil)) (.cons (.ifs (.cmp .eq (.var 6) (.int 1)) (.cons (.asgO 4 (.bin .add (.slU (.var 4) (.bin .add (.var 5) (.int 1))) (.slL (.var 4) (.var 5)))) (.nil)) (.cons (.ifs (.cmp .eq (.var 6) (.int 2)) (.cons (.asgO 4 (.rev (.var 4))) (.nil)) (.cons (.ifs (.cmp .eq (.var 6) (.int 3)) (.cons (.ret (.ife (.e (.isi (.var 1) [.tup])) (.var 4) (.blt .tuple (.cons (.var 4) .nil)))) (.nil)) (.cons (.setI 4 (.var 5) (.ife (.cmp .gt (.var 2) (.int 0)) (.call 17 (.cons (.var 0) (.cons (.idx (.var 4) (.var 5)) (.cons (.bin .sub (.var 2) (.int 1)) .nil)))) (.call 16 (.cons (.var 0) (.cons (.int 1) .nil))))) (.nil))) (.nil))) (.nil))) (.nil))) (.cons (.ret (.ife (.e (.isi (.var 1) [.tup])) (.blt .tuple (.cons (.var 4) .nil)) (.var 4))) (.nil)))
        [some (.val (.loc c)), some (.val d), some (.val (.int z)), none, some (.own xs), some (.val (.int k)), some (.val (.int w))] S2 = .ok (.rt (.val d')) S' ∧ St S' c l ∧ th (a+1) d' = true := fun ys S3 hs g1 g2 e => by
    obtain ⟨d', t, e2⟩ := last ys S3 g1 g2
    exact ⟨d', S3, by rw [st_nx e]; exact e2, hs, t⟩
  by_cases i0 : w = 0
  · subst i0
    refine fin (xs.take k.toNat ++ xs.drop (k + 1).toNat) S2 h2 (by rw [List.length_append, List.length_take, List.length_drop]; omega) (fun y hy => ?_) ?_
    · rcases List.mem_append.mp hy with hy | hy
      · exact hm y (List.mem_of_mem_take hy)
      · exact hm y (List.mem_of_mem_drop hy)
    · have q : (List.take k.toNat xs).length + (List.drop (k + 1).toNat xs).length ≤ LIM := by
        rw [List.length_take, List.length_drop]
        omega
      simp [po, hc1, hc2, -List.length_take, -List.length_drop, q]
  have i0' : (w == 0) = false := by simpa using i0
  by_cases i1 : w = 1
  · subst i1
    refine fin (xs.take (k + 1).toNat ++ xs.drop k.toNat) S2 h2 (by rw [List.length_append, List.length_take, List.length_drop]; omega) (fun y hy => ?_) ?_
    · rcases List.mem_append.mp hy with hy | hy
      · exact hm y (List.mem_of_mem_take hy)
      · exact hm y (List.mem_of_mem_drop hy)
    · have q : (List.take (k + 1).toNat xs).length + (List.drop k.toNat xs).length ≤ LIM := by
        rw [List.length_take, List.length_drop]
        omega
      simp [po, hc3, hc4, -List.length_take, -List.length_drop, q]
  have i1' : (w == 1) = false := by simpa using i1
  by_cases i2 : w = 2
  · subst i2
    refine fin xs.reverse S2 h2 (by rw [List.length_reverse]; omega) (fun y hy => hm y (List.mem_reverse.mp hy)) ?_
    simp [po]
  have i2' : (w == 2) = false := by simpa using i2
  by_cases i3 : w = 3
  · subst i3
    rcases hd with rfl | rfl
    · exact ⟨.lst xs, S2, by simp, h2, (done xs (by omega) hm).2⟩
    · exact ⟨.tup xs, S2, by simp, h2, (done xs (by omega) hm).1⟩
  have i3' : (w == 3) = false := by simpa using i3
  have hk : k.toNat < xs.length := by omega
  have hg : xs[k.toNat]? = some xs[k.toNat] := List.getElem?_eq_getElem hk
  obtain ⟨y, S3, e3, h3, t3⟩ := rec xs[k.toNat] S2 h2 (ht _ (List.getElem_mem hk))
  have hix : L2.ixN xs.length k = some k.toNat := by
    unfold L2.ixN
    rw [if_pos k1, if_pos k2]
  refine fin (xs.set k.toNat y) S3 h3 (by rw [List.length_set]; omega) (fun u hu => ?_) ?_
  · rcases List.mem_or_eq_of_mem_set hu with hu | hu
    · exact hm u hu
    · rw [hu]
      exact t3
  · by_cases hz : 0 < z
    · rw [if_pos hz] at e3
      simp [po, i0', i1', i2', i3', hz, k1, k2, hg, e3, setM, hix]
    · rw [if_neg hz] at e3
      simp [po, i0', i1', i2', i3', hz, k1, k2, hg, e3, setM, hix]
theorem sh_body (n c l a : Nat) (d : D) (z : Int) (S : Sto) (h : St S c l) (ht : th a d = true) (ha : a ≤ 100)
    (rec : ∀ (x : D) (S : Sto), St S c l → th a x = true → ∃ y S', (if 0 < z then C (n+5) 17 [.loc c, x, .int (z - 1)] S else C (n+5) 16 [.loc c, .int 1] S) = .ok (.val y) S' ∧ St S' c l ∧ th (a+1) y = true) :
    ∃ d' S', exs (X (n+5)) b__law_shaken [some (.val (.loc c)), some (.val d), some (.val (.int z)), none, none, none, none] S = .ok (.rt (.val d')) S' ∧ St S' c l ∧ th (a+1) d' = true := by
  rw [b_sh]
  have leaf : ∀ S1, St S1 c l → tst (X (n+5)) bShT [some (.val (.loc c)), some (.val d), some (.val (.int z)), none, none, none, none] S = .ok true S1 → ∃ d' S', exs (X (n+5)) (.cons (.ifs bShT bLeaf .nil) bShR) [some (.val (.loc c)), some (.val d), some (.val (.int z)), none, none, none, none] S = .ok (.rt (.val d')) S' ∧ St S' c l ∧ th (a+1) d' = true := fun S1 h1 e1 => by
    obtain ⟨d', S2, e2, h2, t2⟩ := leaf_ok n c l a d z S1 h1 ht ha
    exact ⟨d', S2, if_rt e1 e2, h2, t2⟩
  have main : ∀ xs, isTL d xs → xs.length ≤ 40 + a → ths a xs = true → ∃ d' S', exs (X (n+5)) (.cons (.ifs bShT bLeaf .nil) bShR) [some (.val (.loc c)), some (.val d), some (.val (.int z)), none, none, none, none] S = .ok (.rt (.val d')) S' ∧ St S' c l ∧ th (a+1) d' = true := fun xs hd hl hx => by
    by_cases hne : xs = []
    · refine leaf S h ?_
      unfold bShT
      rcases hd with rfl | rfl <;> subst hne <;> simp
    · have hz : ((xs.length : Int) == 0) = false := by
        have := List.length_pos_iff.mpr hne
        rw [beq_eq_false_iff_ne]
        omega
      obtain ⟨r, S1, e1, h1, r1, r2⟩ := drop_ok (n+4) c l 8 S h (by decide) (by decide)
      by_cases hr : r = 0
      · refine leaf S1 h1 ?_
        unfold bShT
        rcases hd with rfl | rfl <;> simp [e1, hr, hz, hne]
      · have hr0 : (r == 0) = false := by simpa using hr
        have e2 : tst (X (n+5)) bShT [some (.val (.loc c)), some (.val d), some (.val (.int z)), none, none, none, none] S = .ok false S1 := by
          unfold bShT
          rcases hd with rfl | rfl <;> simp [e1, hr0, hz, hne]
        rw [if_nxF (ρ' := [some (.val (.loc c)), some (.val d), some (.val (.int z)), none, none, none, none]) (S2 := S1) e2 (by simp)]
        exact shR_ok n c l a d xs z S1 hd hne h1 hl (ths_iff.mp hx) ha rec
  cases d <;> first | (cases ht; done) | skip
  case tup xs =>
    rw [th_t, Bool.and_eq_true, decide_eq_true_eq] at ht
    exact main xs (.inl rfl) ht.1 ht.2
  case lst xs =>
    rw [th_l, Bool.and_eq_true, decide_eq_true_eq] at ht
    exact main xs (.inr rfl) ht.1 ht.2
  all_goals
    refine leaf S h ?_
    unfold bShT
    simp
theorem shaken_ok (n c l : Nat) : ∀ (k : Nat) (z : Int) (a : Nat) (d : D) (S : Sto), z = k → z ≤ 10 → St S c l → th a d = true → a ≤ 100 → ∃ d' S', C (n+k+6) 17 [.loc c, d, .int z] S = .ok (.val d') S' ∧ St S' c l ∧ th (a+1) d' = true := by
  intro k
  induction k with
  | zero =>
    intro z a d S hz hz2 h ht ha
    have hz0 : ¬ (0 < z) := by omega
    obtain ⟨d', S1, e1, h1, t1⟩ := sh_body n c l a d z S h ht ha (fun x S hS hx => by
      obtain ⟨y, S', e, k1, k2⟩ := stuff_ok (n+1) c l 1 1 S rfl (by decide) hS
      rw [if_neg hz0]
      exact ⟨y, S', e, k1, th_mono (Nat.zero_le _) k2⟩)
    refine ⟨d', S1, ?_, h1, t1⟩
    rw [show n + 0 + 6 = n + 5 + 1 from rfl, c__law_shaken, e1]
    rfl
  | succ k ih =>
    intro z a d S hz hz2 h ht ha
    have hz0 : 0 < z := by omega
    obtain ⟨d', S1, e1, h1, t1⟩ := sh_body (n+k+1) c l a d z S h ht ha (fun x S hS hx => by
      rw [if_pos hz0]
      exact ih (z - 1) a x S (by omega) (by omega) hS hx ha)
    refine ⟨d', S1, ?_, h1, t1⟩
    rw [show n + (k + 1) + 6 = n + k + 1 + 5 + 1 from by omega, c__law_shaken, e1]
    rfl
end Hd

namespace Hd
open PySem Ev
local macro_rules
  | `(tactic| trivial) => `(tactic| simp [*])
theorem weir_ok (n : Nat) (ns : List Int) (k : Int) (S : Sto) (hk : 0 ≤ k) : ∃ S', C (n+1) 6 [.rol (ns.map .int), .int k] S = .ok (.val (.loc S.length)) S' ∧ St S' S.length (S.length + 1) := by
  obtain ⟨a, b, e, h1, h2⟩ := weir_run (X := X n) (S := S) (ns := ns) hk
  refine ⟨_, ?_, wr_new h1 h2, by simp⟩
  rw [c__law_weir, show b__law_weir = bWeir from rfl, e]
  rfl
/-- the checks of one thing -/
theorem check_ok (n : Nat) (x : D) (ρ : Ev.Env) (S : Sto) (hx : x.cmpb = true) (hg : ρ[6]? = some (some (.val x))) : exs (X (n+10)) b_law_1 ρ S = .ok (.nx ρ) S := by
  have g : getV ρ 6 = some x := gv_v hg
  unfold b_law_1
  simp [g, hx]
theorem amount_ok (n : Nat) (x : D) (o0 o1 o2 o3 o4 o6 o8 o9 o10 : Option SV) (S : Sto) (ts : List D) (hx : th 0 x = true) (ht : ∀ y ∈ ts, y.cmpb = true) (hl : ts.length ≤ 1000000) :
    ∃ ys, exs (X n) b_law_2 [o0, o1, o2, o3, o4, some (.val (.lst ts)), o6, some (.val x), o8, o9, o10] S = .ok (.nx [o0, o1, o2, o3, o4, some (.val (.lst ys)), o6, some (.val x), o8, o9, o10]) S ∧ (∀ y ∈ ys, y.cmpb = true) ∧ ys.length = ts.length + 10 := by
  have hc := th_cmpb hx
  refine ⟨((((ts ++ [.tup [x, .int 5, .int 100, .int 2], .tup [.int 1, x, .int 10, .int 2], .tup [.int 1, .int 5, x, .int 0], .tup [.int 1, .int 5, .int 10, x]]) ++
    [.tup [.tup [.int 1, .int 5, .int 10, .int 2], .tup [.tup [.str [105, 110], x]]], .tup [.tup [.int 1, .int 5, .int 10, .int 2], .tup [.tup [.str [114, 101, 115, 116], x]]]]) ++
    [.tup [.tup [.int 1, .int 5, .int 10, .int 2], .tup [.tup [.str [103, 111], .str [104, 101, 114, 101], x], .tup [.str [101, 110, 100]]]]]) ++
    [.tup [.str [109, 105, 110, 117, 116, 101, 115], x, .int 0, x]]) ++ [.tup [.str [119, 97, 116, 101, 114], .int 0, x, .int 0], .tup [.str [119, 97, 116, 101, 114], .int 0, .int 0, x]], ?_, ?_, ?_⟩
  · unfold b_law_2
    rw [st_nx (asg_app (ys := [.tup [x, .int 5, .int 100, .int 2], .tup [.int 1, x, .int 10, .int 2], .tup [.int 1, .int 5, x, .int 0], .tup [.int 1, .int 5, .int 10, x]]) (S1 := S) rfl (by simp) (by simp; omega)), st_nx (asg_app (ys := [.tup [.tup [.int 1, .int 5, .int 10, .int 2], .tup [.tup [.str [105, 110], x]]], .tup [.tup [.int 1, .int 5, .int 10, .int 2], .tup [.tup [.str [114, 101, 115, 116], x]]]]) (S1 := S) rfl (by simp) (by simp; omega)), st_nx (asg_app (ys := [.tup [.tup [.int 1, .int 5, .int 10, .int 2], .tup [.tup [.str [103, 111], .str [104, 101, 114, 101], x], .tup [.str [101, 110, 100]]]]]) (S1 := S) rfl (by simp) (by simp; omega)), st_nx (asg_app (ys := [.tup [.str [109, 105, 110, 117, 116, 101, 115], x, .int 0, x]]) (S1 := S) rfl (by simp) (by simp; omega)), st_nx (asg_app (ys := [.tup [.str [119, 97, 116, 101, 114], .int 0, x, .int 0], .tup [.str [119, 97, 116, 101, 114], .int 0, .int 0, x]]) (S1 := S) rfl (by simp) (by simp; omega))]
    rfl
  · intro y hy
    simp only [List.mem_append, List.mem_cons, List.not_mem_nil, or_false] at hy
    rcases hy with ((((hy | hy | hy | hy | hy) | hy | hy) | hy) | hy) | hy | hy
    · exact ht y hy
    all_goals
      rw [hy]
      simp [hc]
  · simp
theorem shake_ok (n c l : Nat) (x : D) (o0 o1 o3 o4 o7 o8 o9 o10 : Option SV) (S : Sto) (ts : List D) (h : St S c l) (hx : th 1 x = true) (ht : ∀ y ∈ ts, y.cmpb = true) (hl : ts.length ≤ 1000000) :
    ∃ ys o S', exs (X (n+10)) b_law_3 [o0, o1, some (.val (.loc c)), o3, o4, some (.val (.lst ts)), some (.val x), o7, o8, o9, o10] S = .ok (.nx [o0, o1, some (.val (.loc c)), o3, o4, some (.val (.lst ys)), some (.val x), o7, o8, o9, o]) S' ∧ St S' c l ∧ (∀ y ∈ ys, y.cmpb = true) ∧ ys.length = ts.length + 3 := by
  obtain ⟨d1, S1, e1, h1, t1⟩ := shaken_ok n c l 4 4 1 x S rfl (by decide) h hx (by decide)
  obtain ⟨d2, S2, e2, h2, t2⟩ := shaken_ok n c l 4 4 2 d1 S1 rfl (by decide) h1 t1 (by decide)
  obtain ⟨d3, S3, e3, h3, t3⟩ := shaken_ok n c l 4 4 1 x S2 rfl (by decide) h2 hx (by decide)
  refine ⟨ts ++ [d1, d2, d3], some (.val d1), S3, ?_, h3, fun y hy => ?_, by simp⟩
  · unfold b_law_3
    rw [st_nx (ρ' := [o0, o1, some (.val (.loc c)), o3, o4, some (.val (.lst ts)), some (.val x), o7, o8, o9, some (.val d1)]) (S1 := S1) (by simp [e1]), st_nx (asg_app (ys := [d1, d2, d3]) (S1 := S3) rfl (by simp [e2, e3]) (by simp; omega))]
    rfl
  · simp only [List.mem_append, List.mem_cons, List.not_mem_nil, or_false] at hy
    rcases hy with hy | hy | hy | hy
    · exact ht y hy
    · rw [hy]; exact th_cmpb t1
    · rw [hy]; exact th_cmpb t2
    · rw [hy]; exact th_cmpb t3
/-- one turn of the law -/
theorem turn_ok (n : Nat) (ns : List Int) (k : Int) (hk : 0 ≤ k) (o2 o3 o4 o5 o6 o7 o8 o9 o10 : Option SV) (S : Sto) :
    ∃ p2 p3 p4 p5 p6 p7 p8 p9 p10 S', exs (X (n+10)) b_law_4 [some (.val (.rol (ns.map .int))), some (.val (.int k)), o2, o3, o4, o5, o6, o7, o8, o9, o10] S = .ok (.nx [some (.val (.rol (ns.map .int))), some (.val (.int k)), p2, p3, p4, p5, p6, p7, p8, p9, p10]) S' := by
  obtain ⟨S1, e1, h1⟩ := weir_ok (n+9) ns k S hk
  generalize S.length = c at e1 h1
  obtain ⟨lk, es, S2, e2, h2, tlk, tes⟩ := log_book_ok (n+6) c (c+1) S1 h1
  obtain ⟨a, S3, e3, h3, a1, a2⟩ := drop_ok (n+9) c (c+1) 101 S2 h2 (by decide) (by decide)
  obtain ⟨b, S4, e4, h4, b1, b2⟩ := drop_ok (n+9) c (c+1) 101 S3 h3 (by decide) (by decide)
  obtain ⟨x, S5, e5, h5, hx⟩ := any_ok (n+8) c (c+1) [.str [109, 105, 110, 117, 116, 101, 115], .str [119, 97, 116, 101, 114]] S4 h4 (by simp) (by simp)
  obtain ⟨m, S6, e6, h6, m1, m2⟩ := drop_ok (n+9) c (c+1) 10001 S5 h5 (by decide) (by decide)
  have tx : th 0 x = true := ths_iff.mp (show ths 0 [.str [109, 105, 110, 117, 116, 101, 115], .str [119, 97, 116, 101, 114]] = true from rfl) x hx
  have tcl : th 0 (.tup [x, .int a, .int b, .int m]) = true := by
    rw [th_t, ths_c, ths_c, ths_c, ths_c, tx, th_int (by omega) (by omega), th_int (by omega) (by omega), th_int (by omega) (by omega)]
    rfl
  have tlb : th 0 (.tup [lk, .tup es]) = true := by
    rw [th_t, ths_c, ths_c, tlk, tes]
    rfl
  have c1 := th_cmpb tlk
  have c2 := th_cmpb tes
  have c3 := th_cmpb tcl
  have c4 := th_cmpb tlb
  have c5 := th_cmpb tx
  unfold b_law_4
  rw [st_nx (ρ' := [some (.val (.rol (ns.map .int))), some (.val (.int k)), some (.val (.loc c)), o3, o4, o5, o6, o7, o8, o9, o10]) (S1 := S1) (by simp [e1])]
  rw [st_nx (ρ' := [some (.val (.rol (ns.map .int))), some (.val (.int k)), some (.val (.loc c)), some (.val (.tup [lk, .tup es])), o4, o5, o6, o7, o8, o9, o10]) (S1 := S2) (by simp [e2])]
  rw [st_nx (ρ' := [some (.val (.rol (ns.map .int))), some (.val (.int k)), some (.val (.loc c)), some (.val (.tup [lk, .tup es])), o4, o5, o6, o7, some (.val (.int a)), some (.val (.int b)), o10]) (S1 := S4) (by simp [e3, e4])]
  rw [st_nx (ρ' := [some (.val (.rol (ns.map .int))), some (.val (.int k)), some (.val (.loc c)), some (.val (.tup [lk, .tup es])), some (.val (.tup [x, .int a, .int b, .int m])), o5, o6, o7, some (.val (.int a)), some (.val (.int b)), o10]) (S1 := S6) (by simp [e5, e6])]
  rw [st_nx (ρ' := [some (.val (.rol (ns.map .int))), some (.val (.int k)), some (.val (.loc c)), some (.val (.tup [lk, .tup es])), some (.val (.tup [x, .int a, .int b, .int m])), some (.val (.lst [.tup [lk, .tup es], lk, .tup es, .tup [x, .int a, .int b, .int m], .lst [lk, .tup es], .lst [x, .int a, .int b, .int m], .tup [.tup es, lk], .tup [x, .int a, .int b, .int m, .int 0]])), o6, o7, some (.val (.int a)), some (.val (.int b)), o10]) (S1 := S6) (by simp [LIM])]
  -- the first walk
  obtain ⟨ρ7, S7, e7, h7, ts, q6, q10, rfl, t7, l7⟩ := fors_inv (X := X (n+10)) (t := .nm 6) (s := .seq (.lst (.cons (.var 3) (.cons (.var 3) (.cons (.var 3) (.cons (.idx (.var 3) (.int 0)) (.cons (.var 4) (.cons (.var 4) .nil)))))))) (b := b_law_3)
    (ρ := [some (.val (.rol (ns.map .int))), some (.val (.int k)), some (.val (.loc c)), some (.val (.tup [lk, .tup es])), some (.val (.tup [x, .int a, .int b, .int m])), some (.val (.lst [.tup [lk, .tup es], lk, .tup es, .tup [x, .int a, .int b, .int m], .lst [lk, .tup es], .lst [x, .int a, .int b, .int m], .tup [.tup es, lk], .tup [x, .int a, .int b, .int m, .int 0]])), o6, o7, some (.val (.int a)), some (.val (.int b)), o10]) (S := S6) (S1 := S6)
    (xs := [.tup [lk, .tup es], .tup [lk, .tup es], .tup [lk, .tup es], lk, .tup [x, .int a, .int b, .int m], .tup [x, .int a, .int b, .int m]])
    (P := fun j ρ S => St S c (c+1) ∧ ∃ ts q6 q10, ρ = [some (.val (.rol (ns.map .int))), some (.val (.int k)), some (.val (.loc c)), some (.val (.tup [lk, .tup es])), some (.val (.tup [x, .int a, .int b, .int m])), some (.val (.lst ts)), q6, o7, some (.val (.int a)), some (.val (.int b)), q10] ∧ (∀ y ∈ ts, y.cmpb = true) ∧ ts.length = 8 + 3 * j)
    (by simp) ⟨h6, _, o6, o10, rfl, (by
      intro y hy
      simp only [List.mem_cons, List.not_mem_nil, or_false] at hy
      simp only [cmpb_tup, cmpbs_c] at c4 c3
      rcases hy with hy | hy | hy | hy | hy | hy | hy | hy <;> rw [hy] <;> simp [c1, c2, c5]
      all_goals (simpa using c2)), rfl⟩ (fun j y ρ S hy hp => by
      obtain ⟨hs, ts, q6, q10, rfl, t1, l1⟩ := hp
      have ty : th 1 y = true := th_mono (Nat.zero_le _) (ths_iff.mp (show ths 0 [.tup [lk, .tup es], .tup [lk, .tup es], .tup [lk, .tup es], lk, .tup [x, .int a, .int b, .int m], .tup [x, .int a, .int b, .int m]] = true from by rw [ths_c, ths_c, ths_c, ths_c, ths_c, ths_c, tlb, tlk, tcl] <;> rfl) y (List.mem_of_getElem? hy))
      have hj : j < 6 := (List.getElem?_eq_some_iff.mp hy).1
      obtain ⟨ys, o, S', e, k1, k2, k3⟩ := shake_ok n c (c+1) y (some (.val (.rol (ns.map .int)))) (some (.val (.int k))) (some (.val (.tup [lk, .tup es]))) (some (.val (.tup [x, .int a, .int b, .int m]))) o7 (some (.val (.int a))) (some (.val (.int b))) q10 S ts hs ty t1 (by omega)
      exact ⟨_, rfl, _, S', e, k1, ys, _, o, rfl, k2, by rw [k3, l1]; omega⟩)
  rw [st_nx e7]
  obtain ⟨ρ8, S8, e8, rfl, ts2, q7, rfl, t8, l8⟩ := fors_inv (X := X (n+10)) (t := .nm 7) (s := .seq (.lst (.cons (.neg (.int 1)) (.cons (.int 0) (.cons (.int 1) (.cons (.int 4) (.cons (.int 5) (.cons (.int 10) (.cons (.int 11) (.cons (.int 20) (.cons (.int 21) (.cons (.int 60) (.cons (.int 61) (.cons (.int 100) (.cons (.int 101) (.cons (.int 10000) (.cons (.int 10001) (.cons (.bl true) (.cons (.non) .nil))))))))))))))))))) (b := b_law_2)
    (ρ := [some (.val (.rol (ns.map .int))), some (.val (.int k)), some (.val (.loc c)), some (.val (.tup [lk, .tup es])), some (.val (.tup [x, .int a, .int b, .int m])), some (.val (.lst ts)), q6, o7, some (.val (.int a)), some (.val (.int b)), q10]) (S := S7) (S1 := S7)
    (xs := [.int (-1), .int 0, .int 1, .int 4, .int 5, .int 10, .int 11, .int 20, .int 21, .int 60, .int 61, .int 100, .int 101, .int 10000, .int 10001, .bl true, .non])
    (P := fun j ρ S => S = S7 ∧ ∃ ts q7, ρ = [some (.val (.rol (ns.map .int))), some (.val (.int k)), some (.val (.loc c)), some (.val (.tup [lk, .tup es])), some (.val (.tup [x, .int a, .int b, .int m])), some (.val (.lst ts)), q6, q7, some (.val (.int a)), some (.val (.int b)), q10] ∧ (∀ y ∈ ts, y.cmpb = true) ∧ ts.length = 26 + 10 * j)
    (by simp) ⟨rfl, ts, o7, rfl, t7, l7⟩ (fun j y ρ S hy hp => by
      obtain ⟨rfl, ts, q7, rfl, t1, l1⟩ := hp
      have ty : th 0 y = true := ths_iff.mp (show ths 0 [.int (-1), .int 0, .int 1, .int 4, .int 5, .int 10, .int 11, .int 20, .int 21, .int 60, .int 61, .int 100, .int 101, .int 10000, .int 10001, .bl true, .non] = true from rfl) y (List.mem_of_getElem? hy)
      have hj : j < 17 := (List.getElem?_eq_some_iff.mp hy).1
      obtain ⟨ys, e, k2, k3⟩ := amount_ok (n+10) y (some (.val (.rol (ns.map .int)))) (some (.val (.int k))) (some (.val (.loc c))) (some (.val (.tup [lk, .tup es]))) (some (.val (.tup [x, .int a, .int b, .int m]))) q6 (some (.val (.int a))) (some (.val (.int b))) q10 S ts ty t1 (by omega)
      exact ⟨_, rfl, _, S, e, rfl, ys, _, rfl, k2, by rw [k3, l1]; omega⟩)
  rw [st_nx e8]
  have l8 : ts2.length = 196 := l8
  rw [st_nx (asg_app (ys := [.tup [.tup [.int 1, .int 5, .int 10, .int 2], .tup (rep 8 [.tup [.str [116, 117, 114, 110]]])], .tup [.tup [.int 1, .int 5, .int 10, .int 2], .tup (rep 9 [.tup [.str [116, 117, 114, 110]]])], .tup [.tup [.int 1, .int 5, .int 10, .int 2], .tup []]]) (S1 := S8) rfl (by simp) (by simp; omega))]
  obtain ⟨d, S9, e9, h9, td⟩ := stuff_ok (n+4) c (c+1) 3 3 S8 rfl (by decide) h7
  have cd := th_cmpb td
  generalize hts3 : ts2 ++ [.tup [.tup [.int 1, .int 5, .int 10, .int 2], .tup (rep 8 [.tup [.str [116, 117, 114, 110]]])], .tup [.tup [.int 1, .int 5, .int 10, .int 2], .tup (rep 9 [.tup [.str [116, 117, 114, 110]]])], .tup [.tup [.int 1, .int 5, .int 10, .int 2], .tup []]] = ts3
  have t9 : ∀ y ∈ ts3, y.cmpb = true := fun y hy => by
    rw [← hts3] at hy
    rcases List.mem_append.mp hy with hy | hy
    · exact t8 y hy
    · exact cmpbs_mem (show D.cmpbs [.tup [.tup [.int 1, .int 5, .int 10, .int 2], .tup (rep 8 [.tup [.str [116, 117, 114, 110]]])], .tup [.tup [.int 1, .int 5, .int 10, .int 2], .tup (rep 9 [.tup [.str [116, 117, 114, 110]]])], .tup [.tup [.int 1, .int 5, .int 10, .int 2], .tup []]] = true from rfl) y hy
  have l9 : ts3.length = 199 := by
    rw [← hts3, List.length_append, l8]
    rfl
  obtain ⟨ρ9, S10, e10, rfl, q6', rfl⟩ := fors_inv (X := X (n+10)) (t := .nm 6) (s := .seq (.bin .add (.var 5) (.lst (.cons (.tup (.cons (.int 2) (.cons (.int 5) (.cons (.int 10) (.cons (.int 5) .nil))))) (.cons (.tup (.cons (.int 2) (.cons (.int 5) (.cons (.int 9) (.cons (.int 5) .nil))))) (.cons (.call 16 (.cons (.var 2) (.cons (.int 3) .nil))) .nil)))))) (b := b_law_1)
    (ρ := [some (.val (.rol (ns.map .int))), some (.val (.int k)), some (.val (.loc c)), some (.val (.tup [lk, .tup es])), some (.val (.tup [x, .int a, .int b, .int m])), some (.val (.lst ts3)), q6, q7, some (.val (.int a)), some (.val (.int b)), q10]) (S := S8) (S1 := S9)
    (xs := ts3 ++ [.tup [.int 2, .int 5, .int 10, .int 5], .tup [.int 2, .int 5, .int 9, .int 5], d])
    (P := fun j ρ S => S = S9 ∧ ∃ q6, ρ = [some (.val (.rol (ns.map .int))), some (.val (.int k)), some (.val (.loc c)), some (.val (.tup [lk, .tup es])), some (.val (.tup [x, .int a, .int b, .int m])), some (.val (.lst ts3)), q6, q7, some (.val (.int a)), some (.val (.int b)), q10])
    (by simp [e9, l9, LIM]) ⟨rfl, q6, rfl⟩ (fun j y ρ S hy hp => by
      obtain ⟨rfl, q6, rfl⟩ := hp
      have cy : y.cmpb = true := by
        rcases List.mem_append.mp (List.mem_of_getElem? hy) with hy | hy
        · exact t9 y hy
        · simp only [List.mem_cons, List.not_mem_nil, or_false] at hy
          rcases hy with hy | hy | hy
          · rw [hy] <;> rfl
          · rw [hy] <;> rfl
          · rw [hy]
            exact cd
      exact ⟨_, rfl, _, S, check_ok n y _ S cy rfl, rfl, _, rfl⟩)
  refine ⟨some (.val (.loc c)), some (.val (.tup [lk, .tup es])), some (.val (.tup [x, .int a, .int b, .int m])), some (.val (.lst ts3)), q6', q7, some (.val (.int a)), some (.val (.int b)), q10, S10, ?_⟩
  exact (st_nx e10).trans rfl
theorem law_run (n : Nat) (ns : List Int) (hn : ns.length ≤ 63) : ∃ S', C (n+11) 19 [.rol (ns.map .int)] [] = .ok (.val (.bl true)) S' := by
  rw [c_law, b_law]
  generalize hm : (if (1 : Int) < (if (ns.length : Int) < 10 then (ns.length : Int) else 10) then (if (ns.length : Int) < 10 then (ns.length : Int) else 10) else 1) = m
  have m1 : 1 ≤ m ∧ m ≤ 10 := by
    rw [← hm]
    split <;> split at * <;> omega
  obtain ⟨ρ', S', e, o1, o2, o3, o4, o5, o6, o7, o8, o9, o10, rfl⟩ := fors_inv (X := X (n+10)) (t := .nm 1) (s := .rng (.blt .max2 (.cons (.int 1) (.cons (.blt .min2 (.cons (.int 10) (.cons (.blt .len (.cons (.var 0) .nil)) .nil))) .nil)))) (b := b_law_4)
    (ρ := [some (.val (.rol (ns.map .int))), none, none, none, none, none, none, none, none, none, none]) (S := []) (S1 := []) (xs := rngD m)
    (P := fun j ρ S => ∃ o1 o2 o3 o4 o5 o6 o7 o8 o9 o10, ρ = [some (.val (.rol (ns.map .int))), o1, o2, o3, o4, o5, o6, o7, o8, o9, o10])
    (by
      have q1 : -1000000 ≤ m := by omega
      have q2 : m ≤ 1000000 := by omega
      simp [hm, q1, q2]) ⟨none, none, none, none, none, none, none, none, none, none, rfl⟩ (fun j y ρ S hy hp => by
      obtain ⟨o1, o2, o3, o4, o5, o6, o7, o8, o9, o10, rfl⟩ := hp
      have hj := rngD_get hy
      subst hj
      obtain ⟨p2, p3, p4, p5, p6, p7, p8, p9, p10, S', e⟩ := turn_ok n ns (j : Int) (by omega) o2 o3 o4 o5 o6 o7 o8 o9 o10 S
      exact ⟨_, rfl, _, S', e, _, _, _, _, _, _, _, _, _, _, rfl⟩)
  refine ⟨S', ?_⟩
  rw [st_nx e]
  simp
end Hd

namespace Hd
open PySem Ev
theorem pure_law (ns : List Int) (h : ns.length ≤ 63) : ∃ S', callN (tab.map Df.fd) (cs.map fun g => g.val.d) 1000 40 19 [.rol (ns.map .int)] [] = .ok (.val (.bl true)) S' := law_run _ ns h
end Hd
open PySem PySem.W PySem.Calls PyProof.Rows
theorem PySem.Challenge.cw_lockbooks_k01_locks_books_and_claims_holds : PySem.Challenge.rw_lockbooks_k01_locks_books_and_claims.Holds := by
  w_on; o_law
  refine HandSHeadRun.head_any (r := OpenLaw.row PySem.Challenge.rw_lockbooks_k01_locks_books_and_claims) (q := view (OpenLaw.row PySem.Challenge.rw_lockbooks_k01_locks_books_and_claims).prog [24]) (H := Hd.hk) (ob := Hd.ob) (M := 1500) (loose := Hd.loose) (d := HandSHeadRun.topDef (OpenLaw.row PySem.Challenge.rw_lockbooks_k01_locks_books_and_claims).prog 24) (kwd := []) Hd.ob_eq
    (by kernel_rfl) (fun s => by kernel_rfl) Hd.run (by kernel_rfl) (by kernel_rfl) (by kernel_rfl) (by rfl) (by first | assumption | decide +kernel) (by decide +kernel) ⟨rfl, rfl, rfl, rfl, rfl, by decide +kernel⟩ ?hw ?hc
  case hw => w_witness2
  case hc =>
    refine L2.walk_ofE (l := PySem.Challenge.rw_lockbooks_k01_locks_books_and_claims) (n := 63) (k := 40) (x := "_law_script") (CX := L2.CX0) rfl (by decide) (by kernel_rfl) ⟨rfl, by decide, by decide⟩ ?F (fun _ _ _ _ z => z)
    intro w mg fa h Y G hmg0
    obtain ⟨K, KX, c⟩ := Y
    have hmg : mg Hd.d_law.name = some (.ref fa) := by
      have e : (HandSHeadRun.topDef (OpenLaw.row PySem.Challenge.rw_lockbooks_k01_locks_books_and_claims).prog 24).name = Hd.d_law.name := by kernel_rfl
      rw [← e]
      exact hmg0
    exact Ev.law_F (l := PySem.Challenge.rw_lockbooks_k01_locks_books_and_claims) (W := 1000) (f := 19) (d := Hd.d_law) KX G c Hd.tab_good Hd.cs_good (by decide) rfl rfl hmg Hd.pure_law
