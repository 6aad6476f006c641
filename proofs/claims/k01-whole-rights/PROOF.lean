import PyProof.Rows.All
import Wide.All
import OpenK.AllK
import Wide.FinOn
import HandS.ForMost
import HandS.ForExc
import HandS.Zip
import HandS.TupAny
import HandS.TupMul
import HandS.IsInst
import HandS.Conv
import HandS.Style
import HandS.Flow
import HandS.Wide
import HandS.StrMore
import PyProof.ListMulRoad
import PyProof.FactsAll.tuple_2
import HandS.Deep
import KE.GoesMore
import PyProof.CollectIter
import HandS.Defaults
import HandS.Words
import HandS.Codes
import HandS.Head0
import HandS.Head1
import HandS.Head2
import HandS.HeadEnd
import HandS.HeadHook1
import HandS.HeadHook2
import PyProof.TableCode
import KE.KStateDown
import Lean
import PySem.Challenge.RW_leastgrant_k01_whole_rights
set_option Elab.async false
set_option linter.all false
set_option maxRecDepth 100000
set_option maxHeartbeats 0
/-! Ev0: a small interpreter over data. Tuples stand by value, mutable objects by number in a store; a new list that nobody has named yet is a value of its own (tmp). -/
namespace Ev

inductive D where
  | non | bl (b : Bool) | int (i : Int) | str (s : List Nat) | tup (ds : List D) | ref (i : Nat)
  /-- the script -/
  | scr (ns : List Int)
  deriving Inhabited

mutual
/-- every reference in it is below b -/
def D.low (b : Nat) : D → Bool
  | .tup ds => D.lowL b ds
  | .ref i => Nat.blt i b
  | .non => true
  | .bl _ => true
  | .int _ => true
  | .str _ => true
  | .scr _ => true
def D.lowL (b : Nat) : List D → Bool
  | [] => true
  | d :: ds => d.low b && D.lowL b ds
end

inductive Ob where
  /-- a list -/
  | lst (ds : List D)
def Ob.low (b : Nat) : Ob → Bool
  | .lst ds => D.lowL b ds

structure St where
  objs : List Ob
  /-- no object below it (and below the call's base) was stored a reference upwards -/
  dirty : Nat

inductive Rv where
  | d (d : D)
  | tmp (ds : List D)

inductive Res (α : Type) where
  | ok (a : α) (st : St)
  | err

abbrev M (α : Type) := St → Res α
@[reducible] def M.pure {α : Type} (a : α) : M α := fun st => .ok a st
def Res.bind {α β : Type} (r : Res α) (f : α → M β) : Res β := match r with
  | .ok a st => f a st
  | .err => .err
@[reducible] def M.bind {α β : Type} (m : M α) (f : α → M β) : M β := fun st => (m st).bind f
def M.err {α : Type} : M α := fun _ => .err
@[simp] theorem bind_ok {α β : Type} (a : α) (st : St) (f : α → M β) : (Res.ok a st).bind f = f a st := rfl
@[simp] theorem bind_err {α β : Type} (f : α → M β) : (Res.err : Res α).bind f = .err := rfl

/-- a new object -/
def alloc (o : Ob) : M Nat := fun st => .ok st.objs.length ⟨st.objs ++ [o], st.dirty⟩
/-- an object stored anew -/
def put (i : Nat) (o : Ob) : M Unit := fun st => .ok () ⟨st.objs.set i o, if o.low (i + 1) then st.dirty else min st.dirty i⟩
/-- a value that may be held -/
def mat : Rv → M D
  | .d d => M.pure d
  | .tmp ds => M.bind (alloc (.lst ds)) fun i => M.pure (.ref i)
/-- the items of a list that is read -/
def listOf (st : St) : Rv → Option (List D)
  | .tmp ds => some ds
  | .d (.ref i) => (match st.objs[i]? with
    | some (.lst ds) => some ds
    | none => none)
  | .d (.scr ns) => some (ns.map .int)
  | .d _ => none

/-- a list of one's own -/
def ownL (st : St) : Rv → Option (List D)
  | .tmp ds => some ds
  | .d (.ref i) => (match st.objs[i]? with
    | some (.lst ds) => some ds
    | none => none)
  | .d _ => none

inductive Bop where
  | add | sub | mul | fdiv | mod | pow
inductive Cop where
  | eq | ne | lt | le | gt | ge | isin | notin
inductive Ty where
  | non | bl | int | str | tup | lst
  deriving DecidableEq
inductive Blt where
  | len | all | any | tuple | max | min | abs | sum
inductive Tg where
  | var (i : Nat)
  | tup (is : List Nat)

mutual
inductive E where
  | var (i : Nat)
  | cst (d : D)
  | tup (es : Es)
  | lst (es : Es)
  | bin (op : Bop) (a b : E)
  | neg (a : E)
  | cmp (op : Cop) (a b : E)
  | chn (op op' : Cop) (a b c : E)
  | isn (neg : Bool) (a : E)
  | isb (b : Bool) (a : E)
  | isi (u : Ty) (a : E)
  | and (a b : E)
  | or (a b : E)
  | not (a : E)
  | ite (c a b : E)
  | sub (a i : E)
  | slc (a : E) (lo hi : Eo)
  | call (f : Nat) (es : Es)
  | blt (f : Blt) (es : Es)
  | lc (own : List Nat) (t : Tg) (src : Src) (cond : Eo) (elt : E)
  /-- o.pop(i) -/
  | pop (o i : E)
inductive Eo where
  | no
  | yes (e : E)
inductive Es where
  | nil
  | cons (e : E) (es : Es)
inductive Src where
  | e (e : E)
  | rng1 (a : E)
  | rng2 (a b : E)
  | rng3 (a b c : E)
  | zip (a b : E)
  | enum (a : E)
end

/-! ### pure parts -/
/-- the widest size that is answered -/
abbrev big : Nat := 100000
mutual
/-- data without objects, of so much depth -/
def D.plain : Nat → D → Bool
  | n, .tup ds => (match n with
    | 0 => false
    | n + 1 => D.plainL n ds)
  | _, .ref _ => false
  | _, .scr _ => false
  | _, .non => true
  | _, .bl _ => true
  | _, .int _ => true
  | _, .str s => s.all fun c => Nat.blt c 55296
def D.plainL : Nat → List D → Bool
  | _, [] => true
  | n, d :: ds => d.plain n && D.plainL n ds
end
mutual
def D.eqb : D → D → Bool
  | .non, .non => true
  | .bl a, .bl b => a == b
  | .bl a, .int j => (if a then 1 else 0) == j
  | .int i, .bl b => i == (if b then 1 else 0)
  | .int i, .int j => i == j
  | .str x, .str y => x == y
  | .tup xs, .tup ys => D.eqbL xs ys
  | _, _ => false
def D.eqbL : List D → List D → Bool
  | [], [] => true
  | x :: xs, y :: ys => D.eqb x y && D.eqbL xs ys
  | _, _ => false
end
def ofO (o : Option Rv) : M Rv := fun st => match o with
  | some v => .ok v st
  | none => .err
def rBl (b : Bool) : Rv := .d (.bl b)
def D.flat : D → Bool
  | .non => true
  | .bl _ => true
  | .int _ => true
  | .str _ => true
  | _ => false
/-- scalars that == tells apart as data does -/
def D.scal : D → D → Bool
  | .bl _, .int _ => false
  | .int _, .bl _ => false
  | x, y => x.flat && y.flat
def plainAll (xs : List D) : Bool := D.plainL 10 xs
def eqR (st : St) (a b : Rv) : Option Bool := match listOf st a, listOf st b with
  | some xs, some ys => if plainAll xs && plainAll ys then some (D.eqbL xs ys) else none
  | none, none => (match a, b with
    | .d x, .d y => if D.scal x y || (x.plain 10 && y.plain 10) then some (x.eqb y) else none
    | _, _ => none)
  | some xs, none => (match b with
    | .d y => if plainAll xs && y.plain 10 then some false else none
    | _ => none)
  | none, some ys => (match a with
    | .d x => if plainAll ys && x.plain 10 then some false else none
    | _ => none)
def anyEq (deep : Bool) (x : D) (ys : List D) : Option Bool := if (x.flat && ys.all D.flat) || (deep && (x.plain 10 && plainAll ys)) then some (ys.any fun y => y.eqb x) else none
/-- one sign in a text -/
def inR (st : St) (a b : Rv) : Option Bool := match a, b with
  | .d (.str [c]), .d (.str z) => some (decide (c ∈ z))
  | .d x, .d (.tup ys) => anyEq false x ys
  | .d x, b => (match listOf st b with
    | some ys => anyEq true x ys
    | none => none)
  | _, _ => none
def cmpI (op : Cop) (i j : Int) : Option Bool := match op with
  | .lt => some (decide (i < j))
  | .le => some (decide (i ≤ j))
  | .gt => some (decide (j < i))
  | .ge => some (decide (j ≤ i))
  | _ => none
def intsR (op : Cop) (a b : Rv) : Option Bool := match a, b with
  | .d (.int i), .d (.int j) => cmpI op i j
  | _, _ => none
def cmpR (op : Cop) (st : St) (a b : Rv) : Option Bool := match op with
  | .eq => eqR st a b
  | .ne => (eqR st a b).map (!·)
  | .isin => inR st a b
  | .notin => (inR st a b).map (!·)
  | op => intsR op a b
def two64 : Int := 18446744073709551616
def smallI (i : Int) : Bool := decide (-two64 < i) && decide (i < two64)
def binI (op : Bop) (i j : Int) : Option Int := match op with
  | .add => some (i + j)
  | .sub => some (i - j)
  | .mul => if smallI i || smallI j then some (i * j) else none
  | .fdiv => if decide (0 < j) && decide (j.natAbs < 2 ^ 8000) then some (i / j) else none
  | .mod => if decide (0 < j) then some (i % j) else none
  | .pow => if decide (0 ≤ j) && (decide (j ≤ 1000000) && smallI i) then some (i ^ j.toNat) else none
def binR (op : Bop) (st : St) (a b : Rv) : Option Rv := match op, a, b with
  | op, .d (.int i), .d (.int j) => (binI op i j).map fun k => .d (.int k)
  | .add, .d (.str x), .d (.str y) => if decide (x.length + y.length ≤ big) then some (.d (.str (x ++ y))) else none
  | .add, .d (.tup x), .d (.tup y) => if decide (x.length + y.length ≤ big) then some (.d (.tup (x ++ y))) else none
  | .mul, .d (.tup x), .d (.int k) => if !x.isEmpty && (decide (-1000000 ≤ k) && (decide (k ≤ 1000) && decide (x.length ≤ 100))) then some (.d (.tup (List.replicate k.toNat x).flatten)) else none
  | .add, a, b => (match ownL st a, ownL st b with
    | some x, some y => if decide (x.length + y.length ≤ big) then some (.tmp (x ++ y)) else none
    | _, _ => none)
  | .mul, a, .d (.int k) => (match ownL st a with
    | some x => if decide (-1000000 ≤ k) && (decide (k ≤ 1000) && decide (x.length ≤ 100)) then some (.tmp (List.replicate k.toNat x).flatten) else none
    | none => none)
  | _, _, _ => none
/-- the place that an index means -/
def ixN (n : Nat) (i : Int) : Option Nat := if 0 ≤ i then (if i < n then some i.toNat else none) else if -(n : Int) ≤ i then some (i + n).toNat else none
def atI {α : Type} (xs : List α) (i : Int) : Option α := (ixN xs.length i).bind fun j => xs[j]?
def subR (st : St) (a b : Rv) : Option D := match a, b with
  | .d (.tup xs), .d (.int i) => if decide (xs.length ≤ big) then atI xs i else none
  | .d (.tup xs), .d (.bl c) => if decide (xs.length ≤ big) then atI xs (if c then 1 else 0) else none
  | .d (.str z), .d (.int i) => if decide (z.length ≤ big) then (atI z i).map fun c => .str [c] else none
  | a, .d (.int i) => (match listOf st a with
    | some xs => if decide (xs.length ≤ big) then atI xs i else none
    | none => none)
  | _, _ => none
def sIx (n d : Nat) : Option Int → Nat
  | none => d
  | some i => if i < 0 then (i + (n : Int)).toNat else min i.toNat n
def cut {α : Type} (xs : List α) (lo hi : Option Int) : List α := (xs.drop (sIx xs.length 0 lo)).take (sIx xs.length xs.length hi - sIx xs.length 0 lo)
def boundOf : Option Rv → Option (Option Int)
  | none => some none
  | some (.d (.int i)) => if decide (-1000000000 ≤ i) && decide (i ≤ 1000000000) then some (some i) else none
  | some _ => none
def slcR (st : St) (a : Rv) (lo hi : Option Int) : Option Rv := match a with
  | .d (.tup xs) => if decide (xs.length ≤ big) then some (.d (.tup (cut xs lo hi))) else none
  | .d (.str z) => if decide (z.length ≤ big) then some (.d (.str (cut z lo hi))) else none
  | a => (match listOf st a with
    | some xs => if decide (xs.length ≤ big) then some (.tmp (cut xs lo hi)) else none
    | none => none)
def bools : List D → Option (List Bool)
  | [] => some []
  | .bl b :: r => (bools r).map (b :: ·)
  | _ :: _ => none
def lenR (st : St) (a : Rv) : Option Nat := match a with
  | .d (.tup xs) => some xs.length
  | .d (.str z) => some z.length
  | a => (listOf st a).map List.length
/-- the type of a value -/
def tyR (st : St) (a : Rv) : Option Ty := match a with
  | .d .non => some .non
  | .d (.bl _) => some .bl
  | .d (.int _) => some .int
  | .d (.str _) => some .str
  | .d (.tup _) => some .tup
  | a => (listOf st a).map fun _ => .lst
def isTy (t u : Ty) : Bool := match t, u with
  | .bl, .int => true
  | t, u => decide (t = u)
def lenB (st : St) (a : Rv) : Option Rv := match lenR st a with
  | some n => if decide (n ≤ big) then some (.d (.int n)) else none
  | none => none
def allB (st : St) (a : Rv) : Option Rv := match listOf st a with
  | some xs => (bools xs).map fun bs => rBl (bs.all id)
  | none => none
def anyB (st : St) (a : Rv) : Option Rv := match listOf st a with
  | some xs => (bools xs).map fun bs => rBl (bs.any id)
  | none => none
def tupB (st : St) (a : Rv) : Option Rv := match a with
  | .d (.tup xs) => some (.d (.tup xs))
  | a => (match listOf st a with
    | some xs => if decide (xs.length ≤ big) then some (.d (.tup xs)) else none
    | none => none)
def intsD : List D → Option (List Int)
  | [] => some []
  | .int i :: r => (intsD r).map (i :: ·)
  | _ :: _ => none
def sumB (st : St) (a : Rv) : Option Rv := match listOf st a with
  | some xs => (intsD xs).map fun is => .d (.int is.sum)
  | none => none
def absB (a : Rv) : Option Rv := match a with
  | .d (.int i) => some (.d (.int (if i < 0 then -i else i)))
  | _ => none
def blt1 (f : Blt) (st : St) (a : Rv) : Option Rv := match f with
  | .len => lenB st a
  | .all => allB st a
  | .any => anyB st a
  | .tuple => tupB st a
  | .abs => absB a
  | .sum => sumB st a
  | .max => none
  | .min => none
def blt2 (f : Blt) (a b : Rv) : Option Rv := match a, b with
  | .d (.int i), .d (.int j) => (match f with
    | .max => some (.d (.int (if j > i then j else i)))
    | .min => some (.d (.int (if j < i then j else i)))
    | _ => none)
  | _, _ => none
def bltR (f : Blt) (st : St) (as : List Rv) : Option Rv := match as with
  | [a] => blt1 f st a
  | [a, b] => blt2 f a b
  | _ => none

/-! ### environments, targets -/
abbrev Env := List (Option D)
def getV (env : Env) (i : Nat) : Option D := (env[i]?).join
def setTg : Tg → D → Env → Option Env
  | .var i, d, env => some (env.set i (some d))
  | .tup is, .tup ds, env => if is.length = ds.length then some ((is.zip ds).foldl (fun e p => e.set p.1 (some p.2)) env) else none
  | .tup _, _, _ => none

/-! ### what is walked -/
/-- items, or a list that is read turn by turn -/
inductive Side where
  /-- a tuple's, a new list's, a list's in the store -/
  | tup (ds : List D)
  | tmp (ds : List D)
  | live (i : Nat)
def Side.isT : Side → Bool
  | .tup _ => true
  | _ => false
inductive Its where
  | fix (ds : List D)
  | one (s : Side)
  | zip (s t : Side)
  | enum (s : Side)
def rangeL (a b c : Int) : Option (List D) :=
  if decide (0 < c) && (decide (c ≤ 1000) && (decide (-1000000000 ≤ a) && (decide (b ≤ 1000000000) && (decide (a ≤ 1000000000) && decide (-1000000000 ≤ b))))) then some ((List.range ((b - a + c - 1) / c).toNat).map fun (k : Nat) => D.int (a + c * (k : Int))) else none
/-- what a for walks: the value of an expression -/
def sideOf (st : St) : Rv → Option Side
  | .tmp ds => some (.tmp ds)
  | .d (.tup ds) => some (.tup ds)
  | .d (.ref i) => (match st.objs[i]? with
    | some _ => some (.live i)
    | none => none)
  | .d (.scr ns) => some (.tmp (ns.map .int))
  | .d _ => none
def itsOf (st : St) : Rv → Option Its
  | .d (.str z) => some (.fix (z.map fun c => D.str [c]))
  | a => (sideOf st a).map .one
def Side.all (st : St) : Side → Option (List D)
  | .tup ds => some ds
  | .tmp ds => some ds
  | .live i => listOf st (.d (.ref i))
def Side.at (st : St) (k : Nat) (s : Side) : Option (Option D) := (s.all st).map fun ds => ds[k]?
/-- the item of a turn -/
def Its.at (st : St) (k : Nat) : Its → Option (Option D)
  | .fix ds => some ds[k]?
  | .one s => s.at st k
  | .zip s t => (match s.at st k, t.at st k with
    | some (some x), some (some y) => some (some (.tup [x, y]))
    | some _, some _ => some none
    | _, _ => none)
  | .enum s => (match s.at st k with
    | some (some x) => some (some (.tup [.int k, x]))
    | some none => some none
    | none => none)
/-- more than its turns -/
def Side.size (st : St) (s : Side) : Nat := match s.all st with
  | some ds => ds.length
  | none => 0
def Its.size (st : St) : Its → Nat
  | .fix ds => ds.length
  | .one s => s.size st
  | .zip s t => s.size st + t.size st
  | .enum s => s.size st
/-- a comprehension's loop: turns left, turn -/
def lcGo (body : D → M (Option D)) (its : Its) : Nat → Nat → M (List D)
  | 0, _ => fun _ => .err
  | n + 1, k => fun st => match its.at st k with
    | none => .err
    | some none => .ok [] st
    | some (some d) => (body d st).bind fun o st1 => (lcGo body its n (k + 1) st1).bind fun r st2 => .ok (o.toList ++ r) st2
def lcTmp (l : List D) : M Rv := fun st => if l.length ≤ big then .ok (.tmp l) st else .err
def wipe (env : Env) : List Nat → Env
  | [] => env
  | v :: vs => (wipe env vs).set v none

/-- a test; none is no test -/
def condOf : Option Rv → Option Bool
  | none => some true
  | some (.d (.bl b)) => some b
  | some _ => none
/-- the list at a reference, to be changed -/
def mutOf (st : St) : Rv → Option (Nat × List D)
  | .d (.ref i) => (match st.objs[i]? with
    | some (.lst ds) => some (i, ds)
    | _ => none)
  | _ => none
variable (call : Nat → List D → M Rv)
mutual
def evE : E → Env → M Rv
  | .var i, env => fun st => (match getV env i with
    | some d => .ok (.d d) st
    | none => .err)
  | .cst d, _ => fun st => .ok (.d d) st
  | .tup es, env => fun st => (evA es env st).bind fun ds st1 => if ds.length ≤ big then .ok (.d (.tup ds)) st1 else .err
  | .lst es, env => fun st => (evA es env st).bind fun ds st1 => if ds.length ≤ big then .ok (.tmp ds) st1 else .err
  | .bin op a b, env => fun st => (evE a env st).bind fun x st1 => (evE b env st1).bind fun y st2 => ofO (binR op st2 x y) st2
  | .neg a, env => fun st => (evE a env st).bind fun x st1 => (match x with
    | .d (.int i) => .ok (.d (.int (-i))) st1
    | _ => .err)
  | .cmp op a b, env => fun st => (evE a env st).bind fun x st1 => (evE b env st1).bind fun y st2 => ofO ((cmpR op st2 x y).map rBl) st2
  | .chn op op' a b c, env => fun st => (evE a env st).bind fun x st1 => (evE b env st1).bind fun y st2 => (match cmpR op st2 x y with
    | some true => (evE c env st2).bind fun z st3 => ofO ((cmpR op' st3 y z).map rBl) st3
    | some false => .ok (rBl false) st2
    | none => .err)
  | .isn ng a, env => fun st => (evE a env st).bind fun x st1 => (match x with
    | .d .non => .ok (rBl (!ng)) st1
    | _ => .ok (rBl ng) st1)
  | .isb b a, env => fun st => (evE a env st).bind fun x st1 => (match x with
    | .d (.bl c) => .ok (rBl (b == c)) st1
    | _ => .err)
  | .isi u a, env => fun st => (evE a env st).bind fun x st1 => (match tyR st1 x with
    | some t => .ok (rBl (isTy t u)) st1
    | none => .err)
  | .and a b, env => fun st => (evE a env st).bind fun x st1 => (match x with
    | .d (.bl true) => evE b env st1
    | .d (.bl false) => .ok (rBl false) st1
    | _ => .err)
  | .or a b, env => fun st => (evE a env st).bind fun x st1 => (match x with
    | .d (.bl false) => evE b env st1
    | .d (.bl true) => .ok (rBl true) st1
    | _ => .err)
  | .not a, env => fun st => (evE a env st).bind fun x st1 => (match x with
    | .d (.bl c) => .ok (rBl (!c)) st1
    | _ => .err)
  | .ite c a b, env => fun st => (evE c env st).bind fun x st1 => (match x with
    | .d (.bl true) => evE a env st1
    | .d (.bl false) => evE b env st1
    | _ => .err)
  | .sub a i, env => fun st => (evE a env st).bind fun x st1 => (evE i env st1).bind fun y st2 => ofO ((subR st2 x y).map .d) st2
  | .slc a lo hi, env => fun st => (evE a env st).bind fun x st1 => (evO lo env st1).bind fun l st2 => (evO hi env st2).bind fun h st3 => (match boundOf l, boundOf h with
    | some l, some h => ofO (slcR st3 x l h) st3
    | _, _ => .err)
  | .call f es, env => fun st => (evA es env st).bind fun ds st1 => call f ds st1
  | .blt f es, env => fun st => (evR es env st).bind fun xs st1 => ofO (bltR f st1 xs) st1
  | .lc own t src cond elt, env => fun st => (evSrc src env st).bind fun its st1 =>
      (lcGo (fun d st => match setTg t d (wipe env own) with
        | none => .err
        | some env' => (evO cond env' st).bind fun b st2 => (match condOf b with
          | some true => (evE elt env' st2).bind fun y st3 => (mat y st3).bind fun y st4 => .ok (some y) st4
          | some false => .ok none st2
          | none => .err)) its (its.size st1 + 1) 0 st1).bind lcTmp
  | .pop o i, env => fun st => (evE o env st).bind fun x st1 => (match mutOf st1 x with
    | some _ => (evE i env st1).bind fun y st2 => (match mutOf st2 x, y with
      | some (p, ds), .d (.int k) => if ds.length ≤ big then (match ixN ds.length k with
        | some j => (match ds[j]? with
          | some d => (put p (.lst (ds.eraseIdx j)) st2).bind fun _ st3 => .ok (.d d) st3
          | none => .err)
        | none => .err) else .err
      | _, _ => .err)
    | none => .err)
/-- a bound of a slice, a clause's test -/
def evO : Eo → Env → M (Option Rv)
  | .no, _ => fun st => .ok none st
  | .yes e, env => fun st => (evE e env st).bind fun x st1 => .ok (some x) st1
/-- arguments that are handed on, held -/
def evA : Es → Env → M (List D)
  | .nil, _ => fun st => .ok [] st
  | .cons e es, env => fun st => (evE e env st).bind fun x st1 => (mat x st1).bind fun d st2 => (evA es env st2).bind fun ds st3 => .ok (d :: ds) st3
/-- arguments of a built-in -/
def evR : Es → Env → M (List Rv)
  | .nil, _ => fun st => .ok [] st
  | .cons e es, env => fun st => (evE e env st).bind fun x st1 => (evR es env st1).bind fun xs st2 => .ok (x :: xs) st2
def evSrc : Src → Env → M Its
  | .e e, env => fun st => (evE e env st).bind fun x st1 => (match itsOf st1 x with
    | some its => .ok its st1
    | none => .err)
  | .rng1 a, env => fun st => (evE a env st).bind fun x st1 => (match x with
    | .d (.int i) => (match rangeL 0 i 1 with
      | some ds => .ok (.fix ds) st1
      | none => .err)
    | _ => .err)
  | .rng2 a b, env => fun st => (evE a env st).bind fun x st1 => (evE b env st1).bind fun y st2 => (match x, y with
    | .d (.int i), .d (.int j) => (match rangeL i j 1 with
      | some ds => .ok (.fix ds) st2
      | none => .err)
    | _, _ => .err)
  | .rng3 a b c, env => fun st => (evE a env st).bind fun x st1 => (evE b env st1).bind fun y st2 => (evE c env st2).bind fun z st3 => (match x, y, z with
    | .d (.int i), .d (.int j), .d (.int k) => (match rangeL i j k with
      | some ds => .ok (.fix ds) st3
      | none => .err)
    | _, _, _ => .err)
  | .zip a b, env => fun st => (evE a env st).bind fun x st1 => (evE b env st1).bind fun y st2 => (match sideOf st2 x, sideOf st2 y with
    | some s, some t => if s.isT == t.isT then .ok (.zip s t) st2 else .err
    | _, _ => .err)
  | .enum a, env => fun st => (evE a env st).bind fun x st1 => (match sideOf st1 x with
    | some s => if s.isT then .ok (.enum s) st1 else .err
    | none => .err)
end

/-! ### statements -/
inductive Fl where
  | nx (env : Env)
  | rt (v : Rv)
  | bk (env : Env)
  | ct (env : Env)
inductive Tgt where
  | tg (t : Tg)
  /-- o[i] -/
  | sub (o i : E)
  /-- *first, last: the slots of both -/
  | star (i j : Nat)
mutual
inductive S where
  | pass
  | expr (e : E)
  | asg (t : Tgt) (e : E)
  /-- a, b = x, y -/
  | par (is : List Nat) (es : Es)
  | aug (i : Nat) (op : Bop) (e : E)
  | append (o e : E)
  | extend (o e : E)
  | ret (e : E)
  | ret0
  | if_ (c : E) (a b : Ss)
  | for_ (t : Tg) (src : Src) (b : Ss)
  | brk
  | cont
  /-- what is never come to -/
  | never
inductive Ss where
  | nil
  | cons (s : S) (ss : Ss)
end
def forGo (t : Tg) (body : Env → M Fl) (its : Its) : Nat → Nat → Env → M Fl
  | 0, _, _ => fun _ => .err
  | n + 1, k, env => fun st => match its.at st k with
    | none => .err
    | some none => .ok (.nx env) st
    | some (some d) => (match setTg t d env with
      | none => .err
      | some env1 => (body env1 st).bind fun f st1 => (match f with
        | .nx env2 => forGo t body its n (k + 1) env2 st1
        | .ct env2 => forGo t body its n (k + 1) env2 st1
        | .bk env2 => .ok (.nx env2) st1
        | .rt v => .ok (.rt v) st1))
def augI (op : Bop) (a b : Int) : Option Int := match op with
  | .add => some (a + b)
  | .sub => some (a - b)
  | _ => none
def setAll (is : List Nat) (ds : List D) (env : Env) : Env := (is.zip ds).foldl (fun e p => e.set p.1 (some p.2)) env
mutual
def evS : S → Env → M Fl
  | .pass, env => fun st => .ok (.nx env) st
  | .expr e, env => fun st => (evE call e env st).bind fun _ st1 => .ok (.nx env) st1
  | .asg t e, env => fun st => (evE call e env st).bind fun x st1 => (match t with
    | .tg t => (mat x st1).bind fun d st2 => (match setTg t d env with
      | some env' => .ok (.nx env') st2
      | none => .err)
    | .sub o i => (mat x st1).bind fun d st2 => (evE call o env st2).bind fun y st3 => (evE call i env st3).bind fun z st4 => (match mutOf st4 y, z with
      | some (p, ds), .d (.int k) => if ds.length ≤ big then (match ixN ds.length k with
        | some j => (put p (.lst (ds.set j d)) st4).bind fun _ st5 => .ok (.nx env) st5
        | none => .err) else .err
      | _, _ => .err)
    | .star i j => (match x with
      | .d (.tup ds) => (match ds.getLast? with
        | some l => if ds.length ≤ big then (alloc (.lst ds.dropLast) st1).bind fun p st2 => .ok (.nx ((env.set i (some (.ref p))).set j (some l))) st2 else .err
        | none => .err)
      | _ => .err))
  | .par is es, env => fun st => (evA call es env st).bind fun ds st1 => if is.length = ds.length then .ok (.nx (setAll is ds env)) st1 else .err
  | .aug i op e, env => fun st => (match getV env i with
    | some x => (evE call e env st).bind fun y st1 => (match x, y with
      | .int a, .d (.int b) => (match augI op a b with
        | some c => .ok (.nx (env.set i (some (.int c)))) st1
        | none => .err)
      | _, _ => .err)
    | none => .err)
  | .append o e, env => fun st => (evE call o env st).bind fun x st1 => (match mutOf st1 x with
    | some _ => (evE call e env st1).bind fun y st2 => (mat y st2).bind fun d st3 => (match mutOf st3 x with
      | some (p, ds) => if ds.length < big then (put p (.lst (ds ++ [d])) st3).bind fun _ st4 => .ok (.nx env) st4 else .err
      | none => .err)
    | none => .err)
  | .extend o e, env => fun st => (evE call o env st).bind fun x st1 => (match mutOf st1 x with
    | some _ => (evE call e env st1).bind fun y st2 => (match mutOf st2 x, ownL st2 y with
      | some (p, ds), some zs => if ds.length + zs.length ≤ big then (put p (.lst (ds ++ zs)) st2).bind fun _ st4 => .ok (.nx env) st4 else .err
      | _, _ => .err)
    | none => .err)
  | .ret e, env => fun st => (evE call e env st).bind fun x st1 => .ok (.rt x) st1
  | .ret0, env => fun st => .ok (.rt (.d .non)) st
  | .if_ c a b, env => fun st => (evE call c env st).bind fun x st1 => (match x with
    | .d (.bl true) => evSs a env st1
    | .d (.bl false) => evSs b env st1
    | _ => .err)
  | .for_ t src b, env => fun st => (evSrc call src env st).bind fun its st1 => forGo t (evSs b) its (its.size st1 + 1) 0 env st1
  | .brk, env => fun st => .ok (.bk env) st
  | .cont, env => fun st => .ok (.ct env) st
  | .never, _ => fun _ => .err
def evSs : Ss → Env → M Fl
  | .nil, env => fun st => .ok (.nx env) st
  | .cons s ss, env => fun st => (evS s env st).bind fun f st1 => (match f with
    | .nx env1 => evSs ss env1 st1
    | f => .ok f st1)
end

/-! ### defs -/
structure Fn where
  /-- parameters, slots -/
  np : Nat
  nn : Nat
  body : Ss
def keepAll (d0 : Nat) (rv : Rv) (st : St) : Res Rv := .ok rv ⟨st.objs, min d0 st.dirty⟩
/-- what a call leaves: where nothing new is held by what was there, and the result holds nothing new, the new objects go -/
def finish (base d0 : Nat) (rv : Rv) (st : St) : Res Rv :=
  if st.dirty < base then keepAll d0 rv st else match rv with
  | .d (.ref i) => if i < base then .ok rv ⟨st.objs.take base, d0⟩ else (match st.objs[i]? with
    | some (.lst ds) => if D.lowL base ds then .ok (.tmp ds) ⟨st.objs.take base, d0⟩ else keepAll d0 rv st
    | _ => keepAll d0 rv st)
  | .d d => if d.low base then .ok rv ⟨st.objs.take base, d0⟩ else keepAll d0 rv st
  | .tmp ds => if D.lowL base ds then .ok rv ⟨st.objs.take base, d0⟩ else keepAll d0 rv st
def retOf : Fl → Option Rv
  | .rt v => some v
  | .nx _ => some (.d .non)
  | _ => none
def evFn (fns : List Fn) : Nat → Nat → List D → M Rv
  | 0, _, _ => fun _ => .err
  | n + 1, f, args => fun st => match fns[f]? with
    | none => .err
    | some fn => if args.length = fn.np then
        (evSs (evFn fns n) fn.body (args.map some ++ List.replicate (fn.nn - fn.np) none) ⟨st.objs, st.objs.length⟩).bind fun fl st1 => (match retOf fl with
          | some rv => finish st.objs.length st.dirty rv st1
          | none => .err)
      else .err
end Ev
/-! Ev1: what the interpreter's data stand for in the layer's abstract heap. -/
namespace EvS
open PySem PySem.Spec PyProof.Rows L2

abbrev Ix := List Addr
/-- a list that never changes -/
def FrzL (K : PySem.W.Frag) (H : Hp) (a : Addr) (xs : List V) : Prop :=
  (∃ o, H a = some (.frz o (.lst xs))) ∨
    ∃ (o : Obj) (its : Array Value) (n : Nat), K.lookup a = some o ∧ o.cls = .type "list" ∧ o.dict = none ∧ o.data = .seq its n ∧ its.size ≤ sizeLine ∧ Vals xs its.toList
theorem FrzL.seq {K : PySem.W.Frag} {H : Hp} {a : Addr} {xs : List V} (h : FrzL K H a xs) : SqL K H a xs := by
  rcases h with ⟨o, h⟩ | h
  · exact .inl (.inr ⟨o, h⟩)
  · exact .inr h

section
variable (K : PySem.W.Frag)
mutual
def Rep (ρ : Ix) (H : Hp) : Ev.D → V → Prop
  | .non, v => v = .non
  | .bl b, v => v = .bl b
  | .int i, v => v = .int i
  | .str s, v => v = .str ⟨s.toArray⟩
  | .tup ds, v => ∃ a xs, v = .ref a ∧ SqT K H a xs ∧ RepL ρ H ds xs
  | .ref i, v => ∃ a, ρ[i]? = some a ∧ v = .ref a
  | .scr ns, v => ∃ a, v = .ref a ∧ FrzL K H a (ns.map V.int)
def RepL (ρ : Ix) (H : Hp) : List Ev.D → List V → Prop
  | [], xs => xs = []
  | d :: ds, xs => ∃ x r, xs = x :: r ∧ Rep ρ H d x ∧ RepL ρ H ds r
end
def RepO (ρ : Ix) (H : Hp) (a : Addr) : Ev.Ob → Prop
  | .lst ds => ∃ xs, H a = some (.lst xs) ∧ RepL K ρ H ds xs
structure RepS (ρ : Ix) (H : Hp) (st : Ev.St) : Prop where
  len : ρ.length = st.objs.length
  nd : ρ.Nodup
  obj : ∀ (i : Nat) (o : Ev.Ob) (a : Addr), st.objs[i]? = some o → ρ[i]? = some a → RepO K ρ H a o
structure RepE (ρ : Ix) (H : Hp) (env : Ev.Env) (σ : L2.St) : Prop where
  len : env.length = σ.length
  val : ∀ (i : Nat) (d : Ev.D), env[i]? = some (some d) → ∃ v, σ[i]? = some (some v) ∧ Rep K ρ H d v
def RepR (ρ : Ix) (H : Hp) : Ev.Rv → V → Prop
  | .d d, v => Rep K ρ H d v
  | .tmp ds, v => ∃ a xs, v = .ref a ∧ H a = some (.lst xs) ∧ a ∉ ρ ∧ RepL K ρ H ds xs
end

/-- a new list is new at H -/
def Nw (H : Hp) : Ev.Rv → V → Prop
  | .d _, _ => True
  | .tmp _, v => ∃ a, v = .ref a ∧ H a = none
/-- what a piece of a run keeps -/
structure Grow (ρ : Ix) (H : Hp) (ρ' : Ix) (H' : Hp) : Prop where
  pre : ρ <+: ρ'
  frame : ∀ a o, H a = some o → a ∉ ρ → H' a = some o
  tups : ∀ a xs, H a = some (.tup xs) → H' a = some (.tup xs)
  frzs : ∀ a o u, H a = some (.frz o u) → H' a = some (.frz o u)
  new : ∀ a ∈ ρ', a ∈ ρ ∨ H a = none

section
variable {K : PySem.W.Frag} {ρ ρ1 ρ2 : Ix} {H H1 H2 : Hp} {a : Addr} {o : HO} {st : Ev.St}
theorem Grow.refl : Grow ρ H ρ H := ⟨List.prefix_refl _, fun _ _ h _ => h, fun _ _ h => h, fun _ _ _ h => h, fun _ h => .inl h⟩
theorem Grow.trans (g : Grow ρ H ρ1 H1) (g' : Grow ρ1 H1 ρ2 H2) : Grow ρ H ρ2 H2 where
  pre := g.pre.trans g'.pre
  frame := fun a o h n => g'.frame a o (g.frame a o h n) fun m => (g.new a m).elim n fun z => by rw [h] at z; cases z
  tups := fun a xs h => g'.tups a xs (g.tups a xs h)
  frzs := fun a o u h => g'.frzs a o u (g.frzs a o u h)
  new := fun a m => by
    rcases g'.new a m with m1 | z
    · exact g.new a m1
    · cases q : H a with
      | none => exact .inr rfl
      | some u =>
        by_cases hm : a ∈ ρ
        · exact .inl hm
        · rw [g.frame a u q hm] at z; cases z
theorem Grow.ix (g : Grow ρ H ρ1 H1) {i : Nat} (h : ρ[i]? = some a) : ρ1[i]? = some a := by
  obtain ⟨t, rfl⟩ := g.pre
  rw [List.getElem?_append_left (List.getElem?_eq_some_iff.mp h).1]
  exact h
theorem Grow.sqT (g : Grow ρ H ρ1 H1) {xs : List V} (h : SqT K H a xs) : SqT K H1 a xs := by
  rcases h with (h | ⟨o, h⟩) | h
  · exact .inl (.inl (g.tups _ _ h))
  · exact .inl (.inr ⟨o, g.frzs _ _ _ h⟩)
  · exact .inr h
theorem Grow.frzL (g : Grow ρ H ρ1 H1) {xs : List V} (h : FrzL K H a xs) : FrzL K H1 a xs := by
  rcases h with ⟨o, h⟩ | h
  · exact .inl ⟨o, g.frzs _ _ _ h⟩
  · exact .inr h
mutual
theorem Rep.mono (g : Grow ρ H ρ1 H1) : ∀ {d : Ev.D} {v : V}, Rep K ρ H d v → Rep K ρ1 H1 d v
  | .non, _, h => by rw [Rep] at h ⊢; exact h
  | .bl _, _, h => by rw [Rep] at h ⊢; exact h
  | .int _, _, h => by rw [Rep] at h ⊢; exact h
  | .str _, _, h => by rw [Rep] at h ⊢; exact h
  | .tup ds, _, h => by
    rw [Rep] at h ⊢
    obtain ⟨a, xs, e, s, r⟩ := h
    exact ⟨a, xs, e, g.sqT s, RepL.mono g r⟩
  | .ref i, _, h => by
    rw [Rep] at h ⊢
    obtain ⟨a, e, z⟩ := h
    exact ⟨a, g.ix e, z⟩
  | .scr ns, _, h => by
    rw [Rep] at h ⊢
    obtain ⟨a, e, z⟩ := h
    exact ⟨a, e, g.frzL z⟩
theorem RepL.mono (g : Grow ρ H ρ1 H1) : ∀ {ds : List Ev.D} {xs : List V}, RepL K ρ H ds xs → RepL K ρ1 H1 ds xs
  | [], _, h => by rw [RepL] at h ⊢; exact h
  | d :: ds, _, h => by
    rw [RepL] at h ⊢
    obtain ⟨x, r, e, h1, h2⟩ := h
    exact ⟨x, r, e, Rep.mono g h1, RepL.mono g h2⟩
end
mutual
theorem Rep.widen (g : ∀ {i : Nat} {b : Addr}, ρ[i]? = some b → ρ1[i]? = some b) : ∀ {d : Ev.D} {v : V}, Rep K ρ H d v → Rep K ρ1 H d v
  | .non, _, h => by rw [Rep] at h ⊢; exact h
  | .bl _, _, h => by rw [Rep] at h ⊢; exact h
  | .int _, _, h => by rw [Rep] at h ⊢; exact h
  | .str _, _, h => by rw [Rep] at h ⊢; exact h
  | .tup ds, _, h => by
    rw [Rep] at h ⊢
    obtain ⟨a, xs, e, s, r⟩ := h
    exact ⟨a, xs, e, s, RepL.widen g r⟩
  | .ref i, _, h => by
    rw [Rep] at h ⊢
    obtain ⟨a, e, z⟩ := h
    exact ⟨a, g e, z⟩
  | .scr ns, _, h => by
    rw [Rep] at h ⊢
    exact h
theorem RepL.widen (g : ∀ {i : Nat} {b : Addr}, ρ[i]? = some b → ρ1[i]? = some b) : ∀ {ds : List Ev.D} {xs : List V}, RepL K ρ H ds xs → RepL K ρ1 H ds xs
  | [], _, h => by rw [RepL] at h ⊢; exact h
  | d :: ds, _, h => by
    rw [RepL] at h ⊢
    obtain ⟨x, r, e, h1, h2⟩ := h
    exact ⟨x, r, e, Rep.widen g h1, RepL.widen g h2⟩
end
theorem RepE.mono (g : Grow ρ H ρ1 H1) {env : Ev.Env} {σ : L2.St} (h : RepE K ρ H env σ) : RepE K ρ1 H1 env σ :=
  ⟨h.len, fun i d e => let ⟨v, e1, r⟩ := h.val i d e; ⟨v, e1, r.mono g⟩⟩
theorem RepR.mono (g : Grow ρ H ρ1 H1) : ∀ {x : Ev.Rv} {v : V}, RepR K ρ H x v → RepR K ρ1 H1 x v
  | .d _, _, h => Rep.mono g h
  | .tmp ds, _, ⟨a, xs, e, h, n, r⟩ => ⟨a, xs, e, g.frame a _ h n, (fun m => (g.new a m).elim n fun z => by rw [h] at z; exact nomatch z), r.mono g⟩
theorem RepL.length : ∀ {ds : List Ev.D} {xs : List V}, RepL K ρ H ds xs → ds.length = xs.length
  | [], _, h => by rw [RepL] at h; subst h; rfl
  | d :: ds, _, h => by
    rw [RepL] at h
    obtain ⟨x, r, rfl, _, h2⟩ := h
    rw [List.length_cons, List.length_cons, RepL.length h2]
theorem RepL.get : ∀ {ds : List Ev.D} {xs : List V} {i : Nat} {d : Ev.D}, RepL K ρ H ds xs → ds[i]? = some d → ∃ x, xs[i]? = some x ∧ Rep K ρ H d x
  | [], _, _, _, _, e => by simp at e
  | d :: ds, _, 0, _, h, e => by
    rw [RepL] at h
    obtain ⟨x, r, rfl, h1, _⟩ := h
    simp at e; subst e
    exact ⟨x, rfl, h1⟩
  | d :: ds, _, i + 1, _, h, e => by
    rw [RepL] at h
    obtain ⟨x, r, rfl, _, h2⟩ := h
    exact RepL.get (i := i) h2 (by simpa using e)
theorem RepL.append : ∀ {ds es : List Ev.D} {xs ys : List V}, RepL K ρ H ds xs → RepL K ρ H es ys → RepL K ρ H (ds ++ es) (xs ++ ys)
  | [], _, _, _, h, h' => by rw [RepL] at h; subst h; exact h'
  | d :: ds, _, _, _, h, h' => by
    rw [RepL] at h
    obtain ⟨x, r, rfl, h1, h2⟩ := h
    show RepL K ρ H (d :: (ds ++ _)) (x :: (r ++ _))
    rw [RepL]
    exact ⟨x, _, rfl, h1, RepL.append h2 h'⟩
theorem RepL.take : ∀ {ds : List Ev.D} {xs : List V} (n : Nat), RepL K ρ H ds xs → RepL K ρ H (ds.take n) (xs.take n)
  | _, _, 0, _ => by rw [List.take_zero, List.take_zero, RepL]
  | [], _, n + 1, h => by rw [RepL] at h; subst h; rw [List.take_nil, List.take_nil, RepL]
  | d :: ds, _, n + 1, h => by
    rw [RepL] at h
    obtain ⟨x, r, rfl, h1, h2⟩ := h
    rw [List.take_succ_cons, List.take_succ_cons, RepL]
    exact ⟨x, _, rfl, h1, RepL.take n h2⟩
theorem RepL.drop : ∀ {ds : List Ev.D} {xs : List V} (n : Nat), RepL K ρ H ds xs → RepL K ρ H (ds.drop n) (xs.drop n)
  | _, _, 0, h => h
  | [], _, n + 1, h => by rw [RepL] at h; subst h; rw [List.drop_nil, List.drop_nil, RepL]
  | d :: ds, _, n + 1, h => by
    rw [RepL] at h
    obtain ⟨x, r, rfl, h1, h2⟩ := h
    exact RepL.drop n h2
theorem RepL.set {d : Ev.D} {v : V} (hv : Rep K ρ H d v) : ∀ {ds : List Ev.D} {xs : List V} (i : Nat), RepL K ρ H ds xs → RepL K ρ H (ds.set i d) (xs.set i v)
  | [], _, i, h => by rw [RepL] at h; subst h; simp [RepL]
  | e :: ds, _, 0, h => by
    rw [RepL] at h
    obtain ⟨x, r, rfl, h1, h2⟩ := h
    rw [List.set_cons_zero, List.set_cons_zero, RepL]
    exact ⟨v, r, rfl, hv, h2⟩
  | e :: ds, _, i + 1, h => by
    rw [RepL] at h
    obtain ⟨x, r, rfl, h1, h2⟩ := h
    rw [List.set_cons_succ, List.set_cons_succ, RepL]
    exact ⟨x, _, rfl, h1, RepL.set hv i h2⟩
theorem repL_nil : RepL K ρ H [] [] := by rw [RepL]
theorem repL_cons {d : Ev.D} {ds : List Ev.D} {x : V} {xs : List V} (h : Rep K ρ H d x) (h' : RepL K ρ H ds xs) : RepL K ρ H (d :: ds) (x :: xs) := by
  rw [RepL]; exact ⟨x, xs, rfl, h, h'⟩
theorem RepL.ofCons {d : Ev.D} {ds : List Ev.D} {xs : List V} (h : RepL K ρ H (d :: ds) xs) : ∃ x r, xs = x :: r ∧ Rep K ρ H d x ∧ RepL K ρ H ds r := by
  rw [RepL] at h; exact h
theorem RepL.ofNil {xs : List V} (h : RepL K ρ H [] xs) : xs = [] := by rw [RepL] at h; exact h

/-! ### the store -/
theorem RepS.at (s : RepS K ρ H st) {i : Nat} {ob : Ev.Ob} (h : st.objs[i]? = some ob) : ∃ a, ρ[i]? = some a ∧ RepO K ρ H a ob := by
  have hi : i < ρ.length := by rw [s.len]; exact (List.getElem?_eq_some_iff.mp h).1
  exact ⟨ρ[i], List.getElem?_eq_getElem hi, s.obj i ob _ h (List.getElem?_eq_getElem hi)⟩
theorem RepO.there {ob : Ev.Ob} (h : RepO K ρ H a ob) : ∃ xs, H a = some (.lst xs) := by
  cases ob with
  | lst ds => obtain ⟨xs, h, _⟩ := h; exact ⟨xs, h⟩
theorem RepS.there (s : RepS K ρ H st) (h : a ∈ ρ) : ∃ xs, H a = some (.lst xs) := by
  obtain ⟨i, hi, e⟩ := List.mem_iff_getElem.mp h
  have hi' : i < st.objs.length := by rw [← s.len]; exact hi
  exact (s.obj i _ a (List.getElem?_eq_getElem hi') (by rw [List.getElem?_eq_getElem hi, e])).there
theorem RepS.fresh (s : RepS K ρ H st) (h : H a = none) : a ∉ ρ := fun m => by
  obtain ⟨xs, e⟩ := s.there m
  rw [h] at e; cases e
/-- a new untracked place filled -/
theorem Grow.upd (h : H a = none) (s : RepS K ρ H st) : Grow ρ H ρ (upd H a o) where
  pre := List.prefix_refl _
  frame := fun b u e _ => by rw [upd_ne (ne_of_none e h)]; exact e
  tups := fun b u e => by rw [upd_ne (ne_of_none e h)]; exact e
  frzs := fun b u x e => by rw [upd_ne (ne_of_none e h)]; exact e
  new := fun b m => .inl m
theorem RepO.mono {ob : Ev.Ob} (g : Grow ρ H ρ1 H1) (k : ∀ xs, H a = some (.lst xs) → H1 a = some (.lst xs)) (h : RepO K ρ H a ob) : RepO K ρ1 H1 a ob := by
  cases ob with
  | lst ds =>
    obtain ⟨xs, e, r⟩ := h
    exact ⟨xs, k xs e, r.mono g⟩
theorem RepS.upd (s : RepS K ρ H st) (h : H a = none) : RepS K ρ (L2.upd H a o) st :=
  ⟨s.len, s.nd, fun i ob b e e' => (s.obj i ob b e e').mono (Grow.upd h s) fun xs q => by rw [upd_ne (ne_of_none q h)]; exact q⟩
/-- new now is new then -/
theorem Grow.none (g : Grow ρ H ρ1 H1) (s : RepS K ρ1 H1 st) (h : H1 a = none) : H a = none := by
  cases q : H a with
  | none => rfl
  | some u =>
    have n1 : a ∉ ρ1 := s.fresh h
    have n0 : a ∉ ρ := fun m => n1 (g.pre.subset m)
    rw [g.frame a u q n0] at h
    cases h
theorem Grow.nw (g : Grow ρ H ρ1 H1) (s : RepS K ρ1 H1 st) : ∀ {rv : Ev.Rv} {v : V}, Nw H1 rv v → Nw H rv v
  | .d _, _, _ => trivial
  | .tmp _, _, ⟨a, e, h⟩ => ⟨a, e, g.none s h⟩
/-- held from now on -/
theorem mat_ok {rv : Ev.Rv} {v : V} {d : Ev.D} {st' : Ev.St} (g : Grow ρ H ρ1 H1) (s : RepS K ρ1 H1 st) (r : RepR K ρ1 H1 rv v) (n : Nw H rv v) (e : Ev.mat rv st = .ok d st') :
    ∃ ρ2, Grow ρ H ρ2 H1 ∧ (∃ t, ρ2 = ρ1 ++ t) ∧ RepS K ρ2 H1 st' ∧ Rep K ρ2 H1 d v ∧ (∀ (b : Addr), b ∈ ρ2 → b ∈ ρ1 ∨ H b = Option.none) := by
  cases rv with
  | d x =>
    cases e
    exact ⟨ρ1, g, ⟨[], by rw [List.append_nil]⟩, s, r, fun _ m => .inl m⟩
  | tmp ds =>
    cases e
    obtain ⟨a, xs, rfl, h, na, rl⟩ := r
    obtain ⟨a', ea, ha⟩ := n
    injection ea with ea
    subst ea
    have g1 : Grow ρ1 H1 (ρ1 ++ [a]) H1 → True := fun _ => trivial
    have ix : ∀ {i : Nat} {b : Addr}, ρ1[i]? = some b → (ρ1 ++ [a])[i]? = some b := fun {i b} q => by
      rw [List.getElem?_append_left (List.getElem?_eq_some_iff.mp q).1]
      exact q
    have up : ∀ {d : Ev.D} {v : V}, Rep K ρ1 H1 d v → Rep K (ρ1 ++ [a]) H1 d v := fun q => Rep.widen ix q
    have upL : ∀ {ds : List Ev.D} {xs : List V}, RepL K ρ1 H1 ds xs → RepL K (ρ1 ++ [a]) H1 ds xs := fun q => RepL.widen ix q
    refine ⟨ρ1 ++ [a], ⟨g.pre.trans (List.prefix_append _ _), g.frame, g.tups, g.frzs, fun b m => ?_⟩, ⟨[a], rfl⟩, ⟨?_, ?_, ?_⟩, ?_, fun b m => ?_⟩
    · rcases List.mem_append.mp m with m | m
      · exact g.new b m
      · have : b = a := by simpa using m
        subst this
        exact .inr ha
    · rw [List.length_append, s.len]
      show _ = (st.objs ++ [Ev.Ob.lst ds]).length
      rw [List.length_append] <;> rfl
    · rw [List.nodup_append]
      exact ⟨s.nd, by simp, fun x hx y hy => by
        have : y = a := by simpa using hy
        subst this
        exact fun z => na (z ▸ hx)⟩
    · intro i ob b e1 e2
      have e1 : (st.objs ++ [Ev.Ob.lst ds])[i]? = some ob := e1
      by_cases hi : i < st.objs.length
      · rw [List.getElem?_append_left hi] at e1
        rw [List.getElem?_append_left (by rw [s.len]; exact hi)] at e2
        have q := s.obj i ob b e1 e2
        cases ob with
        | lst es =>
          obtain ⟨ys, h1, r1⟩ := q
          exact ⟨ys, h1, upL r1⟩
      · rw [List.getElem?_append_right (by omega)] at e1
        rw [List.getElem?_append_right (by rw [s.len]; omega), s.len] at e2
        have hz : i - st.objs.length = 0 := by
          have := (List.getElem?_eq_some_iff.mp e1).1
          simp at this
          omega
        rw [hz] at e1 e2
        have e1 : some (Ev.Ob.lst ds) = some ob := e1
        have e2 : some a = some b := e2
        cases e1
        cases e2
        exact ⟨xs, h, upL rl⟩
    · show Rep K (ρ1 ++ [a]) H1 (.ref st.objs.length) (.ref a)
      rw [Rep]
      refine ⟨a, ?_, rfl⟩
      rw [List.getElem?_append_right (by rw [s.len]; exact Nat.le_refl _), s.len, Nat.sub_self]
      rfl
    · rcases List.mem_append.mp m with m | m
      · exact .inl m
      · have : b = a := by simpa using m
        subst this
        exact .inr ha
end
end EvS
/-! Ev2: the operators. -/
namespace EvS
open PySem PySem.Spec PyProof.Rows L2

/-! ### a tuple times a small or negative number -/
theorem tup_mul_one (l : Addr) (items : Array Value) (n : Nat) (dd : Option Addr) (sl : Array (Option Value)) (u : Tok) :
    Meets (Builtin.«tuple.__mul__» ⟨[.ref l, .int 1 u], []⟩) (fun _ R s => s.heap.get? l = some { cls := .type "tuple", dict := dd, data := .seq items n, slots := sl } ∧ R (.ok (.ret (.ref l))) s) :=
  .of_wp fun prog w A R s h => by
    obtain ⟨hp, g, d, tk, os⟩ := s
    obtain ⟨hl, h⟩ := h
    have f1 := AutoSeq1.idx_int
    have c1 : (items.isEmpty || (1 : Int) == 1) = true := by rw [Bool.or_eq_true]; exact .inr rfl
    wp_walk using wpAny_loadPart' hl
    repeat (first
      | (refine wpAny_ite_false (by decide) ?_; wp_walk using wpAny_loadPart' hl)
      | (refine wpAny_ite_true (decide_eq_true c1) ?_; wp_walk using wpAny_loadPart' hl))
    exact ⟨_, rfl, h⟩
theorem tup_mul_none (l : Addr) (items : Array Value) (n : Nat) (dd : Option Addr) (sl : Array (Option Value)) (k : Int) (u : Tok) (k0 : k ≤ 0) (k1 : -1000000 ≤ k) (he : items.isEmpty = false) :
    Meets (Builtin.«tuple.__mul__» ⟨[.ref l, .int k u], []⟩) (fun _ R s => s.heap.get? l = some { cls := .type "tuple", dict := dd, data := .seq items n, slots := sl } ∧
      R (.ok (.ret (Value.ref s.heap.objs.size))) { s with heap := s.heap.push { cls := Value.type "tuple", data := Data.seq #[] }, toks := s.toks }) :=
  .of_wp fun prog w A R s h => by
    obtain ⟨hp, g, d, tk, os⟩ := s
    obtain ⟨hl, h⟩ := h
    have f1 := AutoSeq1.idx_int
    have z0 : ¬ (decide (k < -(2 ^ 63)) || decide (k ≥ 2 ^ 63)) = true := by
      rw [decide_eq_false (by omega), decide_eq_false (by omega)] <;> simp
    have z1 : ¬ (items.isEmpty || k == 1) = true := by
      rw [he, Bool.false_or]
      intro q
      have : k = 1 := eq_of_beq q
      omega
    have z2 : (decide (k ≤ 0) || items.isEmpty) = true := by rw [decide_eq_true k0] <;> rfl
    wp_walk using wpAny_loadPart' hl
    repeat (first
      | (refine wpAny_ite_false (decide_eq_false z0) ?_; wp_walk using wpAny_loadPart' hl)
      | (refine wpAny_ite_false (decide_eq_false z1) ?_; wp_walk using wpAny_loadPart' hl)
      | (refine wpAny_ite_true (decide_eq_true z2) ?_; wp_walk using wpAny_loadPart' hl)
      | (refine wpAny_ite_false (by decide) ?_; wp_walk using wpAny_loadPart' hl))
    exact ⟨_, rfl, h⟩
section
variable {X : Cx}
/-- t * k, k any small number, t not empty -/
def rTimes (K : PySem.W.Frag) : R2 := fun x y H Q => ∃ l k xs, x = .ref l ∧ y = .int k ∧ SqT K H l xs ∧ xs ≠ [] ∧ -1000000 ≤ k ∧ k ≤ 1000 ∧ xs.length ≤ 1000 ∧
  (k = 1 → Q (.ref l) H) ∧ (k ≠ 1 → ∀ p, H p = none → Q (.ref p) (upd H p (.tup (List.replicate k.toNat xs).flatten)))
theorem op_times : OpR X (binaryOp .Mult) (rTimes X.K) := by
  intro pins s σ H x y v u Q I rx ry h
  obtain ⟨l, k, xs, rfl, rfl, hT, hne, h0, h2, hz, q1, q2⟩ := h
  by_cases hk : 2 ≤ k
  · exact op_repT pins s σ H _ _ v u Q I rx ry ⟨l, k, xs, rfl, rfl, hT, hne, hk, h2, hz, q2 (by omega)⟩
  · cases rx
    obtain ⟨t, rfl⟩ := ry
    obtain ⟨its, r, ⟨⟨cls, dd, data, sl⟩, ho, hc, n, hd⟩, hs⟩ := I.tuple hT
    simp only at hc hd
    subst hc hd
    have hi : its.toArray.isEmpty = false := by
      cases its with
      | nil => exact absurd (List.eq_nil_of_length_eq_zero r.length) hne
      | cons a b => rfl
    by_cases h1 : k = 1
    · subst h1
      refine wpAny_binaryOp_repeat_ref (T := "tuple") (U := "int") (by decide) ⟨_, ho, rfl⟩ (fun s' => typeIs_int s' 1 t) noFill_tuple_mul F.fills_int_mul F.slot_int_rmul repeat_tuple F.slot_int_index.lookup
        (call_meets F.slot_int_rmul (typeIs_int s 1 t) F.entry_int_rmul (F.args_int_rmul_2 _ _) (int_rmul_tuple 1 t l its.toArray n dd sl)
          ⟨ho, rfl, ⟨_, ho, rfl⟩, call_meets F.slot_tuple_mul ⟨_, ho, rfl⟩ F.entry_tuple_mul (F.args_tuple_mul_2 _ _) (tup_mul_one l its.toArray n dd sl t) ⟨ho, ?_⟩⟩)
      exact ⟨.ref l, H, I, rfl, q1 rfl⟩
    · have k0 : k ≤ 0 := by omega
      refine wpAny_binaryOp_repeat_ref (T := "tuple") (U := "int") (by decide) ⟨_, ho, rfl⟩ (fun s' => typeIs_int s' k t) noFill_tuple_mul F.fills_int_mul F.slot_int_rmul repeat_tuple F.slot_int_index.lookup
        (call_meets F.slot_int_rmul (typeIs_int s k t) F.entry_int_rmul (F.args_int_rmul_2 _ _) (int_rmul_tuple k t l its.toArray n dd sl)
          ⟨ho, rfl, ⟨_, ho, rfl⟩, call_meets F.slot_tuple_mul ⟨_, ho, rfl⟩ F.entry_tuple_mul (F.args_tuple_mul_2 _ _) (tup_mul_none l its.toArray n dd sl k t k0 h0 hi) ⟨ho, ?_⟩⟩)
      have e0 : (List.replicate k.toNat xs).flatten = [] := by rw [Int.toNat_of_nonpos k0]; rfl
      have q3 := q2 h1 s.heap.objs.size (I.hok.fresh (Nat.le_refl _))
      rw [e0] at q3
      refine ⟨.ref s.heap.objs.size, _, I.laid (t' := s.toks) (o := .tup []) (fun b ob q => Heap.get?_push_of_some _ q) (Nat.le_refl _) ?_, rfl, q3⟩
      exact ⟨Nat.zero_le _, [], .nil, IsTup.new _ _⟩
end

/-! ### a step of the interpreter that makes at most new objects -/
def Post (K : PySem.W.Frag) (ρ : Ix) (H : Hp) (st : Ev.St) (rv : Ev.Rv) (Q : VK) : Prop := ∀ H' v, Grow ρ H ρ H' → RepS K ρ H' st → RepR K ρ H' rv v → Nw H rv v → Q v H'
theorem line_big : Ev.big ≤ sizeLine := by rw [sizeLine_eq]; decide
section
variable {K : PySem.W.Frag} {ρ : Ix} {H : Hp} {st : Ev.St} {Q : VK}
theorem Post.int {i : Int} (s : RepS K ρ H st) (p : Post K ρ H st (.d (.int i)) Q) : Q (.int i) H := p H _ .refl s (by show Rep K ρ H (.int i) _; rw [Rep]) trivial
theorem Post.bl {b : Bool} (s : RepS K ρ H st) (p : Post K ρ H st (Ev.rBl b) Q) : Q (.bl b) H := p H _ .refl s (by show Rep K ρ H (.bl b) _; rw [Rep]) trivial
theorem Post.str {z : List Nat} (s : RepS K ρ H st) (p : Post K ρ H st (.d (.str z)) Q) : Q (.str ⟨z.toArray⟩) H := p H _ .refl s (by show Rep K ρ H (.str z) _; rw [Rep]) trivial
theorem Post.tup {ds : List Ev.D} {xs : List V} (s : RepS K ρ H st) (p : Post K ρ H st (.d (.tup ds)) Q) (r : RepL K ρ H ds xs) {a : Addr} (h : SqT K H a xs) : Q (.ref a) H := p H _ .refl s (by
  show Rep K ρ H (.tup ds) _
  rw [Rep]
  exact ⟨a, xs, rfl, h, r⟩) trivial
theorem Post.tupN {ds : List Ev.D} {xs : List V} (s : RepS K ρ H st) (p : Post K ρ H st (.d (.tup ds)) Q) (r : RepL K ρ H ds xs) {a : Addr} (h : H a = none) : Q (.ref a) (upd H a (.tup xs)) :=
  p _ _ (Grow.upd h s) (s.upd h) (by
    show Rep K ρ _ (.tup ds) _
    rw [Rep]
    exact ⟨a, xs, rfl, .of upd_same, r.mono (Grow.upd h s)⟩) trivial
theorem Post.lstN {ds : List Ev.D} {xs : List V} (s : RepS K ρ H st) (p : Post K ρ H st (.tmp ds) Q) (r : RepL K ρ H ds xs) {a : Addr} (h : H a = none) : Q (.ref a) (upd H a (.lst xs)) :=
  p _ _ (Grow.upd h s) (s.upd h) ⟨a, xs, rfl, upd_same, s.fresh h, r.mono (Grow.upd h s)⟩ ⟨a, rfl, h⟩
/-- what a value is -/
theorem Rep.toInt {i : Int} {x : V} (h : RepR K ρ H (.d (.int i)) x) : x = .int i := by
  have h : Rep K ρ H (.int i) x := h
  rw [Rep] at h; exact h
theorem Rep.toBl {i : Bool} {x : V} (h : RepR K ρ H (.d (.bl i)) x) : x = .bl i := by
  have h : Rep K ρ H (.bl i) x := h
  rw [Rep] at h; exact h
theorem Rep.toStr {z : List Nat} {x : V} (h : RepR K ρ H (.d (.str z)) x) : x = .str ⟨z.toArray⟩ := by
  have h : Rep K ρ H (.str z) x := h
  rw [Rep] at h; exact h
theorem Rep.toNon {x : V} (h : RepR K ρ H (.d .non) x) : x = .non := by
  have h : Rep K ρ H .non x := h
  rw [Rep] at h; exact h
theorem Rep.toTup {ds : List Ev.D} {x : V} (h : RepR K ρ H (.d (.tup ds)) x) : ∃ a xs, x = .ref a ∧ SqT K H a xs ∧ RepL K ρ H ds xs := by
  have h : Rep K ρ H (.tup ds) x := h
  rw [Rep] at h; exact h
theorem ownL_ok (s : RepS K ρ H st) {a : Ev.Rv} {ds : List Ev.D} {x : V} (e : Ev.ownL st a = some ds) (h : RepR K ρ H a x) : ∃ p xs, x = .ref p ∧ H p = some (.lst xs) ∧ RepL K ρ H ds xs := by
  cases a with
  | tmp es =>
    cases e
    obtain ⟨p, xs, rfl, h1, _, r⟩ := h
    exact ⟨p, xs, rfl, h1, r⟩
  | d d =>
    cases d with
    | ref i =>
      have h : Rep K ρ H (.ref i) x := h
      rw [Rep] at h
      obtain ⟨p, e1, rfl⟩ := h
      unfold Ev.ownL at e
      split at e
      · rename_i q; cases q
      · rename_i j q; injection q with q; injection q with q; subst q
        split at e
        · rename_i zs eo
          cases e
          obtain ⟨xs, h1, r⟩ := s.obj _ _ _ eo e1
          exact ⟨p, xs, rfl, h1, r⟩
        · cases e
      · cases e
    | _ => exact nomatch (show (none : Option (List Ev.D)) = some ds from e)
theorem repL_ints : ∀ ns : List Int, RepL K ρ H (ns.map .int) (ns.map V.int)
  | [] => repL_nil
  | n :: r => repL_cons (by rw [Rep]) (repL_ints r)
theorem listOf_ok (s : RepS K ρ H st) {a : Ev.Rv} {ds : List Ev.D} {x : V} (e : Ev.listOf st a = some ds) (h : RepR K ρ H a x) : ∃ p xs, x = .ref p ∧ SqL K H p xs ∧ RepL K ρ H ds xs := by
  by_cases q : Ev.ownL st a = some ds
  · obtain ⟨p, xs, e1, h1, r⟩ := ownL_ok s q h
    exact ⟨p, xs, e1, .of h1, r⟩
  · cases a with
    | tmp es => exact absurd e q
    | d d =>
      cases d with
      | ref i => exact absurd e q
      | scr ns =>
        have h : Rep K ρ H (.scr ns) x := h
        rw [Rep] at h
        obtain ⟨p, rfl, f⟩ := h
        cases e
        exact ⟨p, _, rfl, f.seq, repL_ints ns⟩
      | _ => exact nomatch (show (none : Option (List Ev.D)) = some ds from e)
theorem RepL.rep {ds : List Ev.D} {xs : List V} (r : RepL K ρ H ds xs) : ∀ n : Nat, RepL K ρ H (List.replicate n ds).flatten (List.replicate n xs).flatten
  | 0 => by simp [RepL]
  | n + 1 => by
    rw [List.replicate_succ, List.replicate_succ, List.flatten_cons, List.flatten_cons]
    exact r.append (RepL.rep r n)
end

def bopOf : Ev.Bop → Operator
  | .add => .Add
  | .sub => .Sub
  | .mul => .Mult
  | .fdiv => .FloorDiv
  | .mod => .Mod
  | .pow => .Pow
def rBin (K : PySem.W.Frag) (op : Ev.Bop) : R2 := fun x y H Q => ∃ ρ st a b rv, RepS K ρ H st ∧ RepR K ρ H a x ∧ RepR K ρ H b y ∧ Ev.binR op st a b = some rv ∧ Post K ρ H st rv Q
theorem small_ok {i : Int} (h : Ev.smallI i = true) : -(2 ^ 64) < i ∧ i < 2 ^ 64 := by
  unfold Ev.smallI Ev.two64 at h
  simp only [Bool.and_eq_true, decide_eq_true_eq] at h
  exact ⟨by omega, by omega⟩
theorem op_bin {X : Cx} (op : Ev.Bop) : OpR X (binaryOp (bopOf op)) (rBin X.K op) := by
  intro pins s σ H x y v u Q I rx ry h
  obtain ⟨ρ, st, a, b, rv, hs, ha, hb, e, p⟩ := h
  unfold Ev.binR at e
  split at e
  · -- ints
    rename_i i j
    have ex := Rep.toInt ha
    have ey := Rep.toInt hb
    subst ex ey
    obtain ⟨k, ek, er⟩ := Option.map_eq_some_iff.mp e
    subst er
    have q := p.int hs
    cases op with
    | add => cases ek; exact op_add pins s σ H _ _ v u Q I rx ry ⟨i, j, rfl, rfl, q⟩
    | sub => cases ek; exact op_sub pins s σ H _ _ v u Q I rx ry ⟨i, j, rfl, rfl, q⟩
    | mul =>
      have ek : (if (Ev.smallI i || Ev.smallI j) = true then some (i * j) else none) = some k := ek
      split at ek
      · rename_i c
        cases ek
        refine op_mul pins s σ H _ _ v u Q I rx ry ⟨i, j, rfl, rfl, ?_, q⟩
        rcases Bool.or_eq_true_iff.mp c with c | c
        · exact .inl (small_ok c)
        · exact .inr (small_ok c)
      · cases ek
    | fdiv =>
      have ek : (if (decide (0 < j) && decide (j.natAbs < 2 ^ 8000)) = true then some (i / j) else none) = some k := ek
      split at ek
      · rename_i c
        cases ek
        obtain ⟨c1, c2⟩ := Bool.and_eq_true_iff.mp c
        exact op_fdivW pins s σ H _ _ v u Q I rx ry ⟨i, j, rfl, rfl, wide_div (b := 8000) (of_decide_eq_true c1) (of_decide_eq_true c2) (by decide) (by decide), q⟩
      · cases ek
    | mod =>
      have ek : (if decide (0 < j) = true then some (i % j) else none) = some k := ek
      split at ek
      · rename_i c
        cases ek
        exact op_mod pins s σ H _ _ v u Q I rx ry ⟨i, j, rfl, rfl, of_decide_eq_true c, q⟩
      · cases ek
    | pow =>
      have ek : (if (decide (0 ≤ j) && (decide (j ≤ 1000000) && Ev.smallI i)) = true then some (i ^ j.toNat) else none) = some k := ek
      split at ek
      · rename_i c
        cases ek
        obtain ⟨c1, c2⟩ := Bool.and_eq_true_iff.mp c
        obtain ⟨c2, c3⟩ := Bool.and_eq_true_iff.mp c2
        have c3 := small_ok c3
        exact op_pow pins s σ H _ _ v u Q I rx ry ⟨i, j, rfl, rfl, ⟨of_decide_eq_true c1, of_decide_eq_true c2, by omega⟩, q⟩
      · cases ek
  · -- texts
    rename_i zx zy
    split at e
    · rename_i c
      cases e
      have ex := Rep.toStr ha
      have ey := Rep.toStr hb
      subst ex ey
      have q := p.str hs
      refine op_add_str pins s σ H _ _ v u Q I rx ry ⟨_, _, rfl, rfl, ?_, ?_⟩
      · have c := of_decide_eq_true c
        have lb := line_big
        simp only [Str.length, List.size_toArray]
        omega
      · have e : (⟨zx.toArray⟩ : Str) ++ (⟨zy.toArray⟩ : Str) = ⟨(zx ++ zy).toArray⟩ := by
          show (⟨zx.toArray ++ zy.toArray⟩ : Str) = _
          simp
        rw [e]
        exact q
    · cases e
  · -- tuples
    rename_i zx zy
    split at e
    · rename_i c
      cases e
      obtain ⟨p1, xs, rfl, hx, r1⟩ := Rep.toTup ha
      obtain ⟨p2, ys, rfl, hy, r2⟩ := Rep.toTup hb
      have c := of_decide_eq_true c
      have lb := line_big
      have l1 := r1.length
      have l2 := r2.length
      refine op_catA pins s σ H _ _ v u Q I rx ry ⟨p1, p2, xs, ys, rfl, rfl, hx, hy, by omega, fun z => ?_, fun _ z => ?_, fun _ _ p0 n0 => p.tupN hs (r1.append r2) n0⟩
      · subst z
        exact p.tup hs (r1.append r2) hy
      · subst z
        have rr := r1.append r2
        rw [List.append_nil] at rr
        exact p.tup hs rr hx
    · cases e
  · -- a tuple times a number
    rename_i zx k
    split at e
    · rename_i c
      cases e
      obtain ⟨p1, xs, rfl, hx, r1⟩ := Rep.toTup ha
      have ey := Rep.toInt hb
      subst ey
      simp only [Bool.and_eq_true, Bool.not_eq_true', decide_eq_true_eq] at c
      obtain ⟨c0, c1, c2, c3⟩ := c
      have l1 := r1.length
      refine op_times pins s σ H _ _ v u Q I rx ry ⟨p1, k, xs, rfl, rfl, hx, fun z => ?_, c1, c2, by omega, fun z => ?_, fun _ p0 n0 => p.tupN hs (r1.rep k.toNat) n0⟩
      · subst z
        have : zx = [] := List.eq_nil_of_length_eq_zero l1
        subst this
        cases c0
      · subst z
        have rr := r1.rep 1
        simp only [List.replicate_one, List.flatten_singleton] at rr
        have e2 : (List.replicate (Int.toNat 1) zx).flatten = zx := by
          show (List.replicate 1 zx).flatten = zx
          simp
        rw [e2] at p
        exact p.tup hs r1 hx
    · cases e
  · -- lists
    split at e
    · rename_i zx zy e1 e2
      split at e
      · rename_i c
        cases e
        obtain ⟨p1, xs, rfl, hx, r1⟩ := ownL_ok hs e1 ha
        obtain ⟨p2, ys, rfl, hy, r2⟩ := ownL_ok hs e2 hb
        have c := of_decide_eq_true c
        have lb := line_big
        have l1 := r1.length
        have l2 := r2.length
        exact op_cat pins s σ H _ _ v u Q I rx ry ⟨p1, p2, xs, ys, rfl, rfl, hx, hy, by omega, fun p0 n0 => p.lstN hs (r1.append r2) n0⟩
      · cases e
    · cases e
  · -- a list times a number
    rename_i k _ _
    split at e
    · rename_i zx e1
      split at e
      · rename_i c
        cases e
        obtain ⟨p1, xs, rfl, hx, r1⟩ := ownL_ok hs e1 ha
        have ey := Rep.toInt hb
        subst ey
        simp only [Bool.and_eq_true, decide_eq_true_eq] at c
        obtain ⟨c1, c2, c3⟩ := c
        have l1 := r1.length
        refine op_rep pins s σ H _ _ v u Q I rx ry ⟨p1, k, xs, rfl, rfl, hx, by omega, by omega, ?_, fun p0 n0 => p.lstN hs (r1.rep k.toNat) n0⟩
        have a1 : xs.length * k.toNat ≤ 100 * 1000 := Nat.mul_le_mul (by omega) (by omega)
        rw [sizeLine_eq]
        omega
      · cases e
    · cases e
  · cases e
end EvS
/-! Ev3: comparisons, subscripts, slices, built-ins. -/
namespace EvS
open PySem PySem.Spec PyProof.Rows L2

/-! ### data as the library's -/
mutual
def py : Ev.D → PyData
  | .non => .none
  | .bl b => .bool b
  | .int i => .int i
  | .str s => .str ⟨s.toArray⟩
  | .tup ds => .tuple (pyL ds)
  | .ref _ => .none
  | .scr _ => .none
def pyL : List Ev.D → List PyData
  | [] => []
  | d :: ds => py d :: pyL ds
end
section
variable {K : PySem.W.Frag} {ρ : Ix} {H : Hp} {st : Ev.St}
mutual
theorem dp_of : ∀ (n : Nat) (d : Ev.D) (v : V), d.plain n = true → Rep K ρ H d v → Dp K H v (py d) ∧ (py d).canLay0 = true ∧ (py d).depth ≤ n
  | n, .non, v, _, h => by rw [Rep] at h; subst h; exact ⟨.non, rfl, Nat.zero_le _⟩
  | n, .bl b, v, _, h => by rw [Rep] at h; subst h; exact ⟨.bl b, rfl, Nat.zero_le _⟩
  | n, .int i, v, _, h => by rw [Rep] at h; subst h; exact ⟨.int i, rfl, Nat.zero_le _⟩
  | n, .str s, v, p, h => by
    rw [Rep] at h; subst h
    refine ⟨.str _, ?_, Nat.zero_le _⟩
    have p : (s.all fun c => Nat.blt c 55296) = true := p
    show PyData.strOk ⟨s.toArray⟩ = true
    unfold PyData.strOk
    rw [List.all_eq_true] at p
    simp only [List.all_toArray, List.all_eq_true, decide_eq_true_eq]
    intro c hc
    have := Nat.le_of_ble_eq_true (p c hc)
    omega
  | 0, .tup ds, v, p, _ => by cases p
  | n + 1, .tup ds, v, p, h => by
    rw [Rep] at h
    obtain ⟨a, xs, rfl, hs, r⟩ := h
    obtain ⟨h1, h2, h3⟩ := dp_ofL n ds xs p r
    refine ⟨.tup hs h1, h2, ?_⟩
    show (PyData.tuple (pyL ds)).depth ≤ n + 1
    rw [PyData.depth]
    omega
  | _, .ref _, _, p, _ => by cases p
  | _, .scr _, _, p, _ => by cases p
theorem dp_ofL : ∀ (n : Nat) (ds : List Ev.D) (xs : List V), Ev.D.plainL n ds = true → RepL K ρ H ds xs → DpAll K H xs (pyL ds) ∧ PyData.canLayAll0 (pyL ds) = true ∧ PyData.depthAll (pyL ds) ≤ n
  | n, [], xs, _, h => by rw [RepL] at h; subst h; exact ⟨.nil, rfl, Nat.zero_le _⟩
  | n, d :: ds, xs, p, h => by
    rw [RepL] at h
    obtain ⟨x, r, rfl, h1, h2⟩ := h
    obtain ⟨p1, p2⟩ := Bool.and_eq_true_iff.mp (show (d.plain n && Ev.D.plainL n ds) = true from p)
    obtain ⟨a1, a2, a3⟩ := dp_of n d x p1 h1
    obtain ⟨b1, b2, b3⟩ := dp_ofL n ds r p2 h2
    refine ⟨.cons a1 b1, ?_, ?_⟩
    · show ((py d).canLay0 && PyData.canLayAll0 (pyL ds)) = true
      rw [a2, b2] <;> rfl
    · show max (py d).depth (PyData.depthAll (pyL ds)) ≤ n
      omega
end
theorem shaped_of {d : PyData} (h1 : d.canLay0 = true) (h2 : d.depth ≤ 60) : SeqAt.shaped d = true := by
  unfold SeqAt.shaped
  rw [h1, decide_eq_true (by omega)] <;> rfl
theorem beq_str (x y : List Nat) : ((⟨x.toArray⟩ : Str) == (⟨y.toArray⟩ : Str)) = (x == y) := by
  rw [Bool.eq_iff_iff]
  simp only [beq_iff_eq, Str.mk.injEq]
  constructor
  · intro h
    simpa using congrArg Array.toList h
  · intro h; rw [h]
mutual
theorem eqv_of : ∀ (x y : Ev.D) (n m : Nat), x.plain n = true → y.plain m = true → PyData.eqv (py x) (py y) = x.eqb y
  | .ref _, _, _, _, p, _ => by cases p
  | .scr _, _, _, _, p, _ => by cases p
  | .non, .non, _, _, _, _ => rfl
  | .non, .bl _, _, _, _, _ => rfl
  | .non, .int _, _, _, _, _ => rfl
  | .non, .str _, _, _, _, _ => rfl
  | .non, .tup _, _, _, _, _ => rfl
  | .bl _, .non, _, _, _, _ => rfl
  | .bl _, .bl _, _, _, _, _ => rfl
  | .bl _, .int _, _, _, _, _ => rfl
  | .bl _, .str _, _, _, _, _ => rfl
  | .bl _, .tup _, _, _, _, _ => rfl
  | .int _, .non, _, _, _, _ => rfl
  | .int _, .bl _, _, _, _, _ => rfl
  | .int _, .int _, _, _, _, _ => rfl
  | .int _, .str _, _, _, _, _ => rfl
  | .int _, .tup _, _, _, _, _ => rfl
  | .str _, .non, _, _, _, _ => rfl
  | .str _, .bl _, _, _, _, _ => rfl
  | .str _, .int _, _, _, _, _ => rfl
  | .str x, .str y, _, _, _, _ => beq_str x y
  | .str _, .tup _, _, _, _, _ => rfl
  | .tup _, .non, _, _, _, _ => rfl
  | .tup _, .bl _, _, _, _, _ => rfl
  | .tup _, .int _, _, _, _, _ => rfl
  | .tup _, .str _, _, _, _, _ => rfl
  | .tup xs, .tup ys, n, m, p, q => by
    cases n with
    | zero => cases p
    | succ n =>
      cases m with
      | zero => cases q
      | succ m => exact eqv_ofL xs ys n m p q
  | _, .ref _, _, _, _, q => by cases q
  | _, .scr _, _, _, _, q => by cases q
theorem eqv_ofL : ∀ (xs ys : List Ev.D) (n m : Nat), Ev.D.plainL n xs = true → Ev.D.plainL m ys = true → PyData.eqvAll (pyL xs) (pyL ys) = Ev.D.eqbL xs ys
  | [], [], _, _, _, _ => rfl
  | [], _ :: _, _, _, _, _ => rfl
  | _ :: _, [], _, _, _, _ => rfl
  | x :: xs, y :: ys, n, m, p, q => by
    obtain ⟨p1, p2⟩ := Bool.and_eq_true_iff.mp (show (x.plain n && Ev.D.plainL n xs) = true from p)
    obtain ⟨q1, q2⟩ := Bool.and_eq_true_iff.mp (show (y.plain m && Ev.D.plainL m ys) = true from q)
    show (PyData.eqv (py x) (py y) && PyData.eqvAll (pyL xs) (pyL ys)) = (x.eqb y && Ev.D.eqbL xs ys)
    rw [eqv_of x y n m p1 q1, eqv_ofL xs ys n m p2 q2]
end
/-- a value or a list as the library's data -/
theorem list_dp (s : RepS K ρ H st) {a : Ev.Rv} {ds : List Ev.D} {x : V} (e : Ev.listOf st a = some ds) (h : RepR K ρ H a x) (p : Ev.plainAll ds = true) : Dp K H x (.list (pyL ds)) ∧ SeqAt.shaped (.list (pyL ds)) = true := by
  obtain ⟨q, xs, rfl, hs, r⟩ := listOf_ok s e h
  obtain ⟨h1, h2, h3⟩ := dp_ofL 10 ds xs p r
  refine ⟨.lst hs h1, shaped_of h2 ?_⟩
  rw [PyData.depth]
  omega
theorem val_dp {d : Ev.D} {x : V} (h : RepR K ρ H (.d d) x) (p : d.plain 10 = true) : Dp K H x (py d) ∧ SeqAt.shaped (py d) = true := by
  obtain ⟨h1, h2, h3⟩ := dp_of 10 d x p h
  exact ⟨h1, shaped_of h2 (by omega)⟩
/-- a scalar -/
def flatOf : Ev.D → V
  | .bl b => .bl b
  | .int i => .int i
  | .str z => .str ⟨z.toArray⟩
  | _ => .non
theorem Rep.isFlat {d : Ev.D} {x : V} (f : d.flat = true) (h : Rep K ρ H d x) : x = flatOf d := by
  cases d with
  | non => rw [Rep] at h; exact h
  | bl b => rw [Rep] at h; exact h
  | int i => rw [Rep] at h; exact h
  | str z => rw [Rep] at h; exact h
  | _ => cases f
theorem flatV_of : ∀ {d : Ev.D}, d.flat = true → flatV (flatOf d) = true
  | .non, _ => rfl
  | .bl _, _ => rfl
  | .int _, _ => rfl
  | .str _, _ => rfl
theorem Rep.flat {d : Ev.D} {x : V} (f : d.flat = true) (h : Rep K ρ H d x) : flatV x = true := by
  rw [h.isFlat f]
  exact flatV_of f
theorem RepL.flat : ∀ {ds : List Ev.D} {xs : List V}, ds.all Ev.D.flat = true → RepL K ρ H ds xs → xs.all flatV = true
  | [], _, _, h => by rw [RepL] at h; subst h; rfl
  | d :: ds, _, f, h => by
    rw [RepL] at h
    obtain ⟨x, r, rfl, h1, h2⟩ := h
    rw [List.all_cons, Bool.and_eq_true] at f ⊢
    exact ⟨h1.flat f.1, RepL.flat f.2 h2⟩
theorem eqV_flat {d e : Ev.D} (f : d.flat = true) (g : e.flat = true) : eqV (flatOf d) (flatOf e) = d.eqb e := by
  cases d <;> cases e <;> first
    | exact absurd f Bool.false_ne_true
    | exact absurd g Bool.false_ne_true
    | rfl
    | exact beq_str _ _
theorem eqV_of {d e : Ev.D} {x y : V} (f : d.flat = true) (g : e.flat = true) (h : Rep K ρ H d x) (h' : Rep K ρ H e y) : eqV x y = d.eqb e := by
  rw [h.isFlat f, h'.isFlat g]
  exact eqV_flat f g
theorem inV_of {d : Ev.D} {x : V} (f : d.flat = true) (h : Rep K ρ H d x) : ∀ {ds : List Ev.D} {xs : List V}, ds.all Ev.D.flat = true → RepL K ρ H ds xs → inV x xs = ds.any fun y => y.eqb d
  | [], _, _, r => by rw [RepL] at r; subst r; rfl
  | e :: ds, _, g, r => by
    rw [RepL] at r
    obtain ⟨y, r, rfl, h1, h2⟩ := r
    rw [List.all_cons, Bool.and_eq_true] at g
    have ih := inV_of f h g.2 h2
    unfold inV at ih ⊢
    rw [List.any_cons, List.any_cons, ih, eqV_of g.1 f h1 h]
theorem scal_flat {d e : Ev.D} (f : Ev.D.scal d e = true) : d.flat = true ∧ e.flat = true ∧ L2.scal (flatOf d) (flatOf e) = true ∧ decide (flatOf d = flatOf e) = d.eqb e := by
  cases d <;> cases e <;> first
    | exact absurd f Bool.false_ne_true
    | exact ⟨rfl, rfl, rfl, dec_int⟩
    | exact ⟨rfl, rfl, rfl, dec_bl⟩
    | exact ⟨rfl, rfl, rfl, dec_str.trans (beq_str _ _)⟩
    | exact ⟨rfl, rfl, rfl, decide_eq_true rfl⟩
    | exact ⟨rfl, rfl, rfl, decide_eq_false (fun z => nomatch z)⟩
theorem scal_of {d e : Ev.D} {x y : V} (f : Ev.D.scal d e = true) (h : Rep K ρ H d x) (h' : Rep K ρ H e y) : L2.scal x y = true ∧ decide (x = y) = d.eqb e := by
  obtain ⟨f1, f2, f3, f4⟩ := scal_flat f
  rw [h.isFlat f1, h'.isFlat f2]
  exact ⟨f3, f4⟩
end

/-! ### comparisons -/
def copOf : Ev.Cop → CmpOp
  | .eq => .Eq
  | .ne => .NotEq
  | .lt => .Lt
  | .le => .LtE
  | .gt => .Gt
  | .ge => .GtE
  | .isin => .In
  | .notin => .NotIn
def rCmp (K : PySem.W.Frag) (op : Ev.Cop) : R2 := fun x y H Q => ∃ ρ st a b c, RepS K ρ H st ∧ RepR K ρ H a x ∧ RepR K ρ H b y ∧ Ev.cmpR op st a b = some c ∧ Q (.bl c) H
section
variable {X : Cx} {pins : List (Addr × Obj)} {s : Shared} {σ : L2.St} {H : Hp} {x y : V} {v u : Value} {Q : VK} {ρ : Ix} {st : Ev.St} {a b : Ev.Rv} {c : Bool}
theorem eq_data (neg : Bool) (hu : X.A.units + 64 < cLine) (I : L2.Inv X pins σ H s) (rx : RelV x v) (ry : RelV y u) {d e : PyData} (h1 : Dp X.K H x d) (h2 : Dp X.K H y e) (s1 : SeqAt.shaped d = true) (s2 : SeqAt.shaped e = true) (q : Q (.bl (if neg then !PyData.eqv d e else PyData.eqv d e)) H) :
    wpAny (model X.prog X.w) X.A (compareOp (if neg then .NotEq else .Eq) v u) (EP X pins σ Q) X.xe s := by
  cases neg with
  | true => exact op_neD hu pins s σ H x y v u Q I rx ry ⟨d, e, h1, h2, s1, s2, q⟩
  | false => exact op_eqD hu pins s σ H x y v u Q I rx ry ⟨d, e, h1, h2, s1, s2, q⟩
theorem eq_any (neg : Bool) (hu : X.A.units + 64 < cLine) (I : L2.Inv X pins σ H s) (rx : RelV x v) (ry : RelV y u) (hs : RepS X.K ρ H st) (ha : RepR X.K ρ H a x) (hb : RepR X.K ρ H b y) (e : Ev.eqR st a b = some c) (q : Q (.bl (if neg then !c else c)) H) :
    wpAny (model X.prog X.w) X.A (compareOp (if neg then .NotEq else .Eq) v u) (EP X pins σ Q) X.xe s := by
  unfold Ev.eqR at e
  split at e
  · rename_i xs ys e1 e2
    split at e
    · rename_i p
      obtain ⟨p1, p2⟩ := Bool.and_eq_true_iff.mp p
      cases e
      obtain ⟨d1, s1⟩ := list_dp hs e1 ha p1
      obtain ⟨d2, s2⟩ := list_dp hs e2 hb p2
      refine eq_data neg hu I rx ry d1 d2 s1 s2 ?_
      have z : PyData.eqv (.list (pyL xs)) (.list (pyL ys)) = Ev.D.eqbL xs ys := eqv_ofL xs ys 10 10 p1 p2
      rw [z]
      exact q
    · cases e
  · split at e
    · rename_i d1 d2 _ _
      split at e
      · rename_i p
        cases e
        rcases Bool.or_eq_true_iff.mp p with p | p
        · obtain ⟨z1, z2⟩ := scal_of p ha hb
          cases neg with
          | true => exact op_ne pins s σ H x y v u Q I rx ry ⟨z1, by rw [z2]; exact q⟩
          | false => exact op_eq pins s σ H x y v u Q I rx ry ⟨z1, by rw [z2]; exact q⟩
        · obtain ⟨p1, p2⟩ := Bool.and_eq_true_iff.mp p
          obtain ⟨h1, s1⟩ := val_dp ha p1
          obtain ⟨h2, s2⟩ := val_dp hb p2
          refine eq_data neg hu I rx ry h1 h2 s1 s2 ?_
          rw [eqv_of d1 d2 10 10 p1 p2]
          exact q
      · cases e
    · cases e
  · rename_i xs e1 e2
    split at e
    · rename_i d2
      split at e
      · rename_i p
        cases e
        obtain ⟨p1, p2⟩ := Bool.and_eq_true_iff.mp p
        obtain ⟨h1, s1⟩ := list_dp hs e1 ha p1
        obtain ⟨h2, s2⟩ := val_dp hb p2
        refine eq_data neg hu I rx ry h1 h2 s1 s2 ?_
        have z : PyData.eqv (.list (pyL xs)) (py d2) = false := by
          cases d2 <;> first | rfl | cases p2
        rw [z]
        exact q
      · cases e
    · cases e
  · rename_i ys e1 e2
    split at e
    · rename_i d2
      split at e
      · rename_i p
        cases e
        obtain ⟨p1, p2⟩ := Bool.and_eq_true_iff.mp p
        obtain ⟨h1, s1⟩ := val_dp ha p2
        obtain ⟨h2, s2⟩ := list_dp hs e2 hb p1
        refine eq_data neg hu I rx ry h1 h2 s1 s2 ?_
        have z : PyData.eqv (py d2) (.list (pyL ys)) = false := by
          cases d2 <;> first | rfl | cases p2
        rw [z]
        exact q
      · cases e
    · cases e
theorem any_py : ∀ (ds : List Ev.D) (d : Ev.D), Ev.plainAll ds = true → d.plain 10 = true → ((pyL ds).any fun z => PyData.eqv z (py d)) = ds.any fun y => y.eqb d
  | [], _, _, _ => rfl
  | e :: ds, d, p, q => by
    obtain ⟨p1, p2⟩ := Bool.and_eq_true_iff.mp (show (e.plain 10 && Ev.D.plainL 10 ds) = true from p)
    show (PyData.eqv (py e) (py d) || (pyL ds).any fun z => PyData.eqv z (py d)) = _
    rw [List.any_cons, eqv_of e d 10 10 p1 q, any_py ds d p2 q]
theorem in_any (neg : Bool) (hu : X.A.units + 65 < cLine) (I : L2.Inv X pins σ H s) (rx : RelV x v) (ry : RelV y u) (hs : RepS X.K ρ H st) (ha : RepR X.K ρ H a x) (hb : RepR X.K ρ H b y) (e : Ev.inR st a b = some c) (q : Q (.bl (if neg then !c else c)) H) :
    wpAny (model X.prog X.w) X.A (compareOp (if neg then .NotIn else .In) v u) (EP X pins σ Q) X.xe s := by
  have flat : ∀ {d : Ev.D} {ys : List Ev.D} {p : Addr} {xs : List V}, Rep X.K ρ H d x → y = .ref p → (SqL X.K H p xs ∨ SqT X.K H p xs) → RepL X.K ρ H ys xs → (d.flat && ys.all Ev.D.flat) = true → c = (ys.any fun z => z.eqb d) →
      wpAny (model X.prog X.w) X.A (compareOp (if neg then .NotIn else .In) v u) (EP X pins σ Q) X.xe s := by
    intro d ys p xs hd ey hq r f ec
    obtain ⟨f1, f2⟩ := Bool.and_eq_true_iff.mp f
    have z := inV_of f1 hd f2 r
    cases neg with
    | true => exact op_notIn_seq pins s σ H x y v u Q I rx ry ⟨p, xs, ey, hq, hd.flat f1, r.flat f2, by rw [z, ← ec]; exact q⟩
    | false => exact op_in_seq pins s σ H x y v u Q I rx ry ⟨p, xs, ey, hq, hd.flat f1, r.flat f2, by rw [z, ← ec]; exact q⟩
  unfold Ev.inR at e
  split at e
  · rename_i k z
    cases e
    have ex := Rep.toStr ha
    have ey := Rep.toStr hb
    subst ex ey
    cases neg with
    | true => exact op_notIn_sign pins s σ H _ _ v u Q I rx ry ⟨k, _, rfl, rfl, by simpa using q⟩
    | false => exact op_in_sign pins s σ H _ _ v u Q I rx ry ⟨k, _, rfl, rfl, by simpa using q⟩
  · rename_i d ys _
    unfold Ev.anyEq at e
    split at e
    · rename_i p
      cases e
      obtain ⟨p1, xs, rfl, hx, r⟩ := Rep.toTup hb
      rcases Bool.or_eq_true_iff.mp p with p | p
      · exact flat ha rfl (.inr hx) r p rfl
      · exact absurd (Bool.and_eq_true_iff.mp p).1 Bool.false_ne_true
    · cases e
  · rename_i d _ _ 
    split at e
    · rename_i ys e1
      unfold Ev.anyEq at e
      split at e
      · rename_i p
        cases e
        rcases Bool.or_eq_true_iff.mp p with p | p
        · obtain ⟨p1, xs, rfl, hx, r⟩ := listOf_ok hs e1 hb
          exact flat ha rfl (.inl hx) r p rfl
        · obtain ⟨_, p⟩ := Bool.and_eq_true_iff.mp p
          obtain ⟨p1, p2⟩ := Bool.and_eq_true_iff.mp p
          obtain ⟨h1, s1⟩ := val_dp ha p1
          obtain ⟨h2, s2⟩ := list_dp hs e1 hb p2
          have z := any_py ys d p2 p1
          cases neg with
          | true => exact op_notInD hu pins s σ H x y v u Q I rx ry ⟨_, _, h1, h2, s1, s2, by rw [z]; exact q⟩
          | false => exact op_inD hu pins s σ H x y v u Q I rx ry ⟨_, _, h1, h2, s1, s2, by rw [z]; exact q⟩
      · cases e
    · cases e
  · cases e
theorem intsR_ok {op' : Ev.Cop} (e : Ev.intsR op' a b = some c) : ∃ i j, a = .d (.int i) ∧ b = .d (.int j) ∧ Ev.cmpI op' i j = some c := by
  unfold Ev.intsR at e
  split at e
  · exact ⟨_, _, rfl, rfl, e⟩
  · cases e
theorem op_cmp (op : Ev.Cop) (hu : X.A.units + 65 < cLine) : OpR X (compareOp (copOf op)) (rCmp X.K op) := by
  intro pins s σ H x y v u Q I rx ry h
  obtain ⟨ρ, st, a, b, c, hs, ha, hb, e, q⟩ := h
  have byInts : ∀ (op' : Ev.Cop), Ev.intsR op' a b = some c → ∃ i j, x = .int i ∧ y = .int j ∧ Ev.cmpI op' i j = some c := by
    intro op' e
    obtain ⟨i, j, rfl, rfl, e⟩ := intsR_ok e
    exact ⟨_, _, Rep.toInt ha, Rep.toInt hb, e⟩
  cases op with
  | eq => exact eq_any false (by omega) I rx ry hs ha hb e q
  | ne =>
    obtain ⟨c', e1, e2⟩ := Option.map_eq_some_iff.mp (show (Ev.eqR st a b).map (!·) = some c from e)
    exact eq_any true (by omega) I rx ry hs ha hb e1 (by rw [if_pos rfl, e2]; exact q)
  | isin => exact in_any false hu I rx ry hs ha hb e q
  | notin =>
    obtain ⟨c', e1, e2⟩ := Option.map_eq_some_iff.mp (show (Ev.inR st a b).map (!·) = some c from e)
    exact in_any true hu I rx ry hs ha hb e1 (by rw [if_pos rfl, e2]; exact q)
  | lt =>
    obtain ⟨i, j, e1, e2, e3⟩ := byInts .lt e
    exact op_lt pins s σ H x y v u Q I rx ry ⟨i, j, e1, e2, by cases e3; exact q⟩
  | le =>
    obtain ⟨i, j, e1, e2, e3⟩ := byInts .le e
    exact op_le pins s σ H x y v u Q I rx ry ⟨i, j, e1, e2, by cases e3; exact q⟩
  | gt =>
    obtain ⟨i, j, e1, e2, e3⟩ := byInts .gt e
    exact op_gt pins s σ H x y v u Q I rx ry ⟨i, j, e1, e2, by cases e3; exact q⟩
  | ge =>
    obtain ⟨i, j, e1, e2, e3⟩ := byInts .ge e
    exact op_ge pins s σ H x y v u Q I rx ry ⟨i, j, e1, e2, by cases e3; exact q⟩
end
end EvS
/-! EvX: enumerate over a tuple; a bool as an index of a tuple. -/
namespace PySem
open Sem (wp)
theorem g_meets_enumerate_newT (t : Addr) (items : Array Value) :
    Meets (Builtin.«enumerate.__new__» ⟨[.type "enumerate", .ref t], []⟩) (fun _ R s => s.heap.IsTuple t items ∧
      R (.ok (.ret (.ref (s.heap.push { cls := .type "tuple_iterator", data := .fields #[.ref t, .int 0 0] }).objs.size)))
        { s with heap := (s.heap.push { cls := .type "tuple_iterator", data := .fields #[.ref t, .int 0 0] }).push { cls := .type "enumerate", data := .fields #[.none, .bool false, .ref s.heap.objs.size, rawInt 0, .none, .none] } }) :=
  .of_wp fun prog w A R s h => by
    obtain ⟨hp, g, d, tk, os⟩ := s
    obtain ⟨ht, h⟩ := h
    have hsub := sub_enumerate
    have q1 : ∀ {A' : Around} {E : Value → Shared → Prop} {Q : Value → Shared → Prop}, Q (.ref hp.objs.size) ⟨(hp.push { cls := .type "tuple_iterator", data := .fields #[.ref t, .int 0 0] }), g, d, tk, os⟩ → wpAny (model prog w) A' (pyIter (.ref t)) Q E ⟨hp, g, d, tk, os⟩ :=
      fun q => wpAny_pyIter_tuple ht q
    wp_walk
    refine wpAny_stack_any fun st => wpAny_pure ?_
    split
    · rename_i c _ _ _ _ _
      cases (c == Value.type "enumerate")
      · wp_walk using q1
        exact ⟨_, rfl, h⟩
      · wp_walk using q1
        exact ⟨_, rfl, h⟩
    · wp_walk using q1
      exact ⟨_, rfl, h⟩
section
variable {prog : Program} {w : World} {A : Around} {E : Value → Shared → Prop} {s : Shared}
theorem g_call_enumerate_tuple {l : Addr} {items : Array Value} {Q : Value → Shared → Prop} (hL : s.heap.IsTuple l items)
    (h : ∀ h', IsEnum h' (s.heap.objs.size + 1) s.heap.objs.size 0 .none → h'.IsTupleIter s.heap.objs.size l 0 → h'.objs.size = s.heap.objs.size + 2 →
      (∀ b o, s.heap.get? b = some o → h'.get? b = some o) → Q (.ref (s.heap.objs.size + 1)) { s with heap := h' }) :
    wpAny (model prog w) A (call (.type "enumerate") [.ref l]) Q E s := by
  refine callType_new F.called_enumerate (by decide) (F.typeCall_enumerate_1 _) (F.newCall_enumerate_1 _) (fun obj => F.args_object_init_2 obj _) F.entry_enumerate_new
    (g_meets_enumerate_newT l items) ⟨hL, ?_⟩
  have hz : (s.heap.push { cls := .type "tuple_iterator", data := .fields #[.ref l, .int 0 0] }).objs.size = s.heap.objs.size + 1 := Heap.size_push ..
  show _ ∧ _
  rw [hz]
  have he : IsEnum ((s.heap.push { cls := .type "tuple_iterator", data := .fields #[.ref l, .int 0 0] }).push
      { cls := .type "enumerate", data := .fields #[.none, .bool false, .ref s.heap.objs.size, rawInt 0, .none, .none] }) (s.heap.objs.size + 1) s.heap.objs.size 0 .none := by
    have := Heap.get?_push_size (s.heap.push { cls := .type "tuple_iterator", data := .fields #[.ref l, .int 0 0] })
      (o := { cls := .type "enumerate", data := .fields #[.none, .bool false, .ref s.heap.objs.size, rawInt 0, .none, .none] }) rfl
    rw [hz] at this; exact this
  refine ⟨⟨_, he, rfl⟩, h _ he ⟨_, Heap.get?_push_of_some _ (Heap.get?_push_size _ rfl), rfl, rfl⟩ (by rw [Heap.size_push, hz]) fun b o x => Heap.get?_push_of_some _ (Heap.get?_push_of_some _ x)⟩
end
end PySem
namespace PyProof.Rows
open PySem
section
variable {prog : Program} {w : World} {A : Around} {E : Value → Shared → Prop} {s : Shared}
theorem g_bool_index : typeLookup (.type "bool") "__index__" = pure (some (.builtin "int.__index__")) := by rw [typeLookup_type, builtinLookup_eq_fast]; kernel_rfl
theorem g_getItem_tupleB {t : Addr} {items : Array Value} {b : Bool} {j : Nat} {x : Value} {Q : Value → Shared → Prop} (ht : IsTup s.heap t items)
    (hj : seqIndex? (if b then 1 else 0) items.size = some j) (hx : items[j]? = some x) (h : Q x s) : wpAny (model prog w) A (getItem (.ref t) (.bool b)) Q E s := by
  unfold getItem
  try with_reducible refine wpAny_holding ?_
  first | refine wpAny_bind (wpAny_pure ?_) | skip
  refine wpAny_bind (wpAny_sequenceKey ht.typeIs (by decide) ?_)
  refine wpAny_bind (wpAny_callSpecial?_slot (name := Str.ofString "__getitem__") ht.typeIs slot_tuple_getitem
    (wpAny_call_entry slot_tuple_getitem ht.typeIs entry_tuple_getitem ?_ (args_tuple_getitem _ _)))
  show wpAny _ _ (Builtin.Tuple.tupleItemsOf (.ref t) >>= _) _ _ s
  refine wpAny_bind (tupleItemsOf_ ht ?_)
  refine wpAny_bind (wpAny_typeOf (show s.TypeIs (.bool b) "bool" from rfl) ?_)
  rw [if_neg (by decide)]
  refine wpAny_bind (wpAny_specialOf (T := "bool") (show s.TypeIs (.bool b) "bool" from rfl) g_bool_index ?_)
  rw [if_neg (by simp)]
  refine wpAny_bind (wpAny_of_eq (a := (if b then 1 else 0)) (by cases b <;> rfl) ?_)
  rw [if_neg (by cases b <;> decide)]
  simp only [hj, Option.bind_some, hx]
  exact wpAny_pure ⟨_, rfl, wpAny_pure h⟩
end
end PyProof.Rows
namespace L2
open PySem PySem.Spec PyProof.Rows
/-- the tuple at a, each item in a new pair -/
def IteT (K : PySem.W.Frag) (a : Addr) : It :=
  ⟨fun i H => ∃ (xs : List V) (x : V), SqT K H a xs ∧ xs[i]? = some x, fun i H v H' => ∃ T x, v = .ref T ∧ H T = none ∧ H' = upd H T (.tup [.int (i : Nat), x]) ∧ ∀ xs, SqT K H a xs → xs[i]? = some x, fun i H => ∃ xs : List V, SqT K H a xs ∧ xs.length ≤ i⟩
theorem turn_enumT {P : Program} {w : World} {K : PySem.W.Frag} {elts : List Expr} {kk : Nat} {tpos : Pos} (a e it : Addr) (hai : a ≠ it) (hea : e ≠ a) :
    Turn P w K (.Tuple elts kk tpos) (IteT K a) [e, it] e (fun i h => (∃ old, IsEnum h e it ((i : Nat) : Int) old) ∧ h.IsTupleIter it a i ∧ e ≠ it) where
  mem := by simp
  obj := fun i h st b hb => by
    obtain ⟨⟨old, he⟩, ⟨o, ho, hc, hd⟩, _⟩ := st
    have e' : b = e ∨ b = it := by simpa using hb
    rcases e' with z | z
    · rw [z]; exact ⟨_, he, fun v q => nomatch q⟩
    · rw [z]; exact ⟨o, ho, fun v q => by rw [hd] at q; cases q⟩
  keep := fun i h h' st k => let ⟨⟨old, he⟩, hi, hne⟩ := st; ⟨⟨old, k e (by simp) _ he⟩, hi.at fun o q => k it (by simp) o q, hne⟩
  item := by
    intro X hP hw hK hc i pins s σ H E I hf st hg
    subst hP hw hK
    obtain ⟨⟨old, he⟩, hit, hne⟩ := st
    obtain ⟨xs, x, hq, hx⟩ := hg
    obtain ⟨its, rv, p, hz⟩ := I.tuple hq
    obtain ⟨u, hu, ru⟩ := rv.get hx
    have hel : e < s.heap.objs.size := Heap.lt_size he
    have hil : it < s.heap.objs.size := by obtain ⟨_, q, _⟩ := hit; exact Heap.lt_size q
    have hlt : i < its.toArray.size := by simpa using (List.getElem?_eq_some_iff.mp hu).1
    refine wpAny_pyNext_enum_itemD (Draws.tuple (A := X.A.in1) (I.ok.hd hc) it a hai its.toArray) he ⟨hit, p⟩ hlt hne (by simp [hne, hea]) fun x' h' tk hx' ho hst' hT hsz hk => ?_
    obtain ⟨hit', _⟩ := hst'
    have ex : x' = u := by
      have hx' : its.toArray[i]? = some x' := hx'
      rw [List.getElem?_toArray, hu] at hx'
      exact (Option.some.inj hx').symm
    subst ex
    refine ⟨_, rfl, wpAny_letOwnedTupleGo_enum (s := { s with heap := h', toks := tk + 1 }) ho fun h'' he' sb => ?_⟩
    have hT2 : h''.get? s.heap.objs.size = some { cls := .type "tuple", data := .seq #[.int i tk, x'] } := (sb.2 _ (Nat.ne_of_gt hel)).trans hT
    have new : ObjOk X.prog X.w (upd H s.heap.objs.size (.tup [.int (i : Nat), x])) h'' s.heap.objs.size (.tup [.int (i : Nat), x]) :=
      ⟨by show 2 ≤ sizeLine; decide, [.int i tk, x'], .cons ⟨_, rfl⟩ (.cons ru .nil), ⟨_, hT2, rfl, _, rfl⟩⟩
    have I1 : Inv X pins σ (upd H s.heap.objs.size (.tup [.int (i : Nat), x])) { s with heap := h'', toks := tk + 1 } :=
      I.turnedNew (ch := [e, it]) (fun b ob hb q => (sb.2 b (fun z => hb (by simp [z]))).trans (hk b ob (fun z => hb (by simp [z])) (fun z => hb (by simp [z])) q)) hf (Nat.le_refl _) new
    refine ⟨.ref s.heap.objs.size, _, I1, rfl, ⟨_, x, rfl, I.hok.fresh (Nat.le_refl _), rfl, fun ys hy => by rw [I.tuple_inj hy hq]; exact hx⟩, ⟨⟨x', ?_⟩, hit'.at fun o q => (sb.2 it (Ne.symm hne)).trans q, hne⟩, fun b hb => ?_⟩
    · have e1 : ((i + 1 : Nat) : Int) = (i : Int) + 1 := by omega
      rw [e1]; exact he'
    · have hb' : b < s.heap.objs.size := by
        have e' : b = e ∨ b = it := by simpa using hb
        rcases e' with z | z
        · rw [z]; exact hel
        · rw [z]; exact hil
      rw [upd_ne (Nat.ne_of_lt hb')]
      exact (hf b hb).1
  done := by
    intro X hP hw hK hc i pins s σ H E I hf st hg
    subst hP hw hK
    obtain ⟨⟨old, he⟩, hit, hne⟩ := st
    obtain ⟨xs, hq, hx⟩ := hg
    obtain ⟨its, rv, p, hz⟩ := I.tuple hq
    obtain ⟨f0, f1, f2, f3, f4, f5⟩ := hf it (by simp)
    have hl := rv.length
    have hnone : its.toArray[i]? = none := by
      rw [List.getElem?_toArray]
      exact List.getElem?_eq_none (by omega)
    have D : Draws X.prog X.w X.A.in1 it [it, a] i (fun _ _ => True) (fun j h => j = i ∧ h.IsTupleIter it a i ∧ h.IsTuple a its.toArray) :=
      { live := fun _ _ st => let ⟨o, ho, _⟩ := st.2.1; ⟨o, ho⟩
        frame := fun _ _ _ st hk => ⟨st.1, st.2.1.at fun o e => hk it (by simp) o e, st.2.2.at fun o e => hk a (by simp) o e⟩
        item := fun j s Q E hj st _ => absurd st.1 (by omega)
        done := fun s Q E st hE => wpAny_nextOf_tuple_end (I.ok.hd hc) st.2.1 st.2.2 hnone hE }
    exact wpAny_pyNext_enum_endD D he ⟨rfl, hit, p⟩ fun h' eb => ⟨rfl, I.turned (t' := s.toks) (fun b o hb q => eb b o hb q) f0 f1 f3 f4 f5⟩
  self := fun A i s Q E st h => let ⟨⟨_, he⟩, _⟩ := st; wpAny_pyIter_enum he h
def iEnumT (K : PySem.W.Frag) (ta : TA) : TI := fun σ H R => ta σ H fun vs H1 => ∃ a xs, vs = [.ref a] ∧ SqT K H1 a xs ∧ R (IteT K a) H1
theorem pi_enumT {X : Cx} {e : Expr} {ta : TA} {p pos tpos : Pos} {elts : List Expr} {kk : Nat} (hg : Gl X "enumerate") (hm : X.mg "enumerate" = none) (ha : PA X [e] ta) (hs : starEach [e] X.env = [(false, eval e X.env)] := by rfl) :
    PI X (.Tuple elts kk tpos) (.Call (.Name "enumerate" p) [e] [] pos) (iEnumT X.K ta) := by
  refine ⟨fun pins s σ H R I h => ?_⟩
  refine Call_ (ld_blt I hg hm boot_enumerate (PyProof.Rows.callWith_type1 (thn (ha.run pos pins s σ H _ I h) fun us s1 ⟨vs, H1, I1, r1, q1⟩ => ?_) hs rfl))
  obtain ⟨a, xs, ex, hq, q⟩ := q1
  subst ex
  cases r1 with
  | cons r rr =>
    cases rr
    cases r
    obtain ⟨its, rv, p', hz⟩ := I1.tuple hq
    refine g_call_enumerate_tuple p' fun h' he hit hsz hk => wpAny_pyIter_enum he ?_
    have I2 : Inv X pins σ H1 { s1 with heap := h' } := I1.kept (t' := s1.toks) hk
    have hlt : a < s1.heap.objs.size := by obtain ⟨o, ho, _⟩ := p'; exact Heap.lt_size ho
    refine ⟨s1.heap.objs.size + 1, [s1.heap.objs.size + 1, s1.heap.objs.size], _, _, H1, rfl, I2, turn_enumT a (s1.heap.objs.size + 1) s1.heap.objs.size (Nat.ne_of_lt hlt) (Nat.ne_of_gt (Nat.lt_succ_of_lt hlt)), ⟨⟨.none, he⟩, hit, Nat.succ_ne_self _⟩, fun b hb => ?_, q⟩
    have e' : b = s1.heap.objs.size + 1 ∨ b = s1.heap.objs.size := by simpa using hb
    have hle : s1.heap.objs.size ≤ b := by
      rcases e' with z | z
      · rw [z]; exact Nat.le_add_right _ _
      · rw [z]; exact Nat.le_refl _
    exact I1.fpOk hle (I1.hok.fresh hle)
/-- a tuple read by a bool -/
def rIxTB (K : PySem.W.Frag) : R2 := fun x y H Q => ∃ p xs b z, x = .ref p ∧ y = .bl b ∧ SqT K H p xs ∧ xs[if b then 1 else 0]? = some z ∧ Q z H
theorem ix_tupB {X : Cx} : IxR X (rIxTB X.K) := by
  intro value slice pins s σ H x y v u Q I rx ry h hs
  obtain ⟨p, xs, b, z, rfl, rfl, hq, he, q⟩ := h
  cases rx
  have ry : u = Value.bool b := ry
  subst ry
  obtain ⟨its, r, pl, hz⟩ := I.tuple hq
  obtain ⟨w, ew, rw'⟩ := r.get he
  have hl := r.length
  have fin : EP X pins σ Q w s := ⟨z, H, I, rw', q⟩
  have hlt : (if b then 1 else 0) < its.length := (List.getElem?_eq_some_iff.mp ew).1
  refine subscriptTail_builtinR (x := w) pl.typeIs slot_tuple_getitem.lookup
    (g_getItem_tupleB (j := if b then 1 else 0) (Q := fun r s' => r = w ∧ EP X pins σ Q r s') pl ?_ (by simpa using ew) ⟨rfl, fin⟩) hs
  rw [List.size_toArray]
  cases b with
  | true =>
    have hlt : 1 < its.length := hlt
    show seqIndex? 1 its.length = some 1
    unfold seqIndex?
    simp
    omega
  | false =>
    have hlt : 0 < its.length := hlt
    show seqIndex? 0 its.length = some 0
    have hne : its ≠ [] := fun z => by rw [z] at hlt; exact Nat.lt_irrefl _ hlt
    simp [seqIndex?, hne]
end L2
/-! Ev4: subscripts, slices, built-ins. -/
namespace EvS
open PySem PySem.Spec PyProof.Rows L2

section
variable {K : PySem.W.Frag} {ρ : Ix} {H : Hp} {st : Ev.St}
theorem atI_eq {α : Type} (xs : List α) (i : Int) : Ev.atI xs i = L2.atI xs i := rfl
theorem RepL.atI {ds : List Ev.D} {xs : List V} {i : Int} {d : Ev.D} (r : RepL K ρ H ds xs) (e : Ev.atI ds i = some d) : ∃ x, L2.atI xs i = some x ∧ Rep K ρ H d x := by
  unfold Ev.atI at e
  obtain ⟨j, e1, e2⟩ := Option.bind_eq_some_iff.mp e
  obtain ⟨x, e3, rx⟩ := r.get e2
  refine ⟨x, ?_, rx⟩
  unfold L2.atI
  rw [← r.length, show L2.ixN ds.length i = some j from e1]
  exact e3
end

/-! ### x[i] -/
def rSub (K : PySem.W.Frag) : R2 := fun x y H Q => ∃ ρ st a b d, RepS K ρ H st ∧ RepR K ρ H a x ∧ RepR K ρ H b y ∧ Ev.subR st a b = some d ∧ Post K ρ H st (.d d) Q
theorem ix_any {X : Cx} : IxR X (rSub X.K) := by
  intro value slice pins s σ H x y v u Q I rx ry h hp
  obtain ⟨ρ, st, a, b, d, hs, ha, hb, e, p⟩ := h
  unfold Ev.subR at e
  split at e
  · rename_i ds i
    split at e
    · obtain ⟨p1, xs, rfl, hx, r⟩ := Rep.toTup ha
      have ey := Rep.toInt hb
      subst ey
      obtain ⟨z, ez, rz⟩ := r.atI e
      exact ix_tup value slice pins s σ H _ _ v u Q I rx ry ⟨p1, xs, i, z, rfl, rfl, hx, ez, p H z .refl hs rz trivial⟩ hp
    · cases e
  · rename_i ds c
    split at e
    · obtain ⟨p1, xs, rfl, hx, r⟩ := Rep.toTup ha
      have ey := Rep.toBl hb
      subst ey
      obtain ⟨j, e1, e2⟩ := Option.bind_eq_some_iff.mp (show (Ev.ixN ds.length (if c then 1 else 0)).bind _ = some d from e)
      have ej : j = if c then 1 else 0 := by
        unfold Ev.ixN at e1
        cases c
        · simp at e1
          exact e1.2.symm
        · simp at e1
          exact e1.2.symm
      subst ej
      obtain ⟨z, ez, rz⟩ := r.get e2
      exact ix_tupB value slice pins s σ H _ _ v u Q I rx ry ⟨p1, xs, c, z, rfl, rfl, hx, ez, p H z .refl hs rz trivial⟩ hp
    · cases e
  · rename_i z i
    split at e
    · rename_i c
      have ex := Rep.toStr ha
      have ey := Rep.toInt hb
      subst ex ey
      obtain ⟨k, e1, e2⟩ := Option.map_eq_some_iff.mp e
      subst e2
      have lb := line_big
      have c := of_decide_eq_true c
      refine ix_str value slice pins s σ H _ _ v u Q I rx ry ⟨_, i, k, rfl, rfl, ?_, ?_, p.str hs⟩ hp
      · simp only [Str.length, List.size_toArray]
        omega
      · show L2.atI z.toArray.toList i = some k
        rw [List.toList_toArray]
        exact e1
    · cases e
  · rename_i i _ _
    split at e
    · rename_i ds e1
      split at e
      · obtain ⟨p1, xs, rfl, hx, r⟩ := listOf_ok hs e1 ha
        have ey := Rep.toInt hb
        subst ey
        obtain ⟨z, ez, rz⟩ := r.atI e
        exact ix_list value slice pins s σ H _ _ v u Q I rx ry ⟨p1, xs, i, z, rfl, rfl, hx, ez, p H z .refl hs rz trivial⟩ hp
      · cases e
    · cases e
  · cases e

/-! ### x[lo:hi] -/
theorem sIx_eq (n d : Nat) (o : Option Int) : Ev.sIx n d o = HT.sIx n d o := by cases o <;> rfl
theorem RepL.cut {K : PySem.W.Frag} {ρ : Ix} {H : Hp} {ds : List Ev.D} {xs : List V} (r : RepL K ρ H ds xs) (lo hi : Option Int) : RepL K ρ H (Ev.cut ds lo hi) (cutV xs lo hi) := by
  unfold Ev.cut cutV
  rw [sIx_eq, sIx_eq, r.length]
  exact (r.drop _).take _
def rSlc (K : PySem.W.Frag) : V → Option Int → Option Int → Hp → VK → Prop := fun x lo hi H Q => ∃ ρ st a rv, RepS K ρ H st ∧ RepR K ρ H a x ∧ Ev.slcR st a lo hi = some rv ∧ Post K ρ H st rv Q
theorem cut_whole {α : Type} {xs : List α} {lo hi : Option Int} (h : HT.sIx xs.length 0 lo = 0 ∧ HT.sIx xs.length xs.length hi = xs.length) : Ev.cut xs lo hi = xs := by
  unfold Ev.cut
  rw [sIx_eq, sIx_eq, h.1, h.2, List.drop_zero, Nat.sub_zero, List.take_length]
theorem sl_any {X : Cx} : SlR X (rSlc X.K) := by
  intro pins s σ H x v vl vu lo hi sl Q I rx hsl pl pu h
  obtain ⟨ρ, st, a, rv, hs, ha, e, p⟩ := h
  unfold Ev.slcR at e
  split at e
  · rename_i ds
    split at e
    · cases e
      obtain ⟨p1, xs, rfl, hx, r⟩ := Rep.toTup ha
      refine sl_tupA pins s σ H _ v vl vu lo hi sl Q I rx hsl pl pu ⟨p1, xs, rfl, hx, fun w => ?_, fun _ p0 n0 => p.tupN hs (r.cut lo hi) n0⟩
      have w2 : HT.sIx ds.length 0 lo = 0 ∧ HT.sIx ds.length ds.length hi = ds.length := by rw [r.length]; exact w
      rw [cut_whole w2] at p
      exact p.tup hs r hx
    · cases e
  · rename_i z
    split at e
    · rename_i c
      cases e
      have ex := Rep.toStr ha
      subst ex
      have lb := line_big
      have c := of_decide_eq_true c
      refine sl_str pins s σ H _ v vl vu lo hi sl Q I rx hsl pl pu ⟨_, rfl, ?_, ?_⟩
      · simp only [Str.length, List.size_toArray]
        omega
      · have q := p.str hs
        have ez : cutS ⟨z.toArray⟩ lo hi = ⟨(Ev.cut z lo hi).toArray⟩ := by
          unfold cutS Ev.cut
          have lz : (⟨z.toArray⟩ : Str).length = z.length := by simp [Str.length]
          rw [lz, sIx_eq, sIx_eq]
        rw [ez]
        exact q
    · cases e
  · split at e
    · rename_i ds e1
      split at e
      · cases e
        obtain ⟨p1, xs, rfl, hx, r⟩ := listOf_ok hs e1 ha
        exact sl_list pins s σ H _ v vl vu lo hi sl Q I rx hsl pl pu ⟨p1, xs, rfl, hx, fun p0 n0 => p.lstN hs (r.cut lo hi) n0⟩
      · cases e
    · cases e

/-! ### built-ins by values -/
section
variable {K : PySem.W.Frag} {ρ : Ix} {H : Hp} {st : Ev.St}
inductive RepRs (K : PySem.W.Frag) (ρ : Ix) (H : Hp) : List Ev.Rv → List V → Prop
  | nil : RepRs K ρ H [] []
  | cons {a : Ev.Rv} {x : V} {as : List Ev.Rv} {xs : List V} : RepR K ρ H a x → RepRs K ρ H as xs → RepRs K ρ H (a :: as) (x :: xs)
theorem RepRs.one {a : Ev.Rv} {xs : List V} (h : RepRs K ρ H [a] xs) : ∃ x, xs = [x] ∧ RepR K ρ H a x := by
  cases h with
  | cons h h' => cases h'; exact ⟨_, rfl, h⟩
theorem RepRs.two {a b : Ev.Rv} {xs : List V} (h : RepRs K ρ H [a, b] xs) : ∃ x y, xs = [x, y] ∧ RepR K ρ H a x ∧ RepR K ρ H b y := by
  cases h with
  | cons h h' =>
    cases h' with
    | cons h2 h3 => cases h3; exact ⟨_, _, rfl, h, h2⟩
theorem bools_ok : ∀ {ds : List Ev.D} {bs : List Bool} {xs : List V}, Ev.bools ds = some bs → RepL K ρ H ds xs → xs = bs.map V.bl
  | [], _, _, e, r => by cases e; exact r.ofNil
  | .bl b :: ds, _, _, e, r => by
    obtain ⟨cs, e1, e2⟩ := Option.map_eq_some_iff.mp (show (Ev.bools ds).map (b :: ·) = some _ from e)
    subst e2
    obtain ⟨x, r2, rfl, h1, h2⟩ := r.ofCons
    rw [Rep] at h1
    rw [h1, bools_ok e1 h2] <;> rfl
  | .non :: _, _, _, e, _ => by cases e
  | .int _ :: _, _, _, e, _ => by cases e
  | .str _ :: _, _, _, e, _ => by cases e
  | .tup _ :: _, _, _, e, _ => by cases e
  | .ref _ :: _, _, _, e, _ => by cases e
  | .scr _ :: _, _, _, e, _ => by cases e
end
def tyName : Ev.Ty → String
  | .non => "NoneType"
  | .bl => "bool"
  | .int => "int"
  | .str => "str"
  | .tup => "tuple"
  | .lst => "list"
theorem kit_of_ty (K : PySem.W.Frag) (t u : Ev.Ty) : PySem.W.kitOne K (.type (tyName t)) (.type (tyName u)) = some (Ev.isTy t u) := by
  cases t <;> cases u <;> first | exact kit_ty (by decide +kernel) | rfl
section
variable {X : Cx} {pins : List (Addr × Obj)} {s : Shared} {σ : L2.St} {H : Hp} {x : V} {Q : VK} {ρ : Ix} {st : Ev.St} {a : Ev.Rv}
theorem tyR_ok {t : Ev.Ty} (hs : RepS X.K ρ H st) (ha : RepR X.K ρ H a x) (e : Ev.tyR st a = some t) : TyX X.K H x (.type (tyName t)) := by
  have lst : ∀ ds, Ev.listOf st a = some ds → TyX X.K H x (.type "list") := by
    intro ds e1
    obtain ⟨p, xs, rfl, hq, _⟩ := listOf_ok hs e1 ha
    rcases hq with (hq | ⟨o, hq⟩) | ⟨o, its, n, hk, hc, _⟩
    · exact .base (.lst hq)
    · exact .base (.frz hq)
    · exact .kList hk hc
  unfold Ev.tyR at e
  split at e
  · cases e; rw [Rep.toNon ha]; exact .base .non
  · cases e; rw [Rep.toBl ha]; exact .base (.bl _)
  · cases e; rw [Rep.toInt ha]; exact .base (.int _)
  · cases e; rw [Rep.toStr ha]; exact .base (.str _)
  · cases e
    obtain ⟨p, xs, rfl, hq, _⟩ := Rep.toTup ha
    rcases hq with (hq | ⟨o, hq⟩) | ⟨o, its, n, hk, hc, _⟩
    · exact .base (.tup hq)
    · exact .fTuple hq
    · exact .kTuple hk hc
  · obtain ⟨ds, e1, e2⟩ := Option.map_eq_some_iff.mp e
    subst e2
    exact lst ds e1
end
/-- what a built-in of one's list asks of its values -/
def rBlt (K : PySem.W.Frag) (f : Ev.Blt) : List V → Hp → VK → Prop := fun xs H Q => ∃ ρ st as rv, RepS K ρ H st ∧ RepRs K ρ H as xs ∧ Ev.bltR f st as = some rv ∧ Post K ρ H st rv Q
section
variable {X : Cx}
theorem bltR_ok {f : Ev.Blt} {st : Ev.St} {as : List Ev.Rv} {rv : Ev.Rv} (e : Ev.bltR f st as = some rv) : (∃ a, as = [a] ∧ Ev.blt1 f st a = some rv) ∨ ∃ a b, as = [a, b] ∧ Ev.blt2 f a b = some rv := by
  unfold Ev.bltR at e
  split at e
  · exact .inl ⟨_, rfl, e⟩
  · exact .inr ⟨_, _, rfl, e⟩
  · cases e
theorem blt2_ok {f : Ev.Blt} {a b rv : Ev.Rv} (e : Ev.blt2 f a b = some rv) : ∃ i j, a = .d (.int i) ∧ b = .d (.int j) ∧ ((f = .max ∧ rv = .d (.int (if j > i then j else i))) ∨ (f = .min ∧ rv = .d (.int (if j < i then j else i)))) := by
  unfold Ev.blt2 at e
  split at e
  · rename_i i j
    split at e
    · cases e; exact ⟨i, j, rfl, rfl, .inl ⟨rfl, rfl⟩⟩
    · cases e; exact ⟨i, j, rfl, rfl, .inr ⟨rfl, rfl⟩⟩
    · cases e
  · cases e
theorem blt_len : CallR X (.builtin "len") (rBlt X.K .len) := by
  intro pins s σ H xs us Q I r h
  obtain ⟨ρ, st, as, rv, hs, ha, e, p⟩ := h
  replace e := bltR_ok e
  rcases e with ⟨a, rfl, e⟩ | ⟨a, b, rfl, e⟩
  · obtain ⟨x, rfl, hx⟩ := ha.one
    have e : Ev.lenB st a = some rv := e
    unfold Ev.lenB at e
    split at e
    · rename_i n en
      split at e
      · rename_i c
        cases e
        have q := p.int hs
        have lb := line_big
        have c := of_decide_eq_true c
        unfold Ev.lenR at en
        split at en
        · cases en
          obtain ⟨p1, ys, rfl, hq, rr⟩ := Rep.toTup hx
          exact call_len_seq pins s σ H _ us Q I r ⟨p1, ys, rfl, .inr hq, by rw [← rr.length]; exact q⟩
        · cases en
          have ez := Rep.toStr hx
          subst ez
          refine call_len_str pins s σ H _ us Q I r ⟨_, rfl, ?_, ?_⟩
          · simp only [Str.length, List.size_toArray]
            omega
          · simpa [Str.length] using q
        · obtain ⟨ds, e1, e2⟩ := Option.map_eq_some_iff.mp en
          subst e2
          obtain ⟨p1, ys, rfl, hq, rr⟩ := listOf_ok hs e1 hx
          exact call_len_seq pins s σ H _ us Q I r ⟨p1, ys, rfl, .inl hq, by rw [← rr.length]; exact q⟩
      · cases e
    · cases e
  · obtain ⟨_, _, _, _, z | z⟩ := blt2_ok e <;> cases z.1
theorem blt_all (hc : X.calm = true) : CallR X (.builtin "all") (rBlt X.K .all) := by
  intro pins s σ H xs us Q I r h
  obtain ⟨ρ, st, as, rv, hs, ha, e, p⟩ := h
  replace e := bltR_ok e
  rcases e with ⟨a, rfl, e⟩ | ⟨a, b, rfl, e⟩
  · obtain ⟨x, rfl, hx⟩ := ha.one
    have e : Ev.allB st a = some rv := e
    unfold Ev.allB at e
    split at e
    · rename_i ds e1
      obtain ⟨bs, e2, e3⟩ := Option.map_eq_some_iff.mp e
      subst e3
      obtain ⟨p1, ys, rfl, hq, rr⟩ := listOf_ok hs e1 hx
      have ey := bools_ok e2 rr
      subst ey
      exact cr_all hc pins s σ H _ us Q I r ⟨p1, bs, rfl, hq, p.bl hs⟩
    · cases e
  · obtain ⟨_, _, _, _, z | z⟩ := blt2_ok e <;> cases z.1
theorem blt_any (hc : X.calm = true) : CallR X (.builtin "any") (rBlt X.K .any) := by
  intro pins s σ H xs us Q I r h
  obtain ⟨ρ, st, as, rv, hs, ha, e, p⟩ := h
  replace e := bltR_ok e
  rcases e with ⟨a, rfl, e⟩ | ⟨a, b, rfl, e⟩
  · obtain ⟨x, rfl, hx⟩ := ha.one
    have e : Ev.anyB st a = some rv := e
    unfold Ev.anyB at e
    split at e
    · rename_i ds e1
      obtain ⟨bs, e2, e3⟩ := Option.map_eq_some_iff.mp e
      subst e3
      obtain ⟨p1, ys, rfl, hq, rr⟩ := listOf_ok hs e1 hx
      have ey := bools_ok e2 rr
      subst ey
      exact cr_any hc pins s σ H _ us Q I r ⟨p1, bs, rfl, hq, p.bl hs⟩
    · cases e
  · obtain ⟨_, _, _, _, z | z⟩ := blt2_ok e <;> cases z.1
theorem blt_tuple : CallR X (.type "tuple") (rBlt X.K .tuple) := by
  intro pins s σ H xs us Q I r h
  obtain ⟨ρ, st, as, rv, hs, ha, e, p⟩ := h
  replace e := bltR_ok e
  rcases e with ⟨a, rfl, e⟩ | ⟨a, b, rfl, e⟩
  · obtain ⟨x, rfl, hx⟩ := ha.one
    obtain ⟨u, rfl, ru⟩ := vals1 r
    have e : Ev.tupB st a = some rv := e
    unfold Ev.tupB at e
    split at e
    · cases e
      obtain ⟨p1, ys, rfl, hq, rr⟩ := Rep.toTup hx
      exact rl_tuple pins s σ H _ u Q I ru (.inr ⟨p1, ys, rfl, hq, p.tup hs rr hq⟩)
    · split at e
      · rename_i ds e1
        split at e
        · cases e
          obtain ⟨p1, ys, rfl, hq, rr⟩ := listOf_ok hs e1 hx
          exact rl_tuple pins s σ H _ u Q I ru (.inl ⟨p1, ys, rfl, hq, fun q nq => p.tupN hs rr nq⟩)
        · cases e
      · cases e
  · obtain ⟨_, _, _, _, z | z⟩ := blt2_ok e <;> cases z.1
theorem blt_max (hc : X.calm = true) : CallR X (.builtin "max") (rBlt X.K .max) := by
  intro pins s σ H xs us Q I r h
  obtain ⟨ρ, st, as, rv, hs, ha, e, p⟩ := h
  replace e := bltR_ok e
  rcases e with ⟨a, rfl, e⟩ | ⟨a, b, rfl, e⟩
  · cases e
  · obtain ⟨i, j, rfl, rfl, z | z⟩ := blt2_ok e
    · obtain ⟨x, y, rfl, hx, hy⟩ := ha.two
      have e1 := Rep.toInt hx
      have e2 := Rep.toInt hy
      subst e1 e2
      obtain ⟨_, e3⟩ := z
      subst e3
      exact call_max2 hc pins s σ H _ us Q I r ⟨i, j, rfl, p.int hs⟩
    · cases z.1
theorem blt_min (hc : X.calm = true) : CallR X (.builtin "min") (rBlt X.K .min) := by
  intro pins s σ H xs us Q I r h
  obtain ⟨ρ, st, as, rv, hs, ha, e, p⟩ := h
  replace e := bltR_ok e
  rcases e with ⟨a, rfl, e⟩ | ⟨a, b, rfl, e⟩
  · cases e
  · obtain ⟨i, j, rfl, rfl, z | z⟩ := blt2_ok e
    · cases z.1
    · obtain ⟨x, y, rfl, hx, hy⟩ := ha.two
      have e1 := Rep.toInt hx
      have e2 := Rep.toInt hy
      subst e1 e2
      obtain ⟨_, e3⟩ := z
      subst e3
      exact call_min2 hc pins s σ H _ us Q I r ⟨i, j, rfl, p.int hs⟩
theorem blt_abs : CallR X (.builtin "abs") (rBlt X.K .abs) := by
  intro pins s σ H xs us Q I r h
  obtain ⟨ρ, st, as, rv, hs, ha, e, p⟩ := h
  replace e := bltR_ok e
  rcases e with ⟨a, rfl, e⟩ | ⟨a, b, rfl, e⟩
  · obtain ⟨x, rfl, hx⟩ := ha.one
    have e : Ev.absB a = some rv := e
    unfold Ev.absB at e
    split at e
    · rename_i i
      cases e
      have e1 := Rep.toInt hx
      subst e1
      exact call_abs pins s σ H _ us Q I r ⟨_, rfl, p.int hs⟩
    · cases e
  · obtain ⟨_, _, _, _, z | z⟩ := blt2_ok e <;> cases z.1
theorem ints_rep {K : PySem.W.Frag} {ρ : Ix} {H : Hp} : ∀ {ds : List Ev.D} {is : List Int} {xs : List V}, Ev.intsD ds = some is → RepL K ρ H ds xs → xs = is.map V.int
  | [], is, xs, e, r => by cases e; exact r.ofNil
  | .int i :: ds, is, xs, e, r => by
    obtain ⟨l, e1, e2⟩ := Option.map_eq_some_iff.mp (show (Ev.intsD ds).map (i :: ·) = some is from e)
    subst e2
    obtain ⟨x, t, rfl, h1, h2⟩ := r.ofCons
    rw [Rep] at h1
    rw [h1, ints_rep e1 h2]
    rfl
  | .non :: _, _, _, e, _ => by cases e
  | .bl _ :: _, _, _, e, _ => by cases e
  | .str _ :: _, _, _, e, _ => by cases e
  | .tup _ :: _, _, _, e, _ => by cases e
  | .ref _ :: _, _, _, e, _ => by cases e
  | .scr _ :: _, _, _, e, _ => by cases e
theorem blt_sum (hc : X.calm = true) : CallR X (.builtin "sum") (rBlt X.K .sum) := by
  intro pins s σ H xs us Q I r h
  obtain ⟨ρ, st, as, rv, hs, ha, e, p⟩ := h
  replace e := bltR_ok e
  rcases e with ⟨a, rfl, e⟩ | ⟨a, b, rfl, e⟩
  · obtain ⟨x, rfl, hx⟩ := ha.one
    have e : Ev.sumB st a = some rv := e
    unfold Ev.sumB at e
    split at e
    · rename_i ds ed
      obtain ⟨is, e1, e2⟩ := Option.map_eq_some_iff.mp e
      subst e2
      obtain ⟨p1, ys, rfl, hq, rr⟩ := listOf_ok hs ed hx
      have ey := ints_rep e1 rr
      subst ey
      exact cr_sum hc pins s σ H _ us Q I r ⟨p1, is, rfl, hq, p.int hs⟩
    · cases e
  · obtain ⟨_, _, _, _, z | z⟩ := blt2_ok e <;> cases z.1
/-- isinstance(x, T) -/
def rIs (K : PySem.W.Frag) (u : Ev.Ty) : V → Hp → VK → Prop := fun x H Q => ∃ ρ st a t, RepS K ρ H st ∧ RepR K ρ H a x ∧ Ev.tyR st a = some t ∧ Q (.bl (Ev.isTy t u)) H
theorem call_is (u : Ev.Ty) {pins : List (Addr × Obj)} {s : Shared} {σ : L2.St} {H : Hp} {x : V} {us : List Value} {Q : VK} (I : L2.Inv X pins σ H s) (r : Vals [x, .ty (tyName u)] us) (h : rIs X.K u x H Q) :
    wpAny (model X.prog X.w) X.A (call (.builtin "isinstance") us) (EP X pins σ Q) X.xe s := by
  obtain ⟨ρ, st, a, t, hs, hx, e, q⟩ := h
  exact call_isi pins s σ H _ us Q I r ⟨x, _, _, _, _, rfl, .ty _, tyR_ok hs hx e, kit_of_ty X.K t u, q⟩
end
end EvS
/-! Ev5: expressions: the check of a text against the interpreter's code, and that it runs so. -/
namespace EvS
open PySem PySem.Spec PyProof.Rows L2

/-! ### readings -/
section
variable (K : PySem.W.Frag) (call : Nat → List Ev.D → Ev.M Ev.Rv)
/-- what is wanted of a value that comes -/
def Then (ρ : Ix) (H : Hp) (rv : Ev.Rv) (st' : Ev.St) (Q : VK) : Prop := ∀ ρ' H' v, Grow ρ H ρ' H' → RepS K ρ' H' st' → RepR K ρ' H' rv v → Nw H rv v → Q v H'
def tE (c : Ev.E) : TE := fun σ H Q => ∃ ρ env st rv st', RepS K ρ H st ∧ RepE K ρ H env σ ∧ Ev.evE call c env st = .ok rv st' ∧ Then K ρ H rv st' Q
def tT (c : Ev.E) : TT := fun σ H Q => tE K call c σ H fun v H' => ∃ b, v = .bl b ∧ Q b H'
def tA (es : Ev.Es) : TA := fun σ H Q => ∃ ρ env st ds st', RepS K ρ H st ∧ RepE K ρ H env σ ∧ Ev.evA call es env st = .ok ds st' ∧ ∀ ρ' H' vs, Grow ρ H ρ' H' → RepS K ρ' H' st' → RepL K ρ' H' ds vs → Q vs H'
def tR (es : Ev.Es) : TA := fun σ H Q => ∃ ρ env st xs st', RepS K ρ H st ∧ RepE K ρ H env σ ∧ Ev.evR call es env st = .ok xs st' ∧ ∀ ρ' H' vs, Grow ρ H ρ' H' → RepS K ρ' H' st' → RepRs K ρ' H' xs vs → Q vs H'
def spF (f : Nat) : Sp := fun vs H Q _ => ∃ ρ st ds rv st', RepS K ρ H st ∧ RepL K ρ H ds vs ∧ call f ds st = .ok rv st' ∧ Then K ρ H rv st' Q
end
theorem bind_inv {α β : Type} {r : Ev.Res α} {f : α → Ev.M β} {b : β} {st' : Ev.St} (h : r.bind f = .ok b st') : ∃ a st1, r = .ok a st1 ∧ f a st1 = .ok b st' := by
  cases r with
  | ok a st1 => exact ⟨a, st1, rfl, h⟩
  | err => cases h
theorem ofO_inv {o : Option Ev.Rv} {st st' : Ev.St} {rv : Ev.Rv} (h : Ev.ofO o st = .ok rv st') : o = some rv ∧ st' = st := by
  unfold Ev.ofO at h
  split at h
  · cases h; exact ⟨rfl, rfl⟩
  · cases h
theorem PE.imp {X : Cx} {e : Expr} {t t' : TE} (h : PE X e t) (i : ∀ σ H Q, t' σ H Q → t σ H Q) : PE X e t' := ⟨fun pins s σ H Q I w => h.run pins s σ H Q I (i σ H Q w)⟩
theorem PT.imp {X : Cx} {e : Expr} {t t' : TT} (h : PT X e t) (i : ∀ σ H Q, t' σ H Q → t σ H Q) : PT X e t' := ⟨fun pins s σ H Q I w => h.run pins s σ H Q I (i σ H Q w)⟩
theorem PA.imp {X : Cx} {e : List Expr} {t t' : TA} (h : PA X e t) (i : ∀ σ H Q, t' σ H Q → t σ H Q) : PA X e t' := ⟨fun pos pins s σ H Q I w => h.run pos pins s σ H Q I (i σ H Q w)⟩
theorem RepRs.mono {K : PySem.W.Frag} {ρ ρ1 : Ix} {H H1 : Hp} (g : Grow ρ H ρ1 H1) : ∀ {as : List Ev.Rv} {xs : List V}, RepRs K ρ H as xs → RepRs K ρ1 H1 as xs
  | _, _, .nil => .nil
  | _, _, .cons h t => .cons (h.mono g) (RepRs.mono g t)

/-! ### the context -/
structure Tx where
  N : List Str
  fns : List Str
  glo : List (Str × Ev.D)
def bltNames : List Str := ["len", "all", "any", "tuple", "max", "min", "abs", "isinstance", "str", "int", "bool", "list", "range", "zip", "enumerate", "sum"]
structure FnAt (X : Cx) (call : Nat → List Ev.D → Ev.M Ev.Rv) (f : Nat) (x : Str) : Prop where
  ex : ∃ (a : Addr) (fd : FuncData) (ps : List Str) (k : Nat), X.mg x = some (.ref a) ∧ PySem.W.keepIn X.K (.ref a) = true ∧ Binds X.K fd ps [] ∧ FnOk X.prog X.w X.K X.mg X.base CX0 k a fd ps (spF X.K call f) ∧ Room k X.A
structure Cok (X : Cx) (T : Tx) (sc : Scope) (call : Nat → List Ev.D → Ev.M Ev.Rv) : Prop where
  N : X.N = T.N
  nd : T.N.Nodup
  sc : X.env.scope = sc
  calm : X.calm = true
  hu : X.A.units + 65 < cLine
  glo : ∀ x d, T.glo.lookup x = some d → ∃ u v, X.mg x = some u ∧ RelV v u ∧ ∀ ρ H, Rep X.K ρ H d v
  blt : ∀ x ∈ bltNames, X.mg x = none
  fn : ∀ (f : Nat) (x : Str), T.fns[f]? = some x → FnAt X call f x

/-! ### the check -/
mutual
def beqD : Ev.D → Ev.D → Bool
  | .non, .non => true
  | .bl a, .bl b => a == b
  | .int a, .int b => decide (a = b)
  | .str a, .str b => decide (a = b)
  | .tup a, .tup b => beqDL a b
  | _, _ => false
def beqDL : List Ev.D → List Ev.D → Bool
  | [], [] => true
  | a :: as, b :: bs => beqD a b && beqDL as bs
  | _, _ => false
end
mutual
theorem beqD_eq : ∀ {a b : Ev.D}, beqD a b = true → a = b
  | .non, .non, _ => rfl
  | .bl a, .bl b, h => by rw [eq_of_beq (show (a == b) = true from h)]
  | .int a, .int b, h => by rw [of_decide_eq_true (show decide (a = b) = true from h)]
  | .str a, .str b, h => by rw [of_decide_eq_true (show decide (a = b) = true from h)]
  | .tup a, .tup b, h => by rw [beqDL_eq (show beqDL a b = true from h)]
theorem beqDL_eq : ∀ {a b : List Ev.D}, beqDL a b = true → a = b
  | [], [], _ => rfl
  | a :: as, b :: bs, h => by
    obtain ⟨h1, h2⟩ := Bool.and_eq_true_iff.mp (show (beqD a b && beqDL as bs) = true from h)
    rw [beqD_eq h1, beqDL_eq h2]
end
def visB (sc : Scope) (x : Str) : Bool := match sc.names.lookup x with
  | some .local => true
  | some .cell => true
  | some .free => true
  | _ => false
def gloB (sc : Scope) (x : Str) : Bool := decide (sc.names.lookup x = some .globalImplicit)
def okN (x : Str) : Bool := !(x == ("__debug__" : Str)) && (!(x == ("__classdict__" : Str)) && decide (x ≠ "__name__"))
def cstB : Ev.D → Const → Bool
  | .non, .none => true
  | .bl b, .bool c => b == c
  | .int i, .int j => decide (i = j)
  | .str z, .str x => decide (x.cps.toList = z)
  | _, _ => false
def bltName : Ev.Blt → Str
  | .len => "len"
  | .all => "all"
  | .any => "any"
  | .tuple => "tuple"
  | .max => "max"
  | .min => "min"
  | .abs => "abs"
  | .sum => "sum"
def tyStr : Ev.Ty → Str
  | .non => ""
  | .bl => "bool"
  | .int => "int"
  | .str => "str"
  | .tup => "tuple"
  | .lst => "list"
/-- a test whose truth is asked by its own value -/
def noIf : Expr → Bool
  | .IfExp .. => false
  | _ => true
def namesOf (N : List Str) (own : List Nat) : List (Str × Nat) := own.filterMap fun i => (N[i]?).map fun x => (x, i)
def locB (sc : Scope) (x : Str) : Bool := match sc.names.lookup x with
  | some .local => true
  | some .cell => true
  | _ => false
def chkName (N : List Str) (sc : Scope) (ok : Str → Bool) (i : Nat) : Expr → Bool
  | .Name x _ => decide (N[i]? = some x) && (locB sc x && ok x)
  | _ => false
def chkNames (N : List Str) (sc : Scope) (ok : Str → Bool) : List Nat → List Expr → Bool
  | [], [] => true
  | i :: is, e :: es => chkName N sc ok i e && chkNames N sc ok is es
  | _, _ => false
def chkTg (N : List Str) (sc : Scope) (ok : Str → Bool) : Ev.Tg → Expr → Bool
  | .var i, e => chkName N sc ok i e
  | .tup is, .Tuple es _ _ => decide (is.Nodup) && chkNames N sc ok is es
  | _, _ => false
/-- a comprehension's own slots hold its targets -/
def tgIn (own : List Nat) : Ev.Tg → Bool
  | .var i => decide (i ∈ own)
  | .tup is => is.all fun i => decide (i ∈ own)
def isNameE : Expr → Bool
  | .Name .. => true
  | _ => false
def isTupE : Expr → Bool
  | .Tuple .. => true
  | _ => false
mutual
def chkE (T : Tx) : Scope → Ev.E → Expr → Bool
  | sc, .var i, .Name x _ => decide (T.N[i]? = some x) && (visB sc x && okN x)
  | sc, .cst d, .Constant k _ _ => cstB d k
  | sc, .cst d, .Name x _ => gloB sc x && (okN x && (match T.glo.lookup x with
    | some d' => beqD d d'
    | none => false))
  | sc, .tup es, .Tuple xs _ _ => chkA T sc es xs
  | sc, .lst es, .List xs _ => chkA T sc es xs
  | sc, .bin op a b, .BinOp x o y _ => decide (bopOf op = o) && (chkE T sc a x && chkE T sc b y)
  | sc, .neg a, .UnaryOp .USub x _ => chkE T sc a x
  | sc, .cmp op a b, .Compare x [o] [y] _ => decide (copOf op = o) && (chkE T sc a x && chkE T sc b y)
  | sc, .chn op op' a b c, .Compare x [o, o'] [y, z] _ => decide (copOf op = o) && (decide (copOf op' = o') && (chkE T sc a x && (chkE T sc b y && chkE T sc c z)))
  | sc, .isn ng a, .Compare x [o] [.Constant .none _ _] _ => decide (o = if ng then .IsNot else .Is) && chkE T sc a x
  | sc, .isb b a, .Compare x [o] [.Constant (.bool c) _ _] _ => decide (o = .Is) && (decide (b = c) && chkE T sc a x)
  | sc, .and a b, .BoolOp .And [x, y] pos => noIf x && (noIf y && (chkE T sc a x && chkE T sc b y))
  | sc, .and a b, .BoolOp .And (x :: y :: z :: r) pos => noIf x && chkE T sc a x && chkE T sc b (.BoolOp .And (y :: z :: r) pos)
  | sc, .or a b, .BoolOp .Or [x, y] pos => noIf x && (noIf y && (chkE T sc a x && chkE T sc b y))
  | sc, .or a b, .BoolOp .Or (x :: y :: z :: r) pos => noIf x && chkE T sc a x && chkE T sc b (.BoolOp .Or (y :: z :: r) pos)
  | sc, .not a, .UnaryOp .Not x _ => noIf x && chkE T sc a x
  | sc, .ite c a b, .IfExp t x y _ => noIf t && (chkE T sc c t && (chkE T sc a x && chkE T sc b y))
  | sc, .slc a lo hi, .Subscript x (.Slice l h none _) _ => chkE T sc a x && (chkO T sc lo l && chkO T sc hi h)
  | sc, .sub a i, .Subscript x y _ => chkE T sc a x && chkE T sc i y
  | sc, .call f es, .Call (.Name x _) (y :: ys) [] _ => decide (T.fns[f]? = some x) && (gloB sc x && (okN x && chkA T sc es (y :: ys)))
  | sc, .isi u a, .Call (.Name x _) [y, .Name t _] [] _ => decide (x = "isinstance") && (gloB sc x && (decide (t = tyStr u) && (gloB sc t && (decide (u ≠ .non) && chkE T sc a y))))
  | sc, .pop o i, .Call (.Attribute ox nm apos) [x] [] cpos => decide (nm = "pop") && (chkE T sc o ox && (isNameE ox && (chkE T sc i x && (apos.endLine == cpos.line))))
  | sc, .blt f es, .Call (.Name x _) (y :: ys) [] _ => decide (x = bltName f) && (gloB sc x && chkA T sc es (y :: ys))
  | sc, .lc own t src cond elt, .ListComp x [⟨tg, it, ifs, 0⟩] scope _ => blkC T.N sc scope (namesOf T.N own) && (tgIn own t && (decide ((namesOf T.N own).map (·.2) = own) && (chkTg T.N (relS scope sc) (locB scope) t tg && (chkSrc T sc src it (isTupE tg) && (chkIfs T (relS scope sc) cond ifs && chkE T (relS scope sc) elt x)))))
  | _, _, _ => false
def chkO (T : Tx) : Scope → Ev.Eo → Option Expr → Bool
  | sc, .no, none => true
  | sc, .yes e, some x => chkE T sc e x
  | _, _, _ => false
def chkIfs (T : Tx) : Scope → Ev.Eo → List Expr → Bool
  | sc, .no, [] => true
  | sc, .yes e, [x] => noIf x && chkE T sc e x
  | _, _, _ => false
def chkA (T : Tx) : Scope → Ev.Es → List Expr → Bool
  | sc, .nil, [] => true
  | sc, .cons e es, x :: xs => chkE T sc e x && chkA T sc es xs
  | _, _, _ => false
def chkSrc (T : Tx) : Scope → Ev.Src → Expr → Bool → Bool
  | sc, .e e, x, _ => chkE T sc e x
  | sc, .rng1 a, .Call (.Name x _) [y] [] _, _ => decide (x = "range") && (gloB sc x && chkE T sc a y)
  | sc, .rng2 a b, .Call (.Name x _) [y, z] [] _, _ => decide (x = "range") && (gloB sc x && (chkE T sc a y && chkE T sc b z))
  | sc, .rng3 a b c, .Call (.Name x _) [y, z, u] [] _, _ => decide (x = "range") && (gloB sc x && (chkE T sc a y && (chkE T sc b z && chkE T sc c u)))
  | sc, .zip a b, .Call (.Name x _) [y, z] [] _, tp => tp && (decide (x = "zip") && (gloB sc x && (chkE T sc a y && chkE T sc b z)))
  | sc, .enum a, .Call (.Name x _) [y] [] _, tp => tp && (decide (x = "enumerate") && (gloB sc x && chkE T sc a y))
  | _, _, _, _ => false
end

/-! ### forms -/
def plainX : Expr → Bool
  | .Starred .. => false
  | .Set .. => false
  | .Slice .. => false
  | _ => true
theorem plainX_of {T : Tx} {sc : Scope} {c : Ev.E} {e : Expr} (h : chkE T sc c e = true) : plainX e = true := by
  cases e <;> first
    | rfl
    | (exfalso; revert h; cases c <;> (intro h; exact absurd h Bool.false_ne_true))
theorem star_of {e : Expr} {es : List Expr} {env : Env} (h : plainX e = true) : starEach (e :: es) env = (false, eval e env) :: starEach es env := by
  cases e <;> first | rfl | exact absurd h Bool.false_ne_true
theorem marks_of {e : Expr} {op : CmpOp} (h : plainX e = true) : behindInMarks op e = false := by
  cases e <;> first | rfl | exact absurd h Bool.false_ne_true
theorem ix_of {e : Expr} (h : plainX e = true) : PlainIx e := by
  intro o i
  cases e <;> first | rfl | exact absurd h Bool.false_ne_true
theorem set_of {e : Expr} {env : Env} (h : plainX e = true) : ∀ x, foldedSetIterable e env x = pure x := by
  intro x
  cases e <;> first | rfl | exact absurd h Bool.false_ne_true
end EvS
/-! Ev6: expressions, construct by construct. -/
namespace EvS
open PySem PySem.Spec PyProof.Rows L2
section
variable {X : Cx} {T : Tx} {sc : Scope} {call : Nat → List Ev.D → Ev.M Ev.Rv} {e a b c : Expr} {ca cb cc : Ev.E} {pos : Pos}

theorem s_var {i : Nat} {x : Str} (C : Cok X T sc call) (h : chkE T sc (.var i) (.Name x pos) = true) : PE X (.Name x pos) (tE X.K call (.var i)) := by
  obtain ⟨h1, h2⟩ := Bool.and_eq_true_iff.mp (show (decide (T.N[i]? = some x) && (visB sc x && okN x)) = true from h)
  obtain ⟨h2, h3⟩ := Bool.and_eq_true_iff.mp h2
  unfold okN at h3
  simp only [Bool.and_eq_true, Bool.not_eq_true', decide_eq_true_eq] at h3
  have hv : Vis X.env.scope x := by
    rw [C.sc]
    unfold visB at h2
    split at h2
    · rename_i q; exact .inl q
    · rename_i q; exact .inr (.inl q)
    · rename_i q; exact .inr (.inr q)
    · cases h2
  refine PE.imp (pe_var (i := i) (by rw [C.N]; exact of_decide_eq_true h1) hv h3.1 h3.2.1) fun σ H Q w => ?_
  obtain ⟨ρ, env, st, rv, st', hs, he, ev, q⟩ := w
  have ev : (match Ev.getV env i with | some d => Ev.Res.ok (Ev.Rv.d d) st | none => .err) = .ok rv st' := ev
  split at ev
  · rename_i d ed
    cases ev
    have ed : env[i]? = some (some d) := by
      unfold Ev.getV at ed
      cases q : env[i]? with
      | none => rw [q] at ed; cases ed
      | some o =>
        rw [q] at ed
        have ed : o = some d := ed
        rw [ed]
    obtain ⟨v, e1, r⟩ := he.val i d ed
    exact ⟨v, e1, q ρ H v .refl hs r trivial⟩
  · cases ev
theorem s_cst {d : Ev.D} {k : Const} {j : Nat} (h : cstB d k = true) : PE X (.Constant k j pos) (tE X.K call (.cst d)) := by
  have fin : ∀ {v : V}, (∀ ρ H, Rep X.K ρ H d v) → ∀ σ H Q, tE X.K call (.cst d) σ H Q → tC v σ H Q := fun {v} hv σ H Q w => by
    obtain ⟨ρ, env, st, rv, st', hs, he, ev, q⟩ := w
    have ev : Ev.Res.ok (Ev.Rv.d d) st = .ok rv st' := ev
    cases ev
    exact q ρ H v .refl hs (hv ρ H) trivial
  cases d with
  | non =>
    cases k with
    | none => exact PE.imp pe_non (fin fun ρ H => by rw [Rep])
    | _ => cases h
  | bl y =>
    cases k with
    | bool z =>
      have e : y = z := eq_of_beq (show (y == z) = true from h)
      subst e
      exact PE.imp pe_bl (fin fun ρ H => by rw [Rep])
    | _ => cases h
  | int y =>
    cases k with
    | int z =>
      have e : y = z := of_decide_eq_true (show decide (y = z) = true from h)
      subst e
      exact PE.imp pe_int (fin fun ρ H => by rw [Rep])
    | _ => cases h
  | str y =>
    cases k with
    | str z =>
      have e : z.cps.toList = y := of_decide_eq_true (show decide (z.cps.toList = y) = true from h)
      subst e
      exact PE.imp pe_str (fin fun ρ H => by rw [Rep])
    | _ => cases h
  | tup _ => cases k <;> cases h
  | ref _ => cases k <;> cases h
  | scr _ => cases k <;> cases h
theorem gl_of {x : Str} (C : Cok X T sc call) (h : gloB sc x = true) : Gl X x := by
  show X.env.kindOf x = _
  unfold Env.kindOf
  rw [C.sc]
  exact of_decide_eq_true h
theorem s_glo {d : Ev.D} {x : Str} (C : Cok X T sc call) (h : chkE T sc (.cst d) (.Name x pos) = true) : PE X (.Name x pos) (tE X.K call (.cst d)) := by
  have h : (gloB sc x && (okN x && (match T.glo.lookup x with | some d' => beqD d d' | none => false))) = true := h
  obtain ⟨h1, h2⟩ := Bool.and_eq_true_iff.mp h
  obtain ⟨h3, h4⟩ := Bool.and_eq_true_iff.mp h2
  unfold okN at h3
  simp only [Bool.and_eq_true, Bool.not_eq_true', decide_eq_true_eq] at h3
  split at h4
  · rename_i d' ed
    have e := beqD_eq h4
    subst e
    obtain ⟨u, v, m, r, hv⟩ := C.glo x d ed
    refine PE.imp (pe_glob (gl_of C h1) m r h3.1) fun σ H Q w => ?_
    obtain ⟨ρ, env, st, rv, st', hs, he, ev, q⟩ := w
    have ev : Ev.Res.ok (Ev.Rv.d d) st = .ok rv st' := ev
    cases ev
    exact q ρ H v .refl hs (hv ρ H) trivial
  · cases h4
/-- two parts, then an operation -/
theorem two_parts {Q : VK} {σ : L2.St} {H : Hp} {f : Ev.Rv → Ev.Rv → Ev.St → Option Ev.Rv} {R : R2} (hR : ∀ ρ st x y vx vy rv H Q, RepS X.K ρ H st → RepR X.K ρ H x vx → RepR X.K ρ H y vy → f x y st = some rv → Post X.K ρ H st rv Q → R vx vy H Q)
    (w : ∃ ρ env st rv st', RepS X.K ρ H st ∧ RepE X.K ρ H env σ ∧ ((Ev.evE call ca env st).bind fun x st1 => (Ev.evE call cb env st1).bind fun y st2 => Ev.ofO (f x y st2) st2) = .ok rv st' ∧ Then X.K ρ H rv st' Q) :
    tOp R (tE X.K call ca) (tE X.K call cb) σ H Q := by
  obtain ⟨ρ, env, st, rv, st', hs, he, ev, q⟩ := w
  obtain ⟨x, st1, e1, ev⟩ := bind_inv ev
  obtain ⟨y, st2, e2, ev⟩ := bind_inv ev
  obtain ⟨ev, es⟩ := ofO_inv ev
  subst es
  refine ⟨ρ, env, st, x, st1, hs, he, e1, fun ρ1 H1 vx g1 s1 r1 n1 => ?_⟩
  refine ⟨ρ1, env, st1, y, st', s1, he.mono g1, e2, fun ρ2 H2 vy g2 s2 r2 n2 => ?_⟩
  exact hR ρ2 st' x y vx vy rv H2 Q s2 (r1.mono g2) r2 ev fun H3 v g3 s3 r3 n3 => q ρ2 H3 v (g1.trans (g2.trans g3)) s3 r3 ((g1.trans g2).nw s2 n3)
theorem s_bin {op : Ev.Bop} (ha : PE X a (tE X.K call ca)) (hb : PE X b (tE X.K call cb)) : PE X (.BinOp a (bopOf op) b pos) (tE X.K call (.bin op ca cb)) :=
  PE.imp (pe_op (op_bin op) ha hb) fun σ H Q w => two_parts (f := fun x y st => Ev.binR op st x y) (fun ρ st x y vx vy rv H Q s1 s2 s3 s4 s5 => ⟨ρ, st, x, y, rv, s1, s2, s3, s4, s5⟩) w
theorem cmp_parts {op : Ev.Cop} {Q : VK} {σ : L2.St} {H : Hp} (w : tE X.K call (.cmp op ca cb) σ H Q) : tOp (rCmp X.K op) (tE X.K call ca) (tE X.K call cb) σ H Q :=
  two_parts (f := fun x y st => (Ev.cmpR op st x y).map Ev.rBl) (fun ρ st x y vx vy rv H Q s1 s2 s3 s4 s5 => by
    obtain ⟨k, e1, e2⟩ := Option.map_eq_some_iff.mp s4
    subst e2
    exact ⟨ρ, st, x, y, k, s1, s2, s3, e1, s5.bl s1⟩) w
theorem s_cmp {op : Ev.Cop} (hu : X.A.units + 65 < cLine) (ha : PE X a (tE X.K call ca)) (hb : PE X b (tE X.K call cb)) (pb : plainX b = true) : PE X (.Compare a [copOf op] [b] pos) (tE X.K call (.cmp op ca cb)) :=
  PE.imp (pe_cmpR (op_cmp op hu) ha hb (marks_of pb)) fun σ H Q w => cmp_parts w
theorem s_cmpT {op : Ev.Cop} (hu : X.A.units + 65 < cLine) (ha : PE X a (tE X.K call ca)) (hb : PE X b (tE X.K call cb)) (pb : plainX b = true) : PT X (.Compare a [copOf op] [b] pos) (tT X.K call (.cmp op ca cb)) :=
  PT.imp (pt_cmpR (op_cmp op hu) ha hb (marks_of pb)) fun σ H Q w => cmp_parts w
theorem s_sub (ha : PE X a (tE X.K call ca)) (hb : PE X b (tE X.K call cb)) (pb : plainX b = true) : PE X (.Subscript a b pos) (tE X.K call (.sub ca cb)) :=
  PE.imp (pe_ix ix_any ha hb (ix_of pb)) fun σ H Q w => two_parts (f := fun x y st => (Ev.subR st x y).map .d) (fun ρ st x y vx vy rv H Q s1 s2 s3 s4 s5 => by
    obtain ⟨d, e1, e2⟩ := Option.map_eq_some_iff.mp s4
    subst e2
    exact ⟨ρ, st, x, y, d, s1, s2, s3, e1, s5⟩) w
/-- one part, then what a function of its value and the state gives -/
theorem one_part {Q : VK} {σ : L2.St} {H : Hp} {k : V → Hp → Prop} {f : Ev.Rv → Ev.M Ev.Rv}
    (hk : ∀ ρ st x v rv st' H, RepS X.K ρ H st → RepR X.K ρ H x v → f x st = .ok rv st' → Then X.K ρ H rv st' Q → k v H)
    (w : ∃ ρ env st rv st', RepS X.K ρ H st ∧ RepE X.K ρ H env σ ∧ ((Ev.evE call ca env st).bind f) = .ok rv st' ∧ Then X.K ρ H rv st' Q) : tE X.K call ca σ H k := by
  obtain ⟨ρ, env, st, rv, st', hs, he, ev, q⟩ := w
  obtain ⟨x, st1, e1, ev⟩ := bind_inv ev
  exact ⟨ρ, env, st, x, st1, hs, he, e1, fun ρ1 H1 v g1 s1 r1 n1 => hk ρ1 st1 x v rv st' H1 s1 r1 ev fun ρ2 H2 u g2 s2 r2 n2 => q ρ2 H2 u (g1.trans g2) s2 r2 (g1.nw s1 n2)⟩
theorem Then.bl {K : PySem.W.Frag} {ρ : Ix} {H : Hp} {st : Ev.St} {Q : VK} {b : Bool} (s : RepS K ρ H st) (p : Then K ρ H (Ev.rBl b) st Q) : Q (.bl b) H := p ρ H _ .refl s (by show Rep K ρ H (.bl b) _; rw [Rep]) trivial
theorem s_neg (ha : PE X a (tE X.K call ca)) : PE X (.UnaryOp .USub a pos) (tE X.K call (.neg ca)) :=
  PE.imp (pe_un un_neg ha) fun σ H Q w => one_part (fun ρ st x v rv st' H s r ev q => by
    try dsimp only at ev
    split at ev
    · rename_i i
      cases ev
      rw [Rep.toInt r]
      exact ⟨i, rfl, q ρ H _ .refl s (by show Rep X.K ρ H (.int (-i)) _; rw [Rep]) trivial⟩
    · cases ev) w
theorem isn_part {ng : Bool} {Q : VK} {σ : L2.St} {H : Hp} (w : tE X.K call (.isn ng ca) σ H Q) : tE X.K call ca σ H fun x H1 => Q (.bl (if ng then !decide (x = .non) else decide (x = .non))) H1 :=
  one_part (fun ρ st x v rv st' H s r ev q => by
    try dsimp only at ev
    have fin : ∀ k : Bool, decide (v = .non) = k → Q (.bl (if ng then !k else k)) H → Q (.bl (if ng then !decide (v = .non) else decide (v = .non))) H := fun k e z => by rw [e]; exact z
    split at ev
    · cases ev
      have e := Rep.toNon r
      refine fin true (decide_eq_true e) ?_
      have z := q.bl s
      cases ng <;> exact z
    · rename_i hne
      cases ev
      refine fin false (decide_eq_false fun z => ?_) ?_
      · subst z
        cases x with
        | tmp ds => obtain ⟨_, _, z, _⟩ := r; cases z
        | d d =>
          have r : Rep X.K ρ H d .non := r
          cases d with
          | non => exact hne rfl
          | tup _ => rw [Rep] at r; obtain ⟨_, _, z, _⟩ := r; cases z
          | ref _ => rw [Rep] at r; obtain ⟨_, _, z⟩ := r; cases z
          | scr _ => rw [Rep] at r; obtain ⟨_, z, _⟩ := r; cases z
          | _ => rw [Rep] at r; cases r
      · have z := q.bl s
        cases ng <;> exact z) w
theorem s_isn {ng : Bool} {j : Nat} {p2 : Pos} {o : CmpOp} (ho : o = if ng then .IsNot else .Is) (ha : PE X a (tE X.K call ca)) :
    PE X (.Compare a [o] [.Constant .none j p2] pos) (tE X.K call (.isn ng ca)) ∧ PT X (.Compare a [o] [.Constant .none j p2] pos) (tT X.K call (.isn ng ca)) := by
  subst ho
  cases ng with
  | true => exact ⟨PE.imp (pe_cmp (pc_notN ha)) fun σ H Q w => isn_part w, PT.imp (pt_cmp (pc_notN ha)) fun σ H Q w => isn_part w⟩
  | false => exact ⟨PE.imp (pe_cmp (pc_isN ha)) fun σ H Q w => isn_part w, PT.imp (pt_cmp (pc_isN ha)) fun σ H Q w => isn_part w⟩
theorem isb_part {b : Bool} {Q : VK} {σ : L2.St} {H : Hp} (w : tE X.K call (.isb b ca) σ H Q) : tOp rIsB (tE X.K call ca) (tE X.K call (.cst (.bl b))) σ H Q := by
  obtain ⟨ρ, env, st, rv, st', hs, he, ev, q⟩ := w
  obtain ⟨x, st1, e1, ev⟩ := bind_inv (show ((Ev.evE call ca env st).bind _) = _ from ev)
  refine ⟨ρ, env, st, x, st1, hs, he, e1, fun ρ1 H1 v g1 s1 r1 n1 => ?_⟩
  refine ⟨ρ1, env, st1, .d (.bl b), st1, s1, he.mono g1, rfl, fun ρ2 H2 u g2 s2 r2 n2 => ?_⟩
  split at ev
  · rename_i c
    cases ev
    refine ⟨c, b, Rep.toBl r1, Rep.toBl r2, q ρ2 H2 _ (g1.trans g2) s2 ?_ trivial⟩
    show Rep X.K ρ2 H2 (.bl (b == c)) _
    rw [Rep]
    congr 1
    cases b <;> cases c <;> rfl
  · cases ev
theorem and_part {Q : VK} {σ : L2.St} {H : Hp} (w : tE X.K call (.and ca cb) σ H Q) : tAndV (tE X.K call ca) (tE X.K call cb) σ H Q := by
  obtain ⟨ρ, env, st, rv, st', hs, he, ev, q⟩ := w
  obtain ⟨x, st1, e1, ev⟩ := bind_inv (show ((Ev.evE call ca env st).bind _) = _ from ev)
  refine ⟨ρ, env, st, x, st1, hs, he, e1, fun ρ1 H1 v g1 s1 r1 n1 => ?_⟩
  try dsimp only at ev
  split at ev
  · have e := Rep.toBl r1
    exact ⟨true, e, by rw [if_pos rfl]; exact ⟨ρ1, env, st1, rv, st', s1, he.mono g1, ev, fun ρ2 H2 u g2 s2 r2 n2 => q ρ2 H2 u (g1.trans g2) s2 r2 (g1.nw s1 n2)⟩⟩
  · cases ev
    have e := Rep.toBl r1
    refine ⟨false, e, ?_⟩
    rw [if_neg Bool.false_ne_true]
    exact q ρ1 H1 _ g1 s1 (by show Rep X.K ρ1 H1 (.bl false) _; rw [Rep]) trivial
  · cases ev
theorem or_part {Q : VK} {σ : L2.St} {H : Hp} (w : tE X.K call (.or ca cb) σ H Q) : tOrV (tE X.K call ca) (tE X.K call cb) σ H Q := by
  obtain ⟨ρ, env, st, rv, st', hs, he, ev, q⟩ := w
  obtain ⟨x, st1, e1, ev⟩ := bind_inv (show ((Ev.evE call ca env st).bind _) = _ from ev)
  refine ⟨ρ, env, st, x, st1, hs, he, e1, fun ρ1 H1 v g1 s1 r1 n1 => ?_⟩
  try dsimp only at ev
  split at ev
  · have e := Rep.toBl r1
    refine ⟨false, e, ?_⟩
    rw [if_neg Bool.false_ne_true]
    exact ⟨ρ1, env, st1, rv, st', s1, he.mono g1, ev, fun ρ2 H2 u g2 s2 r2 n2 => q ρ2 H2 u (g1.trans g2) s2 r2 (g1.nw s1 n2)⟩
  · cases ev
    have e := Rep.toBl r1
    exact ⟨true, e, by rw [if_pos rfl]; exact q ρ1 H1 _ g1 s1 (by show Rep X.K ρ1 H1 (.bl true) _; rw [Rep]) trivial⟩
  · cases ev
theorem not_part {Q : VK} {σ : L2.St} {H : Hp} (w : tE X.K call (.not ca) σ H Q) : tE X.K call ca σ H fun x H1 => ∃ c, x = .bl c ∧ Q (.bl (!c)) H1 :=
  one_part (fun ρ st x v rv st' H s r ev q => by
    try dsimp only at ev
    split at ev
    · cases ev
      exact ⟨_, Rep.toBl r, q.bl s⟩
    · cases ev) w
theorem ite_part {Q : VK} {σ : L2.St} {H : Hp} (w : tE X.K call (.ite cc ca cb) σ H Q) : tIf (tT X.K call cc) (tE X.K call ca) (tE X.K call cb) σ H Q := by
  obtain ⟨ρ, env, st, rv, st', hs, he, ev, q⟩ := w
  obtain ⟨x, st1, e1, ev⟩ := bind_inv (show ((Ev.evE call cc env st).bind _) = _ from ev)
  refine ⟨ρ, env, st, x, st1, hs, he, e1, fun ρ1 H1 v g1 s1 r1 n1 => ?_⟩
  try dsimp only at ev
  split at ev
  · exact ⟨true, Rep.toBl r1, iteT ⟨ρ1, env, st1, rv, st', s1, he.mono g1, ev, fun ρ2 H2 u g2 s2 r2 n2 => q ρ2 H2 u (g1.trans g2) s2 r2 (g1.nw s1 n2)⟩⟩
  · exact ⟨false, Rep.toBl r1, iteF ⟨ρ1, env, st1, rv, st', s1, he.mono g1, ev, fun ρ2 H2 u g2 s2 r2 n2 => q ρ2 H2 u (g1.trans g2) s2 r2 (g1.nw s1 n2)⟩⟩
  · cases ev
theorem chain_part {op op' : Ev.Cop} {Q : VK} {σ : L2.St} {H : Hp} (w : tE X.K call (.chn op op' ca cb cc) σ H Q) : tChain (rCmp X.K op) (rCmp X.K op') (tE X.K call ca) (tE X.K call cb) (tE X.K call cc) σ H Q := by
  obtain ⟨ρ, env, st, rv, st', hs, he, ev, q⟩ := w
  obtain ⟨x, st1, e1, ev⟩ := bind_inv (show ((Ev.evE call ca env st).bind _) = _ from ev)
  obtain ⟨y, st2, e2, ev⟩ := bind_inv ev
  refine ⟨ρ, env, st, x, st1, hs, he, e1, fun ρ1 H1 vx g1 s1 r1 n1 => ?_⟩
  refine ⟨ρ1, env, st1, y, st2, s1, he.mono g1, e2, fun ρ2 H2 vy g2 s2 r2 n2 => ?_⟩
  have g12 := g1.trans g2
  try dsimp only at ev
  split at ev
  · rename_i ec
    refine ⟨ρ2, st2, x, y, true, s2, r1.mono g2, r2, ec, true, rfl, ?_⟩
    obtain ⟨z, st3, e3, ev⟩ := bind_inv ev
    obtain ⟨ev, es⟩ := ofO_inv ev
    subst es
    obtain ⟨k, e4, e5⟩ := Option.map_eq_some_iff.mp ev
    subst e5
    rw [if_pos rfl]
    refine ⟨ρ2, env, st2, z, st', s2, he.mono g12, e3, fun ρ3 H3 vz g3 s3 r3 n3 => ?_⟩
    exact ⟨ρ3, st', y, z, k, s3, r2.mono g3, r3, e4, q ρ3 H3 _ (g12.trans g3) s3 (by show Rep X.K ρ3 H3 (.bl k) _; rw [Rep]) trivial⟩
  · rename_i ec
    cases ev
    refine ⟨ρ2, _, x, y, false, s2, r1.mono g2, r2, ec, false, rfl, ?_⟩
    rw [if_neg Bool.false_ne_true]
    exact q ρ2 H2 _ g12 s2 (by show Rep X.K ρ2 H2 (.bl false) _; rw [Rep]) trivial
  · cases ev
end
end EvS
/-! Ev7: displays, calls, slices, what is walked, comprehensions. -/
namespace EvS
open PySem PySem.Spec PyProof.Rows L2
section
variable {X : Cx} {T : Tx} {sc : Scope} {call : Nat → List Ev.D → Ev.M Ev.Rv} {e a b c : Expr} {es : List Expr} {ca cb cc : Ev.E} {cs : Ev.Es} {pos : Pos}

/-! ### arguments -/
theorem a_nil : PA X [] (tA X.K call .nil) := PA.imp pa_nil fun σ H Q w => by
  obtain ⟨ρ, env, st, ds, st', hs, he, ev, q⟩ := w
  cases ev
  exact q ρ H [] .refl hs repL_nil
theorem a_cons (ha : PE X e (tE X.K call ca)) (hr : PA X es (tA X.K call cs)) (p : plainX e = true) : PA X (e :: es) (tA X.K call (.cons ca cs)) := PA.imp (pa_cons ha hr (star_of p)) fun σ H Q w => by
  obtain ⟨ρ, env, st, ds, st', hs, he, ev, q⟩ := w
  obtain ⟨x, st1, e1, ev⟩ := bind_inv (show ((Ev.evE call ca env st).bind _) = _ from ev)
  obtain ⟨d, st2, e2, ev⟩ := bind_inv ev
  obtain ⟨dr, st3, e3, ev⟩ := bind_inv ev
  cases ev
  refine ⟨ρ, env, st, x, st1, hs, he, e1, fun ρ1 H1 v g1 s1 r1 n1 => ?_⟩
  obtain ⟨ρ2, g2, _, s2, r2, _⟩ := mat_ok g1 s1 r1 n1 e2
  refine ⟨ρ2, env, st2, dr, st', s2, he.mono g2, e3, fun ρ3 H3 vs g3 s3 r3 => ?_⟩
  exact q ρ3 H3 (v :: vs) (g2.trans g3) s3 (repL_cons (r2.mono g3) r3)
theorem r_nil : PA X [] (tR X.K call .nil) := PA.imp pa_nil fun σ H Q w => by
  obtain ⟨ρ, env, st, ds, st', hs, he, ev, q⟩ := w
  cases ev
  exact q ρ H [] .refl hs .nil
theorem r_cons (ha : PE X e (tE X.K call ca)) (hr : PA X es (tR X.K call cs)) (p : plainX e = true) : PA X (e :: es) (tR X.K call (.cons ca cs)) := PA.imp (pa_cons ha hr (star_of p)) fun σ H Q w => by
  obtain ⟨ρ, env, st, ds, st', hs, he, ev, q⟩ := w
  obtain ⟨x, st1, e1, ev⟩ := bind_inv (show ((Ev.evE call ca env st).bind _) = _ from ev)
  obtain ⟨dr, st3, e3, ev⟩ := bind_inv ev
  cases ev
  refine ⟨ρ, env, st, x, st1, hs, he, e1, fun ρ1 H1 v g1 s1 r1 n1 => ?_⟩
  refine ⟨ρ1, env, st1, dr, st', s1, he.mono g1, e3, fun ρ3 H3 vs g3 s3 r3 => ?_⟩
  exact q ρ3 H3 (v :: vs) (g1.trans g3) s3 (.cons (r1.mono g3) r3)
theorem s_tup {j : Nat} (h : PA X es (tA X.K call cs)) : PE X (.Tuple es j pos) (tE X.K call (.tup cs)) := PE.imp (pe_tup h) fun σ H Q w => by
  obtain ⟨ρ, env, st, rv, st', hs, he, ev, q⟩ := w
  obtain ⟨ds, st1, e1, ev⟩ := bind_inv (show ((Ev.evA call cs env st).bind _) = _ from ev)
  split at ev
  · rename_i hz
    cases ev
    refine ⟨ρ, env, st, ds, st', hs, he, e1, fun ρ1 H1 vs g1 s1 r1 => ⟨by have := line_big; have := r1.length; omega, fun p np => ?_⟩⟩
    refine q ρ1 _ (.ref p) (g1.trans (Grow.upd np s1)) (s1.upd np) ?_ trivial
    show Rep X.K ρ1 _ (.tup ds) _
    rw [Rep]
    exact ⟨p, vs, rfl, .of upd_same, r1.mono (Grow.upd np s1)⟩
  · cases ev
theorem s_lst (h : PA X es (tA X.K call cs)) : PE X (.List es pos) (tE X.K call (.lst cs)) := PE.imp (pe_lst h) fun σ H Q w => by
  obtain ⟨ρ, env, st, rv, st', hs, he, ev, q⟩ := w
  obtain ⟨ds, st1, e1, ev⟩ := bind_inv (show ((Ev.evA call cs env st).bind _) = _ from ev)
  split at ev
  · rename_i hz
    cases ev
    refine ⟨ρ, env, st, ds, st', hs, he, e1, fun ρ1 H1 vs g1 s1 r1 => ⟨by have := line_big; have := r1.length; omega, fun p np => ?_⟩⟩
    exact q ρ1 _ (.ref p) (g1.trans (Grow.upd np s1)) (s1.upd np) ⟨p, vs, rfl, upd_same, s1.fresh np, r1.mono (Grow.upd np s1)⟩ ⟨p, rfl, g1.none s1 np⟩
  · cases ev
/-! ### calls -/
theorem any_of {es : List Expr} {env : Env} : ∀ {cs : Ev.Es}, chkA T sc cs es = true → (backTo pos (starEach es env)).any (·.1) = false := by
  induction es with
  | nil => intro cs _; rfl
  | cons x xs ih =>
    intro cs h
    cases cs with
    | nil => cases h
    | cons c cs =>
      obtain ⟨h1, h2⟩ := Bool.and_eq_true_iff.mp (show (chkE T sc c x && chkA T sc cs xs) = true from h)
      rw [star_of (plainX_of h1)]
      show ((false : Bool) || (backTo pos (starEach xs env)).any (·.1)) = false
      rw [ih h2] <;> rfl
theorem s_call {f : Nat} {x : Str} {p : Pos} (C : Cok X T sc call) (hf : T.fns[f]? = some x) (hg : gloB sc x = true) (hn : okN x = true) (h : PA X (e :: es) (tA X.K call cs)) (pe : plainX e = true) (hany : (backTo pos (starEach es X.env)).any (·.1) = false) :
    PE X (.Call (.Name x p) (e :: es) [] pos) (tE X.K call (.call f cs)) := by
  obtain ⟨ad, fd, ps, k, m, kp, bd, F, hr⟩ := (C.fn f x hf).ex
  unfold okN at hn
  simp only [Bool.and_eq_true, Bool.not_eq_true', decide_eq_true_eq] at hn
  refine PE.imp (pe_call F hr (gl_of C hg) m kp bd .nil pass0 h hn.1 (star_of pe) hany) fun σ H Q w => ?_
  obtain ⟨ρ, env, st, rv, st', hs, he, ev, q⟩ := w
  obtain ⟨ds, st1, e1, ev⟩ := bind_inv (show ((Ev.evA call cs env st).bind _) = _ from ev)
  refine ⟨ρ, env, st, ds, st1, hs, he, e1, fun ρ1 H1 vs g1 s1 r1 => ?_⟩
  show spF X.K call f (vs ++ []) H1 Q E0
  rw [List.append_nil]
  exact ⟨ρ1, st1, ds, rv, st', s1, r1, ev, fun ρ2 H2 v g2 s2 r2 n2 => q ρ2 H2 v (g1.trans g2) s2 r2 (g1.nw s1 n2)⟩
theorem blt_part {f : Ev.Blt} {Q : VK} {σ : L2.St} {H : Hp} (w : tE X.K call (.blt f cs) σ H Q) : tCB (rBlt X.K f) (tR X.K call cs) σ H Q := by
  obtain ⟨ρ, env, st, rv, st', hs, he, ev, q⟩ := w
  obtain ⟨xs, st1, e1, ev⟩ := bind_inv (show ((Ev.evR call cs env st).bind _) = _ from ev)
  obtain ⟨ev, es⟩ := ofO_inv ev
  subst es
  refine ⟨ρ, env, st, xs, st', hs, he, e1, fun ρ1 H1 vs g1 s1 r1 => ?_⟩
  exact ⟨ρ1, st', xs, rv, s1, r1, ev, fun H2 v g2 s2 r2 n2 => q ρ1 H2 v (g1.trans g2) s2 r2 (g1.nw s1 n2)⟩
theorem s_blt {f : Ev.Blt} {p : Pos} (C : Cok X T sc call) (hg : gloB sc (bltName f) = true) (h : PA X (e :: es) (tR X.K call cs)) (pe : plainX e = true) (hany : (backTo pos (starEach es X.env)).any (·.1) = false) :
    PE X (.Call (.Name (bltName f) p) (e :: es) [] pos) (tE X.K call (.blt f cs)) := by
  have G := gl_of C hg
  cases f with
  | len => exact PE.imp (pe_callB blt_len G (C.blt _ (by decide)) PySem.boot_len h (by decide) (by decide) (star_of pe) hany) fun σ H Q w => blt_part w
  | all => exact PE.imp (pe_callB (blt_all C.calm) G (C.blt _ (by decide)) (by decide +kernel) h (by decide) (by decide) (star_of pe) hany) fun σ H Q w => blt_part w
  | any => exact PE.imp (pe_callB (blt_any C.calm) G (C.blt _ (by decide)) (by decide +kernel) h (by decide) (by decide) (star_of pe) hany) fun σ H Q w => blt_part w
  | tuple => exact PE.imp (pe_callTy blt_tuple G (C.blt _ (by decide)) PyProof.Rows.boot_tuple h (by decide) (by decide) (star_of pe) hany) fun σ H Q w => blt_part w
  | max => exact PE.imp (pe_callB (blt_max C.calm) G (C.blt _ (by decide)) (by decide +kernel) h (by decide) (by decide) (star_of pe) hany) fun σ H Q w => blt_part w
  | min => exact PE.imp (pe_callB (blt_min C.calm) G (C.blt _ (by decide)) (by decide +kernel) h (by decide) (by decide) (star_of pe) hany) fun σ H Q w => blt_part w
  | sum => exact PE.imp (pe_callB (blt_sum C.calm) G (C.blt _ (by decide)) (by decide +kernel) h (by decide) (by decide) (star_of pe) hany) fun σ H Q w => blt_part w
  | abs => exact PE.imp (pe_callB blt_abs G (C.blt _ (by decide)) (by decide +kernel) h (by decide) (by decide) (star_of pe) hany) fun σ H Q w => blt_part w
/-- isinstance(e, T) -/
theorem ty_boot {u : Ev.Ty} (h : u ≠ .non) : bootBuiltins (tyStr u) = some (.type (tyName u)) ∧ (tyStr u) ∈ bltNames ∧ tyStr u ≠ "__name__" ∧ (tyStr u == ("__debug__" : Str)) = false := by
  cases u with
  | non => exact absurd rfl h
  | bl => exact ⟨by decide +kernel, by decide, by decide, by decide⟩
  | int => exact ⟨by decide +kernel, by decide, by decide, by decide⟩
  | str => exact ⟨by decide +kernel, by decide, by decide, by decide⟩
  | tup => exact ⟨by decide +kernel, by decide, by decide, by decide⟩
  | lst => exact ⟨by decide +kernel, by decide, by decide, by decide⟩
def rIs2 (K : PySem.W.Frag) (u : Ev.Ty) : List V → Hp → VK → Prop := fun xs H Q => ∃ x, xs = [x, .ty (tyName u)] ∧ rIs K u x H Q
theorem call_is2 (u : Ev.Ty) : CallR X (.builtin "isinstance") (rIs2 X.K u) := by
  intro pins s σ H xs us Q I r h
  obtain ⟨x, rfl, h⟩ := h
  exact call_is u I r h
theorem s_isi {u : Ev.Ty} {p p2 : Pos} (C : Cok X T sc call) (hg : gloB sc "isinstance" = true) (hu : u ≠ .non) (ht : gloB sc (tyStr u) = true) (h : PE X e (tE X.K call ca)) (pe : plainX e = true) :
    PE X (.Call (.Name "isinstance" p) [e, .Name (tyStr u) p2] [] pos) (tE X.K call (.isi u ca)) := by
  obtain ⟨b1, b2, b3, b4⟩ := ty_boot hu
  have ht' : PE X (.Name (tyStr u) p2) (tC (.ty (tyName u))) := pe_bltn (gl_of C ht) (C.blt _ b2) b1 rfl b3 b4
  refine PE.imp (pe_callB (call_is2 u) (gl_of C hg) (C.blt _ (by decide)) PyProof.Rows.boot_isinstance (pa_cons h (pa_cons ht' pa_nil) (star_of pe)) (by decide) (by decide) (star_of pe)) fun σ H Q w => ?_
  exact one_part (fun ρ st x v rv st' H s r ev q => by
    split at ev
    · rename_i t et
      cases ev
      exact ⟨v, rfl, ρ, _, x, t, s, r, et, q.bl s⟩
    · cases ev) w
/-! ### slices -/
def tOb (K : PySem.W.Frag) (call : Nat → List Ev.D → Ev.M Ev.Rv) (c : Ev.Eo) : TO := fun σ H Q => ∃ ρ env st o i st', RepS K ρ H st ∧ RepE K ρ H env σ ∧ Ev.evO call c env st = .ok o st' ∧ Ev.boundOf o = some i ∧ ∀ ρ' H', Grow ρ H ρ' H' → RepS K ρ' H' st' → Q i H'
theorem o_no : PO X none (tOb X.K call .no) := ⟨fun pins s σ H Q I w => po_none.run pins s σ H Q I (by
  obtain ⟨ρ, env, st, o, i, st', hs, he, ev, eb, q⟩ := w
  cases ev
  cases eb
  exact q ρ H .refl hs)⟩
theorem o_yes (h : PE X e (tE X.K call ca)) : PO X (some e) (tOb X.K call (.yes ca)) := ⟨fun pins s σ H Q I w => (po_some h).run pins s σ H Q I (by
  obtain ⟨ρ, env, st, o, i, st', hs, he, ev, eb, q⟩ := w
  obtain ⟨x, st1, e1, ev⟩ := bind_inv (show ((Ev.evE call ca env st).bind _) = _ from ev)
  cases ev
  refine ⟨ρ, env, st, x, st', hs, he, e1, fun ρ1 H1 v g1 s1 r1 n1 => ?_⟩
  unfold Ev.boundOf at eb
  split at eb
  · rename_i q; cases q
  · rename_i j q
    injection q with q
    subst q
    split at eb
    · cases eb
      exact ⟨j, Rep.toInt r1, q ρ1 H1 g1 s1⟩
    · cases eb
  · cases eb)⟩
theorem s_slc {lo hi : Option Expr} {cl ch : Ev.Eo} {p2 : Pos} (h : PE X a (tE X.K call ca)) (hl : PO X lo (tOb X.K call cl)) (hh : PO X hi (tOb X.K call ch)) : PE X (.Subscript a (.Slice lo hi none p2) pos) (tE X.K call (.slc ca cl ch)) :=
  PE.imp (pe_slice sl_any h hl hh) fun σ H Q w => by
    obtain ⟨ρ, env, st, rv, st', hs, he, ev, q⟩ := w
    obtain ⟨x, st1, e1, ev⟩ := bind_inv (show ((Ev.evE call ca env st).bind _) = _ from ev)
    obtain ⟨l, st2, e2, ev⟩ := bind_inv ev
    obtain ⟨u, st3, e3, ev⟩ := bind_inv ev
    split at ev
    · rename_i l' u' el eu
      obtain ⟨ev, es⟩ := ofO_inv ev
      subst es
      refine ⟨ρ, env, st, x, st1, hs, he, e1, fun ρ1 H1 v g1 s1 r1 n1 => ?_⟩
      refine ⟨ρ1, env, st1, l, l', st2, s1, he.mono g1, e2, el, fun ρ2 H2 g2 s2 => ?_⟩
      refine ⟨ρ2, env, st2, u, u', st', s2, he.mono (g1.trans g2), e3, eu, fun ρ3 H3 g3 s3 => ?_⟩
      have g := g1.trans (g2.trans g3)
      exact ⟨ρ3, st', x, rv, s3, r1.mono (g2.trans g3), ev, fun H4 v4 g4 s4 r4 n4 => q ρ3 H4 v4 (g.trans g4) s4 r4 (g.nw s3 n4)⟩
    · cases ev
end
end EvS
/-! Ev8: what is walked; comprehensions. -/
namespace EvS
open PySem PySem.Spec PyProof.Rows L2

section
variable {K : PySem.W.Frag} {ρ ρ1 : Ix} {H H1 : Hp} {st st1 : Ev.St}
/-! ### sides -/
def SideOk (K : PySem.W.Frag) (ρ : Ix) (H : Hp) (s : Ev.Side) (p : Addr) : Prop := ∀ ρ1 H1 st1 ds, Grow ρ H ρ1 H1 → RepS K ρ1 H1 st1 → s.all st1 = some ds → ∃ xs, (if s.isT = true then SqT K H1 p xs else SqL K H1 p xs) ∧ RepL K ρ1 H1 ds xs
theorem sideOf_ok {rv : Ev.Rv} {s : Ev.Side} {v : V} (hs : RepS K ρ H st) (e : Ev.sideOf st rv = some s) (r : RepR K ρ H rv v) : ∃ p, v = .ref p ∧ SideOk K ρ H s p := by
  cases rv with
  | tmp ds =>
    cases e
    obtain ⟨a, xs, rfl, h, n, rl⟩ := r
    exact ⟨a, rfl, fun ρ1 H1 st1 es g s1 e1 => by
      cases e1
      exact ⟨xs, .of (g.frame a _ h n), rl.mono g⟩⟩
  | d d =>
    cases d with
    | tup ds =>
      cases e
      obtain ⟨a, xs, rfl, h, rl⟩ := Rep.toTup r
      exact ⟨a, rfl, fun ρ1 H1 st1 es g s1 e1 => by
        cases e1
        exact ⟨xs, g.sqT h, rl.mono g⟩⟩
    | ref i =>
      have r : Rep K ρ H (.ref i) v := r
      rw [Rep] at r
      obtain ⟨a, e1, rfl⟩ := r
      have e : (match st.objs[i]? with | some _ => some (Ev.Side.live i) | none => none) = some s := e
      split at e
      · cases e
        refine ⟨a, rfl, fun ρ1 H1 st1 es g s1 e2 => ?_⟩
        obtain ⟨p, xs, ep, hq, rl⟩ := listOf_ok s1 (a := .d (.ref i)) (x := .ref a) e2 (by show Rep K ρ1 H1 (.ref i) _; rw [Rep]; exact ⟨a, g.ix e1, rfl⟩)
        injection ep with ep
        subst ep
        exact ⟨xs, hq, rl⟩
      · cases e
    | scr ns =>
      cases e
      have r : Rep K ρ H (.scr ns) v := r
      rw [Rep] at r
      obtain ⟨a, rfl, f⟩ := r
      exact ⟨a, rfl, fun ρ1 H1 st1 es g s1 e1 => by
        cases e1
        exact ⟨_, (g.frzL f).seq, repL_ints ns⟩⟩
    | _ => cases e
/-! ### what a turn gives -/
structure IOk (K : PySem.W.Frag) (ρ : Ix) (H : Hp) (its : Ev.Its) (J : It) : Prop where
  stop : ∀ ρ1 H1 st1 k, Grow ρ H ρ1 H1 → RepS K ρ1 H1 st1 → its.at st1 k = some none → J.stop k H1
  item : ∀ ρ1 H1 st1 k d, Grow ρ H ρ1 H1 → RepS K ρ1 H1 st1 → its.at st1 k = some (some d) → J.go k H1 ∧ ∀ x H2, J.yld k H1 x H2 → Grow ρ1 H1 ρ1 H2 ∧ RepS K ρ1 H2 st1 ∧ Rep K ρ1 H2 d x
theorem side_none {s : Ev.Side} {k : Nat} (e : s.at st k = some none) : ∃ ds, s.all st = some ds ∧ ds.length ≤ k := by
  unfold Ev.Side.at at e
  obtain ⟨ds, e1, e2⟩ := Option.map_eq_some_iff.mp e
  exact ⟨ds, e1, List.getElem?_eq_none_iff.mp e2⟩
theorem side_some {s : Ev.Side} {k : Nat} {d : Ev.D} (e : s.at st k = some (some d)) : ∃ ds, s.all st = some ds ∧ ds[k]? = some d := by
  unfold Ev.Side.at at e
  obtain ⟨ds, e1, e2⟩ := Option.map_eq_some_iff.mp e
  exact ⟨ds, e1, e2⟩
theorem io_list {s : Ev.Side} {p : Addr} (h : SideOk K ρ H s p) (hT : s.isT = false) : IOk K ρ H (.one s) (Itl K p) := by
  refine ⟨fun ρ1 H1 st1 k g s1 e => ?_, fun ρ1 H1 st1 k d g s1 e => ?_⟩
  · obtain ⟨ds, e1, e2⟩ := side_none e
    obtain ⟨xs, hq, r⟩ := h ρ1 H1 st1 ds g s1 e1
    rw [hT] at hq
    exact ⟨xs, hq, by rw [← r.length]; exact e2⟩
  · obtain ⟨ds, e1, e2⟩ := side_some e
    obtain ⟨xs, hq, r⟩ := h ρ1 H1 st1 ds g s1 e1
    rw [hT] at hq
    obtain ⟨x, ex, rx⟩ := r.get e2
    refine ⟨⟨xs, x, hq, ex⟩, fun y H2 hy => ?_⟩
    obtain ⟨e3, hy⟩ := hy
    subst e3
    have := hy xs hq
    rw [ex] at this
    cases this
    exact ⟨.refl, s1, rx⟩
theorem io_tup {s : Ev.Side} {p : Addr} (h : SideOk K ρ H s p) (hT : s.isT = true) : IOk K ρ H (.one s) (Itt K p) := by
  refine ⟨fun ρ1 H1 st1 k g s1 e => ?_, fun ρ1 H1 st1 k d g s1 e => ?_⟩
  · obtain ⟨ds, e1, e2⟩ := side_none e
    obtain ⟨xs, hq, r⟩ := h ρ1 H1 st1 ds g s1 e1
    rw [hT] at hq
    exact ⟨xs, hq, by rw [← r.length]; exact e2⟩
  · obtain ⟨ds, e1, e2⟩ := side_some e
    obtain ⟨xs, hq, r⟩ := h ρ1 H1 st1 ds g s1 e1
    rw [hT] at hq
    obtain ⟨x, ex, rx⟩ := r.get e2
    refine ⟨⟨xs, x, hq, ex⟩, fun y H2 hy => ?_⟩
    obtain ⟨e3, hy⟩ := hy
    subst e3
    have := hy xs hq
    rw [ex] at this
    cases this
    exact ⟨.refl, s1, rx⟩
theorem io_str (z : List Nat) : IOk K ρ H (.fix (z.map fun c => Ev.D.str [c])) (L2.Its ⟨z.toArray⟩) := by
  refine ⟨fun ρ1 H1 st1 k g s1 e => ?_, fun ρ1 H1 st1 k d g s1 e => ?_⟩
  · have e : some ((z.map fun c => Ev.D.str [c])[k]?) = some none := e
    have e := Option.some.inj e
    have := List.getElem?_eq_none_iff.mp e
    rw [List.length_map] at this
    show z.toArray.size ≤ k
    simpa using this
  · have e : some ((z.map fun c => Ev.D.str [c])[k]?) = some (some d) := e
    have e := Option.some.inj e
    rw [List.getElem?_map] at e
    obtain ⟨c, e1, e2⟩ := Option.map_eq_some_iff.mp e
    subst e2
    refine ⟨?_, fun y H2 hy => ?_⟩
    · show k < z.toArray.size
      simpa using (List.getElem?_eq_some_iff.mp e1).1
    · obtain ⟨e3, c', e4, e5⟩ := hy
      subst e3 e5
      have e4 : z.toArray[k]? = some c' := e4
      rw [List.getElem?_toArray, e1] at e4
      cases e4
      exact ⟨.refl, s1, by rw [Rep]⟩
theorem io_range {a b : Int} {ds : List Ev.D} (h : Ev.rangeL a b 1 = some ds) : IOk K ρ H (.fix ds) (Itr a (b - a).toNat) ∧ (-(2 ^ 62) ≤ a ∧ a < 2 ^ 62 ∧ -(2 ^ 62) ≤ b ∧ b < 2 ^ 62) := by
  unfold Ev.rangeL at h
  split at h
  · rename_i c
    simp only [Bool.and_eq_true, decide_eq_true_eq] at c
    cases h
    have en : ((b - a + 1 - 1) / 1).toNat = (b - a).toNat := by rw [Int.ediv_one]; congr 1; omega
    rw [en]
    refine ⟨⟨fun ρ1 H1 st1 k g s1 e => ?_, fun ρ1 H1 st1 k d g s1 e => ?_⟩, by omega, by omega, by omega, by omega⟩
    · have e := Option.some.inj (show some (((List.range (b - a).toNat).map fun (k : Nat) => Ev.D.int (a + 1 * (k : Int)))[k]?) = some none from e)
      have := List.getElem?_eq_none_iff.mp e
      rw [List.length_map, List.length_range] at this
      exact this
    · have e := Option.some.inj (show some (((List.range (b - a).toNat).map fun (k : Nat) => Ev.D.int (a + 1 * (k : Int)))[k]?) = some (some d) from e)
      rw [List.getElem?_map] at e
      obtain ⟨j, e1, e2⟩ := Option.map_eq_some_iff.mp e
      obtain ⟨h1, h2⟩ := List.getElem?_eq_some_iff.mp e1
      rw [List.length_range] at h1
      rw [List.getElem_range] at h2
      subst h2 e2
      refine ⟨h1, fun y H2 hy => ?_⟩
      obtain ⟨e3, e4⟩ := hy
      subst e3 e4
      exact ⟨.refl, s1, by rw [Rep, Int.one_mul]⟩
  · cases h
theorem io_range3 {a b c : Int} {ds : List Ev.D} (h : Ev.rangeL a b c = some ds) : ∃ n, IOk K ρ H (.fix ds) (Itc a c n) ∧ RgC a b c n := by
  unfold Ev.rangeL at h
  split at h
  · rename_i q
    simp only [Bool.and_eq_true, decide_eq_true_eq] at q
    cases h
    refine ⟨((b - a + c - 1) / c).toNat, ⟨fun ρ1 H1 st1 k g s1 e => ?_, fun ρ1 H1 st1 k d g s1 e => ?_⟩, ?_⟩
    · have e := Option.some.inj (show some (((List.range ((b - a + c - 1) / c).toNat).map fun (k : Nat) => Ev.D.int (a + c * (k : Int)))[k]?) = some none from e)
      have := List.getElem?_eq_none_iff.mp e
      rw [List.length_map, List.length_range] at this
      exact this
    · have e := Option.some.inj (show some (((List.range ((b - a + c - 1) / c).toNat).map fun (k : Nat) => Ev.D.int (a + c * (k : Int)))[k]?) = some (some d) from e)
      rw [List.getElem?_map] at e
      obtain ⟨j, e1, e2⟩ := Option.map_eq_some_iff.mp e
      obtain ⟨h1, h2⟩ := List.getElem?_eq_some_iff.mp e1
      rw [List.length_range] at h1
      rw [List.getElem_range] at h2
      subst h2 e2
      refine ⟨h1, fun y H2 hy => ?_⟩
      obtain ⟨e3, e4⟩ := hy
      subst e3 e4
      exact ⟨.refl, s1, by rw [Rep, Int.mul_comm]⟩
    · have hc : 0 < c := q.1
      have hs : Builtin.Range.rangeSize a b c = (((b - a + c - 1) / c).toNat : Int) := by
        unfold Builtin.Range.rangeSize
        rw [if_pos hc]
        split
        · have e : b - a + c - 1 = (b - a - 1) + c * 1 := by omega
          rw [e, Int.add_mul_ediv_left _ _ (by omega)]
          have := Int.ediv_nonneg (a := b - a - 1) (b := c) (by omega) (by omega)
          omega
        · have h0 : (b - a + c - 1) / c ≤ 0 := by
            have : (b - a + c - 1) / c < 1 := Int.ediv_lt_of_lt_mul hc (by omega)
            omega
          omega
      have hle : (((b - a + c - 1) / c).toNat : Int) ≤ 4000000000 := by
        by_cases h0 : 0 ≤ b - a + c - 1
        · have := Int.ediv_le_self c h0
          omega
        · have : (b - a + c - 1) / c < 0 := Int.ediv_neg_of_neg_of_pos (by omega) hc
          omega
      refine ⟨by omega, by omega, ?_, hs⟩
      unfold Builtin.Range.small
      rw [hs]
      simp only [Builtin.Range.rangeFitsLong, Bool.and_eq_true, Bool.or_eq_true, decide_eq_true_eq, beq_iff_eq, if_pos hc]
      omega
  · cases h
theorem io_zip {s t : Ev.Side} {p q : Addr} (h : SideOk K ρ H s p) (h' : SideOk K ρ H t q) (hT : s.isT = false) (hT' : t.isT = false) : IOk K ρ H (.zip s t) (Itz K p q) := by
  refine ⟨fun ρ1 H1 st1 k g s1 e => ?_, fun ρ1 H1 st1 k d g s1 e => ?_⟩
  · have e : (match s.at st1 k, t.at st1 k with | some (some x), some (some y) => some (some (Ev.D.tup [x, y])) | some _, some _ => some none | _, _ => none) = some none := e
    split at e
    · cases e
    · rename_i o1 o2 hne e1 e2
      unfold Ev.Side.at at e1 e2
      obtain ⟨ds, f1, f2⟩ := Option.map_eq_some_iff.mp e1
      obtain ⟨es, f3, f4⟩ := Option.map_eq_some_iff.mp e2
      obtain ⟨xs, hq, r⟩ := h ρ1 H1 st1 ds g s1 f1
      obtain ⟨ys, hq', r'⟩ := h' ρ1 H1 st1 es g s1 f3
      rw [hT] at hq
      rw [hT'] at hq'
      refine ⟨xs, ys, hq, hq', ?_⟩
      rw [← r.length, ← r'.length]
      cases o1 with
      | none => exact .inl (List.getElem?_eq_none_iff.mp f2)
      | some z1 =>
        cases o2 with
        | none => exact .inr (List.getElem?_eq_none_iff.mp f4)
        | some z2 => exact (hne z1 z2 rfl rfl).elim
    · cases e
  · have e : (match s.at st1 k, t.at st1 k with | some (some x), some (some y) => some (some (Ev.D.tup [x, y])) | some _, some _ => some none | _, _ => none) = some (some d) := e
    split at e
    · rename_i z1 z2 e1 e2
      cases e
      obtain ⟨ds, f1, f2⟩ := side_some e1
      obtain ⟨es, f3, f4⟩ := side_some e2
      obtain ⟨xs, hq, r⟩ := h ρ1 H1 st1 ds g s1 f1
      obtain ⟨ys, hq', r'⟩ := h' ρ1 H1 st1 es g s1 f3
      rw [hT] at hq
      rw [hT'] at hq'
      obtain ⟨x, ex, rx⟩ := r.get f2
      obtain ⟨y, ey, ry⟩ := r'.get f4
      refine ⟨⟨xs, ys, x, y, hq, hq', ex, ey⟩, fun v H2 hy => ?_⟩
      obtain ⟨P, x', y', rfl, nP, rfl, f5, f6⟩ := hy
      have e5 := f5 xs hq
      have e6 := f6 ys hq'
      rw [ex] at e5
      rw [ey] at e6
      cases e5
      cases e6
      have gu : Grow ρ1 H1 ρ1 (upd H1 P (.tup [x, y])) := Grow.upd nP s1
      refine ⟨gu, s1.upd nP, ?_⟩
      rw [Rep]
      exact ⟨P, [x, y], rfl, .of upd_same, repL_cons (rx.mono gu) (repL_cons (ry.mono gu) repL_nil)⟩
    · cases e
    · cases e
theorem io_zipT {s t : Ev.Side} {p q : Addr} (h : SideOk K ρ H s p) (h' : SideOk K ρ H t q) (hT : s.isT = true) (hT' : t.isT = true) : IOk K ρ H (.zip s t) (RZ.ItzT K p q) := by
  refine ⟨fun ρ1 H1 st1 k g s1 e => ?_, fun ρ1 H1 st1 k d g s1 e => ?_⟩
  · have e : (match s.at st1 k, t.at st1 k with | some (some x), some (some y) => some (some (Ev.D.tup [x, y])) | some _, some _ => some none | _, _ => none) = some none := e
    split at e
    · cases e
    · rename_i o1 o2 hne e1 e2
      unfold Ev.Side.at at e1 e2
      obtain ⟨ds, f1, f2⟩ := Option.map_eq_some_iff.mp e1
      obtain ⟨es, f3, f4⟩ := Option.map_eq_some_iff.mp e2
      obtain ⟨xs, hq, r⟩ := h ρ1 H1 st1 ds g s1 f1
      obtain ⟨ys, hq', r'⟩ := h' ρ1 H1 st1 es g s1 f3
      rw [hT] at hq
      rw [hT'] at hq'
      refine ⟨xs, ys, hq, hq', ?_⟩
      rw [← r.length, ← r'.length]
      cases o1 with
      | none => exact .inl (List.getElem?_eq_none_iff.mp f2)
      | some z1 =>
        cases o2 with
        | none => exact .inr (List.getElem?_eq_none_iff.mp f4)
        | some z2 => exact (hne z1 z2 rfl rfl).elim
    · cases e
  · have e : (match s.at st1 k, t.at st1 k with | some (some x), some (some y) => some (some (Ev.D.tup [x, y])) | some _, some _ => some none | _, _ => none) = some (some d) := e
    split at e
    · rename_i z1 z2 e1 e2
      cases e
      obtain ⟨ds, f1, f2⟩ := side_some e1
      obtain ⟨es, f3, f4⟩ := side_some e2
      obtain ⟨xs, hq, r⟩ := h ρ1 H1 st1 ds g s1 f1
      obtain ⟨ys, hq', r'⟩ := h' ρ1 H1 st1 es g s1 f3
      rw [hT] at hq
      rw [hT'] at hq'
      obtain ⟨x, ex, rx⟩ := r.get f2
      obtain ⟨y, ey, ry⟩ := r'.get f4
      refine ⟨⟨xs, ys, x, y, hq, hq', ex, ey⟩, fun v H2 hy => ?_⟩
      obtain ⟨P, x', y', rfl, nP, rfl, f5, f6⟩ := hy
      have e5 := f5 xs hq
      have e6 := f6 ys hq'
      rw [ex] at e5
      rw [ey] at e6
      cases e5
      cases e6
      have gu : Grow ρ1 H1 ρ1 (upd H1 P (.tup [x, y])) := Grow.upd nP s1
      refine ⟨gu, s1.upd nP, ?_⟩
      rw [Rep]
      exact ⟨P, [x, y], rfl, .of upd_same, repL_cons (rx.mono gu) (repL_cons (ry.mono gu) repL_nil)⟩
    · cases e
    · cases e
theorem io_enumT {s : Ev.Side} {p : Addr} (h : SideOk K ρ H s p) (hT : s.isT = true) : IOk K ρ H (.enum s) (IteT K p) := by
  refine ⟨fun ρ1 H1 st1 k g s1 e => ?_, fun ρ1 H1 st1 k d g s1 e => ?_⟩
  · have e : (match s.at st1 k with | some (some x) => some (some (Ev.D.tup [.int k, x])) | some none => some none | none => none) = some none := e
    split at e
    · cases e
    · rename_i e1
      obtain ⟨ds, f1, f2⟩ := side_none e1
      obtain ⟨xs, hq, r⟩ := h ρ1 H1 st1 ds g s1 f1
      rw [hT] at hq
      exact ⟨xs, hq, by rw [← r.length]; exact f2⟩
    · cases e
  · have e : (match s.at st1 k with | some (some x) => some (some (Ev.D.tup [.int k, x])) | some none => some none | none => none) = some (some d) := e
    split at e
    · rename_i z1 e1
      cases e
      obtain ⟨ds, f1, f2⟩ := side_some e1
      obtain ⟨xs, hq, r⟩ := h ρ1 H1 st1 ds g s1 f1
      rw [hT] at hq
      obtain ⟨x, ex, rx⟩ := r.get f2
      refine ⟨⟨xs, x, hq, ex⟩, fun v H2 hy => ?_⟩
      obtain ⟨P, x', rfl, nP, rfl, f5⟩ := hy
      have e5 := f5 xs hq
      rw [ex] at e5
      cases e5
      have gu : Grow ρ1 H1 ρ1 (upd H1 P (.tup [.int k, x])) := Grow.upd nP s1
      refine ⟨gu, s1.upd nP, ?_⟩
      rw [Rep]
      exact ⟨P, [.int k, x], rfl, .of upd_same, repL_cons (by rw [Rep]) (repL_cons (rx.mono gu) repL_nil)⟩
    · cases e
    · cases e
end

/-! ### the sources of loops -/
def tI (K : PySem.W.Frag) (call : Nat → List Ev.D → Ev.M Ev.Rv) (c : Ev.Src) : TI := fun σ H R => ∃ ρ env st its st', RepS K ρ H st ∧ RepE K ρ H env σ ∧ Ev.evSrc call c env st = .ok its st' ∧ ∀ ρ' H' J, Grow ρ H ρ' H' → RepS K ρ' H' st' → IOk K ρ' H' its J → R J H'
theorem PI.imp {X : Cx} {tg e : Expr} {t t' : TI} (h : PI X tg e t) (i : ∀ σ H R, t' σ H R → t σ H R) : PI X tg e t' := ⟨fun pins s σ H R I w => h.run pins s σ H R I (i σ H R w)⟩
section
variable {X : Cx} {T : Tx} {sc : Scope} {call : Nat → List Ev.D → Ev.M Ev.Rv} {tg e a b : Expr} {ca cb : Ev.E} {pos p : Pos}
theorem i_e (h : PE X e (tE X.K call ca)) : PI X tg e (tI X.K call (.e ca)) := by
  refine ⟨fun pins s σ H R I w => ?_⟩
  obtain ⟨ρ, env, st, its, st', hs, he, ev, q⟩ := w
  obtain ⟨x, st1, e1, ev⟩ := bind_inv (show ((Ev.evE call ca env st).bind _) = _ from ev)
  split at ev
  · rename_i its' ei
    cases ev
    unfold Ev.itsOf at ei
    split at ei
    · cases ei
      rename_i z
      refine (pi_str h).run pins s σ H R I ⟨ρ, env, st, _, _, hs, he, e1, fun ρ1 H1 v g1 s1 r1 n1 => ?_⟩
      exact ⟨_, Rep.toStr r1, q ρ1 H1 _ g1 s1 (io_str z)⟩
    · obtain ⟨sd, e2, e3⟩ := Option.map_eq_some_iff.mp ei
      subst e3
      cases hT : sd.isT with
      | true =>
        refine (pi_tup h).run pins s σ H R I ⟨ρ, env, st, _, _, hs, he, e1, fun ρ1 H1 v g1 s1 r1 n1 => ?_⟩
        obtain ⟨p, rfl, hp⟩ := sideOf_ok s1 e2 r1
        have hq : ∃ xs, SqT X.K H1 p xs := by
          cases sd with
          | tup ds =>
            obtain ⟨xs, hq, _⟩ := hp ρ1 H1 st' ds .refl s1 rfl
            exact ⟨xs, hq⟩
          | tmp _ => cases hT
          | live _ => cases hT
        exact ⟨p, rfl, hq, q ρ1 H1 _ g1 s1 (io_tup hp hT)⟩
      | false =>
        refine (pi_list h).run pins s σ H R I ⟨ρ, env, st, _, _, hs, he, e1, fun ρ1 H1 v g1 s1 r1 n1 => ?_⟩
        obtain ⟨p, rfl, hp⟩ := sideOf_ok s1 e2 r1
        have hq : ∃ xs, SqL X.K H1 p xs := by
          cases sd with
          | tup ds => cases hT
          | tmp ds =>
            obtain ⟨xs, hq, _⟩ := hp ρ1 H1 st' ds .refl s1 rfl
            exact ⟨xs, hq⟩
          | live i =>
            have e4 : ∃ ds, Ev.listOf st' (.d (.ref i)) = some ds := by
              unfold Ev.sideOf at e2
              split at e2
              · cases e2
              · cases e2
              · split at e2
                · rename_i ob eo
                  cases e2
                  cases ob with
                  | lst ds =>
                    refine ⟨ds, ?_⟩
                    unfold Ev.listOf
                    simp only [eo]
                · cases e2
              · cases e2
              · cases e2
            obtain ⟨ds, e4⟩ := e4
            obtain ⟨xs, hq, _⟩ := hp ρ1 H1 st' ds .refl s1 e4
            exact ⟨xs, hq⟩
        exact ⟨p, rfl, hq, q ρ1 H1 _ g1 s1 (io_list hp hT)⟩
  · cases ev
theorem i_rng1 (C : Cok X T sc call) (hg : gloB sc "range" = true) (h : PE X a (tE X.K call ca)) (pa : plainX a = true) : PI X tg (.Call (.Name "range" p) [a] [] pos) (tI X.K call (.rng1 ca)) :=
  PI.imp (pi_range1 (gl_of C hg) (C.blt _ (by decide)) (pa_cons h pa_nil (star_of pa)) (star_of pa)) fun σ H R w => by
    obtain ⟨ρ, env, st, its, st', hs, he, ev, q⟩ := w
    obtain ⟨x, st1, e1, ev⟩ := bind_inv (show ((Ev.evE call ca env st).bind _) = _ from ev)
    split at ev
    · rename_i i
      split at ev
      · rename_i ds ed
        cases ev
        refine ⟨ρ, env, st, _, _, hs, he, e1, fun ρ1 H1 v g1 s1 r1 n1 => ?_⟩
        obtain ⟨io, h1, h2, h3, h4⟩ := io_range (K := X.K) (ρ := ρ1) (H := H1) ed
        have io : IOk X.K ρ1 H1 (.fix ds) (Itr 0 i.toNat) := by
          have z : i - 0 = i := by omega
          rw [z] at io
          exact io
        exact ⟨i, by rw [Rep.toInt r1], h3, h4, q ρ1 H1 _ g1 s1 io⟩
      · cases ev
    · cases ev
theorem i_rng2 (C : Cok X T sc call) (hg : gloB sc "range" = true) (h : PE X a (tE X.K call ca)) (h' : PE X b (tE X.K call cb)) (pa : plainX a = true) (pb : plainX b = true) : PI X tg (.Call (.Name "range" p) [a, b] [] pos) (tI X.K call (.rng2 ca cb)) :=
  PI.imp (pi_range2 (gl_of C hg) (C.blt _ (by decide)) (pa_cons h (pa_cons h' pa_nil (star_of pb)) (star_of pa)) (by rw [star_of pa, star_of pb]; rfl) (star_of pb)) fun σ H R w => by
    obtain ⟨ρ, env, st, its, st', hs, he, ev, q⟩ := w
    obtain ⟨x, st1, e1, ev⟩ := bind_inv (show ((Ev.evE call ca env st).bind _) = _ from ev)
    obtain ⟨y, st2, e2, ev⟩ := bind_inv ev
    split at ev
    · rename_i i j
      split at ev
      · rename_i ds ed
        cases ev
        refine ⟨ρ, env, st, _, _, hs, he, e1, fun ρ1 H1 v g1 s1 r1 n1 => ?_⟩
        refine ⟨ρ1, env, st1, _, _, s1, he.mono g1, e2, fun ρ2 H2 u g2 s2 r2 n2 => ?_⟩
        obtain ⟨io, hb⟩ := io_range (K := X.K) (ρ := ρ2) (H := H2) ed
        exact ⟨_, _, by rw [Rep.toInt r1, Rep.toInt r2], hb, q ρ2 H2 _ (g1.trans g2) s2 io⟩
      · cases ev
    · cases ev
theorem i_rng3 {c : Expr} {cc : Ev.E} (C : Cok X T sc call) (hg : gloB sc "range" = true) (h : PE X a (tE X.K call ca)) (h' : PE X b (tE X.K call cb)) (h'' : PE X c (tE X.K call cc)) (pa : plainX a = true) (pb : plainX b = true) (pc : plainX c = true) : PI X tg (.Call (.Name "range" p) [a, b, c] [] pos) (tI X.K call (.rng3 ca cb cc)) :=
  PI.imp (pi_range3 (gl_of C hg) (C.blt _ (by decide)) (pa_cons h (pa_cons h' (pa_cons h'' pa_nil (star_of pc)) (star_of pb)) (star_of pa)) (star_of pa) (by rw [star_of pb, star_of pc]; rfl)) fun σ H R w => by
    obtain ⟨ρ, env, st, its, st', hs, he, ev, q⟩ := w
    obtain ⟨x, st1, e1, ev⟩ := bind_inv (show ((Ev.evE call ca env st).bind _) = _ from ev)
    obtain ⟨y, st2, e2, ev⟩ := bind_inv ev
    obtain ⟨z, st3, e3, ev⟩ := bind_inv ev
    split at ev
    · rename_i i j k
      split at ev
      · rename_i ds ed
        cases ev
        refine ⟨ρ, env, st, _, _, hs, he, e1, fun ρ1 H1 v g1 s1 r1 n1 => ?_⟩
        refine ⟨ρ1, env, st1, _, _, s1, he.mono g1, e2, fun ρ2 H2 u g2 s2 r2 n2 => ?_⟩
        refine ⟨ρ2, env, st2, _, _, s2, (he.mono g1).mono g2, e3, fun ρ3 H3 t g3 s3 r3 n3 => ?_⟩
        obtain ⟨n, io, hb⟩ := io_range3 (K := X.K) (ρ := ρ3) (H := H3) ed
        exact ⟨_, _, _, n, by rw [Rep.toInt r1, Rep.toInt r2, Rep.toInt r3], hb, q ρ3 H3 _ (g1.trans (g2.trans g3)) s3 io⟩
      · cases ev
    · cases ev
theorem SideOk.mono {K : PySem.W.Frag} {ρ ρ1 : Ix} {H H1 : Hp} {s : Ev.Side} {p : Addr} (g : Grow ρ H ρ1 H1) (h : SideOk K ρ H s p) : SideOk K ρ1 H1 s p := fun ρ2 H2 st2 ds g2 => h ρ2 H2 st2 ds (g.trans g2)
theorem i_zip {elts : List Expr} {kk : Nat} {tpos : Pos} (C : Cok X T sc call) (hg : gloB sc "zip" = true) (h : PE X a (tE X.K call ca)) (h' : PE X b (tE X.K call cb)) (pa : plainX a = true) (pb : plainX b = true) : PI X (.Tuple elts kk tpos) (.Call (.Name "zip" p) [a, b] [] pos) (tI X.K call (.zip ca cb)) :=
  PI.imp (RZ.pi_zipA (gl_of C hg) (C.blt _ (by decide)) (pa_cons h (pa_cons h' pa_nil (star_of pb)) (star_of pa)) (star_of pa) (by rw [star_of pb]; rfl)) fun σ H R w => by
    obtain ⟨ρ, env, st, its, st', hs, he, ev, q⟩ := w
    obtain ⟨x, st1, e1, ev⟩ := bind_inv (show ((Ev.evE call ca env st).bind _) = _ from ev)
    obtain ⟨y, st2, e2, ev⟩ := bind_inv ev
    split at ev
    · rename_i s t es et
      split at ev
      · rename_i hT
        cases ev
        have hT := eq_of_beq hT
        refine ⟨ρ, env, st, _, _, hs, he, e1, fun ρ1 H1 v g1 s1 r1 n1 => ?_⟩
        refine ⟨ρ1, env, st1, _, _, s1, he.mono g1, e2, fun ρ2 H2 u g2 s2 r2 n2 => ?_⟩
        obtain ⟨p, rfl, hp⟩ := sideOf_ok s2 es (r1.mono g2)
        obtain ⟨p', rfl, hp'⟩ := sideOf_ok s2 et r2
        have all : ∀ {rv : Ev.Rv} {sd : Ev.Side}, Ev.sideOf st' rv = some sd → ∃ ds, sd.all st' = some ds := fun {rv sd} e => by
          unfold Ev.sideOf at e
          split at e
          · cases e; exact ⟨_, rfl⟩
          · cases e; exact ⟨_, rfl⟩
          · split at e
            · rename_i ob eo
              cases e
              cases ob with
              | lst ds =>
                refine ⟨ds, ?_⟩
                unfold Ev.Side.all Ev.listOf
                simp only [eo]
            · cases e
          · cases e; exact ⟨_, rfl⟩
          · cases e
        obtain ⟨ds, ed⟩ := all es
        obtain ⟨es', ee⟩ := all et
        obtain ⟨xs, hq, _⟩ := hp ρ2 H2 st' ds .refl s2 ed
        obtain ⟨ys, hq', _⟩ := hp' ρ2 H2 st' es' .refl s2 ee
        refine ⟨p, p', xs, ys, rfl, ?_⟩
        cases hs1 : s.isT with
        | false =>
          have ht1 : t.isT = false := by rw [← hT]; exact hs1
          rw [hs1] at hq
          rw [ht1] at hq'
          exact .inl ⟨hq, hq', q ρ2 H2 _ (g1.trans g2) s2 (io_zip hp hp' hs1 ht1)⟩
        | true =>
          have ht1 : t.isT = true := by rw [← hT]; exact hs1
          rw [hs1] at hq
          rw [ht1] at hq'
          exact .inr ⟨hq, hq', q ρ2 H2 _ (g1.trans g2) s2 (io_zipT hp hp' hs1 ht1)⟩
      · cases ev
    · cases ev
theorem i_enum {elts : List Expr} {kk : Nat} {tpos : Pos} (C : Cok X T sc call) (hg : gloB sc "enumerate" = true) (h : PE X a (tE X.K call ca)) (pa : plainX a = true) : PI X (.Tuple elts kk tpos) (.Call (.Name "enumerate" p) [a] [] pos) (tI X.K call (.enum ca)) :=
  PI.imp (pi_enumT (gl_of C hg) (C.blt _ (by decide)) (pa_cons h pa_nil (star_of pa)) (star_of pa)) fun σ H R w => by
    obtain ⟨ρ, env, st, its, st', hs, he, ev, q⟩ := w
    obtain ⟨x, st1, e1, ev⟩ := bind_inv (show ((Ev.evE call ca env st).bind _) = _ from ev)
    split at ev
    · rename_i s es
      split at ev
      · rename_i hT
        cases ev
        refine ⟨ρ, env, st, _, _, hs, he, e1, fun ρ1 H1 v g1 s1 r1 n1 => ?_⟩
        obtain ⟨p, rfl, hp⟩ := sideOf_ok s1 es r1
        cases s with
        | tup ds =>
          obtain ⟨xs, hq, _⟩ := hp ρ1 H1 st' ds .refl s1 rfl
          exact ⟨p, xs, rfl, hq, q ρ1 H1 _ g1 s1 (io_enumT hp rfl)⟩
        | tmp _ => cases hT
        | live _ => cases hT
      · cases ev
    · cases ev

end
end EvS
/-! Ev9: targets, comprehensions, all expressions. -/
namespace EvS
open PySem PySem.Spec PyProof.Rows L2

/-! ### what stays when a list that is no object of the store is changed -/
section
variable {K : PySem.W.Frag} {ρ ρ1 : Ix} {H H1 : Hp} {st : Ev.St}
theorem sqT_keep (ht : ∀ a xs, H a = some (.tup xs) → H1 a = some (.tup xs)) (hf : ∀ a o u, H a = some (.frz o u) → H1 a = some (.frz o u)) {a : Addr} {xs : List V} (h : SqT K H a xs) : SqT K H1 a xs := by
  rcases h with (h | ⟨o, h⟩) | h
  · exact .inl (.inl (ht _ _ h))
  · exact .inl (.inr ⟨o, hf _ _ _ h⟩)
  · exact .inr h
mutual
theorem Rep.keep (ht : ∀ a xs, H a = some (.tup xs) → H1 a = some (.tup xs)) (hf : ∀ a o u, H a = some (.frz o u) → H1 a = some (.frz o u)) : ∀ {d : Ev.D} {v : V}, Rep K ρ H d v → Rep K ρ H1 d v
  | .non, _, h => by rw [Rep] at h ⊢; exact h
  | .bl _, _, h => by rw [Rep] at h ⊢; exact h
  | .int _, _, h => by rw [Rep] at h ⊢; exact h
  | .str _, _, h => by rw [Rep] at h ⊢; exact h
  | .tup ds, _, h => by
    rw [Rep] at h ⊢
    obtain ⟨a, xs, e, s, r⟩ := h
    exact ⟨a, xs, e, sqT_keep ht hf s, RepL.keep ht hf r⟩
  | .ref i, _, h => by rw [Rep] at h ⊢; exact h
  | .scr ns, _, h => by
    rw [Rep] at h ⊢
    obtain ⟨a, e, z⟩ := h
    rcases z with ⟨o, z⟩ | z
    · exact ⟨a, e, .inl ⟨o, hf _ _ _ z⟩⟩
    · exact ⟨a, e, .inr z⟩
theorem RepL.keep (ht : ∀ a xs, H a = some (.tup xs) → H1 a = some (.tup xs)) (hf : ∀ a o u, H a = some (.frz o u) → H1 a = some (.frz o u)) : ∀ {ds : List Ev.D} {xs : List V}, RepL K ρ H ds xs → RepL K ρ H1 ds xs
  | [], _, h => by rw [RepL] at h ⊢; exact h
  | d :: ds, _, h => by
    rw [RepL] at h ⊢
    obtain ⟨x, r, e, h1, h2⟩ := h
    exact ⟨x, r, e, Rep.keep ht hf h1, RepL.keep ht hf h2⟩
end
/-- a list outside the store is written -/
theorem keep_upd {D : Addr} {xs ys : List V} (h : H D = some (.lst xs)) : (∀ a zs, H a = some (.tup zs) → upd H D (.lst ys) a = some (.tup zs)) ∧ (∀ a o u, H a = some (.frz o u) → upd H D (.lst ys) a = some (.frz o u)) := by
  refine ⟨fun a zs e => ?_, fun a o u e => ?_⟩
  · rw [upd_ne (fun z => by subst z; rw [h] at e; cases e)]; exact e
  · rw [upd_ne (fun z => by subst z; rw [h] at e; cases e)]; exact e
theorem RepS.updOut {D : Addr} {xs ys : List V} (s : RepS K ρ H st) (h : H D = some (.lst xs)) (n : D ∉ ρ) : RepS K ρ (L2.upd H D (.lst ys)) st := by
  obtain ⟨k1, k2⟩ := keep_upd (ys := ys) h
  refine ⟨s.len, s.nd, fun i ob a e1 e2 => ?_⟩
  have q := s.obj i ob a e1 e2
  cases ob with
  | lst ds =>
    obtain ⟨zs, h1, r⟩ := q
    refine ⟨zs, ?_, r.keep k1 k2⟩
    have nz : a ≠ D := fun z => n (by rw [← z]; exact List.mem_of_getElem? e2)
    rw [upd_ne nz]
    exact h1
end

/-! ### slots -/
theorem wipe_get {α : Type} (σ : List (Option α)) (w : List (Option α) → List Nat → List (Option α)) (w0 : ∀ σ, w σ [] = σ) (w1 : ∀ σ v vs, w σ (v :: vs) = (w σ vs).set v none) :
    ∀ (vs : List Nat) (j : Nat), (w σ vs)[j]? = if j ∈ vs then (σ[j]?).map (fun _ => none) else σ[j]?
  | [], j => by rw [w0]; simp
  | v :: vs, j => by
    rw [w1, List.getElem?_set]
    have ih := wipe_get σ w w0 w1 vs j
    have hl : (w σ vs).length = σ.length := by
      clear ih
      induction vs with
      | nil => rw [w0]
      | cons a as ih => rw [w1, List.length_set, ih]
    by_cases hv : v = j
    · subst hv
      rw [if_pos rfl, hl]
      by_cases hj : v < σ.length
      · rw [if_pos hj, if_pos List.mem_cons_self, List.getElem?_eq_getElem hj]; rfl
      · rw [if_neg hj, if_pos List.mem_cons_self, List.getElem?_eq_none (by omega)]; rfl
    · rw [if_neg hv, ih]
      by_cases hm : j ∈ vs
      · rw [if_pos hm, if_pos (List.mem_cons_of_mem _ hm)]
      · rw [if_neg hm, if_neg (by simp only [List.mem_cons, not_or]; exact ⟨fun z => hv z.symm, hm⟩)]
theorem wipeS_get (σ : L2.St) (vs : List Nat) (j : Nat) : (L2.wipe σ vs)[j]? = if j ∈ vs then (σ[j]?).map (fun _ => none) else σ[j]? := wipe_get σ L2.wipe (fun _ => rfl) (fun _ _ _ => rfl) vs j
theorem wipeE_get (env : Ev.Env) (vs : List Nat) (j : Nat) : (Ev.wipe env vs)[j]? = if j ∈ vs then (env[j]?).map (fun _ => none) else env[j]? := wipe_get env Ev.wipe (fun _ => rfl) (fun _ _ _ => rfl) vs j
theorem wipeS_same {σ σ' : L2.St} {vs : List Nat} (hl : σ'.length = σ.length) (h : ∀ j, j ∉ vs → σ'[j]? = σ[j]?) : L2.wipe σ' vs = L2.wipe σ vs := by
  apply List.ext_getElem?
  intro j
  rw [wipeS_get, wipeS_get]
  by_cases hm : j ∈ vs
  · rw [if_pos hm, if_pos hm]
    by_cases hj : j < σ.length
    · rw [List.getElem?_eq_getElem hj, List.getElem?_eq_getElem (by omega)] <;> rfl
    · rw [List.getElem?_eq_none (by omega), List.getElem?_eq_none (by omega)]
  · rw [if_neg hm, if_neg hm]
    exact h j hm
section
variable {K : PySem.W.Frag} {ρ : Ix} {H : Hp} {env : Ev.Env} {σ : L2.St}
theorem RepE.wipe (h : RepE K ρ H env σ) (vs : List Nat) : RepE K ρ H (Ev.wipe env vs) (L2.wipe σ vs) := by
  refine ⟨?_, fun i d e => ?_⟩
  · have l1 : (Ev.wipe env vs).length = env.length := by
      induction vs with
      | nil => rfl
      | cons a as ih => show ((Ev.wipe env as).set a none).length = _; rw [List.length_set, ih]
    rw [l1, wipe_length, h.len]
  · rw [wipeE_get] at e
    by_cases hm : i ∈ vs
    · rw [if_pos hm] at e
      cases q : env[i]? with
      | none => rw [q] at e; cases e
      | some o => rw [q] at e; cases e
    · rw [if_neg hm] at e
      obtain ⟨v, e1, r⟩ := h.val i d e
      exact ⟨v, by rw [wipeS_get, if_neg hm]; exact e1, r⟩
theorem RepE.set (h : RepE K ρ H env σ) {i : Nat} {d : Ev.D} {v : V} (r : Rep K ρ H d v) : RepE K ρ H (env.set i (some d)) (σ.set i (some v)) := by
  refine ⟨by rw [List.length_set, List.length_set, h.len], fun j e hj => ?_⟩
  rw [List.getElem?_set] at hj
  by_cases hi : i = j
  · subst hi
    rw [if_pos rfl] at hj
    split at hj
    · rename_i hlt
      cases hj
      exact ⟨v, by rw [List.getElem?_set, if_pos rfl, if_pos (by rw [← h.len]; exact hlt)], r⟩
    · cases hj
  · rw [if_neg hi] at hj
    obtain ⟨w, e1, r1⟩ := h.val j e hj
    exact ⟨w, by rw [List.getElem?_set, if_neg hi]; exact e1, r1⟩
end

/-! ### targets -/
def tTg (K : PySem.W.Frag) (t : Ev.Tg) : TG := fun x σ H Q => ∃ ρ env d env', RepE K ρ H env σ ∧ Rep K ρ H d x ∧ Ev.setTg t d env = some env' ∧ ∀ σ', RepE K ρ H env' σ' → σ'.length = σ.length → (∀ j, (match t with | .var i => j ≠ i | .tup is => j ∉ is) → σ'[j]? = σ[j]?) → Q σ' H
theorem PG.imp {X : Cx} {e : Expr} {t t' : TG} (h : PG X e t) (i : ∀ v σ H Q, t' v σ H Q → t v σ H Q) : PG X e t' := ⟨fun pins s σ H v u Q I r w => h.run pins s σ H v u Q I r (i v σ H Q w)⟩
section
variable {X : Cx} {N : List Str} {sc : Scope} {ok : Str → Bool}
theorem g_name {i : Nat} {e : Expr} (hN : X.N = N) (nd : N.Nodup) (hs : X.env.scope = sc) (hfn : ∀ x, ok x = true → X.env.scope.names.lookup x = some .cell → X.fn x = true) (h : chkName N sc ok i e = true) : PG X e (gName i) := by
  cases e with
  | Name x pos =>
    obtain ⟨h1, h2⟩ := Bool.and_eq_true_iff.mp (show (decide (N[i]? = some x) && (locB sc x && ok x)) = true from h)
    obtain ⟨h2, h3⟩ := Bool.and_eq_true_iff.mp h2
    unfold locB at h2
    have hx : sc.names.lookup x = some .local ∨ sc.names.lookup x = some .cell := by
      split at h2
      · rename_i q; exact .inl q
      · rename_i q; exact .inr q
      · cases h2
    refine pg_name (by rw [hN]; exact nd) (by rw [hN]; exact of_decide_eq_true h1) (by rw [hs]; exact hx) ?_
    rcases hx with q | q
    · exact .inr (by rw [hs]; exact q)
    · exact .inl (hfn x h3 (by rw [hs]; exact q))
  | _ => cases h
theorem name_star {i : Nat} {e : Expr} {es : List Expr} {env : Env} (h : chkName N sc ok i e = true) : assignEach (e :: es) env = (false, assign e env) :: assignEach es env := by
  cases e with
  | Name x pos => rfl
  | _ => cases h
def tGs (K : PySem.W.Frag) (is : List Nat) : TGs := fun vs σ H Q => vs.length = is.length ∧ Q ((is.zip vs).foldl (fun s p => s.set p.1 (some p.2)) σ) H
theorem g_names (hN : X.N = N) (nd : N.Nodup) (hs : X.env.scope = sc) (hfn : ∀ x, ok x = true → X.env.scope.names.lookup x = some .cell → X.fn x = true) : ∀ {is : List Nat} {es : List Expr}, chkNames N sc ok is es = true → PGs X es (tGs X.K is) ∧ (assignEach es X.env).length = is.length ∧ (assignEach es X.env).findIdx? (·.1) = none
  | [], [], _ => ⟨⟨fun pins s σ H vs us Q I r w => pgs_nil.run pins s σ H vs us Q I r ⟨List.eq_nil_of_length_eq_zero w.1, by
      have e := List.eq_nil_of_length_eq_zero w.1
      have z := w.2
      rw [e] at z
      exact z⟩⟩, rfl, rfl⟩
  | [], _ :: _, h => by cases h
  | _ :: _, [], h => by cases h
  | i :: is, e :: es, h => by
    obtain ⟨h1, h2⟩ := Bool.and_eq_true_iff.mp (show (chkName N sc ok i e && chkNames N sc ok is es) = true from h)
    obtain ⟨ih, il, ifi⟩ := g_names hN nd hs hfn h2
    have st := name_star (es := es) (env := X.env) h1
    refine ⟨⟨fun pins s σ H vs us Q I r w => (pgs_cons (g_name hN nd hs hfn h1) ih (by rw [st]; rfl)).run pins s σ H vs us Q I r ?_⟩, ?_, ?_⟩
    · obtain ⟨wl, wq⟩ := w
      cases vs with
      | nil => cases wl
      | cons v vr => exact ⟨v, vr, rfl, by simpa using wl, wq⟩
    · rw [st, List.length_cons, List.length_cons, il]
    · rw [st, List.findIdx?_cons]
      simp [ifi]
theorem foldl_keep {α : Type} : ∀ (is : List Nat) (vs : List α) (σ : List (Option α)), ((is.zip vs).foldl (fun s p => s.set p.1 (some p.2)) σ).length = σ.length ∧ ∀ j, j ∉ is → ((is.zip vs).foldl (fun s p => s.set p.1 (some p.2)) σ)[j]? = σ[j]?
  | [], vs, σ => ⟨by simp, fun j _ => by simp⟩
  | i :: is, [], σ => ⟨by simp, fun j _ => by simp⟩
  | i :: is, v :: vs, σ => by
    obtain ⟨h1, h2⟩ := foldl_keep is vs (σ.set i (some v))
    refine ⟨by rw [List.zip_cons_cons, List.foldl_cons, h1, List.length_set], fun j hj => ?_⟩
    simp only [List.mem_cons, not_or] at hj
    rw [List.zip_cons_cons, List.foldl_cons, h2 j hj.2, List.getElem?_set_ne (Ne.symm hj.1)]
theorem RepE.setAll {K : PySem.W.Frag} {ρ : Ix} {H : Hp} : ∀ {is : List Nat} {ds : List Ev.D} {vs : List V} {env : Ev.Env} {σ : L2.St}, RepL K ρ H ds vs → RepE K ρ H env σ → RepE K ρ H ((is.zip ds).foldl (fun e p => e.set p.1 (some p.2)) env) ((is.zip vs).foldl (fun s p => s.set p.1 (some p.2)) σ)
  | [], _, _, _, _, _, h => by simpa using h
  | i :: is, [], _, _, _, r, h => by rw [r.ofNil]; simpa using h
  | i :: is, d :: ds, _, _, _, r, h => by
    obtain ⟨x, xs, rfl, h1, h2⟩ := r.ofCons
    exact RepE.setAll (is := is) h2 (h.set h1)
theorem g_tg {t : Ev.Tg} {e : Expr} (hc : X.calm = true) (hN : X.N = N) (nd : N.Nodup) (hs : X.env.scope = sc) (hfn : ∀ x, ok x = true → X.env.scope.names.lookup x = some .cell → X.fn x = true) (h : chkTg N sc ok t e = true) : PG X e (tTg X.K t) := by
  cases t with
  | var i =>
    refine PG.imp (g_name hN nd hs hfn h) fun v σ H Q w => ?_
    obtain ⟨ρ, env, d, env', he, r, e1, q⟩ := w
    cases e1
    exact q _ (he.set r) (List.length_set ..) fun j hj => List.getElem?_set_ne (Ne.symm hj)
  | tup is =>
    cases e with
    | Tuple es k pos =>
      obtain ⟨h1, h2⟩ := Bool.and_eq_true_iff.mp (show (decide is.Nodup && chkNames N sc ok is es) = true from h)
      obtain ⟨gs, gl, gf⟩ := g_names hN nd hs hfn h2
      refine PG.imp (pg_tup hc gs gl gf) fun v σ H Q w => ?_
      obtain ⟨ρ, env, d, env', he, r, e1, q⟩ := w
      cases d with
      | tup ds =>
        have e1 : (if is.length = ds.length then some ((is.zip ds).foldl (fun e p => e.set p.1 (some p.2)) env) else none) = some env' := e1
        split at e1
        · rename_i hl
          cases e1
          obtain ⟨a, xs, rfl, hq, rl⟩ := Rep.toTup r
          obtain ⟨k1, k2⟩ := foldl_keep is xs σ
          exact ⟨a, xs, rfl, hq, by rw [hl]; exact rl.length.symm, by rw [hl]; exact rl.length.symm, q _ (RepE.setAll rl he) k1 k2⟩
        · cases e1
      | _ => cases e1
    | _ => cases h
end

/-! ### comprehensions -/
theorem PTs.imp {X : Cx} {ifs : List Expr} {t t' : TT} (h : PTs X ifs t) (i : ∀ σ H Q, t' σ H Q → t σ H Q) : PTs X ifs t' := ⟨fun pins s σ H Q I w => h.run pins s σ H Q I (i σ H Q w)⟩
/-- a clause's test -/
def tC' (K : PySem.W.Frag) (call : Nat → List Ev.D → Ev.M Ev.Rv) (c : Ev.Eo) : TT := fun σ H Q => ∃ ρ env st o b st', RepS K ρ H st ∧ RepE K ρ H env σ ∧ Ev.evO call c env st = .ok o st' ∧ Ev.condOf o = some b ∧ ∀ ρ' H', Grow ρ H ρ' H' → RepS K ρ' H' st' → Q b H'
section
variable {X : Cx} {T : Tx} {sc : Scope} {call : Nat → List Ev.D → Ev.M Ev.Rv} {e : Expr} {ca : Ev.E}
theorem c_no : PTs X [] (tC' X.K call .no) := PTs.imp pts_nil fun σ H Q w => by
  obtain ⟨ρ, env, st, o, b, st', hs, he, ev, eb, q⟩ := w
  cases ev
  cases eb
  exact q ρ H .refl hs
theorem c_yes (h : PT X e (tT X.K call ca)) : PTs X [e] (tC' X.K call (.yes ca)) := PTs.imp (pts_one h) fun σ H Q w => by
  obtain ⟨ρ, env, st, o, b, st', hs, he, ev, eb, q⟩ := w
  obtain ⟨x, st1, e1, ev⟩ := bind_inv (show ((Ev.evE call ca env st).bind _) = _ from ev)
  cases ev
  refine ⟨ρ, env, st, x, st', hs, he, e1, fun ρ1 H1 v g1 s1 r1 n1 => ?_⟩
  unfold Ev.condOf at eb
  split at eb
  · rename_i z; cases z
  · rename_i b' z
    injection z with z
    subst z
    cases eb
    exact ⟨b, Rep.toBl r1, q ρ1 H1 g1 s1⟩
  · cases eb
/-- the context of a comprehension's block -/
theorem Cok.blk (C : Cok X T sc call) {s : Shared} {H : Hp} {scope : Scope} {C' : Addr} {cl : List (Str × Addr)} {fp : List Addr} : Cok (X.blk s H scope (compEnvC scope cl C' X.env) fp) T (relS scope sc) call :=
  ⟨C.N, C.nd, by rw [← C.sc]; rfl, C.calm, C.hu, C.glo, C.blt, fun f x h => ⟨(C.fn f x h).ex⟩⟩
theorem Grow.updNew {ρ ρ1 : Ix} {H H1 : Hp} {D : Addr} {xs ys : List V} (g : Grow ρ H ρ1 H1) (n : H D = Option.none) (h : H1 D = some (.lst xs)) : Grow ρ H ρ1 (L2.upd H1 D (.lst ys)) where
  pre := g.pre
  frame := fun a o e m => by rw [upd_ne (ne_of_none e n)]; exact g.frame a o e m
  tups := fun a zs e => by rw [upd_ne (ne_of_none e n)]; exact g.tups a zs e
  frzs := fun a o u e => by rw [upd_ne (ne_of_none e n)]; exact g.frzs a o u e
  new := g.new
theorem Grow.out {ρ ρ1 : Ix} {H H1 : Hp} {D : Addr} {o : HO} (g : Grow ρ H ρ1 H1) (h : H D = some o) (n : D ∉ ρ) : D ∉ ρ1 := fun m => (g.new D m).elim n fun z => by rw [h] at z; cases z
theorem lc_tg {tg : Expr} {scope : Scope} {t : Ev.Tg} (C : Cok X T sc call) (ht : chkTg T.N (relS scope sc) (locB scope) t tg = true) (s : Shared) (H : Hp) (C' : Addr) (cl : List (Str × Addr)) (fp : List Addr) : PG (X.blk s H scope (compEnvC scope cl C' X.env) fp) tg (tTg X.K t) := by
  refine g_tg (X := X.blk s H scope (compEnvC scope cl C' X.env) fp) C.calm C.N C.nd (C.blk (s := s) (H := H) (C' := C') (cl := cl) (fp := fp)).sc (fun x hx q => ?_) ht
  show (scope.names.lookup x == some .cell) = true
  have q : (relS scope X.env.scope).names.lookup x = some .cell := q
  obtain ⟨k, e1, e2⟩ := lookup_relS q
  unfold locB at hx
  rw [e1] at hx ⊢
  rcases e2 with e2 | e2
  · rw [e2]; exact beq_self_eq_true _
  · rw [e2.1] at hx; cases hx
theorem lc_part {own : List Nat} {t : Ev.Tg} {src : Ev.Src} {cond : Ev.Eo} {ce : Ev.E} {σ : L2.St} {H0 : Hp} {Q : VK} (hin : tgIn own t = true) (w : tE X.K call (.lc own t src cond ce) σ H0 Q) : tLc (tI X.K call src) (tTg X.K t) (tC' X.K call cond) (tE X.K call ce) own σ H0 Q := by
  obtain ⟨ρ, env, st, rv, st', hs, he', ev, q⟩ := w
  obtain ⟨its, st1, e1, ev⟩ := bind_inv (show ((Ev.evSrc call src env st).bind _) = _ from ev)
  obtain ⟨l, st2, e2, ev⟩ := bind_inv ev
  unfold Ev.lcTmp at ev
  split at ev
  · rename_i hbig
    cases ev
    refine ⟨ρ, env, st, its, st1, hs, he', e1, fun ρ1 H1 J g1 s1 io D nD => ?_⟩
    generalize hbody : (fun d st => match Ev.setTg t d (Ev.wipe env own) with
      | none => Ev.Res.err
      | some env' => (Ev.evO call cond env' st).bind fun b st2 => (match Ev.condOf b with
        | some true => (Ev.evE call ce env' st2).bind fun y st3 => (Ev.mat y st3).bind fun y st4 => .ok (some y) st4
        | some false => .ok none st2
        | none => .err) : Ev.D → Ev.M (Option Ev.D)) = body at e2
    refine ⟨fun i m H => ∃ ρ2 sta dacc acc rest, Grow ρ1 H1 ρ2 H ∧ RepS X.K ρ2 H sta ∧ H D = some (.lst acc) ∧ D ∉ ρ2 ∧ RepL X.K ρ2 H dacc acc ∧ Ev.lcGo body its m i sta = .ok rest st' ∧ l = dacc ++ rest,
      ⟨_, ρ1, st1, [], [], l, Grow.upd nD s1, s1.upd nD, upd_same, s1.fresh nD, repL_nil, e2, rfl⟩, fun i m H hW => ?_⟩
    obtain ⟨ρ2, sta, dacc, acc, rest, g, sS, hD, nDρ, rl, eg, el⟩ := hW
    cases m with
    | zero => cases eg
    | succ m =>
      have eg : (match its.at sta i with
        | none => Ev.Res.err
        | some none => .ok [] sta
        | some (some d) => (body d sta).bind fun o st1 => (Ev.lcGo body its m (i + 1) st1).bind fun r st2 => .ok (o.toList ++ r) st2) = .ok rest st' := eg
      split at eg
      · cases eg
      · rename_i eat
        cases eg
        rw [List.append_nil] at el
        subst el
        exact .inl ⟨io.stop ρ2 H _ i g sS eat, q ρ2 H (.ref D) (g1.trans g) sS ⟨D, acc, rfl, hD, nDρ, rl⟩ ⟨D, rfl, g1.none s1 nD⟩⟩
      · rename_i d eat
        obtain ⟨o, st3, eb, eg⟩ := bind_inv eg
        obtain ⟨r, st4, er, eg⟩ := bind_inv eg
        cases eg
        obtain ⟨go, yl⟩ := io.item ρ2 H sta i d g sS eat
        refine .inr ⟨go, fun H' => ∃ ρ2 sta dacc acc rest, Grow ρ1 H1 ρ2 H' ∧ RepS X.K ρ2 H' sta ∧ H' D = some (.lst acc) ∧ D ∉ ρ2 ∧ RepL X.K ρ2 H' dacc acc ∧ Ev.lcGo body its m (i + 1) sta = .ok rest st' ∧ l = dacc ++ rest,
          fun H' z => ⟨m, Nat.lt_succ_self m, z⟩, fun x H' hy => ?_⟩
        obtain ⟨g2, s2, rx⟩ := yl x H' hy
        have eb2 : (match Ev.setTg t d (Ev.wipe env own) with
          | none => Ev.Res.err
          | some env' => (Ev.evO call cond env' sta).bind fun b st2 => (match Ev.condOf b with
            | some true => (Ev.evE call ce env' st2).bind fun y st3 => (Ev.mat y st3).bind fun y st4 => .ok (some y) st4
            | some false => .ok none st2
            | none => .err)) = .ok o st3 := by
          rw [← hbody] at eb
          exact eb
        split at eb2
        · cases eb2
        · rename_i env' eset
          obtain ⟨ob, st5, eo, eb2⟩ := bind_inv eb2
          have gh := g1.trans (g.trans g2)
          refine ⟨ρ2, Ev.wipe env own, d, env', (he'.mono gh).wipe own, rx, eset, fun σ2 he2 hl hk => ⟨?_, ?_⟩⟩
          · refine wipeS_same (by rw [hl, wipe_length]) fun j hj => ?_
            rw [hk j ?_, wipeS_get, if_neg hj]
            cases t with
            | var k =>
              have : k ∈ own := of_decide_eq_true (show decide (k ∈ own) = true from hin)
              exact fun z => hj (z ▸ this)
            | tup ks =>
              intro z
              have hin : (ks.all fun i => decide (i ∈ own)) = true := hin
              exact hj (of_decide_eq_true (List.all_eq_true.mp hin j z))
          · split at eb2
            · rename_i ec
              obtain ⟨y, st6, ey, eb2⟩ := bind_inv eb2
              obtain ⟨dy, st7, em, eb2⟩ := bind_inv eb2
              cases eb2
              refine ⟨ρ2, env', sta, ob, true, st5, s2, he2, eo, ec, fun ρ3 H3 g3 s3 => iteT ?_⟩
              refine ⟨ρ3, env', st5, y, st6, s3, he2.mono g3, ey, fun ρ4 H4 yv g4 s4 r4 n4 => ?_⟩
              obtain ⟨ρ5, g5, _, s5, r5, _⟩ := mat_ok g4 s4 r4 n4 em
              have gA := g2.trans (g3.trans g5)
              have hD4 := gA.frame D _ hD nDρ
              have nD5 := gA.out hD nDρ
              obtain ⟨k1, k2⟩ := keep_upd (ys := acc ++ [yv]) hD4
              refine ⟨acc, hD4, ?_, ρ5, st3, dacc ++ [dy], acc ++ [yv], r, (g.trans gA).updNew nD hD4, s5.updOut hD4 nD5, upd_same, nD5, ((rl.mono gA).append (repL_cons r5 repL_nil)).keep k1 k2, er, ?_⟩
              · have l1 := rl.length
                have l2 := congrArg List.length el
                have lb := line_big
                simp only [List.length_append, Option.toList_some, List.length_singleton] at l2
                omega
              · rw [el]
                simp
            · rename_i ec
              cases eb2
              refine ⟨ρ2, env', sta, ob, false, st3, s2, he2, eo, ec, fun ρ3 H3 g3 s3 => iteF ?_⟩
              have gA := g2.trans g3
              exact ⟨ρ3, st3, dacc, acc, r, g.trans gA, s3, gA.frame D _ hD nDρ, gA.out hD nDρ, rl.mono gA, er, by rw [el]; rfl⟩
            · cases eb2
  · cases ev
theorem s_lc {tg it elt : Expr} {ifs : List Expr} {scope : Scope} {pos : Pos} {own : List Nat} {t : Ev.Tg} {src : Ev.Src} {cond : Ev.Eo} {ce : Ev.E} (C : Cok X T sc call) (hb : blkC T.N sc scope (namesOf T.N own) = true) (hin : tgIn own t = true)
    (hown : (namesOf T.N own).map (·.2) = own) (ht : chkTg T.N (relS scope sc) (locB scope) t tg = true) (hi : PI X tg it (tI X.K call src)) (pit : plainX it = true)
    (hc : ∀ Y, Cok Y T (relS scope sc) call → PTs Y ifs (tC' Y.K call cond)) (he : ∀ Y, Cok Y T (relS scope sc) call → PE Y elt (tE Y.K call ce)) :
    PE X (.ListComp elt [⟨tg, it, ifs, 0⟩] scope pos) (tE X.K call (.lc own t src cond ce)) := by
  refine PE.imp (pe_lc (own := namesOf T.N own) (g := tTg X.K t) (tt := tC' X.K call cond) (te := tE X.K call ce) C.calm (by rw [C.N]; exact C.nd) hi (blkOk_by (by rw [C.N, C.sc]; exact hb))
    (lc_tg C ht) (fun s H C' cl fp => hc _ C.blk) (fun s H C' cl fp => he _ C.blk) (set_of pit)) fun σ H0 Q w => ?_
  rw [hown]
  exact lc_part hin w
end

theorem and_test {X : Cx} {call : Nat → List Ev.D → Ev.M Ev.Rv} {ca cb : Ev.E} {σ : L2.St} {H : Hp} {Q : Bool → Hp → Prop} (w : tT X.K call (.and ca cb) σ H Q) : tAnd (tT X.K call ca) (tT X.K call cb) σ H Q := by
  obtain ⟨ρ, env, st, rv, st', hs, he, ev, q⟩ := and_part w
  refine ⟨ρ, env, st, rv, st', hs, he, ev, fun ρ1 H1 v g1 s1 r1 n1 => ?_⟩
  obtain ⟨c, e1, z⟩ := q ρ1 H1 v g1 s1 r1 n1
  refine ⟨c, e1, ?_⟩
  cases c with
  | true => exact iteT z
  | false =>
    obtain ⟨b, eb, zb⟩ := z
    injection eb with eb
    subst eb
    exact iteF zb
theorem or_test {X : Cx} {call : Nat → List Ev.D → Ev.M Ev.Rv} {ca cb : Ev.E} {σ : L2.St} {H : Hp} {Q : Bool → Hp → Prop} (w : tT X.K call (.or ca cb) σ H Q) : tOr (tT X.K call ca) (tT X.K call cb) σ H Q := by
  obtain ⟨ρ, env, st, rv, st', hs, he, ev, q⟩ := or_part w
  refine ⟨ρ, env, st, rv, st', hs, he, ev, fun ρ1 H1 v g1 s1 r1 n1 => ?_⟩
  obtain ⟨c, e1, z⟩ := q ρ1 H1 v g1 s1 r1 n1
  refine ⟨c, e1, ?_⟩
  cases c with
  | true =>
    obtain ⟨b, eb, zb⟩ := z
    injection eb with eb
    subst eb
    exact iteT zb
  | false => exact iteF z
theorem not_test {X : Cx} {call : Nat → List Ev.D → Ev.M Ev.Rv} {ca : Ev.E} {σ : L2.St} {H : Hp} {Q : Bool → Hp → Prop} (w : tT X.K call (.not ca) σ H Q) : tNot (tT X.K call ca) σ H Q := by
  obtain ⟨ρ, env, st, rv, st', hs, he, ev, q⟩ := not_part w
  refine ⟨ρ, env, st, rv, st', hs, he, ev, fun ρ1 H1 v g1 s1 r1 n1 => ?_⟩
  obtain ⟨k, e1, b, e2, e3⟩ := q ρ1 H1 v g1 s1 r1 n1
  injection e2 with e2
  subst e2
  exact ⟨k, e1, e3⟩
theorem put_ok {K : PySem.W.Frag} {ρ : Ix} {H : Hp} {st st' : Ev.St} {i : Nat} {a : Addr} {xs ys : List V} {ds : List Ev.D} {u : Unit} (s : RepS K ρ H st) (hi : ρ[i]? = some a) (ha : H a = some (.lst xs)) (r : RepL K ρ H ds ys) (e : Ev.put i (.lst ds) st = .ok u st') :
    Grow ρ H ρ (upd H a (.lst ys)) ∧ RepS K ρ (upd H a (.lst ys)) st' := by
  obtain ⟨k1, k2⟩ := keep_upd (ys := ys) ha
  have g : Grow ρ H ρ (upd H a (.lst ys)) := ⟨List.prefix_refl _, fun b o e n => by rw [upd_ne (fun z => n (by rw [z]; exact List.mem_of_getElem? hi))]; exact e, k1, k2, fun b m => .inl m⟩
  refine ⟨g, ?_⟩
  cases e
  refine ⟨by show _ = (st.objs.set i _).length; rw [List.length_set]; exact s.len, s.nd, fun j o b e1 e2 => ?_⟩
  have e1 : (st.objs.set i (.lst ds))[j]? = some o := e1
  rw [List.getElem?_set] at e1
  by_cases hj : i = j
  · subst hj
    rw [if_pos rfl] at e1
    split at e1
    · cases e1
      rw [hi] at e2
      cases e2
      exact ⟨ys, upd_same, r.keep k1 k2⟩
    · cases e1
  · rw [if_neg hj] at e1
    have nb : b ≠ a := fun z => by
      subst z
      obtain ⟨h1, e1'⟩ := List.getElem?_eq_some_iff.mp hi
      obtain ⟨h2, e2'⟩ := List.getElem?_eq_some_iff.mp e2
      exact hj ((List.getElem_inj s.nd).mp (e1'.trans e2'.symm))
    refine (s.obj j o b e1 e2).mono g fun zs q => by rw [upd_ne nb]; exact q
theorem mutOf_inv {st : Ev.St} {x : Ev.Rv} {p : Nat} {ds : List Ev.D} (h : Ev.mutOf st x = some (p, ds)) : x = .d (.ref p) ∧ st.objs[p]? = some (.lst ds) := by
  unfold Ev.mutOf at h
  split at h
  · split at h
    · cases h
      exact ⟨rfl, by assumption⟩
    · cases h
  · cases h
theorem mut_ok {K : PySem.W.Frag} {ρ : Ix} {H : Hp} {st : Ev.St} {x : Ev.Rv} {v : V} {p : Nat} {ds : List Ev.D} (s : RepS K ρ H st) (h : Ev.mutOf st x = some (p, ds)) (r : RepR K ρ H x v) : ∃ a xs, v = .ref a ∧ ρ[p]? = some a ∧ H a = some (.lst xs) ∧ RepL K ρ H ds xs := by
  obtain ⟨rfl, e⟩ := mutOf_inv h
  have r : Rep K ρ H (.ref p) v := r
  rw [Rep] at r
  obtain ⟨a, e1, rfl⟩ := r
  obtain ⟨xs, h1, h2⟩ := s.obj p _ a e e1
  exact ⟨a, xs, rfl, e1, h1, h2⟩
theorem base_of {o : Expr} {nm : Str} {env : Env} (h : isNameE o = true) : attributeBase o nm env (eval o env) = eval o env := by
  cases o with
  | Name x p => rfl
  | _ => cases h
theorem keep_upd0 : True := trivial
theorem RepL.eraseIdx {K : PySem.W.Frag} {ρ : Ix} {H : Hp} : ∀ {ds : List Ev.D} {xs : List V} (i : Nat), RepL K ρ H ds xs → RepL K ρ H (ds.eraseIdx i) (xs.eraseIdx i)
  | [], _, i, h => by rw [RepL] at h; subst h; simp [RepL]
  | e :: ds, _, 0, h => by
    obtain ⟨x, r, rfl, h1, h2⟩ := h.ofCons
    exact h2
  | e :: ds, _, i + 1, h => by
    obtain ⟨x, r, rfl, h1, h2⟩ := h.ofCons
    rw [List.eraseIdx_cons_succ, List.eraseIdx_cons_succ]
    exact repL_cons h1 (RepL.eraseIdx i h2)
theorem seq_ix {n : Nat} {k : Int} {j : Nat} (h : Ev.ixN n k = some j) : seqIndex? k n = some j ∧ j < n ∧ -(n : Int) ≤ k ∧ k < n := by
  unfold Ev.ixN at h
  unfold seqIndex?
  split at h
  · split at h
    · cases h
      refine ⟨?_, by omega, by omega, by omega⟩
      dsimp only
      rw [if_neg (by omega : ¬ k < 0), if_pos (by simp only [Bool.and_eq_true, decide_eq_true_eq]; omega)]
    · cases h
  · split at h
    · cases h
      refine ⟨?_, by omega, by omega, by omega⟩
      dsimp only
      rw [if_pos (by omega : k < 0), if_pos (by simp only [Bool.and_eq_true, decide_eq_true_eq]; omega)]
    · cases h
theorem s_pop {X : Cx} {call : Nat → List Ev.D → Ev.M Ev.Rv} {o x : Expr} {co cx : Ev.E} {apos cpos : Pos} (ho : PE X o (tE X.K call co)) (ha : PA X [x] (tR X.K call (.cons cx .nil))) (hb : isNameE o = true) (px : plainX x = true) (hl : (apos.endLine == cpos.line) = true) : PE X (.Call (.Attribute o "pop" apos) [x] [] cpos) (tE X.K call (.pop co cx)) := by
  have hst : ∀ {env : Env}, starEach [x] env = [(false, eval x env)] := fun {env} => star_of px
  refine PE.imp (pe_bm PySem.F.plainAttrs_list PySem.F.slot_list_pop PySem.F.type_list_pop mt_popAt ho ha (base_of hb) (by rw [hst]; rfl) hl (by rw [hst]; rfl) rfl) fun σ H Q w => ?_
  obtain ⟨ρ, env, st, rv, st', hs, he, ev, q⟩ := w
  obtain ⟨y, st1, e1, ev⟩ := bind_inv (show ((Ev.evE call co env st).bind _) = _ from ev)
  refine ⟨ρ, env, st, y, st1, hs, he, e1, fun ρ1 H1 vo g1 s1 r1 n1 => ?_⟩
  split at ev
  · rename_i pd em
    obtain ⟨z, st2, e2, ev⟩ := bind_inv ev
    obtain ⟨pn, ds0⟩ := pd
    obtain ⟨a, xs, rfl, ea, hla, rl⟩ := mut_ok s1 em r1
    refine ⟨.inl ⟨rfl, xs, .of hla⟩, ρ1, env, st1, [z], st2, s1, he.mono g1, ?_, fun ρ2 H2 vals g2 s2 r2 => ?_⟩
    · show (Ev.evE call cx env st1).bind _ = _
      rw [e2]
      rfl
    · split at ev
      · rename_i pn2 ds k em2
        split at ev
        · rename_i hbig
          split at ev
          · rename_i j ej
            split at ev
            · rename_i d ed
              obtain ⟨u, st4, e4, ev⟩ := bind_inv ev
              cases ev
              obtain ⟨a2, xs2, ev2, ea2, hla2, rl2⟩ := mut_ok s2 em2 (r1.mono g2)
              injection ev2 with ev2
              subst ev2
              cases r2 with
              | cons rz rn =>
                cases rn
                have ez := Rep.toInt rz
                subst ez
                obtain ⟨g5, s5⟩ := put_ok s2 ea2 hla2 (rl2.eraseIdx j) e4
                obtain ⟨x2, ex2, rx2⟩ := rl2.get ed
                have hlen := rl2.length
                obtain ⟨q1, q2, q3, q4⟩ := seq_ix ej
                refine ⟨a, xs2, k, j, x2, rfl, rfl, hla2, ?_, ?_, by rw [← hlen]; exact q1, ex2, ?_⟩
                · have : ds.length ≤ 100000 := hbig
                  omega
                · have : ds.length ≤ 100000 := hbig
                  omega
                · exact q ρ2 _ x2 (g1.trans (g2.trans g5)) s5 (rx2.mono g5) trivial
            · cases ev
          · cases ev
        · cases ev
      · cases ev
  · cases ev
/-! ### all expressions -/
/-- what is shown of an expression -/
structure Ok3 (X : Cx) (call : Nat → List Ev.D → Ev.M Ev.Rv) (c : Ev.E) (e : Expr) : Prop where
  pe : PE X e (tE X.K call c)
  pt : noIf e = true → PT X e (tT X.K call c)
  pw : ∀ op es pos, e = .BoolOp op es pos → PW X e (tT X.K call c)
theorem Ok3.val {X : Cx} {call : Nat → List Ev.D → Ev.M Ev.Rv} {c : Ev.E} {e : Expr} (h : PE X e (tE X.K call c)) (he : ∀ whole, isTrue e X.env whole = (do let v ← whole; standAt e.pos; holding [v] (truthy v))) (hn : ∀ op es pos, e ≠ .BoolOp op es pos) : Ok3 X call c e :=
  ⟨h, fun _ => pt_val h he, fun op es pos q => absurd q (hn op es pos)⟩
theorem and2 {a b : Bool} (h : (a && b) = true) : a = true ∧ b = true := Bool.and_eq_true_iff.mp h
section
variable {T : Tx} {call : Nat → List Ev.D → Ev.M Ev.Rv}
mutual
theorem okE : ∀ (c : Ev.E) (sc : Scope) (e : Expr) (X : Cx), chkE T sc c e = true → Cok X T sc call → Ok3 X call c e
  | .var i, sc, e, X, h, C => by
    cases e with
    | Name x pos => exact .val (s_var C h) (fun _ => rfl) (fun _ _ _ q => nomatch q)
    | _ => cases h
  | .cst d, sc, e, X, h, C => by
    cases e with
    | Name x pos => exact .val (s_glo C h) (fun _ => rfl) (fun _ _ _ q => nomatch q)
    | Constant k j pos => exact .val (s_cst h) (fun _ => rfl) (fun _ _ _ q => nomatch q)
    | _ => cases h
  | .tup es, sc, e, X, h, C => by
    cases e with
    | Tuple xs k pos => exact .val (s_tup (okA es sc xs X h C).1) (fun _ => rfl) (fun _ _ _ q => nomatch q)
    | _ => cases h
  | .lst es, sc, e, X, h, C => by
    cases e with
    | List xs pos => exact .val (s_lst (okA es sc xs X h C).1) (fun _ => rfl) (fun _ _ _ q => nomatch q)
    | _ => cases h
  | .bin op a b, sc, e, X, h, C => by
    cases e with
    | BinOp x o y pos =>
      obtain ⟨h1, h2⟩ := and2 (show (decide (bopOf op = o) && (chkE T sc a x && chkE T sc b y)) = true from h)
      obtain ⟨h2, h3⟩ := and2 h2
      have e := of_decide_eq_true h1
      subst e
      exact .val (s_bin (okE a sc x X h2 C).pe (okE b sc y X h3 C).pe) (fun _ => rfl) (fun _ _ _ q => nomatch q)
    | _ => cases h
  | .neg a, sc, e, X, h, C => by
    cases e with
    | UnaryOp o x pos =>
      cases o with
      | USub => exact .val (s_neg (okE a sc x X h C).pe) (fun _ => rfl) (fun _ _ _ q => nomatch q)
      | _ => cases h
    | _ => cases h
  | .cmp op a b, sc, e, X, h, C => by
    cases e with
    | Compare x os ys pos =>
      match os, ys, h with
      | [o], [y], h =>
        obtain ⟨h1, h2⟩ := and2 (show (decide (copOf op = o) && (chkE T sc a x && chkE T sc b y)) = true from h)
        obtain ⟨h2, h3⟩ := and2 h2
        have e := of_decide_eq_true h1
        subst e
        have p := plainX_of h3
        have ka := (okE a sc x X h2 C).pe
        have kb := (okE b sc y X h3 C).pe
        exact ⟨s_cmp C.hu ka kb p, fun _ => s_cmpT C.hu ka kb p, fun _ _ _ q => nomatch q⟩
    | _ => cases h
  | .chn op op' a b c, sc, e, X, h, C => by
    cases e with
    | Compare x os ys pos =>
      match os, ys, h with
      | [o, o'], [y, z], h =>
        obtain ⟨h1, h2⟩ := and2 (show (decide (copOf op = o) && (decide (copOf op' = o') && (chkE T sc a x && (chkE T sc b y && chkE T sc c z)))) = true from h)
        obtain ⟨h2, h3⟩ := and2 h2
        obtain ⟨h3, h4⟩ := and2 h3
        obtain ⟨h4, h5⟩ := and2 h4
        have e1 := of_decide_eq_true h1
        have e2 := of_decide_eq_true h2
        subst e1 e2
        have p := plainX_of h5
        have ka := (okE a sc x X h3 C).pe
        have kb := (okE b sc y X h4 C).pe
        have kc := (okE c sc z X h5 C).pe
        have lm : lastMarks [copOf op, copOf op'] [y, z] = false := marks_of p
        exact ⟨PE.imp (pe_chain (op_cmp op C.hu) (op_cmp op' C.hu) ka kb kc lm) fun σ H Q w => chain_part w, fun _ => PT.imp (pt_chain (op_cmp op C.hu) (op_cmp op' C.hu) ka kb kc lm) fun σ H Q w => chain_part w, fun _ _ _ q => nomatch q⟩
    | _ => cases h
  | .isn ng a, sc, e, X, h, C => by
    cases e with
    | Compare x os ys pos =>
      match os, ys, h with
      | [o], [.Constant .none j p2], h =>
        obtain ⟨h1, h2⟩ := and2 (show (decide (o = if ng then .IsNot else .Is) && chkE T sc a x) = true from h)
        obtain ⟨k1, k2⟩ := s_isn (j := j) (p2 := p2) (pos := pos) (of_decide_eq_true h1) (okE a sc x X h2 C).pe
        exact ⟨k1, fun _ => k2, fun _ _ _ q => nomatch q⟩
    | _ => cases h
  | .isb b a, sc, e, X, h, C => by
    cases e with
    | Compare x os ys pos =>
      match os, ys, h with
      | [o], [.Constant (.bool c) j p2], h =>
        obtain ⟨h1, h2⟩ := and2 (show (decide (o = .Is) && (decide (b = c) && chkE T sc a x)) = true from h)
        obtain ⟨h2, h3⟩ := and2 h2
        have e1 := of_decide_eq_true h1
        have e2 := of_decide_eq_true h2
        subst e1 e2
        have ka := (okE a sc x X h3 C).pe
        have kb : PE X (.Constant (.bool b) j p2) (tE X.K call (.cst (.bl b))) := s_cst (by show (b == b) = true; exact beq_self_eq_true b)
        exact ⟨PE.imp (pe_cmpR op_isBl ka kb rfl) fun σ H Q w => isb_part w, fun _ => PT.imp (pt_cmpR op_isBl ka kb rfl) fun σ H Q w => isb_part w, fun _ _ _ q => nomatch q⟩
    | _ => cases h
  | .isi u a, sc, e, X, h, C => by
    cases e with
    | Call fe xs ks pos =>
      match fe, xs, ks, h with
      | .Name x p, [y, .Name t p2], [], h =>
        obtain ⟨h1, h2⟩ := and2 (show (decide (x = "isinstance") && (gloB sc x && (decide (t = tyStr u) && (gloB sc t && (decide (u ≠ .non) && chkE T sc a y))))) = true from h)
        obtain ⟨k2, h3⟩ := and2 h2
        obtain ⟨k3, h4⟩ := and2 h3
        obtain ⟨k4, h5⟩ := and2 h4
        obtain ⟨k5, h6⟩ := and2 h5
        have e1 := of_decide_eq_true h1
        have e2 := of_decide_eq_true k3
        subst e1 e2
        exact .val (s_isi C k2 (of_decide_eq_true k5) k4 (okE a sc y X h6 C).pe (plainX_of h6)) (fun _ => rfl) (fun _ _ _ q => nomatch q)
    | _ => cases h
  | .and a b, sc, e, X, h, C => by
    cases e with
    | BoolOp o xs pos =>
      match o, xs, h with
      | .And, [x, y], h =>
        obtain ⟨h1, h2⟩ := and2 (show (noIf x && (noIf y && (chkE T sc a x && chkE T sc b y))) = true from h)
        obtain ⟨h2, h3⟩ := and2 h2
        obtain ⟨h3, h4⟩ := and2 h3
        have ka := okE a sc x X h3 C
        have kb := okE b sc y X h4 C
        have kw : PW X (.BoolOp .And [x, y] pos) (tT X.K call (.and a b)) := ⟨fun wh pins s σ H Q I w => (pw_and (pos := pos) (ka.pt h1) (pw_and1 (kb.pt h2))).run wh pins s σ H Q I (and_test w)⟩
        exact ⟨PE.imp (pe_and (pos := pos) ka.pe (pe_one kb.pe)) fun σ H Q w => and_part w, fun _ => kw.pt, fun _ _ _ _ => kw⟩
      | .And, x :: y :: z :: r, h =>
        obtain ⟨h1, h2⟩ := and2 (show (noIf x && chkE T sc a x && chkE T sc b (.BoolOp .And (y :: z :: r) pos)) = true from h)
        obtain ⟨h1, h3⟩ := and2 h1
        have ka := okE a sc x X h3 C
        have kb := okE b sc _ X h2 C
        have kw : PW X (.BoolOp .And (x :: y :: z :: r) pos) (tT X.K call (.and a b)) := ⟨fun wh pins s σ H Q I w => (pw_and (pos := pos) (ka.pt h1) (kb.pw _ _ _ rfl)).run wh pins s σ H Q I (and_test w)⟩
        exact ⟨PE.imp (pe_and (pos := pos) ka.pe kb.pe) fun σ H Q w => and_part w, fun _ => kw.pt, fun _ _ _ _ => kw⟩
    | _ => cases h
  | .or a b, sc, e, X, h, C => by
    cases e with
    | BoolOp o xs pos =>
      match o, xs, h with
      | .Or, [x, y], h =>
        obtain ⟨h1, h2⟩ := and2 (show (noIf x && (noIf y && (chkE T sc a x && chkE T sc b y))) = true from h)
        obtain ⟨h2, h3⟩ := and2 h2
        obtain ⟨h3, h4⟩ := and2 h3
        have ka := okE a sc x X h3 C
        have kb := okE b sc y X h4 C
        have kw : PW X (.BoolOp .Or [x, y] pos) (tT X.K call (.or a b)) := ⟨fun wh pins s σ H Q I w => (pw_or (pos := pos) (ka.pt h1) (pw_or1 (kb.pt h2))).run wh pins s σ H Q I (or_test w)⟩
        exact ⟨PE.imp (pe_or (pos := pos) ka.pe (pe_one kb.pe)) fun σ H Q w => or_part w, fun _ => kw.pt, fun _ _ _ _ => kw⟩
      | .Or, x :: y :: z :: r, h =>
        obtain ⟨h1, h2⟩ := and2 (show (noIf x && chkE T sc a x && chkE T sc b (.BoolOp .Or (y :: z :: r) pos)) = true from h)
        obtain ⟨h1, h3⟩ := and2 h1
        have ka := okE a sc x X h3 C
        have kb := okE b sc _ X h2 C
        have kw : PW X (.BoolOp .Or (x :: y :: z :: r) pos) (tT X.K call (.or a b)) := ⟨fun wh pins s σ H Q I w => (pw_or (pos := pos) (ka.pt h1) (kb.pw _ _ _ rfl)).run wh pins s σ H Q I (or_test w)⟩
        exact ⟨PE.imp (pe_or (pos := pos) ka.pe kb.pe) fun σ H Q w => or_part w, fun _ => kw.pt, fun _ _ _ _ => kw⟩
    | _ => cases h
  | .not a, sc, e, X, h, C => by
    cases e with
    | UnaryOp o x pos =>
      cases o with
      | Not =>
        obtain ⟨h1, h2⟩ := and2 (show (noIf x && chkE T sc a x) = true from h)
        have ka := okE a sc x X h2 C
        exact ⟨PE.imp (pe_not ka.pe) fun σ H Q w => not_part w, fun _ => PT.imp (pt_not (ka.pt h1)) (fun σ H Q w => not_test w), fun _ _ _ q => nomatch q⟩
      | _ => cases h
    | _ => cases h
  | .ite c a b, sc, e, X, h, C => by
    cases e with
    | IfExp t x y pos =>
      obtain ⟨h1, h2⟩ := and2 (show (noIf t && (chkE T sc c t && (chkE T sc a x && chkE T sc b y))) = true from h)
      obtain ⟨h2, h3⟩ := and2 h2
      obtain ⟨h3, h4⟩ := and2 h3
      exact ⟨PE.imp (pe_ifExp ((okE c sc t X h2 C).pt h1) (okE a sc x X h3 C).pe (okE b sc y X h4 C).pe) fun σ H Q w => ite_part w, (fun q => nomatch q), fun _ _ _ q => nomatch q⟩
    | _ => cases h
  | .sub a i, sc, e, X, h, C => by
    cases e with
    | Subscript x y pos =>
      have h' : (chkE T sc a x && chkE T sc i y) = true := by
        cases y <;> first | exact h | (rename_i l u st p; cases st <;> exact h)
      obtain ⟨h1, h2⟩ := and2 h'
      exact .val (s_sub (okE a sc x X h1 C).pe (okE i sc y X h2 C).pe (plainX_of h2)) (fun _ => rfl) (fun _ _ _ q => nomatch q)
    | _ => cases h
  | .slc a lo hi, sc, e, X, h, C => by
    cases e with
    | Subscript x y pos =>
      match y, h with
      | .Slice l u none p2, h =>
        obtain ⟨h1, h2⟩ := and2 (show (chkE T sc a x && (chkO T sc lo l && chkO T sc hi u)) = true from h)
        obtain ⟨h2, h3⟩ := and2 h2
        exact .val (s_slc (okE a sc x X h1 C).pe (okO lo sc l X h2 C) (okO hi sc u X h3 C)) (fun _ => rfl) (fun _ _ _ q => nomatch q)
    | _ => cases h
  | .call f es, sc, e, X, h, C => by
    cases e with
    | Call fe xs ks pos =>
      match fe, xs, ks, h with
      | .Name x p, y :: ys, [], h =>
        obtain ⟨h1, h2⟩ := and2 (show (decide (T.fns[f]? = some x) && (gloB sc x && (okN x && chkA T sc es (y :: ys)))) = true from h)
        obtain ⟨h2, h3⟩ := and2 h2
        obtain ⟨h3, h4⟩ := and2 h3
        have ka := okA es sc (y :: ys) X h4 C
        exact .val (s_call C (of_decide_eq_true h1) h2 h3 ka.1 (ka.2.2 y ys rfl).1 (ka.2.2 y ys rfl).2) (fun _ => rfl) (fun _ _ _ q => nomatch q)
    | _ => cases h
  | .blt f es, sc, e, X, h, C => by
    cases e with
    | Call fe xs ks pos =>
      match fe, xs, ks, h with
      | .Name x p, y :: ys, [], h =>
        obtain ⟨h1, h2⟩ := and2 (show (decide (x = bltName f) && (gloB sc x && chkA T sc es (y :: ys))) = true from h)
        obtain ⟨h2, h3⟩ := and2 h2
        have e1 := of_decide_eq_true h1
        subst e1
        have ka := okA es sc (y :: ys) X h3 C
        exact .val (s_blt C h2 ka.2.1 (ka.2.2 y ys rfl).1 (ka.2.2 y ys rfl).2) (fun _ => rfl) (fun _ _ _ q => nomatch q)
    | _ => cases h
  | .pop o i, sc, e, X, h, C => by
    cases e with
    | Call fe xs ks pos =>
      match fe, xs, ks, h with
      | .Attribute ox nm apos, [x], [], h =>
        obtain ⟨h1, h2⟩ := and2 (show (decide (nm = "pop") && (chkE T sc o ox && (isNameE ox && (chkE T sc i x && (apos.endLine == pos.line))))) = true from h)
        obtain ⟨h2, h3⟩ := and2 h2
        obtain ⟨h3, h4⟩ := and2 h3
        obtain ⟨h4, h5⟩ := and2 h4
        have e1 := of_decide_eq_true h1
        subst e1
        exact .val (s_pop (okE o sc ox X h2 C).pe (r_cons (okE i sc x X h4 C).pe r_nil (plainX_of h4)) h3 (plainX_of h4) h5) (fun _ => rfl) (fun _ _ _ q => nomatch q)
    | _ => cases h
  | .lc own t src cond elt, sc, e, X, h, C => by
    cases e with
    | ListComp x gs scope pos =>
      match gs, h with
      | [⟨tg, it, ifs, 0⟩], h =>
        obtain ⟨h1, h2⟩ := and2 (show (blkC T.N sc scope (namesOf T.N own) && (tgIn own t && (decide ((namesOf T.N own).map (·.2) = own) && (chkTg T.N (relS scope sc) (locB scope) t tg && (chkSrc T sc src it (isTupE tg) && (chkIfs T (relS scope sc) cond ifs && chkE T (relS scope sc) elt x)))))) = true from h)
        obtain ⟨h2, h3⟩ := and2 h2
        obtain ⟨h3, h4⟩ := and2 h3
        obtain ⟨h4, h5⟩ := and2 h4
        obtain ⟨h5, h6⟩ := and2 h5
        obtain ⟨h6, h7⟩ := and2 h6
        have ks := okSrc src sc it (isTupE tg) tg X rfl h5 C
        exact .val (s_lc C h1 h2 (of_decide_eq_true h3) h4 ks.1 ks.2 (fun Y CY => okIfs cond _ ifs Y h6 CY) (fun Y CY => (okE elt _ x Y h7 CY).pe)) (fun _ => rfl) (fun _ _ _ q => nomatch q)
    | _ => cases h
theorem okO : ∀ (c : Ev.Eo) (sc : Scope) (e : Option Expr) (X : Cx), chkO T sc c e = true → Cok X T sc call → PO X e (tOb X.K call c)
  | .no, sc, none, X, h, C => o_no
  | .no, sc, some _, X, h, C => by cases h
  | .yes c, sc, some e, X, h, C => o_yes (okE c sc e X h C).pe
  | .yes c, sc, none, X, h, C => by cases h
theorem okIfs : ∀ (c : Ev.Eo) (sc : Scope) (ifs : List Expr) (X : Cx), chkIfs T sc c ifs = true → Cok X T sc call → PTs X ifs (tC' X.K call c)
  | .no, sc, [], X, h, C => c_no
  | .no, sc, _ :: _, X, h, C => by cases h
  | .yes c, sc, [], X, h, C => by cases h
  | .yes c, sc, [e], X, h, C => by
    obtain ⟨h1, h2⟩ := and2 (show (noIf e && chkE T sc c e) = true from h)
    exact c_yes ((okE c sc e X h2 C).pt h1)
  | .yes c, sc, _ :: _ :: _, X, h, C => by cases h
theorem okA : ∀ (cs : Ev.Es) (sc : Scope) (es : List Expr) (X : Cx), chkA T sc cs es = true → Cok X T sc call → PA X es (tA X.K call cs) ∧ PA X es (tR X.K call cs) ∧ ∀ y ys, es = y :: ys → plainX y = true ∧ ∀ {pos : Pos} {env : Env}, (backTo pos (starEach ys env)).any (·.1) = false
  | .nil, sc, [], X, h, C => ⟨a_nil, r_nil, fun y ys q => nomatch q⟩
  | .nil, sc, _ :: _, X, h, C => by cases h
  | .cons c cs, sc, [], X, h, C => by cases h
  | .cons c cs, sc, e :: es, X, h, C => by
    obtain ⟨h1, h2⟩ := and2 (show (chkE T sc c e && chkA T sc cs es) = true from h)
    have ke := (okE c sc e X h1 C).pe
    have ka := okA cs sc es X h2 C
    have p := plainX_of h1
    exact ⟨a_cons ke ka.1 p, r_cons ke ka.2.1 p, fun y ys q => by
      injection q with q1 q2
      subst q1 q2
      exact ⟨p, any_of h2⟩⟩
theorem okSrc : ∀ (c : Ev.Src) (sc : Scope) (e : Expr) (tp : Bool) (tg : Expr) (X : Cx), tp = isTupE tg → chkSrc T sc c e tp = true → Cok X T sc call → PI X tg e (tI X.K call c) ∧ plainX e = true
  | .e c, sc, e, tp, tg, X, ht, h, C => ⟨i_e (okE c sc e X h C).pe, plainX_of h⟩
  | .rng1 a, sc, e, tp, tg, X, ht, h, C => by
    cases e with
    | Call fe xs ks pos =>
      match fe, xs, ks, h with
      | .Name x p, [y], [], h =>
        obtain ⟨h1, h2⟩ := and2 (show (decide (x = "range") && (gloB sc x && chkE T sc a y)) = true from h)
        obtain ⟨h2, h3⟩ := and2 h2
        have e1 := of_decide_eq_true h1
        subst e1
        exact ⟨i_rng1 C h2 (okE a sc y X h3 C).pe (plainX_of h3), rfl⟩
    | _ => cases h
  | .rng2 a b, sc, e, tp, tg, X, ht, h, C => by
    cases e with
    | Call fe xs ks pos =>
      match fe, xs, ks, h with
      | .Name x p, [y, z], [], h =>
        obtain ⟨h1, h2⟩ := and2 (show (decide (x = "range") && (gloB sc x && (chkE T sc a y && chkE T sc b z))) = true from h)
        obtain ⟨h2, h3⟩ := and2 h2
        obtain ⟨h3, h4⟩ := and2 h3
        have e1 := of_decide_eq_true h1
        subst e1
        exact ⟨i_rng2 C h2 (okE a sc y X h3 C).pe (okE b sc z X h4 C).pe (plainX_of h3) (plainX_of h4), rfl⟩
    | _ => cases h
  | .rng3 a b c, sc, e, tp, tg, X, ht, h, C => by
    cases e with
    | Call fe xs ks pos =>
      match fe, xs, ks, h with
      | .Name x p, [y, z, u], [], h =>
        obtain ⟨h1, h2⟩ := and2 (show (decide (x = "range") && (gloB sc x && (chkE T sc a y && (chkE T sc b z && chkE T sc c u)))) = true from h)
        obtain ⟨h2, h3⟩ := and2 h2
        obtain ⟨h3, h4⟩ := and2 h3
        obtain ⟨h4, h5⟩ := and2 h4
        have e1 := of_decide_eq_true h1
        subst e1
        exact ⟨i_rng3 C h2 (okE a sc y X h3 C).pe (okE b sc z X h4 C).pe (okE c sc u X h5 C).pe (plainX_of h3) (plainX_of h4) (plainX_of h5), rfl⟩
    | _ => cases h
  | .zip a b, sc, e, tp, tg, X, ht, h, C => by
    cases e with
    | Call fe xs ks pos =>
      match fe, xs, ks, h with
      | .Name x p, [y, z], [], h =>
        obtain ⟨h0, h1⟩ := and2 (show (tp && (decide (x = "zip") && (gloB sc x && (chkE T sc a y && chkE T sc b z)))) = true from h)
        obtain ⟨h1, h2⟩ := and2 h1
        obtain ⟨h2, h3⟩ := and2 h2
        obtain ⟨h3, h4⟩ := and2 h3
        have e1 := of_decide_eq_true h1
        subst e1
        cases tg with
        | Tuple elts kk tpos => exact ⟨i_zip C h2 (okE a sc y X h3 C).pe (okE b sc z X h4 C).pe (plainX_of h3) (plainX_of h4), rfl⟩
        | _ => rw [ht] at h0; cases h0
    | _ => cases h
  | .enum a, sc, e, tp, tg, X, ht, h, C => by
    cases e with
    | Call fe xs ks pos =>
      match fe, xs, ks, h with
      | .Name x p, [y], [], h =>
        obtain ⟨h0, h1⟩ := and2 (show (tp && (decide (x = "enumerate") && (gloB sc x && chkE T sc a y))) = true from h)
        obtain ⟨h1, h2⟩ := and2 h1
        obtain ⟨h2, h3⟩ := and2 h2
        have e1 := of_decide_eq_true h1
        subst e1
        cases tg with
        | Tuple elts kk tpos => exact ⟨i_enum C h2 (okE a sc y X h3 C).pe (plainX_of h3), rfl⟩
        | _ => rw [ht] at h0; cases h0
    | _ => cases h
end
end
end EvS
/-! Ev10: *first, last = a tuple. -/
namespace EvS
open PySem PySem.Spec PyProof.Rows L2
theorem items_of {items : List Value} {acc : Array Value} (h : ItemsOf (fun i v => items.toArray[i]? = some v) acc items.length) : acc.toList = items := by
  obtain ⟨h1, h2⟩ := h
  apply List.ext_getElem?
  intro j
  by_cases hj : j < items.length
  · have hj' : j < acc.size := by omega
    have e : items.toArray[j]? = some acc[j] := h2 j acc[j] (by simp [hj'])
    rw [List.getElem?_toArray] at e
    rw [e]
    simp [hj']
  · rw [List.getElem?_eq_none (by rw [Array.length_toList]; omega), List.getElem?_eq_none (by omega)]
section
variable {prog : Program} {w : World} {A : Around} {E : Value → Shared → Prop} {s : Shared}
theorem unpack_star {t : Addr} {front : List Value} {l : Value} {Q : List Value → Shared → Prop} (hh : A.handled = none) (ht : IsTup s.heap t (front ++ [l]).toArray) (hz : front.length + 1 ≤ sizeLine)
    (hQ : ∀ s' : Shared, (∀ b o, s.heap.get? b = some o → s'.heap.get? b = some o) → s'.gens = s.gens → s'.os = s.os → Q [.ref s'.heap.objs.size, l] { s' with heap := s'.heap.push { cls := .type "list", data := .seq front.toArray } }) :
    wpAny (model prog w) A (unpackItems (.ref t) 2 (some 0)) Q E s := by
  have hlt : t ≠ s.heap.objs.size := by obtain ⟨o, ho, _⟩ := ht; exact Nat.ne_of_lt (Heap.lt_size ho)
  unfold unpackItems
  refine wpAny_bind ?_
  unfold notIterableAtAll
  refine wpAny_bind (wpAny_specialOf ht.typeIs slot_tuple_iter.lookup (wpAny_pure ?_))
  simp only [Bool.false_eq_true, if_false]
  refine wpAny_bind (wpAny_holding (iter_tuple ht ?_))
  refine wpAny_bind (wpAny_holding (wpAny_pure ?_))
  rw [if_neg (by decide)]
  have W := (Walks.tuple (prog := prog) (w := w) (A := A.in1) hh s.heap.objs.size t hlt (front ++ [l]).toArray).toS
  refine wpAny_bind (wpAny_holding (wpAny_collect_iter (T := "tuple_iterator") (.inr (.inr (.inr rfl))) W (fun i s' st => ?_) ?_ (fun b hb => ?_) ?_ (fun s' acc hm ha => ?_) ?_))
  · obtain ⟨⟨o, ho, hc, _⟩, _⟩ := st
    exact ⟨o, ho, hc⟩
  · exact ⟨⟨_, Heap.get?_push_size _ rfl, rfl, rfl⟩, ht.push _⟩
  · rw [Heap.size_push]
    rcases List.mem_cons.mp hb with e | hb
    · rw [e]; exact Nat.lt_succ_self _
    · have e : b = t := by simpa using hb
      rw [e]
      obtain ⟨o, ho, _⟩ := ht
      exact Nat.lt_succ_of_lt (Heap.lt_size ho)
  · simp
  · have ea : acc.toList = front ++ [l] := items_of (by simpa using ha)
    rw [ea]
    have l1 : (front ++ [l]).length = front.length + 1 := by simp
    rw [if_neg (by rw [l1]; omega)]
    have e1 : (front ++ [l]).length - (2 - 1 - 0) = front.length := by rw [l1]; omega
    rw [e1]
    have e2 : (front ++ [l]).take front.length = front := by simp
    have e3 : (front ++ [l]).drop front.length = [l] := by simp
    rw [e2, e3]
    refine wpAny_bind (wpAny_newObj_type (wpAny_pure ?_) (by show front.length ≤ sizeLine; omega))
    refine hQ s' (fun b o e => hm.heap b o (fun hb => ?_) (Heap.get?_push_of_some _ e)) hm.gens hm.os
    have e : b = s.heap.objs.size := by simpa using hb
    subst e
    exact Nat.lt_irrefl _ (Heap.lt_size (by assumption))
  · simpa using hz
end
section
variable {X : Cx} {pos : Pos}
/-- (*x, y) = a tuple: x a new list of all but the last -/
def gStar (K : PySem.W.Frag) (i j : Nat) : TG := fun v σ H Q => ∃ a xs l, v = .ref a ∧ SqT K H a (xs ++ [l]) ∧ ∀ p, H p = none → Q ((σ.set i (some (.ref p))).set j (some l)) (upd H p (.lst xs))
theorem pg_star {i j k : Nat} {ex ey : Expr} {ps : Pos} (hc : X.calm = true) (hx : PG X ex (gName i)) (hy : PG X ey (gName j)) (h1 : ∀ es, assignEach (ey :: es) X.env = (false, assign ey X.env) :: assignEach es X.env) : PG X (.Tuple [.Starred ex ps, ey] k pos) (gStar X.K i j) := by
  refine ⟨fun pins s σ H v u Q I r hw => ?_⟩
  obtain ⟨a, xs, l, rfl, hq, hw⟩ := hw
  cases r
  obtain ⟨its, rv, ht, hz⟩ := I.tuple hq
  obtain ⟨front, lv, rfl, rf, rl⟩ : ∃ front lv, its = front ++ [lv] ∧ Vals xs front ∧ RelV l lv := by
    have key : ∀ {ys : List V} {us : List Value}, Vals (ys ++ [l]) us → ∃ front lv, us = front ++ [lv] ∧ Vals ys front ∧ RelV l lv := by
      intro ys
      induction ys with
      | nil =>
        intro us r
        cases r with
        | cons r t => cases t; exact ⟨[], _, rfl, .nil, r⟩
      | cons y ys ih =>
        intro us r
        cases r with
        | cons r t =>
          obtain ⟨f, lv, rfl, r1, r2⟩ := ih t
          exact ⟨_ :: f, lv, rfl, .cons r r1, r2⟩
    exact key rv
  rw [assign_Tuple]
  have lx : xs.length = front.length := rf.length
  have hz' : front.length + 1 ≤ sizeLine := by
    rw [List.length_append, List.length_singleton] at hz
    omega
  refine wpAny_bind (wpAny_standAt ?_)
  have ea : assignEach [.Starred ex ps, ey] X.env = [(true, assign ex X.env), (false, assign ey X.env)] := by
    show (true, assign ex X.env) :: assignEach [ey] X.env = _
    rw [h1]; rfl
  unfold unpack
  rw [ea]
  refine wpAny_bind (wpAny_holding (unpack_star (I.ok.hd hc) ht hz' fun s' hk hg ho => ?_))
  have I1 : L2.Inv X pins σ H s' := by
    obtain ⟨h', g', d', t', o'⟩ := s'
    have e1 : g' = s.gens := hg
    have e2 : o' = s.os := ho
    subst e1 e2
    exact I.call (ch := []) (g' := s.gens) (d' := d') (t' := t') (Un.kept hk) (I.hok.kept hk) I.bare fun b z => absurd z (by simp)
  have np : H s'.heap.objs.size = none := I1.hok.fresh (Nat.le_refl _)
  have I2 : L2.Inv X pins σ (upd H s'.heap.objs.size (.lst xs)) { s' with heap := s'.heap.push { cls := .type "list", data := .seq front.toArray } } := by
    refine I1.laid (t' := s'.toks) (fun b o e => Heap.get?_push_of_some _ e) (Nat.le_refl _) ⟨by omega, front, 0, rf, Heap.get?_push_size _ rfl⟩
  show wpAny _ _ (assignInOrder [assign ex X.env, assign ey X.env] [.ref s'.heap.objs.size, lv]) _ _ _
  refine assignInOrder_cons (thn (hx.run pins _ σ _ (.ref s'.heap.objs.size) _ (fun σ1 H1 => σ1 = σ.set i (some (.ref s'.heap.objs.size)) ∧ H1 = upd H s'.heap.objs.size (.lst xs)) I2 rfl ⟨rfl, rfl⟩) fun _ s2 h2 => ?_)
  obtain ⟨σ1, H1, I3, rfl, rfl⟩ := h2
  refine assignInOrder_cons (thn (hy.run pins s2 _ _ l lv Q I3 rl (hw _ np)) fun _ s3 h3 => ?_)
  exact assignInOrder_nil h3
end
end EvS
/-! Ev11: statements: the check. -/
namespace EvS
open PySem PySem.Spec PyProof.Rows L2

/-! ### stores of a tuple of names -/
def isStarE : Expr → Bool
  | .Starred .. => true
  | _ => false
def nameAt (lk : Str → Option NameKind) (line : Nat) : Expr → Option Str
  | .Name id pos => if lk id == some .local && pos.line == line then some id else none
  | _ => none
def swapSt (lk : Str → Option NameKind) (ts vs : List Expr) : Option (Option (List Str)) :=
  if (!(ts.length == 2 || ts.length == 3) || vs.length != ts.length) = true then some none
  else if (vs.any isStarE) = true then some none
  else if ((ts.filterMap (nameAt lk ((ts.head?.map (·.pos.line)).getD 0))).length != ts.length || (ts.filterMap (nameAt lk ((ts.head?.map (·.pos.line)).getD 0))).eraseDups.length != (ts.filterMap (nameAt lk ((ts.head?.map (·.pos.line)).getD 0))).length) = true then some none
  else if (vs.all (foldedForSure 8)) = true then some none
  else if (vs.all (constantsAlone 8)) = true then none
  else some (some (ts.filterMap (nameAt lk ((ts.head?.map (·.pos.line)).getD 0))))
def swapSem (lk : Str → Option NameKind) (ts vs : List Expr) : Sem (Option (List Str)) :=
  if (!(ts.length == 2 || ts.length == 3) || vs.length != ts.length) = true then pure none
  else if (vs.any isStarE) = true then pure none
  else if ((ts.filterMap (nameAt lk ((ts.head?.map (·.pos.line)).getD 0))).length != ts.length || (ts.filterMap (nameAt lk ((ts.head?.map (·.pos.line)).getD 0))).eraseDups.length != (ts.filterMap (nameAt lk ((ts.head?.map (·.pos.line)).getD 0))).length) = true then pure none
  else if (vs.all (foldedForSure 8)) = true then pure none
  else if (vs.all (constantsAlone 8)) = true then (do unsupported "assign.tuple-of-constant-expressions:order-of-the-stores"; pure (some (ts.filterMap (nameAt lk ((ts.head?.map (·.pos.line)).getD 0)))))
  else pure (some (ts.filterMap (nameAt lk ((ts.head?.map (·.pos.line)).getD 0))))
theorem swapSem_eq {env : Env} {ts vs : List Expr} {k k2 : Nat} {p p2 : Pos} (hb : env.blockKind = .function) : swappedStores [.Tuple ts k p] (.Tuple vs k2 p2) env = swapSem env.kindOf ts vs := by
  unfold swappedStores
  simp only [hb, bne_self_eq_false, Bool.or_false]
  rfl
theorem swapSt_ok {env : Env} {ts vs : List Expr} {k k2 : Nat} {p p2 : Pos} {r : Option (List Str)} (hb : env.blockKind = .function) (h : swapSt env.kindOf ts vs = some r) : swappedStores [.Tuple ts k p] (.Tuple vs k2 p2) env = pure r := by
  rw [swapSem_eq hb]
  unfold swapSem
  unfold swapSt at h
  split at h
  · rename_i c
    cases h
    rw [if_pos c]
  · rename_i c
    rw [if_neg c]
    split at h
    · rename_i c
      cases h
      rw [if_pos c]
    · rename_i c
      rw [if_neg c]
      split at h
      · rename_i c
        cases h
        rw [if_pos c]
      · rename_i c
        rw [if_neg c]
        split at h
        · rename_i c
          cases h
          rw [if_pos c]
        · rename_i c
          rw [if_neg c]
          split at h
          · cases h
          · rename_i c
            rw [if_neg c]
            cases h
            rfl
end EvS
/-! Ev12: statements. -/
namespace EvS
open PySem PySem.Spec PyProof.Rows L2

/-! ### the check -/
def notComp : Expr → Bool
  | .ListComp .. => false
  | .SetComp .. => false
  | .DictComp .. => false
  | _ => true
def lcSw (sc : Scope) (x : Str) (px : Pos) : Expr → Bool
  | .ListComp _ _ s p => sc.names.lookup x == some .local && px.line == p.line && !(s.names.any fun (n, k) => n == x && (k == .local || k == .cell))
  | _ => false
def isLcE : Expr → Bool
  | .ListComp .. => true
  | _ => false
def localB (sc : Scope) (x : Str) : Bool := decide (sc.names.lookup x = some .local)
def parOk (sc : Scope) (ts vs : List Expr) : Bool := match swapSt (fun x => sc.names.lookup x) ts vs, ts, vs with
  | some none, _, _ => true
  | some (some ns), [.Name x _, .Name y _], [_, _] => decide (ns = [x, y]) && (localB sc x && localB sc y)
  | some (some ns), [.Name x _, .Name y _, .Name z _], [_, _, _] => decide (ns = [x, y, z]) && (localB sc x && (localB sc y && localB sc z))
  | _, _, _ => false
abbrev allOk : Str → Bool := fun _ => true
mutual
def chkS (T : Tx) (sc : Scope) : Ev.S → Stmt → Bool
  | .pass, .Pass _ => true
  | .expr e, .Expr x _ => chkE T sc e x && notComp x
  | .asg (.tg (.var i)) e, .Assign [.Name x px] v _ => chkName T.N sc allOk i (.Name x px) && (chkE T sc e v && (notComp v || isLcE v))
  | .asg (.tg (.tup is)) e, .Assign [.Tuple ts k p] v _ => chkTg T.N sc allOk (.tup is) (.Tuple ts k p) && (chkE T sc e v && !isTupE v)
  | .asg (.sub o i) e, .Assign [.Subscript ox ix p] v _ => chkE T sc o ox && (chkE T sc i ix && chkE T sc e v)
  | .asg (.star i j) e, .Assign [.Tuple [.Starred ex _, ey] _ _] v _ => chkName T.N sc allOk i ex && (chkName T.N sc allOk j ey && (chkE T sc e v && !isTupE v))
  | .par is es, .Assign [.Tuple ts k p] (.Tuple vs k2 p2) _ => decide (is.Nodup ∧ is.length ≤ 100) && (chkNames T.N sc allOk is ts && (chkA T sc es vs && parOk sc ts vs))
  | .aug i op e, .AugAssign (.Name x px) o v _ => chkName T.N sc allOk i (.Name x px) && (decide (bopOf op = o) && chkE T sc e v)
  | .append o e, .Expr (.Call (.Attribute ox nm apos) [x] [] cpos) _ => decide (nm = "append") && (chkE T sc o ox && (isNameE ox && (chkE T sc e x && (apos.endLine == cpos.line))))
  | .extend o e, .Expr (.Call (.Attribute ox nm apos) [x] [] cpos) _ => decide (nm = "extend") && (chkE T sc o ox && (isNameE ox && (chkE T sc e x && (apos.endLine == cpos.line))))
  | .ret e, .Return (some x) _ => chkE T sc e x
  | .ret0, .Return none _ => true
  | .if_ c a b, .If t xs ys _ => noIf t && (chkE T sc c t && (chkSs T sc a xs && chkSs T sc b ys))
  | .for_ t src b, .For tg it body [] _ => chkTg T.N sc allOk t tg && (chkSrc T sc src it (isTupE tg) && chkSs T sc b body)
  | .brk, .Break _ => true
  | .cont, .Continue _ => true
  | .never, _ => true
  | _, _ => false
def chkSs (T : Tx) (sc : Scope) : Ev.Ss → List Stmt → Bool
  | .nil, [] => true
  | .cons s ss, x :: xs => chkS T sc s x && chkSs T sc ss xs
  | _, _ => false
end

/-! ### readings -/
def Flw (K : PySem.W.Frag) (D : Ends) (ρ : Ix) (H : Hp) (fl : Ev.Fl) (st' : Ev.St) : Prop := match fl with
  | .nx env' => ∀ ρ' H' σ', Grow ρ H ρ' H' → RepS K ρ' H' st' → RepE K ρ' H' env' σ' → D.nx σ' H'
  | .bk env' => ∀ ρ' H' σ', Grow ρ H ρ' H' → RepS K ρ' H' st' → RepE K ρ' H' env' σ' → D.bk σ' H'
  | .ct env' => ∀ ρ' H' σ', Grow ρ H ρ' H' → RepS K ρ' H' st' → RepE K ρ' H' env' σ' → D.ct σ' H'
  | .rt v => Then K ρ H v st' D.rt
theorem Flw.after {K : PySem.W.Frag} {D : Ends} {ρ ρ1 : Ix} {H H1 : Hp} {fl : Ev.Fl} {st st' : Ev.St} (f : Flw K D ρ H fl st') (g : Grow ρ H ρ1 H1) (s : RepS K ρ1 H1 st) : Flw K D ρ1 H1 fl st' := by
  cases fl with
  | nx env => exact fun ρ2 H2 σ2 g2 => f ρ2 H2 σ2 (g.trans g2)
  | bk env => exact fun ρ2 H2 σ2 g2 => f ρ2 H2 σ2 (g.trans g2)
  | ct env => exact fun ρ2 H2 σ2 g2 => f ρ2 H2 σ2 (g.trans g2)
  | rt v => exact fun ρ2 H2 σ2 g2 s2 r2 n2 => f ρ2 H2 σ2 (g.trans g2) s2 r2 (g.nw s n2)
section
variable (K : PySem.W.Frag) (call : Nat → List Ev.D → Ev.M Ev.Rv)
def tSt (c : Ev.S) : TS := fun D σ H => ∃ ρ env st fl st', RepS K ρ H st ∧ RepE K ρ H env σ ∧ Ev.evS call c env st = .ok fl st' ∧ Flw K D ρ H fl st'
def tSs (c : Ev.Ss) : TS := fun D σ H => ∃ ρ env st fl st', RepS K ρ H st ∧ RepE K ρ H env σ ∧ Ev.evSs call c env st = .ok fl st' ∧ Flw K D ρ H fl st'
end
theorem PS.imp {X : Cx} {st : Stmt} {t t' : TS} (h : PS X st t) (i : ∀ D σ H, t' D σ H → t D σ H) : PS X st t' := ⟨fun pins s σ H D I w => h.run pins s σ H D I (i D σ H w)⟩
theorem PSs.imp {X : Cx} {st : List Stmt} {t t' : TS} (h : PSs X st t) (i : ∀ D σ H, t' D σ H → t D σ H) : PSs X st t' := ⟨fun pins s σ H D I w => h.run pins s σ H D I (i D σ H w)⟩
structure SCok (X : Cx) (T : Tx) (scp : Scope) (call : Nat → List Ev.D → Ev.M Ev.Rv) : Prop extends Cok X T scp call where
  fnc : ∀ x, X.fn x = true
  kind : scp.kind = .function
  po : PassesOwn (model X.prog X.w) X.A X.env X.xe
section
variable {X : Cx} {T : Tx} {sc : Scope} {call : Nat → List Ev.D → Ev.M Ev.Rv} {e v : Expr} {ce : Ev.E} {pos : Pos}
theorem SCok.blockKind (C : SCok X T sc call) : X.env.blockKind = .function := by
  unfold Env.blockKind
  rw [C.toCok.sc, C.kind]
  rfl
theorem swapsNo {t : Option Expr} {l : Nat} {env : Env} (h : notComp v = true) : swapsWith v t l env = pure false := by
  cases v <;> first | rfl | exact absurd h Bool.false_ne_true
theorem q_pass : PS X (.Pass pos) (tSt X.K call .pass) := PS.imp ps_pass fun D σ H w => by
  obtain ⟨ρ, env, st, fl, st', hs, he, ev, q⟩ := w
  cases ev
  exact q ρ H σ .refl hs he
theorem q_brk : PS X (.Break pos) (tSt X.K call .brk) := PS.imp ps_break fun D σ H w => by
  obtain ⟨ρ, env, st, fl, st', hs, he, ev, q⟩ := w
  cases ev
  exact q ρ H σ .refl hs he
theorem q_cont : PS X (.Continue pos) (tSt X.K call .cont) := PS.imp ps_continue fun D σ H w => by
  obtain ⟨ρ, env, st, fl, st', hs, he, ev, q⟩ := w
  cases ev
  exact q ρ H σ .refl hs he
theorem q_never {s : Stmt} : PS X s (tSt X.K call .never) := PS.imp ps_never fun D σ H w => by
  obtain ⟨ρ, env, st, fl, st', hs, he, ev, q⟩ := w
  cases ev
theorem q_ret0 : PS X (.Return none pos) (tSt X.K call .ret0) := PS.imp ps_retN fun D σ H w => by
  obtain ⟨ρ, env, st, fl, st', hs, he, ev, q⟩ := w
  cases ev
  exact q ρ H .non .refl hs (by show Rep X.K ρ H .non _; rw [Rep]) trivial
theorem q_ret (h : PE X e (tE X.K call ce)) : PS X (.Return (some e) pos) (tSt X.K call (.ret ce)) := PS.imp (ps_ret h) fun D σ H w => by
  obtain ⟨ρ, env, st, fl, st', hs, he, ev, q⟩ := w
  obtain ⟨x, st1, e1, ev⟩ := bind_inv (show ((Ev.evE call ce env st).bind _) = _ from ev)
  cases ev
  exact ⟨ρ, env, st, x, st', hs, he, e1, q⟩
theorem q_expr (h : PE X e (tE X.K call ce)) (nc : notComp e = true) : PS X (.Expr e pos) (tSt X.K call (.expr ce)) := PS.imp (ps_expr h (swapsNo nc)) fun D σ H w => by
  obtain ⟨ρ, env, st, fl, st', hs, he, ev, q⟩ := w
  obtain ⟨x, st1, e1, ev⟩ := bind_inv (show ((Ev.evE call ce env st).bind _) = _ from ev)
  cases ev
  exact ⟨ρ, env, st, x, st', hs, he, e1, fun ρ1 H1 v g1 s1 r1 n1 => q ρ1 H1 σ g1 s1 (he.mono g1)⟩
theorem q_if {a b : List Stmt} {ca cb : Ev.Ss} (hc : PT X e (tT X.K call ce)) (ha : PSs X a (tSs X.K call ca)) (hb : PSs X b (tSs X.K call cb)) : PS X (.If e a b pos) (tSt X.K call (.if_ ce ca cb)) := PS.imp (ps_if hc ha hb) fun D σ H w => by
  obtain ⟨ρ, env, st, fl, st', hs, he, ev, q⟩ := w
  obtain ⟨x, st1, e1, ev⟩ := bind_inv (show ((Ev.evE call ce env st).bind _) = _ from ev)
  refine ⟨ρ, env, st, x, st1, hs, he, e1, fun ρ1 H1 v g1 s1 r1 n1 => ?_⟩
  split at ev
  · exact ⟨true, Rep.toBl r1, iteT ⟨ρ1, env, st1, fl, st', s1, he.mono g1, ev, q.after g1 s1⟩⟩
  · exact ⟨false, Rep.toBl r1, iteF ⟨ρ1, env, st1, fl, st', s1, he.mono g1, ev, q.after g1 s1⟩⟩
  · cases ev
theorem q_nil : PSs X [] (tSs X.K call .nil) := PSs.imp pss_nil fun D σ H w => by
  obtain ⟨ρ, env, st, fl, st', hs, he, ev, q⟩ := w
  cases ev
  exact q ρ H σ .refl hs he
theorem q_cons {s : Stmt} {ss : List Stmt} {c : Ev.S} {cs : Ev.Ss} (h : PS X s (tSt X.K call c)) (hr : PSs X ss (tSs X.K call cs)) : PSs X (s :: ss) (tSs X.K call (.cons c cs)) := PSs.imp (pss_cons h hr) fun D σ H w => by
  obtain ⟨ρ, env, st, fl, st', hs, he, ev, q⟩ := w
  obtain ⟨f, st1, e1, ev⟩ := bind_inv (show ((Ev.evS call c env st).bind _) = _ from ev)
  refine ⟨ρ, env, st, f, st1, hs, he, e1, ?_⟩
  cases f with
  | nx env1 => exact fun ρ1 H1 σ1 g1 s1 r1 => ⟨ρ1, env1, st1, fl, st', s1, r1, ev, q.after g1 s1⟩
  | bk env1 => cases ev; exact q
  | ct env1 => cases ev; exact q
  | rt v => cases ev; exact q

/-! ### stores -/
section
variable {i : Nat} {tg : Expr}
theorem swNm (C : SCok X T sc call) {x : Str} {px : Pos} {l : Nat} (h : isLcE v = true) : swapsWith v (some (.Name x px)) l X.env = pure (lcSw sc x px v) := by
  cases v with
  | ListComp elt gs s p =>
    unfold swapsWith lcSw
    simp only [C.blockKind]
    show (pure _ : Sem Bool) = _
    congr 1
    have e1 : X.env.kindOf x = sc.names.lookup x := by rw [← C.toCok.sc]; rfl
    rw [e1]
    rfl
  | _ => cases h
theorem chk_loc {N : List Str} {ok : Str → Bool} {x : Str} {px : Pos} (h : chkName N sc ok i (.Name x px) = true) : N[i]? = some x ∧ Loc sc x := by
  obtain ⟨h1, h2⟩ := and2 (show (decide (N[i]? = some x) && (locB sc x && ok x)) = true from h)
  obtain ⟨h2, h3⟩ := and2 h2
  unfold locB at h2
  refine ⟨of_decide_eq_true h1, ?_⟩
  split at h2
  · rename_i q; exact .inl q
  · rename_i q; exact .inr q
  · cases h2
theorem asg_part {te : TE} {D : Ends} {σ : L2.St} {H : Hp} (hp : ∀ Q : VK, tE X.K call ce σ H Q → te σ H Q) (w : tSt X.K call (.asg (.tg (.var i)) ce) D σ H) : tAsg te (gName i) D σ H := by
  obtain ⟨ρ, env, st, fl, st', hs, he, ev, q⟩ := w
  obtain ⟨x, st1, e1, ev⟩ := bind_inv (show ((Ev.evE call ce env st).bind _) = _ from ev)
  obtain ⟨d, st2, e2, ev⟩ := bind_inv ev
  cases ev
  refine hp _ ⟨ρ, env, st, x, st1, hs, he, e1, fun ρ1 H1 v g1 s1 r1 n1 => ?_⟩
  obtain ⟨ρ2, g2, _, s2, r2, _⟩ := mat_ok g1 s1 r1 n1 e2
  exact q ρ2 H1 _ g2 s2 ((he.mono g2).set r2)
theorem q_set {x : Str} {px : Pos} (C : SCok X T sc call) (hn : chkName T.N sc allOk i (.Name x px) = true) (h : PE X v (tE X.K call ce)) (nc : notComp v = true) : PS X (.Assign [.Name x px] v pos) (tSt X.K call (.asg (.tg (.var i)) ce)) := by
  obtain ⟨h1, h2⟩ := chk_loc hn
  exact PS.imp (ps_set (by rw [C.N]; exact C.nd) (by rw [C.N]; exact h1) (by rw [C.toCok.sc]; exact h2) h (swapsNo nc) (.inl (C.fnc x))) fun D σ H w => asg_part (fun Q z => z) w
theorem q_asgTup {is : List Nat} {ts : List Expr} {k : Nat} {p : Pos} (C : SCok X T sc call) (ht : chkTg T.N sc allOk (.tup is) (.Tuple ts k p) = true) (h : PE X v (tE X.K call ce)) (nt : isTupE v = false) : PS X (.Assign [.Tuple ts k p] v pos) (tSt X.K call (.asg (.tg (.tup is)) ce)) := by
  refine PS.imp (ps_asg h (g_tg C.calm C.N C.nd C.toCok.sc (fun x _ _ => C.fnc x) ht) ?_ ?_ rfl) fun D σ H w => ?_
  · cases v <;> rfl
  · cases v <;> first | rfl | cases nt
  · obtain ⟨ρ, env, st, fl, st', hs, he, ev, q⟩ := w
    obtain ⟨x, st1, e1, ev⟩ := bind_inv (show ((Ev.evE call ce env st).bind _) = _ from ev)
    obtain ⟨d, st2, e2, ev⟩ := bind_inv ev
    refine ⟨ρ, env, st, x, st1, hs, he, e1, fun ρ1 H1 v g1 s1 r1 n1 => ?_⟩
    obtain ⟨ρ2, g2, _, s2, r2, _⟩ := mat_ok g1 s1 r1 n1 e2
    split at ev
    · rename_i env' es
      cases ev
      exact ⟨ρ2, env, d, env', he.mono g2, r2, es, fun σ' r _ _ => q ρ2 H1 σ' g2 s2 r⟩
    · cases ev
theorem q_sub {ox ix : Expr} {co ci : Ev.E} {p : Pos} (ho : PE X ox (tE X.K call co)) (hi : PE X ix (tE X.K call ci)) (h : PE X v (tE X.K call ce)) (pix : plainX ix = true) : PS X (.Assign [.Subscript ox ix p] v pos) (tSt X.K call (.asg (.sub co ci) ce)) := by
  refine PS.imp (ps_asg h (pg_sub ho hi set_list (by intro z; cases ix <;> first | rfl | cases pix)) ?_ ?_ rfl) fun D σ H w => ?_
  · cases v <;> rfl
  · cases v <;> rfl
  · obtain ⟨ρ, env, st, fl, st', hs, he, ev, q⟩ := w
    obtain ⟨x, st1, e1, ev⟩ := bind_inv (show ((Ev.evE call ce env st).bind _) = _ from ev)
    obtain ⟨d, st2, e2, ev⟩ := bind_inv ev
    obtain ⟨y, st3, e3, ev⟩ := bind_inv ev
    obtain ⟨z, st4, e4, ev⟩ := bind_inv ev
    refine ⟨ρ, env, st, x, st1, hs, he, e1, fun ρ1 H1 v g1 s1 r1 n1 => ?_⟩
    obtain ⟨ρ2, g2, _, s2, r2, _⟩ := mat_ok g1 s1 r1 n1 e2
    refine ⟨ρ2, env, st2, y, st3, s2, he.mono g2, e3, fun ρ3 H3 vo g3 s3 r3 n3 => ?_⟩
    refine ⟨ρ3, env, st3, z, st4, s3, (he.mono g2).mono g3, e4, fun ρ4 H4 vi g4 s4 r4 n4 => ?_⟩
    split at ev
    · rename_i pn ds k em
      split at ev
      · split at ev
        · rename_i j ej
          obtain ⟨u, st5, e5, ev⟩ := bind_inv ev
          cases ev
          obtain ⟨a, xs, rfl, ea, hl, rl⟩ := mut_ok s4 em (r3.mono g4)
          have r4 : Rep X.K ρ4 H4 (.int k) vi := r4
          rw [Rep] at r4
          subst r4
          obtain ⟨g5, s5⟩ := put_ok s4 ea hl (rl.set ((r2.mono g3).mono g4) j) e5
          refine ⟨a, xs, k, j, rfl, rfl, hl, by rw [← rl.length]; exact ej, ?_⟩
          have gA := g2.trans (g3.trans (g4.trans g5))
          exact q ρ4 _ σ gA s5 (he.mono gA)
        · cases ev
      · cases ev
    · cases ev
theorem q_star {j : Nat} {ex ey : Expr} {k : Nat} {ps p : Pos} (C : SCok X T sc call) (hx : chkName T.N sc allOk i ex = true) (hy : chkName T.N sc allOk j ey = true) (h : PE X v (tE X.K call ce)) (nt : isTupE v = false) : PS X (.Assign [.Tuple [.Starred ex ps, ey] k p] v pos) (tSt X.K call (.asg (.star i j) ce)) := by
  refine PS.imp (ps_asg h (pg_star C.calm (g_name C.N C.nd C.toCok.sc (fun x _ _ => C.fnc x) hx) (g_name C.N C.nd C.toCok.sc (fun x _ _ => C.fnc x) hy) (fun es => name_star hy)) ?_ ?_ rfl) fun D σ H w => ?_
  · cases v <;> rfl
  · cases v <;> first | rfl | cases nt
  · obtain ⟨ρ, env, st, fl, st', hs, he, ev, q⟩ := w
    obtain ⟨x, st1, e1, ev⟩ := bind_inv (show ((Ev.evE call ce env st).bind _) = _ from ev)
    refine ⟨ρ, env, st, x, st1, hs, he, e1, fun ρ1 H1 v g1 s1 r1 n1 => ?_⟩
    dsimp only at ev
    split at ev
    · rename_i ds
      split at ev
      · rename_i l el
        split at ev
        · rename_i hbig
          obtain ⟨pn, st2, e2, ev⟩ := bind_inv ev
          cases ev
          obtain ⟨a, xs, rfl, hq, rl⟩ := Rep.toTup r1
          have hd : ds = ds.dropLast ++ [l] := by
            have hne : ds ≠ [] := fun z => by subst z; cases el
            have e3 := List.getLast?_eq_some_getLast hne
            rw [el] at e3
            injection e3 with e3
            rw [e3]
            exact (List.dropLast_concat_getLast hne).symm
          have rl2 := rl
          rw [hd] at rl2
          obtain ⟨ys, z, rfl, ry, rz⟩ : ∃ ys z, xs = ys ++ [z] ∧ RepL X.K ρ1 H1 ds.dropLast ys ∧ Rep X.K ρ1 H1 l z := by
            have key : ∀ {es : List Ev.D} {xs : List V}, RepL X.K ρ1 H1 (es ++ [l]) xs → ∃ ys z, xs = ys ++ [z] ∧ RepL X.K ρ1 H1 es ys ∧ Rep X.K ρ1 H1 l z := by
              intro es
              induction es with
              | nil =>
                intro xs r
                obtain ⟨z, t, rfl, h1, h2⟩ := RepL.ofCons r
                rw [h2.ofNil]
                exact ⟨[], z, rfl, repL_nil, h1⟩
              | cons e es ih =>
                intro xs r
                obtain ⟨z, t, rfl, h1, h2⟩ := RepL.ofCons r
                obtain ⟨ys, z', rfl, h3, h4⟩ := ih h2
                exact ⟨z :: ys, z', rfl, repL_cons h1 h3, h4⟩
            exact key rl2
          refine ⟨a, ys, z, rfl, hq, fun pa hpa => ?_⟩
          have gu : Grow ρ1 H1 ρ1 (upd H1 pa (.lst ys)) := Grow.upd hpa s1
          have em : Ev.mat (.tmp ds.dropLast) st1 = .ok (.ref pn) st' := by
            cases e2
            rfl
          obtain ⟨ρ2, g2, _, s2, r2, _⟩ := mat_ok (st := st1) (rv := Ev.Rv.tmp ds.dropLast) (v := V.ref pa) gu (s1.upd hpa) ⟨pa, ys, rfl, upd_same, s1.fresh hpa, ry.mono gu⟩ ⟨pa, rfl, hpa⟩ em
          exact q ρ2 _ _ (g1.trans g2) s2 (((he.mono (g1.trans g2)).set r2).set (rz.mono g2))
        · cases ev
      · cases ev
    · cases ev
theorem q_aug {x : Str} {px : Pos} {op : Ev.Bop} (C : SCok X T sc call) (hn : chkName T.N sc allOk i (.Name x px) = true) (h : PE X v (tE X.K call ce)) : PS X (.AugAssign (.Name x px) (bopOf op) v pos) (tSt X.K call (.aug i op ce)) := by
  obtain ⟨h1, h2⟩ := chk_loc hn
  have key : ∀ {o : Operator} {f : Int → Int → Int} {D : Ends} {σ : L2.St} {H : Hp}, (∀ a b c, Ev.augI op a b = some c → c = f a b) → tSt X.K call (.aug i op ce) D σ H → tAug i (tE X.K call ce) (ipI f) D σ H := by
    intro o f D σ H hf w
    obtain ⟨ρ, env, st, fl, st', hs, he, ev, q⟩ := w
    simp only [Ev.evS] at ev
    split at ev
    · rename_i d ed
      have ed' : env[i]? = some (some d) := by
        unfold Ev.getV at ed
        cases q : env[i]? with
        | none => rw [q] at ed; cases ed
        | some o => rw [q] at ed; cases o with
          | none => cases ed
          | some z => cases ed; rfl
      obtain ⟨v0, ev0, rv0⟩ := he.val i d ed'
      obtain ⟨y, st1, e1, ev⟩ := bind_inv ev
      refine ⟨v0, ev0, ρ, env, st, y, st1, hs, he, e1, fun ρ1 H1 vy g1 s1 r1 n1 => ?_⟩
      split at ev
      · rename_i a b _
        rw [Rep] at rv0
        subst rv0
        have r1 : Rep X.K ρ1 H1 (.int b) vy := r1
        rw [Rep] at r1
        subst r1
        refine ⟨a, b, rfl, rfl, ?_⟩
        have fin : ∀ c, c = f a b → Ev.Res.ok (Ev.Fl.nx (env.set i (some (.int c)))) st1 = .ok fl st' → D.nx (σ.set i (some (.int (f a b)))) H1 := by
          intro c ec e
          cases e
          subst ec
          exact q ρ1 H1 _ g1 s1 ((he.mono g1).set (by rw [Rep]))
        split at ev
        · rename_i c ec
          exact fin c (hf a b c ec) ev
        · cases ev
      · cases ev
    · cases ev
  cases op with
  | add => exact PS.imp (ps_aug (by rw [C.N]; exact C.nd) (by rw [C.N]; exact h1) (by rw [C.toCok.sc]; exact h2) h ip_add (.inl (C.fnc x))) fun D σ H w => key (o := .Add) (fun a b c e => by cases e; rfl) w
  | sub => exact PS.imp (ps_aug (by rw [C.N]; exact C.nd) (by rw [C.N]; exact h1) (by rw [C.toCok.sc]; exact h2) h ip_sub (.inl (C.fnc x))) fun D σ H w => key (o := .Sub) (fun a b c e => by cases e; rfl) w
  | _ =>
    refine PS.imp ps_never fun D σ H w => ?_
    obtain ⟨ρ, env, st, fl, st', hs, he, ev, q⟩ := w
    have ev := ev
    simp only [Ev.evS] at ev
    split at ev
    · obtain ⟨y, st1, e1, ev⟩ := bind_inv ev
      split at ev <;> cases ev
    · cases ev
end
end
end EvS
/-! Ev13: more statements. -/
namespace EvS
open PySem PySem.Spec PyProof.Rows L2
section
variable {X : Cx} {T : Tx} {sc : Scope} {call : Nat → List Ev.D → Ev.M Ev.Rv} {e v : Expr} {ce : Ev.E} {pos : Pos} {i : Nat} {tg : Expr}

/-! ### a, b = x, y -/
theorem names_of {N : List Str} {ok : Str → Bool} {is : List Nat} {t : Expr} {ts : List Expr} (h : chkNames N sc ok is (t :: ts) = true) : ∃ i ir, is = i :: ir ∧ chkName N sc ok i t = true ∧ chkNames N sc ok ir ts = true := by
  cases is with
  | nil => cases h
  | cons i ir =>
    obtain ⟨h1, h2⟩ := and2 (show (chkName N sc ok i t && chkNames N sc ok ir ts) = true from h)
    exact ⟨i, ir, rfl, h1, h2⟩
theorem names_nil {N : List Str} {ok : Str → Bool} {is : List Nat} (h : chkNames N sc ok is [] = true) : is = [] := by
  cases is with
  | nil => rfl
  | cons i ir => cases h
theorem q_par {is : List Nat} {ces : Ev.Es} {ts vs : List Expr} {k k2 : Nat} {p p2 : Pos} (C : SCok X T sc call) (nd : is.Nodup) (h100 : is.length ≤ 100) (hn : chkNames T.N sc allOk is ts = true) (ha : PA X vs (tA X.K call ces)) (hp : parOk sc ts vs = true) :
    PS X (.Assign [.Tuple ts k p] (.Tuple vs k2 p2) pos) (tSt X.K call (.par is ces)) := by
  have ek : X.env.kindOf = fun x => sc.names.lookup x := by
    funext x
    show X.env.scope.names.lookup x = _
    rw [C.toCok.sc]
  have lb := line_big
  have hbig : Ev.big = 100000 := rfl
  have brk : ∀ {D : Ends} {σ : L2.St} {H : Hp}, tSt X.K call (.par is ces) D σ H → tA X.K call ces σ H fun vals H1 => vals.length = is.length ∧ D.nx ((is.zip vals).foldl (fun s p => s.set p.1 (some p.2)) σ) H1 ∧ ∀ p, H1 p = none → D.nx ((is.zip vals).foldl (fun s p => s.set p.1 (some p.2)) σ) (upd H1 p (.tup vals)) := by
    intro D σ H w
    obtain ⟨ρ, env, st, fl, st', hs, he, ev, q⟩ := w
    obtain ⟨ds, st1, e1, ev⟩ := bind_inv (show ((Ev.evA call ces env st).bind _) = _ from ev)
    split at ev
    · rename_i hl
      cases ev
      refine ⟨ρ, env, st, ds, st', hs, he, e1, fun ρ1 H1 vals g1 s1 r1 => ⟨by rw [hl]; exact r1.length.symm, q ρ1 H1 _ g1 s1 (RepE.setAll r1 (he.mono g1)), fun p np => ?_⟩⟩
      have gu := Grow.upd (o := .tup vals) np s1
      exact q ρ1 _ _ (g1.trans gu) (s1.upd np) (RepE.setAll (r1.mono gu) (he.mono (g1.trans gu)))
    · cases ev
  have base : swapSt (fun x => sc.names.lookup x) ts vs = some none → PS X (.Assign [.Tuple ts k p] (.Tuple vs k2 p2) pos) (tSt X.K call (.par is ces)) := by
    intro esw
    have hsw : swappedStores [.Tuple ts k p] (.Tuple vs k2 p2) X.env = pure none := swapSt_ok C.blockKind (by rw [ek]; exact esw)
    obtain ⟨gs, gl, gf⟩ := g_names C.N C.nd C.toCok.sc (fun x _ _ => C.fnc x) hn
    refine PS.imp (ps_asg (pe_tup ha) (pg_tup C.calm gs gl gf) rfl hsw rfl) fun D σ H w => ?_
    obtain ⟨ρ, env, st, ds, st', hs, he, e1, q⟩ := brk w
    refine ⟨ρ, env, st, ds, st', hs, he, e1, fun ρ1 H1 vals g1 s1 r1 => ?_⟩
    obtain ⟨q1, _, q3⟩ := q ρ1 H1 vals g1 s1 r1
    refine ⟨by omega, fun p np => ⟨p, vals, rfl, .of upd_same, q1, q1, q3 p np⟩⟩
  unfold parOk at hp
  split at hp
  · rename_i esw
    exact base esw
  · rename_i ns x px y py a b esw
    obtain ⟨h1, h2⟩ := and2 hp
    obtain ⟨h2, h3⟩ := and2 h2
    have e1 := of_decide_eq_true h1
    subst e1
    have hsw : swappedStores [.Tuple [.Name x px, .Name y py] k p] (.Tuple [a, b] k2 p2) X.env = pure (some [x, y]) := swapSt_ok C.blockKind (by rw [ek]; exact esw)
    obtain ⟨i, ir, rfl, n1, m2⟩ := names_of hn
    obtain ⟨j, jr, rfl, n2, m3⟩ := names_of m2
    have e2 := names_nil m3
    subst e2
    have hij : i ≠ j := by
      intro z
      subst z
      simp at nd
    refine PS.imp (ps_par (pos := pos) C.calm (by rw [C.N]; exact C.nd) (by rw [C.N]; exact (chk_loc n1).1) (by rw [C.N]; exact (chk_loc n2).1) hij (by rw [C.toCok.sc]; exact of_decide_eq_true h2) (by rw [C.toCok.sc]; exact of_decide_eq_true h3) ha hsw rfl) fun D σ H w => ?_
    obtain ⟨ρ, env, st, ds, st', hs, he, e1, q⟩ := brk w
    refine ⟨ρ, env, st, ds, st', hs, he, e1, fun ρ1 H1 vals g1 s1 r1 => ?_⟩
    obtain ⟨q1, q2, _⟩ := q ρ1 H1 vals g1 s1 r1
    match vals, q1, q2 with
    | [u, w], _, q2 => exact ⟨u, w, rfl, q2⟩
  · rename_i ns x px y py z pz a b c esw
    obtain ⟨h1, h2⟩ := and2 hp
    obtain ⟨h2, h3⟩ := and2 h2
    obtain ⟨h3, h4⟩ := and2 h3
    have e1 := of_decide_eq_true h1
    subst e1
    have hsw : swappedStores [.Tuple [.Name x px, .Name y py, .Name z pz] k p] (.Tuple [a, b, c] k2 p2) X.env = pure (some [x, y, z]) := swapSt_ok C.blockKind (by rw [ek]; exact esw)
    obtain ⟨i, ir, rfl, n1, m2⟩ := names_of hn
    obtain ⟨j, jr, rfl, n2, m3⟩ := names_of m2
    obtain ⟨l, lr, rfl, n3, m4⟩ := names_of m3
    have e2 := names_nil m4
    subst e2
    have hij : i ≠ j ∧ i ≠ l ∧ j ≠ l := by
      simp at nd
      exact ⟨nd.1.1, nd.1.2, nd.2⟩
    refine PS.imp (ps_par3 (pos := pos) C.calm (by rw [C.N]; exact C.nd) (by rw [C.N]; exact (chk_loc n1).1) (by rw [C.N]; exact (chk_loc n2).1) (by rw [C.N]; exact (chk_loc n3).1) hij.1 hij.2.1 hij.2.2 (by rw [C.toCok.sc]; exact of_decide_eq_true h2) (by rw [C.toCok.sc]; exact of_decide_eq_true h3) (by rw [C.toCok.sc]; exact of_decide_eq_true h4) ha hsw rfl) fun D σ H w => ?_
    obtain ⟨ρ, env, st, ds, st', hs, he, e1, q⟩ := brk w
    refine ⟨ρ, env, st, ds, st', hs, he, e1, fun ρ1 H1 vals g1 s1 r1 => ?_⟩
    obtain ⟨q1, q2, _⟩ := q ρ1 H1 vals g1 s1 r1
    match vals, q1, q2 with
    | [u, w, t], _, q2 => exact ⟨u, w, t, rfl, q2⟩
  · cases hp

/-! ### lists that are changed -/
theorem q_append {o x : Expr} {co cx : Ev.E} {apos cpos : Pos} (ho : PE X o (tE X.K call co)) (ha : PA X [x] (tA X.K call (.cons cx .nil))) (hb : isNameE o = true) (px : plainX x = true) (hl : (apos.endLine == cpos.line) = true) : PS X (.Expr (.Call (.Attribute o "append" apos) [x] [] cpos) pos) (tSt X.K call (.append co cx)) := by
  have hst : ∀ {env : Env}, starEach [x] env = [(false, eval x env)] := fun {env} => star_of px
  refine PS.imp (ps_expr (pe_bm PySem.F.plainAttrs_list PySem.F.slot_list_append PySem.F.type_list_append mt_append ho ha (base_of hb) (by rw [hst]; rfl) hl (by rw [hst]; rfl) rfl) rfl) fun D σ H w => ?_
  obtain ⟨ρ, env, st, fl, st', hs, he, ev, q⟩ := w
  obtain ⟨y, st1, e1, ev⟩ := bind_inv (show ((Ev.evE call co env st).bind _) = _ from ev)
  refine ⟨ρ, env, st, y, st1, hs, he, e1, fun ρ1 H1 vo g1 s1 r1 n1 => ?_⟩
  split at ev
  · rename_i pd em
    obtain ⟨z, st2, e2, ev⟩ := bind_inv ev
    obtain ⟨d, st3, e3, ev⟩ := bind_inv ev
    obtain ⟨pn, ds0⟩ := pd
    obtain ⟨a, xs, rfl, ea, hla, rl⟩ := mut_ok s1 em r1
    refine ⟨.inl ⟨rfl, xs, .of hla⟩, ρ1, env, st1, [d], st3, s1, he.mono g1, ?_, fun ρ2 H2 vals g2 s2 r2 => ?_⟩
    · show (Ev.evE call cx env st1).bind _ = _
      rw [e2]
      show (Ev.mat z st2).bind _ = _
      rw [e3]
      rfl
    · split at ev
      · rename_i pn2 ds em2
        split at ev
        · rename_i hlt
          obtain ⟨u, st4, e4, ev⟩ := bind_inv ev
          cases ev
          obtain ⟨a2, xs2, ev2, ea2, hla2, rl2⟩ := mut_ok s2 em2 (r1.mono g2)
          injection ev2 with ev2
          subst ev2
          obtain ⟨vx, vr, rfl, rx, rn⟩ := r2.ofCons
          have e5 := rn.ofNil
          subst e5
          obtain ⟨g5, s5⟩ := put_ok s2 ea2 hla2 (rl2.append (repL_cons rx repL_nil)) e4
          have lb := line_big
          have := rl2.length
          refine ⟨a, xs2, vx, rfl, rfl, hla2, by omega, ?_⟩
          have gA := g1.trans (g2.trans g5)
          exact q ρ2 _ σ gA s5 (he.mono gA)
        · cases ev
      · cases ev
  · cases ev
theorem q_extend {o x : Expr} {co cx : Ev.E} {apos cpos : Pos} (ho : PE X o (tE X.K call co)) (ha : PA X [x] (tR X.K call (.cons cx .nil))) (hb : isNameE o = true) (px : plainX x = true) (hl : (apos.endLine == cpos.line) = true) : PS X (.Expr (.Call (.Attribute o "extend" apos) [x] [] cpos) pos) (tSt X.K call (.extend co cx)) := by
  have hst : ∀ {env : Env}, starEach [x] env = [(false, eval x env)] := fun {env} => star_of px
  refine PS.imp (ps_expr (pe_bm PySem.F.plainAttrs_list PySem.F.slot_list_extend PySem.F.type_list_extend mt_extend ho ha (base_of hb) (by rw [hst]; rfl) hl (by rw [hst]; rfl) rfl) rfl) fun D σ H w => ?_
  obtain ⟨ρ, env, st, fl, st', hs, he, ev, q⟩ := w
  obtain ⟨y, st1, e1, ev⟩ := bind_inv (show ((Ev.evE call co env st).bind _) = _ from ev)
  refine ⟨ρ, env, st, y, st1, hs, he, e1, fun ρ1 H1 vo g1 s1 r1 n1 => ?_⟩
  split at ev
  · rename_i pd em
    obtain ⟨z, st2, e2, ev⟩ := bind_inv ev
    obtain ⟨pn, ds0⟩ := pd
    obtain ⟨a, xs, rfl, ea, hla, rl⟩ := mut_ok s1 em r1
    refine ⟨.inl ⟨rfl, xs, .of hla⟩, ρ1, env, st1, [z], st2, s1, he.mono g1, ?_, fun ρ2 H2 vals g2 s2 r2 => ?_⟩
    · show (Ev.evE call cx env st1).bind _ = _
      rw [e2]
      rfl
    · split at ev
      · rename_i pn2 ds zs em2 eo
        split at ev
        · rename_i hlt
          obtain ⟨u, st4, e4, ev⟩ := bind_inv ev
          cases ev
          obtain ⟨a2, xs2, ev2, ea2, hla2, rl2⟩ := mut_ok s2 em2 (r1.mono g2)
          injection ev2 with ev2
          subst ev2
          cases r2 with
          | cons rz rn =>
            cases rn
            obtain ⟨b, ys, rfl, hb', ry⟩ := ownL_ok s2 eo rz
            obtain ⟨g5, s5⟩ := put_ok s2 ea2 hla2 (rl2.append ry) e4
            have lb := line_big
            have := rl2.length
            have := ry.length
            refine ⟨a, b, xs2, ys, rfl, rfl, hla2, hb', by omega, ?_⟩
            have gA := g1.trans (g2.trans g5)
            exact q ρ2 _ σ gA s5 (he.mono gA)
        · cases ev
      · cases ev
  · cases ev
/-! ### for -/
theorem q_for {it : Expr} {body : List Stmt} {t : Ev.Tg} {src : Ev.Src} {cb : Ev.Ss} (C : SCok X T sc call) (ht : chkTg T.N sc allOk t tg = true) (hi : PI X tg it (tI X.K call src)) (pit : plainX it = true) (hb : PSs X body (tSs X.K call cb)) : PS X (.For tg it body [] pos) (tSt X.K call (.for_ t src cb)) := by
  refine PS.imp (ps_for C.po C.calm hi (g_tg C.calm C.N C.nd C.toCok.sc (fun x _ _ => C.fnc x) ht) hb (set_of pit)) fun D σ0 H0 w => ?_
  obtain ⟨ρ, env, st, fl, st', hs, he, ev, q⟩ := w
  obtain ⟨its, st1, e1, ev⟩ := bind_inv (show ((Ev.evSrc call src env st).bind _) = _ from ev)
  refine ⟨ρ, env, st, its, st1, hs, he, e1, fun ρ1 H1 J g1 s1 io => ?_⟩
  refine ⟨fun i m σ H => ∃ ρ2 env2 sta, Grow ρ1 H1 ρ2 H ∧ RepS X.K ρ2 H sta ∧ RepE X.K ρ2 H env2 σ ∧ Ev.forGo t (Ev.evSs call cb) its m i env2 sta = .ok fl st', ⟨_, ρ1, env, st1, .refl, s1, he.mono g1, ev⟩, fun i m σ H hW => ?_⟩
  obtain ⟨ρ2, env2, sta, g, sS, rE, eg⟩ := hW
  cases m with
  | zero => cases eg
  | succ m =>
    unfold Ev.forGo at eg
    split at eg
    · cases eg
    · rename_i eat
      cases eg
      exact .inl ⟨io.stop ρ2 H _ i g sS eat, q ρ2 H σ (g1.trans g) sS rE⟩
    · rename_i d eat
      split at eg
      · cases eg
      · rename_i env3 eset
        obtain ⟨f, st3, eb, eg⟩ := bind_inv eg
        obtain ⟨go, yl⟩ := io.item ρ2 H sta i d g sS eat
        refine .inr ⟨go, fun σ' H' => ∃ ρ2 env2 sta, Grow ρ1 H1 ρ2 H' ∧ RepS X.K ρ2 H' sta ∧ RepE X.K ρ2 H' env2 σ' ∧ Ev.forGo t (Ev.evSs call cb) its m (i + 1) env2 sta = .ok fl st', fun σ' H' z => ⟨m, Nat.lt_succ_self m, z⟩, fun x H' hy => ?_⟩
        obtain ⟨g2, s2, rx⟩ := yl x H' hy
        refine ⟨ρ2, env2, d, env3, rE.mono g2, rx, eset, fun σ2 he2 hl hk => ?_⟩
        refine ⟨ρ2, env3, sta, f, st3, s2, he2, eb, ?_⟩
        have gB := g1.trans (g.trans g2)
        cases f with
        | nx env4 => exact fun ρ4 H4 σ4 g4 s4 r4 => ⟨ρ4, env4, st3, g.trans (g2.trans g4), s4, r4, eg⟩
        | ct env4 => exact fun ρ4 H4 σ4 g4 s4 r4 => ⟨ρ4, env4, st3, g.trans (g2.trans g4), s4, r4, eg⟩
        | bk env4 =>
          cases eg
          exact fun ρ4 H4 σ4 g4 s4 r4 => q ρ4 H4 σ4 (gB.trans g4) s4 r4
        | rt v =>
          cases eg
          exact fun ρ4 H4 v4 g4 s4 r4 n4 => q ρ4 H4 v4 (gB.trans g4) s4 r4 ((gB).nw s2 n4)
end
end EvS
/-! Ev14: all statements. -/
namespace EvS
open PySem PySem.Spec PyProof.Rows L2
section
variable {X : Cx} {T : Tx} {sc : Scope} {call : Nat → List Ev.D → Ev.M Ev.Rv} {e v : Expr} {ce : Ev.E} {pos : Pos} {i : Nat} {tg : Expr}
theorem q_setLc {x : Str} {px : Pos} (C : SCok X T sc call) (hn : chkName T.N sc allOk i (.Name x px) = true) (h : chkE T sc ce v = true) (hl : isLcE v = true) : PS X (.Assign [.Name x px] v pos) (tSt X.K call (.asg (.tg (.var i)) ce)) := by
  obtain ⟨h1, h2⟩ := chk_loc hn
  have sw := swNm C (x := x) (px := px) (l := pos.line) hl
  cases hb : lcSw sc x px v with
  | false =>
    rw [hb] at sw
    exact PS.imp (ps_set (by rw [C.N]; exact C.nd) (by rw [C.N]; exact h1) (by rw [C.toCok.sc]; exact h2) (okE ce sc v X h C.toCok).pe sw (.inl (C.fnc x))) fun D σ H w => asg_part (fun Q z => z) w
  | true =>
    rw [hb] at sw
    cases v with
    | ListComp elt gs scope p =>
      match ce, gs, h with
      | .lc own t src cond cel, [⟨tg, it, ifs, 0⟩], h =>
        obtain ⟨k1, k2⟩ := and2 (show (blkC T.N sc scope (namesOf T.N own) && (tgIn own t && (decide ((namesOf T.N own).map (·.2) = own) && (chkTg T.N (relS scope sc) (locB scope) t tg && (chkSrc T sc src it (isTupE tg) && (chkIfs T (relS scope sc) cond ifs && chkE T (relS scope sc) cel elt)))))) = true from h)
        obtain ⟨k2, k3⟩ := and2 k2
        obtain ⟨k3, k4⟩ := and2 k3
        obtain ⟨k4, k5⟩ := and2 k4
        obtain ⟨k5, k6⟩ := and2 k5
        obtain ⟨k6, k7⟩ := and2 k6
        have ks := okSrc src sc it (isTupE tg) tg X rfl k5 C.toCok
        have hyl : sc.names.lookup x = some .local := by
          have hb : (sc.names.lookup x == some .local && px.line == p.line && !(scope.names.any fun (n, k) => n == x && (k == .local || k == .cell))) = true := hb
          obtain ⟨hb, _⟩ := and2 hb
          obtain ⟨hb, _⟩ := and2 hb
          exact eq_of_beq hb
        refine PS.imp (ps_setLc (own := namesOf T.N own) (g := tTg X.K t) (tt := tC' X.K call cond) (te := tE X.K call cel) C.calm (by rw [C.N]; exact C.nd) (by rw [C.N]; exact h1) (by rw [C.toCok.sc]; exact hyl) sw ks.1 (blkOk_by (by rw [C.N, C.toCok.sc]; exact k1))
          (lc_tg C.toCok k4) (fun s H C' cl fp => okIfs cond _ ifs _ k6 C.toCok.blk) (fun s H C' cl fp => (okE cel _ elt _ k7 C.toCok.blk).pe) (set_of ks.2)) fun D σ H0 w => ?_
        rw [of_decide_eq_true k3]
        exact asg_part (fun Q z => lc_part k2 z) w
    | _ => cases hl
end
section
variable {T : Tx} {call : Nat → List Ev.D → Ev.M Ev.Rv} {sc : Scope} {X : Cx}
mutual
theorem okS (C : SCok X T sc call) : ∀ (c : Ev.S) (s : Stmt), chkS T sc c s = true → PS X s (tSt X.K call c)
  | .pass, s, h => by
    cases s with
    | Pass p => exact q_pass
    | _ => cases h
  | .expr ce, s, h => by
    cases s with
    | Expr x p =>
      obtain ⟨h1, h2⟩ := and2 (show (chkE T sc ce x && notComp x) = true from h)
      exact q_expr (okE ce sc x X h1 C.toCok).pe h2
    | _ => cases h
  | .asg t ce, s, h => by
    cases s with
    | Assign ts v p =>
      match t, ts, h with
      | .tg (.var i), [.Name x px], h =>
        obtain ⟨h1, h2⟩ := and2 (show (chkName T.N sc allOk i (.Name x px) && (chkE T sc ce v && (notComp v || isLcE v))) = true from h)
        obtain ⟨h2, h3⟩ := and2 h2
        cases hl : isLcE v with
        | true => exact q_setLc C h1 h2 hl
        | false =>
          rw [hl, Bool.or_false] at h3
          exact q_set C h1 (okE ce sc v X h2 C.toCok).pe h3
      | .tg (.tup is), [.Tuple ts k p], h =>
        obtain ⟨h1, h2⟩ := and2 (show (chkTg T.N sc allOk (.tup is) (.Tuple ts k p) && (chkE T sc ce v && !isTupE v)) = true from h)
        obtain ⟨h2, h3⟩ := and2 h2
        exact q_asgTup C h1 (okE ce sc v X h2 C.toCok).pe (by cases z : isTupE v with | true => rw [z] at h3; cases h3 | false => rfl)
      | .sub o i, [.Subscript ox ix p], h =>
        obtain ⟨h1, h2⟩ := and2 (show (chkE T sc o ox && (chkE T sc i ix && chkE T sc ce v)) = true from h)
        obtain ⟨h2, h3⟩ := and2 h2
        exact q_sub (okE o sc ox X h1 C.toCok).pe (okE i sc ix X h2 C.toCok).pe (okE ce sc v X h3 C.toCok).pe (plainX_of h2)
      | .star i j, [.Tuple [.Starred ex ps, ey] k p], h =>
        obtain ⟨h1, h2⟩ := and2 (show (chkName T.N sc allOk i ex && (chkName T.N sc allOk j ey && (chkE T sc ce v && !isTupE v))) = true from h)
        obtain ⟨h2, h3⟩ := and2 h2
        obtain ⟨h3, h4⟩ := and2 h3
        exact q_star C h1 h2 (okE ce sc v X h3 C.toCok).pe (by cases z : isTupE v with | true => rw [z] at h4; cases h4 | false => rfl)
    | _ => cases t with
      | tg t => cases t <;> cases h
      | sub o i => cases h
      | star i j => cases h
  | .par is es, s, h => by
    cases s with
    | Assign ts v p =>
      match ts, v, h with
      | [.Tuple ts k p], .Tuple vs k2 p2, h =>
        obtain ⟨h1, h2⟩ := and2 (show (decide (is.Nodup ∧ is.length ≤ 100) && (chkNames T.N sc allOk is ts && (chkA T sc es vs && parOk sc ts vs))) = true from h)
        obtain ⟨h2, h3⟩ := and2 h2
        obtain ⟨h3, h4⟩ := and2 h3
        have h1 := of_decide_eq_true h1
        exact q_par C h1.1 h1.2 h2 (okA es sc vs X h3 C.toCok).1 h4
    | _ => cases h
  | .aug i op ce, s, h => by
    cases s with
    | AugAssign t o v p =>
      match t, h with
      | .Name x px, h =>
        obtain ⟨h1, h2⟩ := and2 (show (chkName T.N sc allOk i (.Name x px) && (decide (bopOf op = o) && chkE T sc ce v)) = true from h)
        obtain ⟨h2, h3⟩ := and2 h2
        have e := of_decide_eq_true h2
        subst e
        exact q_aug C h1 (okE ce sc v X h3 C.toCok).pe
    | _ => cases h
  | .append o ce, s, h => by
    cases s with
    | Expr x p =>
      match x, h with
      | .Call (.Attribute ox nm apos) [x] [] cpos, h =>
        obtain ⟨h1, h2⟩ := and2 (show (decide (nm = "append") && (chkE T sc o ox && (isNameE ox && (chkE T sc ce x && (apos.endLine == cpos.line))))) = true from h)
        obtain ⟨h2, h3⟩ := and2 h2
        obtain ⟨h3, h4⟩ := and2 h3
        obtain ⟨h4, h5⟩ := and2 h4
        have e := of_decide_eq_true h1
        subst e
        exact q_append (okE o sc ox X h2 C.toCok).pe (okA (.cons ce .nil) sc [x] X (by show (chkE T sc ce x && true) = true; rw [h4]; rfl) C.toCok).1 h3 (plainX_of h4) h5
    | _ => cases h
  | .extend o ce, s, h => by
    cases s with
    | Expr x p =>
      match x, h with
      | .Call (.Attribute ox nm apos) [x] [] cpos, h =>
        obtain ⟨h1, h2⟩ := and2 (show (decide (nm = "extend") && (chkE T sc o ox && (isNameE ox && (chkE T sc ce x && (apos.endLine == cpos.line))))) = true from h)
        obtain ⟨h2, h3⟩ := and2 h2
        obtain ⟨h3, h4⟩ := and2 h3
        obtain ⟨h4, h5⟩ := and2 h4
        have e := of_decide_eq_true h1
        subst e
        exact q_extend (okE o sc ox X h2 C.toCok).pe (okA (.cons ce .nil) sc [x] X (by show (chkE T sc ce x && true) = true; rw [h4]; rfl) C.toCok).2.1 h3 (plainX_of h4) h5
    | _ => cases h
  | .ret ce, s, h => by
    cases s with
    | Return x p =>
      cases x with
      | none => cases h
      | some x => exact q_ret (okE ce sc x X h C.toCok).pe
    | _ => cases h
  | .ret0, s, h => by
    cases s with
    | Return x p =>
      cases x with
      | none => exact q_ret0
      | some x => cases h
    | _ => cases h
  | .if_ c a b, s, h => by
    cases s with
    | If t xs ys p =>
      obtain ⟨h1, h2⟩ := and2 (show (noIf t && (chkE T sc c t && (chkSs T sc a xs && chkSs T sc b ys))) = true from h)
      obtain ⟨h2, h3⟩ := and2 h2
      obtain ⟨h3, h4⟩ := and2 h3
      exact q_if ((okE c sc t X h2 C.toCok).pt h1) (okSs C a xs h3) (okSs C b ys h4)
    | _ => cases h
  | .for_ t src b, s, h => by
    cases s with
    | For tg it body orelse p =>
      cases orelse with
      | nil =>
        obtain ⟨h1, h2⟩ := and2 (show (chkTg T.N sc allOk t tg && (chkSrc T sc src it (isTupE tg) && chkSs T sc b body)) = true from h)
        obtain ⟨h2, h3⟩ := and2 h2
        have ks := okSrc src sc it (isTupE tg) tg X rfl h2 C.toCok
        exact q_for C h1 ks.1 ks.2 (okSs C b body h3)
      | cons _ _ => cases h
    | _ => cases h
  | .brk, s, h => by
    cases s with
    | Break p => exact q_brk
    | _ => cases h
  | .cont, s, h => by
    cases s with
    | Continue p => exact q_cont
    | _ => cases h
  | .never, s, h => q_never
theorem okSs (C : SCok X T sc call) : ∀ (c : Ev.Ss) (s : List Stmt), chkSs T sc c s = true → PSs X s (tSs X.K call c)
  | .nil, [], h => q_nil
  | .nil, _ :: _, h => by cases h
  | .cons _ _, [], h => by cases h
  | .cons c cs, s :: ss, h => by
    obtain ⟨h1, h2⟩ := and2 (show (chkS T sc c s && chkSs T sc cs ss) = true from h)
    exact q_cons (okS C c s h1) (okSs C cs ss h2)
end
end
end EvS
/-! EvJ: what a run leaves of the objects that were there. -/
namespace Ev
/-- from st to st': no object went; one below the mark is as it was or holds nothing above itself -/
structure Jr (st st' : St) : Prop where
  len : st.objs.length ≤ st'.objs.length
  dty : st'.dirty ≤ st.dirty
  obj : ∀ i, i < st.objs.length → i < st'.dirty → st'.objs[i]? = st.objs[i]? ∨ ∃ o, st'.objs[i]? = some o ∧ o.low (i + 1) = true
theorem Jr.refl {st : St} : Jr st st := ⟨Nat.le_refl _, Nat.le_refl _, fun _ _ _ => .inl rfl⟩
theorem Jr.trans {a b c : St} (h : Jr a b) (g : Jr b c) : Jr a c := ⟨Nat.le_trans h.len g.len, Nat.le_trans g.dty h.dty, fun i hi hd => by
  rcases g.obj i (Nat.lt_of_lt_of_le hi h.len) hd with e | e
  · rcases h.obj i hi (Nat.lt_of_lt_of_le hd g.dty) with e2 | ⟨o, e2, l⟩
    · exact .inl (e.trans e2)
    · exact .inr ⟨o, e.trans e2, l⟩
  · exact .inr e⟩
def Kp {α : Type} (m : M α) : Prop := ∀ st a st', m st = .ok a st' → Jr st st'
def KpR {α : Type} (st : St) (r : Res α) : Prop := ∀ a st', r = .ok a st' → Jr st st'
theorem KpR.ok {α : Type} {st : St} {a : α} : KpR st (.ok a st) := fun _ _ e => by cases e; exact .refl
theorem KpR.err {α : Type} {st : St} : KpR st (.err : Res α) := fun _ _ e => by cases e
theorem KpR.bind {α β : Type} {st : St} {r : Res α} {f : α → M β} (h : KpR st r) (g : ∀ a st', KpR st' (f a st')) : KpR st (r.bind f) := fun b st' e => by
  cases r with
  | ok a st1 => exact (h a st1 rfl).trans (g a st1 b st' e)
  | err => cases e
theorem KpR.of {α : Type} {m : M α} (h : Kp m) {st : St} : KpR st (m st) := fun a st' e => h st a st' e
theorem kp_alloc {o : Ob} {st : St} : KpR st (alloc o st) := fun a st' e => by
  cases e
  refine ⟨by show _ ≤ (st.objs ++ [o]).length; rw [List.length_append]; omega, Nat.le_refl _, fun i hi _ => .inl (List.getElem?_append_left hi)⟩
theorem kp_put {i : Nat} {o : Ob} {st : St} : KpR st (put i o st) := fun a st' e => by
  cases e
  refine ⟨by show _ ≤ (st.objs.set i o).length; rw [List.length_set]; exact Nat.le_refl _, ?_, fun j hj hd => ?_⟩
  · show (if o.low (i + 1) then st.dirty else min st.dirty i) ≤ st.dirty
    split <;> omega
  · have hd : j < (if o.low (i + 1) then st.dirty else min st.dirty i) := hd
    show (st.objs.set i o)[j]? = _ ∨ ∃ o', (st.objs.set i o)[j]? = some o' ∧ _
    by_cases hij : i = j
    · subst hij
      rw [List.getElem?_set_self hj]
      split at hd
      · rename_i hl
        exact .inr ⟨o, rfl, hl⟩
      · omega
    · rw [List.getElem?_set_ne hij]
      exact .inl rfl
theorem kp_mat {rv : Rv} {st : St} : KpR st (mat rv st) := by
  cases rv with
  | d d => exact .ok
  | tmp ds => exact KpR.bind kp_alloc fun _ _ => .ok
theorem kp_ofO {o : Option Rv} {st : St} : KpR st (ofO o st) := by
  cases o with
  | some v => exact .ok
  | none => exact .err
theorem kp_lcTmp {l : List D} {st : St} : KpR st (lcTmp l st) := by
  unfold lcTmp
  split
  · exact .ok
  · exact .err
theorem kp_lcGo {body : D → M (Option D)} {its : Its} (hb : ∀ d st, KpR st (body d st)) : ∀ (n k : Nat) (st : St), KpR st (lcGo body its n k st)
  | 0, _, _ => .err
  | n + 1, k, st => by
    unfold lcGo
    split
    · exact .err
    · exact .ok
    · exact KpR.bind (hb _ _) fun _ _ => KpR.bind (kp_lcGo hb n _ _) fun _ _ => .ok
section
variable {call : Nat → List D → M Rv} (hc : ∀ f as st, KpR st (call f as st))
include hc
mutual
theorem kp_E : ∀ (c : E) (env : Env) (st : St), KpR st (evE call c env st)
  | .var i, env, st => by unfold evE; split <;> first | exact .ok | exact .err
  | .cst d, env, st => .ok
  | .tup es, env, st => KpR.bind (kp_A es env st) fun _ _ => by split <;> first | exact .ok | exact .err
  | .lst es, env, st => KpR.bind (kp_A es env st) fun _ _ => by split <;> first | exact .ok | exact .err
  | .bin op a b, env, st => KpR.bind (kp_E a env st) fun _ _ => KpR.bind (kp_E b env _) fun _ _ => kp_ofO
  | .neg a, env, st => KpR.bind (kp_E a env st) fun _ _ => by split <;> first | exact .ok | exact .err
  | .cmp op a b, env, st => KpR.bind (kp_E a env st) fun _ _ => KpR.bind (kp_E b env _) fun _ _ => kp_ofO
  | .chn op op' a b c, env, st => KpR.bind (kp_E a env st) fun _ _ => KpR.bind (kp_E b env _) fun _ _ => by
    split
    · exact KpR.bind (kp_E c env _) fun _ _ => kp_ofO
    · exact .ok
    · exact .err
  | .isn ng a, env, st => KpR.bind (kp_E a env st) fun _ _ => by split <;> exact .ok
  | .isb b a, env, st => KpR.bind (kp_E a env st) fun _ _ => by split <;> first | exact .ok | exact .err
  | .isi u a, env, st => KpR.bind (kp_E a env st) fun _ _ => by split <;> first | exact .ok | exact .err
  | .and a b, env, st => KpR.bind (kp_E a env st) fun _ _ => by
    split
    · exact kp_E b env _
    · exact .ok
    · exact .err
  | .or a b, env, st => KpR.bind (kp_E a env st) fun _ _ => by
    split
    · exact kp_E b env _
    · exact .ok
    · exact .err
  | .not a, env, st => KpR.bind (kp_E a env st) fun _ _ => by split <;> first | exact .ok | exact .err
  | .ite c a b, env, st => KpR.bind (kp_E c env st) fun _ _ => by
    split
    · exact kp_E a env _
    · exact kp_E b env _
    · exact .err
  | .sub a i, env, st => KpR.bind (kp_E a env st) fun _ _ => KpR.bind (kp_E i env _) fun _ _ => kp_ofO
  | .slc a lo hi, env, st => KpR.bind (kp_E a env st) fun _ _ => KpR.bind (kp_O lo env _) fun _ _ => KpR.bind (kp_O hi env _) fun _ _ => by
    split
    · exact kp_ofO
    · exact .err
  | .call f es, env, st => KpR.bind (kp_A es env st) fun _ _ => hc _ _ _
  | .blt f es, env, st => KpR.bind (kp_R es env st) fun _ _ => kp_ofO
  | .lc own t src cond elt, env, st => KpR.bind (kp_Src src env st) fun _ _ => KpR.bind (kp_lcGo (fun d st => by
      split
      · exact .err
      · refine KpR.bind (kp_O cond _ _) fun _ _ => ?_
        split
        · exact KpR.bind (kp_E elt _ _) fun _ _ => KpR.bind kp_mat fun _ _ => .ok
        · exact .ok
        · exact .err) _ _ _) fun _ _ => kp_lcTmp
  | .pop o i, env, st => KpR.bind (kp_E o env st) fun _ _ => by
    split
    · refine KpR.bind (kp_E i env _) fun _ _ => ?_
      split
      · split
        · split
          · split
            · exact KpR.bind kp_put fun _ _ => .ok
            · exact .err
          · exact .err
        · exact .err
      · exact .err
    · exact .err
theorem kp_O : ∀ (c : Eo) (env : Env) (st : St), KpR st (evO call c env st)
  | .no, env, st => .ok
  | .yes e, env, st => KpR.bind (kp_E e env st) fun _ _ => .ok
theorem kp_A : ∀ (c : Es) (env : Env) (st : St), KpR st (evA call c env st)
  | .nil, env, st => .ok
  | .cons e es, env, st => KpR.bind (kp_E e env st) fun _ _ => KpR.bind kp_mat fun _ _ => KpR.bind (kp_A es env _) fun _ _ => .ok
theorem kp_R : ∀ (c : Es) (env : Env) (st : St), KpR st (evR call c env st)
  | .nil, env, st => .ok
  | .cons e es, env, st => KpR.bind (kp_E e env st) fun _ _ => KpR.bind (kp_R es env _) fun _ _ => .ok
theorem kp_Src : ∀ (c : Src) (env : Env) (st : St), KpR st (evSrc call c env st)
  | .e e, env, st => KpR.bind (kp_E e env st) fun _ _ => by split <;> first | exact .ok | exact .err
  | .rng1 a, env, st => KpR.bind (kp_E a env st) fun _ _ => by
    split
    · split <;> first | exact .ok | exact .err
    · exact .err
  | .rng2 a b, env, st => KpR.bind (kp_E a env st) fun _ _ => KpR.bind (kp_E b env _) fun _ _ => by
    split
    · split <;> first | exact .ok | exact .err
    · exact .err
  | .rng3 a b c, env, st => KpR.bind (kp_E a env st) fun _ _ => KpR.bind (kp_E b env _) fun _ _ => KpR.bind (kp_E c env _) fun _ _ => by
    split
    · split <;> first | exact .ok | exact .err
    · exact .err
  | .zip a b, env, st => KpR.bind (kp_E a env st) fun _ _ => KpR.bind (kp_E b env _) fun _ _ => by
    split
    · split <;> first | exact .ok | exact .err
    · exact .err
  | .enum a, env, st => KpR.bind (kp_E a env st) fun _ _ => by
    split
    · split <;> first | exact .ok | exact .err
    · exact .err
end
theorem kp_forGo {t : Tg} {body : Env → M Fl} {its : Its} (hb : ∀ env st, KpR st (body env st)) : ∀ (n k : Nat) (env : Env) (st : St), KpR st (forGo t body its n k env st)
  | 0, _, _, _ => .err
  | n + 1, k, env, st => by
    unfold forGo
    split
    · exact .err
    · exact .ok
    · split
      · exact .err
      · refine KpR.bind (hb _ _) fun _ _ => ?_
        split
        · exact kp_forGo hb n _ _ _
        · exact kp_forGo hb n _ _ _
        · exact .ok
        · exact .ok
mutual
theorem kp_S : ∀ (c : S) (env : Env) (st : St), KpR st (evS call c env st)
  | .pass, env, st => .ok
  | .expr e, env, st => KpR.bind (kp_E hc e env st) fun _ _ => .ok
  | .asg t e, env, st => KpR.bind (kp_E hc e env st) fun _ _ => by
    split
    · refine KpR.bind kp_mat fun _ _ => ?_
      split
      · exact .ok
      · exact .err
    · refine KpR.bind kp_mat fun _ _ => KpR.bind (kp_E hc _ env _) fun _ _ => KpR.bind (kp_E hc _ env _) fun _ _ => ?_
      split
      · split
        · split
          · exact KpR.bind kp_put fun _ _ => .ok
          · exact .err
        · exact .err
      · exact .err
    · split
      · split
        · split
          · exact KpR.bind kp_alloc fun _ _ => .ok
          · exact .err
        · exact .err
      · exact .err
  | .par is es, env, st => KpR.bind (kp_A hc es env st) fun _ _ => by split <;> first | exact .ok | exact .err
  | .aug i op e, env, st => by
    unfold evS
    split
    · refine KpR.bind (kp_E hc e env st) fun _ _ => ?_
      split
      · split
        · exact .ok
        · exact .err
      · exact .err
    · exact .err
  | .append o e, env, st => KpR.bind (kp_E hc o env st) fun _ _ => by
    split
    · refine KpR.bind (kp_E hc e env _) fun _ _ => KpR.bind kp_mat fun _ _ => ?_
      split
      · split
        · exact KpR.bind kp_put fun _ _ => .ok
        · exact .err
      · exact .err
    · exact .err
  | .extend o e, env, st => KpR.bind (kp_E hc o env st) fun _ _ => by
    split
    · refine KpR.bind (kp_E hc e env _) fun _ _ => ?_
      split
      · split
        · exact KpR.bind kp_put fun _ _ => .ok
        · exact .err
      · exact .err
    · exact .err
  | .ret e, env, st => KpR.bind (kp_E hc e env st) fun _ _ => .ok
  | .ret0, env, st => .ok
  | .if_ c a b, env, st => KpR.bind (kp_E hc c env st) fun _ _ => by
    split
    · exact kp_Ss a env _
    · exact kp_Ss b env _
    · exact .err
  | .for_ t src b, env, st => KpR.bind (kp_Src hc src env st) fun _ _ => kp_forGo hc (fun env st => kp_Ss b env st) _ _ _ _
  | .brk, env, st => .ok
  | .cont, env, st => .ok
  | .never, env, st => .err
theorem kp_Ss : ∀ (c : Ss) (env : Env) (st : St), KpR st (evSs call c env st)
  | .nil, env, st => .ok
  | .cons s ss, env, st => KpR.bind (kp_S s env st) fun _ _ => by
    split
    · exact kp_Ss ss _ _
    · exact .ok
end
end
theorem kp_finish {base d0 : Nat} {rv : Rv} {st st1 : St} (hb : base = st.objs.length) (hd : d0 = st.dirty) (h : Jr ⟨st.objs, st.objs.length⟩ st1) : KpR st (finish base d0 rv st1) := by
  subst hb hd
  have k1 : KpR st (keepAll st.dirty rv st1) := fun a st' e => by
    cases e
    exact ⟨h.len, Nat.min_le_left _ _, fun i hi hd => h.obj i hi (Nat.lt_of_lt_of_le hd (Nat.min_le_right _ _))⟩
  have k2 : ∀ {rv : Rv}, ¬ st1.dirty < st.objs.length → KpR st (.ok rv ⟨st1.objs.take st.objs.length, st.dirty⟩ : Res Rv) := fun hn a st' e => by
    cases e
    have hl : st.objs.length ≤ st1.objs.length := h.len
    refine ⟨by show _ ≤ (st1.objs.take _).length; rw [List.length_take]; omega, Nat.le_refl _, fun i hi hd => ?_⟩
    show (st1.objs.take _)[i]? = _ ∨ ∃ o, (st1.objs.take _)[i]? = _ ∧ _
    rw [List.getElem?_take_of_lt hi]
    exact h.obj i hi (Nat.lt_of_lt_of_le hi (Nat.le_of_not_lt hn))
  unfold finish
  split
  · exact k1
  · rename_i hn
    split
    · split
      · exact k2 hn
      · split
        · split
          · exact k2 hn
          · exact k1
        · exact k1
    · split
      · exact k2 hn
      · exact k1
    · split
      · exact k2 hn
      · exact k1
theorem kp_Fn {fns : List Fn} : ∀ (n f : Nat) (as : List D) (st : St), KpR st (evFn fns n f as st)
  | 0, _, _, _ => .err
  | n + 1, f, as, st => by
    unfold evFn
    split
    · exact .err
    · split
      · intro a st' e
        cases q : evSs (evFn fns n) _ _ ⟨st.objs, st.objs.length⟩ with
        | err => rw [q] at e; cases e
        | ok fl st1 =>
          rw [q] at e
          have j := kp_Ss (fun f as st => kp_Fn n f as st) _ _ _ fl st1 q
          have e : (match retOf fl with | some rv => finish st.objs.length st.dirty rv st1 | none => .err) = .ok a st' := e
          split at e
          · exact kp_finish rfl rfl j a st' e
          · cases e
      · exact .err
end Ev
/-! Ev15: defs. -/
namespace EvS
open PySem PySem.Spec PyProof.Rows L2

/-! ### what a call leaves -/
section
variable {K : PySem.W.Frag} {ρ ρ1 : Ix} {H H1 : Hp} {st st1 : Ev.St} {b : Nat}
theorem ix_low (g : ρ <+: ρ1) {i : Nat} {a : Addr} (h : i < ρ.length) (e : ρ1[i]? = some a) : ρ[i]? = some a := by
  obtain ⟨t, rfl⟩ := g
  rw [List.getElem?_append_left h] at e
  exact e
mutual
theorem Rep.down (g : ρ <+: ρ1) : ∀ {d : Ev.D} {v : V}, d.low ρ.length = true → Rep K ρ1 H d v → Rep K ρ H d v
  | .non, _, _, h => by rw [Rep] at h ⊢; exact h
  | .bl _, _, _, h => by rw [Rep] at h ⊢; exact h
  | .int _, _, _, h => by rw [Rep] at h ⊢; exact h
  | .str _, _, _, h => by rw [Rep] at h ⊢; exact h
  | .tup ds, _, l, h => by
    rw [Rep] at h ⊢
    obtain ⟨a, xs, e, s, r⟩ := h
    exact ⟨a, xs, e, s, RepL.down g (show Ev.D.lowL ρ.length ds = true from l) r⟩
  | .ref i, _, l, h => by
    rw [Rep] at h ⊢
    obtain ⟨a, e, z⟩ := h
    exact ⟨a, ix_low g (Nat.blt_eq.mp (show Nat.blt i ρ.length = true from l)) e, z⟩
  | .scr ns, _, _, h => by
    rw [Rep] at h ⊢
    exact h
theorem RepL.down (g : ρ <+: ρ1) : ∀ {ds : List Ev.D} {xs : List V}, Ev.D.lowL ρ.length ds = true → RepL K ρ1 H ds xs → RepL K ρ H ds xs
  | [], _, _, h => by rw [RepL] at h ⊢; exact h
  | d :: ds, _, l, h => by
    obtain ⟨l1, l2⟩ := and2 (show (d.low ρ.length && Ev.D.lowL ρ.length ds) = true from l)
    rw [RepL] at h ⊢
    obtain ⟨x, r, e, h1, h2⟩ := h
    exact ⟨x, r, e, Rep.down g l1 h1, RepL.down g l2 h2⟩
end
mutual
theorem Rep.isLow : ∀ {d : Ev.D} {v : V}, Rep K ρ H d v → d.low ρ.length = true
  | .non, _, _ => rfl
  | .bl _, _, _ => rfl
  | .int _, _, _ => rfl
  | .str _, _, _ => rfl
  | .tup ds, _, h => by
    rw [Rep] at h
    obtain ⟨a, xs, e, s, r⟩ := h
    exact RepL.isLow r
  | .ref i, _, h => by
    rw [Rep] at h
    obtain ⟨a, e, z⟩ := h
    exact Nat.blt_eq.mpr (List.getElem?_eq_some_iff.mp e).1
  | .scr ns, _, _ => rfl
theorem RepL.isLow : ∀ {ds : List Ev.D} {xs : List V}, RepL K ρ H ds xs → Ev.D.lowL ρ.length ds = true
  | [], _, _ => rfl
  | d :: ds, _, h => by
    rw [RepL] at h
    obtain ⟨x, r, e, h1, h2⟩ := h
    exact Bool.and_eq_true_iff.mpr ⟨Rep.isLow h1, RepL.isLow h2⟩
end
mutual
theorem low_up {b c : Nat} (h : b ≤ c) : ∀ {d : Ev.D}, d.low b = true → d.low c = true
  | .non, _ => rfl
  | .bl _, _ => rfl
  | .int _, _ => rfl
  | .str _, _ => rfl
  | .tup ds, l => lowL_up h (ds := ds) l
  | .ref i, l => Nat.blt_eq.mpr (Nat.lt_of_lt_of_le (Nat.blt_eq.mp (show Nat.blt i b = true from l)) h)
  | .scr ns, _ => rfl
theorem lowL_up {b c : Nat} (h : b ≤ c) : ∀ {ds : List Ev.D}, Ev.D.lowL b ds = true → Ev.D.lowL c ds = true
  | [], _ => rfl
  | d :: ds, l => by
    obtain ⟨l1, l2⟩ := and2 (show (d.low b && Ev.D.lowL b ds) = true from l)
    exact Bool.and_eq_true_iff.mpr ⟨low_up h l1, lowL_up h l2⟩
end
theorem finish_ok {rv rv2 : Ev.Rv} {v : V} {st2 : Ev.St} (s : RepS K ρ H st) (g : Grow ρ H ρ1 H1) (s1 : RepS K ρ1 H1 st1) (r : RepR K ρ1 H1 rv v) (n : Nw H rv v) (j : Ev.Jr ⟨st.objs, st.objs.length⟩ st1) (e : Ev.finish st.objs.length st.dirty rv st1 = .ok rv2 st2) :
    ∃ ρ2, Grow ρ H ρ2 H1 ∧ RepS K ρ2 H1 st2 ∧ RepR K ρ2 H1 rv2 v ∧ Nw H rv2 v := by
  have keep : Ev.keepAll st.dirty rv st1 = .ok rv2 st2 → ∃ ρ2, Grow ρ H ρ2 H1 ∧ RepS K ρ2 H1 st2 ∧ RepR K ρ2 H1 rv2 v ∧ Nw H rv2 v := by
    intro e
    cases e
    exact ⟨ρ1, g, ⟨s1.len, s1.nd, s1.obj⟩, r, n⟩
  unfold Ev.finish at e
  split at e
  · exact keep e
  · rename_i hn
    have g0 : Grow ρ H ρ H1 := ⟨List.prefix_refl _, g.frame, g.tups, g.frzs, fun _ m => .inl m⟩
    have s0 : RepS K ρ H1 ⟨st1.objs.take st.objs.length, st.dirty⟩ := by
      have hl : st.objs.length ≤ st1.objs.length := j.len
      refine ⟨by show _ = (st1.objs.take _).length; rw [List.length_take, s.len]; omega, s.nd, fun i o a e1 e2 => ?_⟩
      have e1 : (st1.objs.take st.objs.length)[i]? = some o := e1
      have hi : i < st.objs.length := by rw [← s.len]; exact (List.getElem?_eq_some_iff.mp e2).1
      rw [List.getElem?_take_of_lt hi] at e1
      have q := s1.obj i o a e1 (g.ix e2)
      cases o with
      | lst ds =>
        obtain ⟨xs, h1, rl⟩ := q
        refine ⟨xs, h1, rl.down g.pre ?_⟩
        rcases j.obj i hi (Nat.lt_of_lt_of_le hi (Nat.le_of_not_lt hn)) with e3 | ⟨o, e3, l⟩
        · have e3 : st1.objs[i]? = st.objs[i]? := e3
          rw [e1] at e3
          obtain ⟨ys, _, rl0⟩ := s.obj i (.lst ds) a e3.symm e2
          exact rl0.isLow
        · rw [e1] at e3
          cases e3
          exact lowL_up (by rw [s.len]; omega) (show Ev.D.lowL (i + 1) ds = true from l)
    have lo : ∀ {d : Ev.D}, d.low st.objs.length = true → Rep K ρ1 H1 d v → Rep K ρ H1 d v := fun l r => Rep.down g.pre (by rw [s.len]; exact l) r
    split at e
    · rename_i i
      split at e
      · rename_i hi
        cases e
        exact ⟨ρ, g0, s0, lo (Nat.blt_eq.mpr hi) r, trivial⟩
      · rename_i hi
        split at e
        · rename_i ds eo
          split at e
          · rename_i hlow
            cases e
            have r : Rep K ρ1 H1 (.ref i) v := r
            rw [Rep] at r
            obtain ⟨a, ea, rfl⟩ := r
            obtain ⟨xs, hx, rl⟩ := s1.obj i _ a eo ea
            have na : a ∉ ρ := fun m => by
              obtain ⟨k, hk, ek⟩ := List.mem_iff_getElem.mp m
              have e4 : ρ1[k]? = some a := g.ix (by rw [List.getElem?_eq_getElem hk, ek])
              obtain ⟨h1, e1'⟩ := List.getElem?_eq_some_iff.mp ea
              obtain ⟨h2, e2'⟩ := List.getElem?_eq_some_iff.mp e4
              have : i = k := (List.getElem_inj s1.nd).mp (e1'.trans e2'.symm)
              rw [s.len] at hk
              omega
            exact ⟨ρ, g0, s0, ⟨a, xs, rfl, hx, na, rl.down g.pre (by rw [s.len]; exact hlow)⟩, ⟨a, rfl, (g.new a (List.mem_of_getElem? ea)).resolve_left na⟩⟩
          · exact keep e
        · exact keep e
    · rename_i d _
      split at e
      · rename_i hlow
        cases e
        exact ⟨ρ, g0, s0, lo hlow r, trivial⟩
      · exact keep e
    · rename_i ds
      split at e
      · rename_i hlow
        cases e
        obtain ⟨a, xs, rfl, hx, na, rl⟩ := r
        exact ⟨ρ, g0, s0, ⟨a, xs, rfl, hx, fun m => na (g.pre.subset m), rl.down g.pre (by rw [s.len]; exact hlow)⟩, n⟩
      · exact keep e
end

/-! ### defs -/
/-- a def of the text and its code -/
structure DefOk (K : PySem.W.Frag) (mg : Str → Option Value) (names : List Str) (glo : List (Str × Ev.D)) (x : Str) (fn : Ev.Fn) (a : Addr) (fd : FuncData) (ps : List Str) : Prop where
  ex : ∃ (N : List Str) (params : Arguments) (body : List Stmt) (scope : Scope) (dvs : List V) (kws : List (Str × V)), FunD K x x params body scope dvs kws a fd ∧ FnScope N ps scope ∧ ps.length = fn.np ∧ N.length = fn.nn ∧ chkSs ⟨N, names, glo⟩ scope fn.body body = true
  mg : mg x = some (.ref a)
  bnd : Binds K fd ps []
structure Prg (K : PySem.W.Frag) (mg : Str → Option Value) (names : List Str) (gl : List (Str × Ev.D)) (fns : List Ev.Fn) : Prop where
  glo : ∀ x d, gl.lookup x = some d → ∃ u v, mg x = some u ∧ RelV v u ∧ ∀ ρ H, Rep K ρ H d v
  blt : ∀ x ∈ bltNames, mg x = none
  fn : ∀ (f : Nat) (x : Str), names[f]? = some x → ∃ fn a fd ps, fns[f]? = some fn ∧ DefOk K mg names gl x fn a fd ps
theorem repE_start {K : PySem.W.Frag} {ρ : Ix} {H : Hp} {N : List Str} {ds : List Ev.D} {vs : List V} {m : Nat} (r : RepL K ρ H ds vs) (hm : m = N.length - ds.length) : RepE K ρ H (ds.map some ++ List.replicate m none) (start N vs) := by
  subst hm
  have hl := r.length
  unfold L2.start
  refine ⟨by simp [hl], fun i d e => ?_⟩
  by_cases hi : i < ds.length
  · rw [List.getElem?_append_left (by rw [List.length_map]; exact hi), List.getElem?_map] at e
    obtain ⟨d', e1, e2⟩ := Option.map_eq_some_iff.mp e
    cases e2
    obtain ⟨x, ex, rx⟩ := r.get e1
    refine ⟨x, ?_, rx⟩
    rw [List.getElem?_append_left (by rw [List.length_map, ← hl]; exact hi), List.getElem?_map, ex]
    rfl
  · rw [List.getElem?_append_right (by rw [List.length_map]; omega), List.getElem?_replicate] at e
    split at e
    · cases e
    · cases e
theorem all_fn {P : Program} {w : World} {K : PySem.W.Frag} {mg : Str → Option Value} {base : Heap} {names : List Str} {glo : List (Str × Ev.D)} {fns : List Ev.Fn} (R : Prg K mg names glo fns) :
    ∀ (n f : Nat) (x : Str) (fn : Ev.Fn) (a : Addr) (fd : FuncData) (ps : List Str), fns[f]? = some fn → DefOk K mg names glo x fn a fd ps → FnOk P w K mg base CX0 n a fd ps (spF K (Ev.evFn fns n) f)
  | 0, f, x, fn, a, fd, ps, hf, D => ⟨fun vs H Q E h => (by obtain ⟨ρ, st, ds, rv, st', _, _, e, _⟩ := h; cases e), fun A outer s H args us vs Q E _ _ _ _ h => (by obtain ⟨ρ, st, ds, rv, st', _, _, e, _⟩ := h; cases e)⟩
  | n + 1, f, x, fn, a, fd, ps, hf, D => by
    obtain ⟨N, params, body, scope, dvs, kws, F, S, h1, h2, hck⟩ := D.ex
    have inv : ∀ {ds : List Ev.D} {st st' : Ev.St} {rv : Ev.Rv}, Ev.evFn fns (n + 1) f ds st = .ok rv st' → ds.length = fn.np ∧ ∃ fl st1 r1, Ev.evSs (Ev.evFn fns n) fn.body (ds.map some ++ List.replicate (fn.nn - fn.np) none) ⟨st.objs, st.objs.length⟩ = .ok fl st1 ∧ Ev.retOf fl = some r1 ∧ Ev.finish st.objs.length st.dirty r1 st1 = .ok rv st' := by
      intro ds st st' rv e
      unfold Ev.evFn at e
      rw [hf] at e
      dsimp only at e
      split at e
      · rename_i hl
        obtain ⟨fl, st1, e1, e2⟩ := bind_inv e
        split at e2
        · rename_i r1 er
          exact ⟨hl, fl, st1, r1, e1, er, e2⟩
        · cases e2
      · cases e
    refine F.ok S (fun vs H Q E h => ?_) fun cdv A outer s H vs Q E hr h => ?_
    · obtain ⟨ρ, st, ds, rv, st', _, rl, e, _⟩ := h
      rw [← rl.length, (inv e).1, h1]
    · obtain ⟨ρ, st, ds, rv, st', hs, rl, e, q⟩ := h
      obtain ⟨hl, fl, st1, r1, e1, er, e2⟩ := inv e
      have C : SCok (cxOf CX0 P w K mg base N x scope a cdv A outer s H E).nox ⟨N, names, glo⟩ scope (Ev.evFn fns n) := {
        N := rfl
        nd := S.nd
        sc := rfl
        calm := rfl
        hu := by have := hr.un; show (A.deeper (envOfC x scope s.heap.objs.size a cdv)).units + 65 < cLine; omega
        glo := R.glo
        blt := R.blt
        fn := fun g y hy => by
          obtain ⟨fn', a', fd', ps', hf', D'⟩ := R.fn g y hy
          obtain ⟨_, _, _, _, _, _, F', _⟩ := D'.ex
          exact ⟨a', fd', ps', n, D'.mg, F'.kp, D'.bnd, all_fn R n g y fn' a' fd' ps' hf' D', hr⟩
        fnc := fun _ => rfl
        kind := S.kind
        po := PassesOwn.never }
      refine ⟨tSs K (Ev.evFn fns n) fn.body, PSs.nox (okSs C fn.body body hck), ρ, _, ⟨st.objs, st.objs.length⟩, fl, st1, ⟨hs.len, hs.nd, hs.obj⟩, repE_start rl (by rw [hl, h2]), e1, ?_⟩
      have j := Ev.kp_Ss (fun f as st => Ev.kp_Fn n f as st) fn.body _ _ fl st1 e1
      cases fl with
      | nx env' =>
        cases er
        intro ρ1 H1 σ1 g1 s1 r1
        obtain ⟨ρ2, g2, s2, r2, n2⟩ := finish_ok (v := .non) hs g1 s1 (rv := .d .non) (by show Rep K ρ1 H1 .non .non; rw [Rep]) trivial j e2
        exact q ρ2 H1 .non g2 s2 r2 n2
      | rt v =>
        cases er
        intro ρ1 H1 v1 g1 s1 r1 n1
        obtain ⟨ρ2, g2, s2, r2, n2⟩ := finish_ok hs g1 s1 r1 n1 j e2
        exact q ρ2 H1 v1 g2 s2 r2 n2
      | bk env' => cases er
      | ct env' => cases er
end EvS
/-! Ev16: the head's facts for the interpreter. -/
namespace EvS
open PySem PySem.Spec PyProof.Rows L2

/-! ### constants of the module -/
mutual
def repK (K : PySem.W.Frag) : Ev.D → Value → Bool
  | .non, .none => true
  | .bl b, .bool c => b == c
  | .int i, .int j _ => decide (i = j)
  | .str z, .str y _ => decide (y = ⟨z.toArray⟩)
  | .tup ds, .ref a => (match K.lookup a with
    | some ⟨.type c, _, .seq its _, _⟩ => decide (c = "tuple") && (decide (its.size ≤ sizeLine) && repKL K ds its.toList)
    | _ => false)
  | _, _ => false
def repKL (K : PySem.W.Frag) : List Ev.D → List Value → Bool
  | [], [] => true
  | d :: ds, u :: us => repK K d u && repKL K ds us
  | _, _ => false
end
mutual
theorem repK_ok {K : PySem.W.Frag} : ∀ {d : Ev.D} {u : Value}, repK K d u = true → ∃ v, RelV v u ∧ ∀ ρ H, Rep K ρ H d v
  | .non, u, h => by
    cases u with
    | none => exact ⟨.non, rfl, fun ρ H => by rw [Rep]⟩
    | _ => cases h
  | .bl b, u, h => by
    cases u with
    | bool c =>
      have e : b = c := eq_of_beq (show (b == c) = true from h)
      exact ⟨.bl b, by rw [e]; rfl, fun ρ H => by rw [Rep]⟩
    | _ => cases h
  | .int i, u, h => by
    cases u with
    | int j t =>
      have e : i = j := of_decide_eq_true h
      exact ⟨.int i, ⟨t, by rw [e]⟩, fun ρ H => by rw [Rep]⟩
    | _ => cases h
  | .str z, u, h => by
    cases u with
    | str y t =>
      have e : y = ⟨z.toArray⟩ := of_decide_eq_true h
      exact ⟨.str y, ⟨t, rfl⟩, fun ρ H => by rw [Rep, e]⟩
    | _ => cases h
  | .tup ds, u, h => by
    cases u with
    | ref a =>
      have h : (match K.lookup a with
        | some ⟨.type c, _, .seq its _, _⟩ => decide (c = "tuple") && (decide (its.size ≤ sizeLine) && repKL K ds its.toList)
        | _ => false) = true := h
      split at h
      · rename_i c od its n sl q
        obtain ⟨h1, h2⟩ := and2 h
        obtain ⟨h2, h3⟩ := and2 h2
        obtain ⟨vs, rv, rl⟩ := repKL_ok h3
        refine ⟨.ref a, rfl, fun ρ H => ?_⟩
        rw [Rep]
        exact ⟨a, vs, rfl, .inr ⟨_, its, n, q, congrArg Value.type (of_decide_eq_true h1), rfl, of_decide_eq_true h2, rv⟩, rl ρ H⟩
      · cases h
    | _ => cases h
  | .ref _, u, h => by cases u <;> cases h
  | .scr _, u, h => by cases u <;> cases h
theorem repKL_ok {K : PySem.W.Frag} : ∀ {ds : List Ev.D} {us : List Value}, repKL K ds us = true → ∃ vs, Vals vs us ∧ ∀ ρ H, RepL K ρ H ds vs
  | [], [], _ => ⟨[], .nil, fun _ _ => repL_nil⟩
  | [], _ :: _, h => by cases h
  | _ :: _, [], h => by cases h
  | d :: ds, u :: us, h => by
    obtain ⟨h1, h2⟩ := and2 (show (repK K d u && repKL K ds us) = true from h)
    obtain ⟨v, r, p⟩ := repK_ok h1
    obtain ⟨vs, rs, ps⟩ := repKL_ok h2
    exact ⟨v :: vs, .cons r rs, fun ρ H => repL_cons (p ρ H) (ps ρ H)⟩
end
def gloK (K : PySem.W.Frag) (p : Str × Ev.D) : Bool := match PySem.W.nsIn K mainGlobals p.1 with
  | some (some u) => repK K p.2 u
  | _ => false
theorem gloK_ok {K : PySem.W.Frag} {h : Heap} {mg : Str → Option Value} (X : K.In h) (G : h.Ns mainGlobals mg) {p : Str × Ev.D} (c : gloK K p = true) : ∃ u v, mg p.1 = some u ∧ RelV v u ∧ ∀ ρ H, Rep K ρ H p.2 v := by
  unfold gloK at c
  split at c
  · rename_i u e
    obtain ⟨v, r, q⟩ := repK_ok c
    exact ⟨u, v, PySem.W.mg_of X G e, r, q⟩
  · cases c

/-! ### the Hook -/
def obsE (fa : List He.Fa) (gl : List (Str × Ev.D)) (fn : List He.DefD) (K : PySem.W.Frag) : He.AlD := ((fa.all fun f => f.ok K) && ((gl.all (gloK K)) && fn.all fun d => d.ok K), fn.map fun d => He.fnW K d.at_)
def SaysE (fa : List He.Fa) (gl : List (Str × Ev.D)) (fn : List He.DefD) (K : PySem.W.Frag) : Prop := obsE fa gl fn K = He.valD fn
def obsEG (n : Nat) (fa : List He.Fa) (gl : List (Str × Ev.D)) (fn : List He.DefD) (g : Addr → Option Obj) : He.AlD := obsE fa gl fn (He.frG g (He.asD g n))
def hookE (n : Nat) (fa : List He.Fa) (gl : List (Str × Ev.D)) (fn : List He.DefD) : PySem.W.Hook where
  α := He.AlD
  obs := fun s => obsEG n fa gl fn s.heap.get?
  val := fun _ => He.valD fn
  says := fun _ h => ∃ K : PySem.W.Frag, K.In h ∧ SaysE fa gl fn K
  of := fun _ _ e => ⟨_, He.frG_in, e⟩
  keeps := fun _ _ _ ⟨K, hK, c⟩ k => ⟨K, PySem.W.Frag.In.keeps hK k, c⟩
theorem obsEG_eq {n : Nat} {fa : List He.Fa} {gl : List (Str × Ev.D)} {fn : List He.DefD} {g : Addr → Option Obj} {s : Shared} (h : ∀ a, g a = s.heap.get? a) : obsEG n fa gl fn g = (hookE n fa gl fn).obs s := by
  have e : g = s.heap.get? := funext h
  rw [e] <;> rfl
section
variable {fa : List He.Fa} {gl : List (Str × Ev.D)} {fn : List He.DefD} {K : PySem.W.Frag}
theorem SaysE.parts (c : SaysE fa gl fn K) : (fa.all fun f => f.ok K) = true ∧ gl.all (gloK K) = true ∧ (fn.all fun d => d.ok K) = true := by
  obtain ⟨h1, h2⟩ := and2 (show ((fa.all fun f => f.ok K) && ((gl.all (gloK K)) && fn.all fun d => d.ok K)) = true from congrArg (fun z : He.AlD => z.1) c)
  obtain ⟨h2, h3⟩ := and2 h2
  exact ⟨h1, h2, h3⟩
theorem SaysE.fact (c : SaysE fa gl fn K) {f : He.Fa} (h : f ∈ fa) : f.ok K = true := List.all_eq_true.mp c.parts.1 f h
theorem SaysE.def_ (c : SaysE fa gl fn K) {d : He.DefD} {i : Nat} (h : fn[i]? = some d) : ∃ fd, FunD K d.name d.qual d.params d.body d.scope (d.dvs K) (d.kws K) (He.fAd K d.at_) fd := by
  have e : fn.map (fun d => He.fnW K d.at_) = fn.map He.DefD.val := congrArg (fun z : He.AlD => z.2) c
  have e2 : (fn.map fun d => He.fnW K d.at_)[i]? = (fn.map He.DefD.val)[i]? := by rw [e]
  rw [List.getElem?_map, List.getElem?_map, h] at e2
  exact He.DefD.funD (Option.some.inj e2) (List.all_eq_true.mp c.parts.2.2 d (List.mem_of_getElem? h))
end

/-! ### the defs' records -/
structure FnR where
  name : Str
  st : Stmt
  ps : List Str
  N : List Str
  code : Ev.Ss
def FnR.fn (r : FnR) : Ev.Fn := ⟨r.ps.length, r.N.length, r.code⟩
def FnR.dd (r : FnR) : He.DefD := ⟨(r.name, none), r.name, r.name, defArgs r.st, defBody r.st, defScope r.st, [], []⟩
def FnR.ok (names : List Str) (gl : List (Str × Ev.D)) (r : FnR) : Bool := C8.scC r.N r.ps (defScope r.st) && chkSs ⟨r.N, names, gl⟩ (defScope r.st) r.code (defBody r.st)
/-- how its arguments are bound -/
def FnR.Bnd (r : FnR) : Prop := ∀ (kV doc pm : Value) (an : Option Addr) (cdv ct : Value) (us : List Value), us.length = r.ps.length → bindArgs (PySem.W.fnOf r.name r.name (defArgs r.st) (defBody r.st) (defScope r.st) .none kV doc pm an cdv ct) ⟨us, []⟩ = pure (r.ps.zip us)
theorem lookup_mem {α : Type} : ∀ {l : List (Str × α)} {x : Str} {d : α}, l.lookup x = some d → (x, d) ∈ l
  | [], _, _, h => by cases h
  | (y, e) :: l, x, d, h => by
    rw [List.lookup_cons] at h
    split at h
    · rename_i q
      cases h
      rw [eq_of_beq q]
      exact List.mem_cons_self
    · exact List.mem_cons_of_mem _ (lookup_mem h)
def faOf (rs : List FnR) : List He.Fa := (bltNames.map He.Fa.free) ++ rs.map fun r => He.Fa.glo r.name
theorem prg_of {K : PySem.W.Frag} {h : Heap} {mg : Str → Option Value} {rs : List FnR} {gl : List (Str × Ev.D)} (X : K.In h) (G : h.Ns mainGlobals mg) (c : SaysE (faOf rs) gl (rs.map FnR.dd) K)
    (hok : rs.all (FnR.ok (rs.map FnR.name) gl) = true) (hb : ∀ r ∈ rs, r.Bnd) : Prg K mg (rs.map FnR.name) gl (rs.map FnR.fn) ∧ ∀ (f : Nat) (r : FnR), rs[f]? = some r → ∃ fd, DefOk K mg (rs.map FnR.name) gl r.name r.fn (He.ga K r.name) fd r.ps ∧ ∀ (s : Shared) (us : List Value), us.length = r.ps.length → BindsTo s fd ⟨us, []⟩ (r.ps.zip us) := by
  have dfn : ∀ (f : Nat) (r : FnR), rs[f]? = some r → ∃ fd, DefOk K mg (rs.map FnR.name) gl r.name r.fn (He.ga K r.name) fd r.ps ∧ ∀ (s : Shared) (us : List Value), us.length = r.ps.length → BindsTo s fd ⟨us, []⟩ (r.ps.zip us) := by
    intro f r hr
    obtain ⟨fd, F⟩ := c.def_ (d := r.dd) (i := f) (by rw [List.getElem?_map, hr]; rfl)
    have mr := List.mem_of_getElem? hr
    obtain ⟨o1, o2⟩ := and2 (show (C8.scC r.N r.ps (defScope r.st) && chkSs ⟨r.N, rs.map FnR.name, gl⟩ (defScope r.st) r.code (defBody r.st)) = true from List.all_eq_true.mp hok r mr)
    refine ⟨fd, ⟨⟨r.N, defArgs r.st, defBody r.st, defScope r.st, _, _, F, C8.fnScope_by o1, rfl, rfl, o2⟩, ?_, ?_⟩, FunD.bindsA (F := (show FunD K r.name r.name (defArgs r.st) (defBody r.st) (defScope r.st) [] [] _ fd from F)) (hb r mr)⟩
    · exact He.glo_ok X G (c.fact (f := .glo r.name) (List.mem_append_right _ (List.mem_map.mpr ⟨r, mr, rfl⟩)))
    · exact FunD.bindsN (F := (show FunD K r.name r.name (defArgs r.st) (defBody r.st) (defScope r.st) [] [] _ fd from F)) (hb r mr)
  refine ⟨⟨fun x d hd => ?_, fun x hx => ?_, fun f x hx => ?_⟩, dfn⟩
  · exact gloK_ok X G (p := (x, d)) (List.all_eq_true.mp c.parts.2.1 _ (lookup_mem hd))
  · exact He.free_ok X G (c.fact (f := .free x) (List.mem_append_left _ (List.mem_map.mpr ⟨x, hx, rfl⟩)))
  · rw [List.getElem?_map] at hx
    obtain ⟨r, hr, e⟩ := Option.map_eq_some_iff.mp hx
    obtain ⟨fd, D, _⟩ := dfn f r hr
    exact ⟨r.fn, _, fd, r.ps, by rw [List.getElem?_map, hr]; rfl, e ▸ D⟩
theorem frzL_of {K : PySem.W.Frag} {H : Hp} {a : Addr} {xs : List V} (hO : Only H) (h : SqL K H a xs) : FrzL K H a xs := by
  rcases h with (h | ⟨o, h⟩) | h
  · rcases hO a with z | ⟨o, ys, z⟩
    · rw [z] at h; cases h
    · rw [z] at h; cases h
  · exact .inl ⟨o, h⟩
  · exact .inr h
/-- the law's promise, of the interpreter's answer -/
theorem sp_law {K : PySem.W.Frag} {fns : List Ev.Fn} {n f : Nat} {H : Hp} {a : Addr} {ns : List Int} (hO : Only H) (hS : SqL K H a (ns.map V.int)) (h : ∃ st', Ev.evFn fns n f [.scr ns] ⟨[], 0⟩ = .ok (.d (.bl true)) st') :
    spF K (Ev.evFn fns n) f [.ref a] H (fun v _ => v = .bl true) fun _ _ _ => False := by
  obtain ⟨st', e⟩ := h
  refine ⟨[], ⟨[], 0⟩, [.scr ns], .d (.bl true), st', ⟨rfl, List.nodup_nil, fun i o a e => by cases e⟩, repL_cons (by rw [Rep]; exact ⟨a, rfl, frzL_of hO hS⟩) repL_nil, e, fun ρ1 H1 v g s r n => Rep.toBl r⟩
end EvS
/-! EvP: reasoning about the interpreter's runs. -/
namespace Ev
theorem evFn_succ {fns : List Fn} {n f : Nat} {args : List D} {st : St} {fn : Fn} (hf : fns[f]? = some fn) (hl : args.length = fn.np) :
    evFn fns (n + 1) f args st = (evSs (evFn fns n) fn.body (args.map some ++ List.replicate (fn.nn - fn.np) none) ⟨st.objs, st.objs.length⟩).bind fun fl st1 => (match retOf fl with
          | some rv => finish st.objs.length st.dirty rv st1
          | none => .err) := by
  rw [evFn, hf]
  show (if args.length = fn.np then _ else _) = _
  rw [if_pos hl] <;> rfl
/-- nothing of the new objects is held -/
theorem finish_d {st : St} {d : D} {new : List Ob} (h : d.low st.objs.length = true) (hr : ∀ i, d ≠ .ref i) : finish st.objs.length st.dirty (.d d) ⟨st.objs ++ new, st.objs.length⟩ = .ok (.d d) st := by
  unfold finish
  rw [if_neg (Nat.lt_irrefl _)]
  cases d with
  | ref i => exact absurd rfl (hr i)
  | _ =>
    show (if _ then Res.ok _ _ else _) = _
    rw [if_pos h]
    show Res.ok _ (St.mk ((st.objs ++ new).take st.objs.length) st.dirty) = _
    rw [List.take_left']
    rfl
theorem finish_d0 {st : St} {d : D} (h : d.low st.objs.length = true) (hr : ∀ i, d ≠ .ref i) : finish st.objs.length st.dirty (.d d) ⟨st.objs, st.objs.length⟩ = .ok (.d d) st := by
  have := finish_d (new := []) h hr
  rwa [List.append_nil] at this
@[simp] theorem finish_bl {st : St} {b : Bool} {new : List Ob} : finish st.objs.length st.dirty (.d (.bl b)) ⟨st.objs ++ new, st.objs.length⟩ = .ok (.d (.bl b)) st := finish_d rfl nofun
@[simp] theorem finish_bl0 {st : St} {b : Bool} : finish st.objs.length st.dirty (.d (.bl b)) ⟨st.objs, st.objs.length⟩ = .ok (.d (.bl b)) st := finish_d0 rfl nofun
@[simp] theorem finish_int {st : St} {b : Int} {new : List Ob} : finish st.objs.length st.dirty (.d (.int b)) ⟨st.objs ++ new, st.objs.length⟩ = .ok (.d (.int b)) st := finish_d rfl nofun
@[simp] theorem finish_int0 {st : St} {b : Int} : finish st.objs.length st.dirty (.d (.int b)) ⟨st.objs, st.objs.length⟩ = .ok (.d (.int b)) st := finish_d0 rfl nofun
@[simp] theorem finish_non {st : St} {new : List Ob} : finish st.objs.length st.dirty (.d .non) ⟨st.objs ++ new, st.objs.length⟩ = .ok (.d .non) st := finish_d rfl nofun
@[simp] theorem finish_non0 {st : St} : finish st.objs.length st.dirty (.d .non) ⟨st.objs, st.objs.length⟩ = .ok (.d .non) st := finish_d0 rfl nofun
theorem lcGo_succ {body : D → M (Option D)} {its : Its} {n k : Nat} {st : St} : lcGo body its (n + 1) k st = (match its.at st k with
    | none => .err
    | some none => .ok [] st
    | some (some d) => (body d st).bind fun o st1 => (lcGo body its n (k + 1) st1).bind fun r st2 => .ok (o.toList ++ r) st2) := rfl
/-- a comprehension whose items leave the store as it is -/
theorem lc_pure {body : D → M (Option D)} {its : Its} {ds : List D} {g : D → Option D} {st : St} (hat : ∀ k, its.at st k = some ds[k]?) (hb : ∀ d ∈ ds, body d st = .ok (g d) st) :
    ∀ (n k : Nat), ds.length < n + k → k ≤ ds.length → lcGo body its n k st = .ok ((ds.drop k).filterMap g) st
  | 0, k, h, hk => by omega
  | n + 1, k, h, hk => by
    rw [lcGo_succ, hat k]
    by_cases hlt : k < ds.length
    · rw [List.getElem?_eq_getElem hlt]
      show (body ds[k] st).bind _ = _
      rw [hb _ (List.getElem_mem hlt)]
      show (lcGo body its n (k + 1) st).bind _ = _
      rw [lc_pure hat hb n (k + 1) (by omega) (by omega), List.drop_eq_getElem_cons hlt]
      show Res.ok ((g ds[k]).toList ++ _) st = _
      rw [List.filterMap_cons]
      cases g ds[k] <;> rfl
    · have e : ds.length ≤ k := by omega
      rw [List.getElem?_eq_none e, List.drop_eq_nil_of_le e]
      rfl
end Ev
/-! EvQ: values of single steps. -/
namespace Ev
section
variable {st : St} {call : Nat → List D → M Rv} {env : Env}
theorem big_val : big = 100000 := rfl
/-! ### names -/
@[simp] theorem evE_var {i : Nat} {d : D} (h : getV env i = some d) : evE call (.var i) env st = .ok (.d d) st := by rw [evE]; simp only [h]
theorem getV_0 {o : Option D} {r : Env} : getV (o :: r) 0 = o := by cases o <;> rfl
theorem getV_s {o : Option D} {r : Env} {i : Nat} : getV (o :: r) (i + 1) = getV r i := rfl
/-! ### single values -/
theorem sub_last {ds : List D} (h : ds.length ≤ 100000) : subR st (.d (.tup ds)) (.d (.int (-1))) = ds.getLast? := by
  show (if decide (ds.length ≤ big) then atI ds (-1) else none) = _
  rw [if_pos (decide_eq_true (show ds.length ≤ big from h))]
  unfold atI ixN
  rw [if_neg (by decide)]
  cases ds with
  | nil => rfl
  | cons a r =>
    rw [if_pos (by simp; omega)]
    show ((a :: r))[(-1 + ((a :: r).length : Int)).toNat]? = _
    rw [List.getLast?_eq_getElem?]
    congr 1
    simp only [List.length_cons]
    omega
theorem sub_nat {ds : List D} {i : Nat} (h : ds.length ≤ 100000) : subR st (.d (.tup ds)) (.d (.int i)) = ds[i]? := by
  show (if decide (ds.length ≤ big) then atI ds i else none) = _
  rw [if_pos (decide_eq_true (show ds.length ≤ big from h))]
  unfold atI ixN
  rw [if_pos (by omega)]
  split
  · rename_i hl
    show ds[((i : Int)).toNat]? = _
    rfl
  · rename_i hl
    rw [List.getElem?_eq_none (by omega)]
    rfl
theorem eq_str {a b : List Nat} : cmpR .eq st (.d (.str a)) (.d (.str b)) = some (a == b) := rfl
theorem ne_str {a b : List Nat} : cmpR .ne st (.d (.str a)) (.d (.str b)) = some (!(a == b)) := rfl
theorem in_str2 {a b c : List Nat} : cmpR .isin st (.d (.str a)) (.d (.tup [.str b, .str c])) = some (b == a || c == a) := by
  have e : cmpR .isin st (.d (.str a)) (.d (.tup [.str b, .str c])) = anyEq false (.str a) [.str b, .str c] := by
    match a with
    | [] => rfl
    | [_] => rfl
    | _ :: _ :: _ => rfl
  rw [e]
  show some ([D.str b, D.str c].any fun y => y.eqb (.str a)) = _
  show some (b == a || (c == a || false)) = _
  rw [Bool.or_false]
theorem notin_str2 {a b c : List Nat} : cmpR .notin st (.d (.str a)) (.d (.tup [.str b, .str c])) = some (!(b == a || c == a)) := by
  show (cmpR .isin st (.d (.str a)) (.d (.tup [.str b, .str c]))).map (!·) = _
  rw [in_str2]
  rfl
theorem len_tup {ds : List D} (h : ds.length ≤ 100000) : bltR .len st [.d (.tup ds)] = some (.d (.int ds.length)) := by
  show (if decide (ds.length ≤ big) then some (Rv.d (.int ds.length)) else none) = _
  rw [if_pos (decide_eq_true (show ds.length ≤ big from h))]
theorem slc_init {ds : List D} (h : ds.length ≤ 100000) : slcR st (.d (.tup ds)) none (some (-1)) = some (.d (.tup ds.dropLast)) := by
  show (if decide (ds.length ≤ big) then some (Rv.d (.tup (cut ds none (some (-1))))) else none) = _
  rw [if_pos (decide_eq_true (show ds.length ≤ big from h))]
  congr 3
  unfold cut
  have e : sIx ds.length ds.length (some (-1)) = ds.length - 1 := by
    show (if (-1 : Int) < 0 then (-1 + (ds.length : Int)).toNat else min (-1 : Int).toNat ds.length) = _
    rw [if_pos (by decide)]
    omega
  rw [e, show sIx ds.length 0 none = 0 from rfl, List.drop_zero, List.dropLast_eq_take]
  rfl
theorem slc_from {ds : List D} {n : Nat} (h : ds.length ≤ 100000) : slcR st (.d (.tup ds)) (some n) none = some (.d (.tup (ds.drop n))) := by
  show (if decide (ds.length ≤ big) then some (Rv.d (.tup (cut ds (some n) none))) else none) = _
  rw [if_pos (decide_eq_true (show ds.length ≤ big from h))]
  congr 3
  unfold cut
  have e : sIx ds.length 0 (some (n : Int)) = min n ds.length := by
    show (if (n : Int) < 0 then ((n : Int) + (ds.length : Int)).toNat else min (n : Int).toNat ds.length) = _
    rw [if_neg (by omega)]
    rfl
  rw [e, show sIx ds.length ds.length none = ds.length from rfl, List.take_of_length_le (by rw [List.length_drop]; omega)]
  by_cases hn : n ≤ ds.length
  · rw [Nat.min_eq_left hn]
  · rw [Nat.min_eq_right (by omega), List.drop_eq_nil_of_le (Nat.le_refl _), List.drop_eq_nil_of_le (by omega)]
theorem add_tup {x y : List D} (h : x.length + y.length ≤ 100000) : binR .add st (.d (.tup x)) (.d (.tup y)) = some (.d (.tup (x ++ y))) := by
  show (if decide (x.length + y.length ≤ big) then some (Rv.d (.tup (x ++ y))) else none) = _
  rw [if_pos (decide_eq_true (show _ ≤ big from h))]
theorem mul_tup1 {d : D} {k : Int} (h : -1000000 ≤ k) (h' : k ≤ 1000) : binR .mul st (.d (.tup [d])) (.d (.int k)) = some (.d (.tup (List.replicate k.toNat d))) := by
  show (if ![d].isEmpty && (decide (-1000000 ≤ k) && (decide (k ≤ 1000) && decide ([d].length ≤ 100))) then some (Rv.d (.tup (List.replicate k.toNat [d]).flatten)) else none) = _
  rw [if_pos (by simp [h, h'])]
  congr 3
  generalize k.toNat = n
  induction n with
  | zero => rfl
  | succ n ih => rw [List.replicate_succ, List.flatten_cons, ih, List.replicate_succ]; rfl
theorem int_bin {op : Bop} {i j : Int} : binR op st (.d (.int i)) (.d (.int j)) = (binI op i j).map fun k => .d (.int k) := by cases op <;> rfl
theorem int_cmp {op : Cop} {i j : Int} : cmpR op st (.d (.int i)) (.d (.int j)) = (match op with
    | .eq => some (decide (i = j))
    | .ne => some (!decide (i = j))
    | .lt => some (decide (i < j))
    | .le => some (decide (i ≤ j))
    | .gt => some (decide (j < i))
    | .ge => some (decide (j ≤ i))
    | .isin => none
    | .notin => none) := by
  cases op <;> rfl
end
end Ev
namespace Ev
theorem bind_congr1 {α β : Type} {r r' : Res α} {f : α → M β} (h : r = r') : r.bind f = r'.bind f := by rw [h]
theorem ofO_some {v : Rv} {st : St} : ofO (some v) st = .ok v st := rfl
theorem mat_d {d : D} {st : St} : mat (.d d) st = .ok d st := rfl
theorem mat_tmp {ds : List D} {st : St} : mat (.tmp ds) st = .ok (.ref st.objs.length) ⟨st.objs ++ [.lst ds], st.dirty⟩ := rfl
theorem set_var {i : Nat} {d : D} {env : Env} : setTg (.var i) d env = some (env.set i (some d)) := rfl
theorem bound_int {i : Int} (h : -1000000000 ≤ i) (h' : i ≤ 1000000000) : boundOf (some (.d (.int i))) = some (some i) := by
  show (if decide (-1000000000 ≤ i) && decide (i ≤ 1000000000) then some (some i) else none) = _
  rw [if_pos (by simp [h, h'])]
theorem if_big {α : Type} {n : Nat} {a b : α} (h : n ≤ 100000) : (if n ≤ big then a else b) = a := if_pos h
theorem lowL_str {l : List (List Nat)} {b : Nat} : D.lowL b (l.map D.str) = true := by
  induction l with
  | nil => rfl
  | cons a r ih => show (true && D.lowL b (r.map D.str)) = true; rw [ih]; rfl
theorem finish_tupS {st : St} {l : List (List Nat)} {new : List Ob} : finish st.objs.length st.dirty (.d (.tup (l.map .str))) ⟨st.objs ++ new, st.objs.length⟩ = .ok (.d (.tup (l.map .str))) st := finish_d (lowL_str (l := l)) nofun
theorem finish_tupS0 {st : St} {l : List (List Nat)} : finish st.objs.length st.dirty (.d (.tup (l.map .str))) ⟨st.objs, st.objs.length⟩ = .ok (.d (.tup (l.map .str))) st := finish_d0 (lowL_str (l := l)) nofun
theorem bound_no : boundOf none = some none := rfl
end Ev
/-! EvR: loops, comprehensions, lists, over the interpreter. -/
namespace Ev
section
variable {st : St} {call : Nat → List D → M Rv} {env : Env}
theorem lc_map {α : Type} {own : List Nat} {t : Tg} {src : Src} {elt : E} {its : Its} {l : List α} {f g : α → D} (hs : evSrc call src env st = .ok its st) (hat : ∀ k, its.at st k = some (l.map f)[k]?) (hz : l.length ≤ its.size st) (hl : l.length ≤ 100000)
    (hb : ∀ a ∈ l, ∃ env', setTg t (f a) (wipe env own) = some env' ∧ evE call elt env' st = .ok (.d (g a)) st) : evE call (.lc own t src .no elt) env st = .ok (.tmp (l.map g)) st := by
  rw [evE]
  show (evSrc call src env st).bind _ = _
  rw [hs, bind_ok]
  have key : ∀ (n k : Nat), l.length < n + k → k ≤ l.length → lcGo (fun d st => match setTg t d (wipe env own) with
      | none => .err
      | some env' => (evO call .no env' st).bind fun b st2 => (match condOf b with
        | some true => (evE call elt env' st2).bind fun y st3 => (mat y st3).bind fun y st4 => .ok (some y) st4
        | some false => .ok none st2
        | none => .err)) its n k st = .ok ((l.drop k).map g) st := by
    intro n
    induction n with
    | zero => intro k h1 h2; omega
    | succ n ih =>
      intro k h1 h2
      rw [lcGo_succ, hat k]
      by_cases hlt : k < l.length
      · rw [List.getElem?_map, List.getElem?_eq_getElem hlt]
        obtain ⟨env', e1, e2⟩ := hb l[k] (List.getElem_mem hlt)
        show (match setTg t (f l[k]) (wipe env own) with
          | none => Res.err
          | some env' => (evO call .no env' st).bind fun b st2 => (match condOf b with
            | some true => (evE call elt env' st2).bind fun y st3 => (mat y st3).bind fun y st4 => .ok (some y) st4
            | some false => .ok none st2
            | none => .err)).bind _ = _
        rw [e1]
        show ((evE call elt env' st).bind _).bind _ = _
        rw [e2]
        show (lcGo _ its n (k + 1) st).bind _ = _
        rw [ih (k + 1) (by omega) (by omega), List.drop_eq_getElem_cons hlt]
        rfl
      · rw [List.getElem?_eq_none (by rw [List.length_map]; omega), List.drop_eq_nil_of_le (by omega)]
        rfl
  have e := key (its.size st + 1) 0 (by omega) (by omega)
  rw [List.drop_zero] at e
  show (lcGo _ its (its.size st + 1) 0 st).bind lcTmp = _
  refine (congrArg (fun r => Res.bind r lcTmp) e).trans ?_
  show (if (l.map g).length ≤ big then Res.ok (Rv.tmp (l.map g)) st else .err) = _
  rw [if_pos (by rw [List.length_map]; exact hl)]
theorem bools_map {α : Type} {l : List α} {h : α → Bool} : bools (l.map fun a => D.bl (h a)) = some (l.map h) := by
  induction l with
  | nil => rfl
  | cons a r ih => show (bools (r.map fun a => D.bl (h a))).map (h a :: ·) = _; rw [ih]; rfl
theorem all_map {α : Type} {l : List α} {h : α → Bool} : bltR .all st [.tmp (l.map fun a => .bl (h a))] = some (.d (.bl (l.all h))) := by
  show (bools (l.map fun a => D.bl (h a))).map (fun bs => rBl (bs.all id)) = _
  rw [bools_map]
  show some (rBl ((l.map h).all id)) = _
  rw [List.all_map]
  rfl
theorem src_e {e : E} {ds : List D} (h : evE call e env st = .ok (.d (.tup ds)) st) : evSrc call (.e e) env st = .ok (.one (.tup ds)) st := by
  rw [evSrc]
  show (evE call e env st).bind _ = _
  rw [h]
  rfl
theorem at_tup {ds : List D} {k : Nat} : (Its.one (.tup ds)).at st k = some ds[k]? := rfl
theorem src_zipT {a b : E} {as bs : List D} (ha : evE call a env st = .ok (.d (.tup as)) st) (hb : evE call b env st = .ok (.d (.tup bs)) st) : evSrc call (.zip a b) env st = .ok (.zip (.tup as) (.tup bs)) st := by
  rw [evSrc]
  show (evE call a env st).bind _ = _
  rw [ha]
  show (evE call b env st).bind _ = _
  rw [hb]
  rfl
theorem at_zipT {α β : Type} {as : List α} {bs : List β} {f : α → D} {g : β → D} {k : Nat} : (Its.zip (.tup (as.map f)) (.tup (bs.map g))).at st k = some ((as.zip bs).map fun q => D.tup [f q.1, g q.2])[k]? := by
  show (match some (as.map f)[k]?, some (bs.map g)[k]? with
    | some (some x), some (some y) => some (some (D.tup [x, y]))
    | some _, some _ => some none
    | _, _ => none) = _
  simp only [List.getElem?_map]
  by_cases h1 : k < as.length
  · by_cases h2 : k < bs.length
    · have : (as.zip bs)[k]? = some (as[k], bs[k]) := by
        rw [List.getElem?_eq_getElem (by rw [List.length_zip]; omega)]
        simp
      rw [this, List.getElem?_eq_getElem h1, List.getElem?_eq_getElem h2]
      rfl
    · rw [List.getElem?_eq_none (l := bs) (by omega), List.getElem?_eq_none (l := as.zip bs) (by rw [List.length_zip]; omega), List.getElem?_eq_getElem h1]
      rfl
  · rw [List.getElem?_eq_none (l := as) (by omega), List.getElem?_eq_none (l := as.zip bs) (by rw [List.length_zip]; omega)]
    cases bs[k]? <;> rfl
theorem size_zipT {α β : Type} {as : List α} {bs : List β} {f : α → D} {g : β → D} : (as.zip bs).length ≤ (Its.zip (.tup (as.map f)) (.tup (bs.map g))).size st := by
  show _ ≤ (as.map f).length + (bs.map g).length
  rw [List.length_zip, List.length_map, List.length_map]
  omega
/-! ### for -/
theorem forGo_succ {t : Tg} {body : Env → M Fl} {its : Its} {n k : Nat} : forGo t body its (n + 1) k env st = (match its.at st k with
    | none => .err
    | some none => .ok (.nx env) st
    | some (some d) => (match setTg t d env with
      | none => .err
      | some env1 => (body env1 st).bind fun f st1 => (match f with
        | .nx env2 => forGo t body its n (k + 1) env2 st1
        | .ct env2 => forGo t body its n (k + 1) env2 st1
        | .bk env2 => .ok (.nx env2) st1
        | .rt v => .ok (.rt v) st1))) := rfl
end
/-- a loop by its invariant: it goes on, or it returns -/
theorem for_gen {t : Tg} {body : Env → M Fl} {its : Its} {ds : List D} (I : Nat → Env → St → Prop) (R : Rv → St → Prop) (hat : ∀ k env st, I k env st → its.at st k = some ds[k]?)
    (step : ∀ k env st d, I k env st → ds[k]? = some d → ∃ env1, setTg t d env = some env1 ∧ ((∃ env2 st2, body env1 st = .ok (.nx env2) st2 ∧ I (k + 1) env2 st2) ∨ ∃ v st2, body env1 st = .ok (.rt v) st2 ∧ R v st2)) :
    ∀ (n k : Nat) (env : Env) (st : St), I k env st → k ≤ ds.length → ds.length < n + k → (∃ env' st', forGo t body its n k env st = .ok (.nx env') st' ∧ I ds.length env' st') ∨ ∃ v st', forGo t body its n k env st = .ok (.rt v) st' ∧ R v st'
  | 0, k, env, st, _, h1, h2 => by omega
  | n + 1, k, env, st, hI, h1, h2 => by
    by_cases hlt : k < ds.length
    · obtain ⟨env1, e1, h⟩ := step k env st ds[k] hI (List.getElem?_eq_getElem hlt)
      have eq : forGo t body its (n + 1) k env st = (body env1 st).bind fun f st1 => (match f with
        | .nx env2 => forGo t body its n (k + 1) env2 st1
        | .ct env2 => forGo t body its n (k + 1) env2 st1
        | .bk env2 => .ok (.nx env2) st1
        | .rt v => .ok (.rt v) st1) := by
        rw [forGo_succ, hat k env st hI, List.getElem?_eq_getElem hlt]
        simp only [e1]
      rcases h with ⟨env2, st2, e2, hI2⟩ | ⟨v, st2, e2, hR⟩
      · rw [eq, e2]
        exact for_gen I R hat step n (k + 1) env2 st2 hI2 (by omega) (by omega)
      · right
        refine ⟨v, st2, ?_, hR⟩
        rw [eq, e2]
        rfl
    · left
      have e : k = ds.length := by omega
      subst e
      refine ⟨env, st, ?_, hI⟩
      rw [forGo_succ, hat _ env st hI, List.getElem?_eq_none (Nat.le_refl _)]
/-! ### a list of one's own -/
section
variable {objs : List Ob} {dd : Nat} {ds : List D}
theorem get_new {o : Ob} : (objs ++ [o])[objs.length]? = some o := by simp
theorem mut_new : mutOf ⟨objs ++ [.lst ds], dd⟩ (.d (.ref objs.length)) = some (objs.length, ds) := by
  show (match (objs ++ [Ob.lst ds])[objs.length]? with | some (.lst ds) => some (objs.length, ds) | _ => none) = _
  rw [get_new]
theorem put_new {o : Ob} (h : o.low (objs.length + 1) = true) {o' : Ob} : put objs.length o ⟨objs ++ [o'], dd⟩ = .ok () ⟨objs ++ [o], dd⟩ := by
  show Res.ok () (St.mk ((objs ++ [o']).set objs.length o) (if o.low (objs.length + 1) then dd else min dd objs.length)) = _
  rw [if_pos h]
  simp
theorem list_new : listOf ⟨objs ++ [.lst ds], dd⟩ (.d (.ref objs.length)) = some ds := by
  show (match (objs ++ [Ob.lst ds])[objs.length]? with | some (.lst ds) => some ds | none => none) = _
  rw [get_new]
theorem own_new : ownL ⟨objs ++ [.lst ds], dd⟩ (.d (.ref objs.length)) = some ds := by
  show (match (objs ++ [Ob.lst ds])[objs.length]? with | some (.lst ds) => some ds | none => none) = _
  rw [get_new]
theorem finish_new {st : St} (h : D.lowL st.objs.length ds = true) : finish st.objs.length st.dirty (.d (.ref st.objs.length)) ⟨st.objs ++ [.lst ds], st.objs.length⟩ = .ok (.tmp ds) st := by
  unfold finish
  rw [if_neg (Nat.lt_irrefl _)]
  simp only [Nat.lt_irrefl, if_false, get_new, h, if_true]
  simp
theorem finish_tmp {st : St} {new : List Ob} (h : D.lowL st.objs.length ds = true) : finish st.objs.length st.dirty (.tmp ds) ⟨st.objs ++ new, st.objs.length⟩ = .ok (.tmp ds) st := by
  unfold finish
  rw [if_neg (Nat.lt_irrefl _)]
  show (if D.lowL st.objs.length ds then _ else _) = _
  rw [if_pos h]
  simp
theorem tuple_new (h : ds.length ≤ 100000) : bltR .tuple ⟨objs ++ [.lst ds], dd⟩ [.d (.ref objs.length)] = some (.d (.tup ds)) := by
  show (match listOf ⟨objs ++ [.lst ds], dd⟩ (.d (.ref objs.length)) with | some xs => if decide (xs.length ≤ big) then some (Rv.d (.tup xs)) else none | none => none) = _
  rw [list_new]
  show (if decide (ds.length ≤ big) then some (Rv.d (.tup ds)) else none) = _
  rw [if_pos (decide_eq_true (show ds.length ≤ big from h))]
end
end Ev
namespace Ev
section
variable {st : St} {call : Nat → List D → M Rv} {env : Env} {a b c : E} {x y : Bool}
theorem e_and (ha : evE call a env st = .ok (.d (.bl x)) st) (hb : x = true → evE call b env st = .ok (.d (.bl y)) st) : evE call (.and a b) env st = .ok (.d (.bl (x && y))) st := by
  rw [evE]
  show (evE call a env st).bind _ = _
  rw [ha]
  cases x with
  | true => exact hb rfl
  | false => rfl
theorem e_or (ha : evE call a env st = .ok (.d (.bl x)) st) (hb : x = false → evE call b env st = .ok (.d (.bl y)) st) : evE call (.or a b) env st = .ok (.d (.bl (x || y))) st := by
  rw [evE]
  show (evE call a env st).bind _ = _
  rw [ha]
  cases x with
  | true => rfl
  | false => exact hb rfl
theorem e_not (ha : evE call a env st = .ok (.d (.bl x)) st) : evE call (.not a) env st = .ok (.d (.bl (!x))) st := by
  rw [evE]
  show (evE call a env st).bind _ = _
  rw [ha]
  rfl
theorem e_blt1 {f : Blt} {v r : Rv} {st' : St} (ha : evE call a env st = .ok v st') (h : bltR f st' [v] = some r) : evE call (.blt f (.cons a .nil)) env st = .ok r st' := by
  rw [evE]
  show ((evE call a env st).bind _).bind _ = _
  rw [ha]
  show ofO (bltR f st' [v]) st' = _
  rw [h]
  rfl
theorem e_var {i : Nat} {d : D} (h : getV env i = some d) : evE call (.var i) env st = .ok (.d d) st := by
  rw [evE]
  show (match getV env i with | some d => Res.ok (Rv.d d) st | none => .err) = _
  rw [h]
theorem e_cmp {op : Cop} {u v : Rv} {r : Bool} (ha : evE call a env st = .ok u st) (hb : evE call b env st = .ok v st) (h : cmpR op st u v = some r) : evE call (.cmp op a b) env st = .ok (.d (.bl r)) st := by
  rw [evE]
  show (evE call a env st).bind _ = _
  rw [ha]
  show (evE call b env st).bind _ = _
  rw [hb]
  show ofO ((cmpR op st u v).map rBl) st = _
  rw [h]
  rfl
theorem e_call1 {f : Nat} {d : D} {r : Rv} (ha : evE call a env st = .ok (.d d) st) (h : call f [d] st = .ok r st) : evE call (.call f (.cons a .nil)) env st = .ok r st := by
  rw [evE]
  show ((evE call a env st).bind _).bind _ = _
  rw [ha]
  exact h
theorem e_call2 {f : Nat} {d e : D} {r : Rv} (ha : evE call a env st = .ok (.d d) st) (hb : evE call b env st = .ok (.d e) st) (h : call f [d, e] st = .ok r st) : evE call (.call f (.cons a (.cons b .nil))) env st = .ok r st := by
  rw [evE]
  show ((evE call a env st).bind _).bind _ = _
  rw [ha]
  show ((((evE call b env st).bind _).bind _).bind _) = _
  rw [hb]
  exact h
theorem e_sub {u v : Rv} {d : D} (ha : evE call a env st = .ok u st) (hb : evE call b env st = .ok v st) (h : subR st u v = some d) : evE call (.sub a b) env st = .ok (.d d) st := by
  rw [evE]
  show (evE call a env st).bind _ = _
  rw [ha]
  show (evE call b env st).bind _ = _
  rw [hb]
  show ofO ((subR st u v).map .d) st = _
  rw [h]
  rfl
theorem e_tup2 {d e : D} (ha : evE call a env st = .ok (.d d) st) (hb : evE call b env st = .ok (.d e) st) : evE call (.tup (.cons a (.cons b .nil))) env st = .ok (.d (.tup [d, e])) st := by
  rw [evE]
  show ((evE call a env st).bind _).bind _ = _
  rw [ha]
  show ((((evE call b env st).bind _).bind _).bind _) = _
  rw [hb]
  rfl
theorem e_chn {op op' : Cop} {u v w : Rv} {r r' : Bool} (ha : evE call a env st = .ok u st) (hb : evE call b env st = .ok v st) (h : cmpR op st u v = some r) (hc : r = true → evE call c env st = .ok w st) (h' : r = true → cmpR op' st v w = some r') : evE call (.chn op op' a b c) env st = .ok (.d (.bl (r && r'))) st := by
  rw [evE]
  show (evE call a env st).bind _ = _
  rw [ha]
  show (evE call b env st).bind _ = _
  rw [hb]
  show (match cmpR op st u v with
    | some true => (evE call c env st).bind fun z st3 => ofO ((cmpR op' st3 v z).map rBl) st3
    | some false => Res.ok (rBl false) st
    | none => .err) = _
  rw [h]
  cases r with
  | true =>
    show (evE call c env st).bind _ = _
    rw [hc rfl]
    show ofO ((cmpR op' st v w).map rBl) st = _
    rw [h' rfl]
    rfl
  | false => rfl
theorem e_isi {u : Ty} {v : Rv} {t : Ty} (ha : evE call a env st = .ok v st) (h : tyR st v = some t) : evE call (.isi u a) env st = .ok (.d (.bl (isTy t u))) st := by
  rw [evE]
  show (evE call a env st).bind _ = _
  rw [ha]
  show (match tyR st v with | some t => Res.ok (rBl (isTy t u)) st | none => .err) = _
  rw [h]
  rfl
theorem fn_ret {fns : List Fn} {n f : Nat} {args : List D} {fn : Fn} {d : D} {new : List Ob} (hf : fns[f]? = some fn) (hl : args.length = fn.np) (h : evSs (evFn fns n) fn.body (args.map some ++ List.replicate (fn.nn - fn.np) none) ⟨st.objs, st.objs.length⟩ = .ok (.rt (.d d)) ⟨st.objs ++ new, st.objs.length⟩)
    (hd : d.low st.objs.length = true) (hr : ∀ i, d ≠ .ref i) : evFn fns (n + 1) f args st = .ok (.d d) st := by
  rw [evFn_succ hf hl, h]
  exact finish_d hd hr
theorem fn_ret0 {fns : List Fn} {n f : Nat} {args : List D} {fn : Fn} {d : D} (hf : fns[f]? = some fn) (hl : args.length = fn.np) (h : evSs (evFn fns n) fn.body (args.map some ++ List.replicate (fn.nn - fn.np) none) ⟨st.objs, st.objs.length⟩ = .ok (.rt (.d d)) ⟨st.objs, st.objs.length⟩)
    (hd : d.low st.objs.length = true) (hr : ∀ i, d ≠ .ref i) : evFn fns (n + 1) f args st = .ok (.d d) st := by
  rw [evFn_succ hf hl, h]
  exact finish_d0 hd hr
theorem s_ret {ss : Ss} {v : Rv} {st' : St} (h : evE call a env st = .ok v st') : evSs call (.cons (.ret a) ss) env st = .ok (.rt v) st' := by
  rw [evSs, evS]
  show ((evE call a env st).bind _).bind _ = _
  rw [h]
  rfl
theorem s_if {t e ss : Ss} {x : Bool} {r : Fl} {st' : St} (h : evE call a env st = .ok (.d (.bl x)) st) (hr : (match evSs call (if x then t else e) env st with
    | .ok (.nx env1) st1 => evSs call ss env1 st1
    | .ok f st1 => .ok f st1
    | .err => .err) = .ok r st') : evSs call (.cons (.if_ a t e) ss) env st = .ok r st' := by
  rw [evSs, evS]
  show ((evE call a env st).bind _).bind _ = _
  rw [h]
  cases x with
  | true =>
    show (evSs call t env st).bind _ = _
    have hr : (match evSs call t env st with
      | .ok (.nx env1) st1 => evSs call ss env1 st1
      | .ok f st1 => .ok f st1
      | .err => .err) = .ok r st' := hr
    cases q : evSs call t env st with
    | ok f st1 => rw [q] at hr; cases f <;> exact hr
    | err => rw [q] at hr; exact hr
  | false =>
    show (evSs call e env st).bind _ = _
    have hr : (match evSs call e env st with
      | .ok (.nx env1) st1 => evSs call ss env1 st1
      | .ok f st1 => .ok f st1
      | .err => .err) = .ok r st' := hr
    cases q : evSs call e env st with
    | ok f st1 => rw [q] at hr; cases f <;> exact hr
    | err => rw [q] at hr; exact hr
theorem s_set {i : Nat} {ss : Ss} {v : Rv} {d : D} {st1 st2 : St} (h : evE call a env st = .ok v st1) (hm : mat v st1 = .ok d st2) : evSs call (.cons (.asg (.tg (.var i)) a) ss) env st = evSs call ss (env.set i (some d)) st2 := by
  rw [evSs, evS]
  show ((evE call a env st).bind _).bind _ = _
  rw [h]
  show ((mat v st1).bind _).bind _ = _
  rw [hm]
  rfl
end
end Ev
namespace LawX
/-! ### constants, numbers of the defs -/
@[reducible] def G.ACTIONS : Ev.D := (.tup [(.str [114, 101, 97, 100]), (.str [119, 114, 105, 116, 101]), (.str [108, 105, 115, 116]), (.str [100, 114, 111, 112])])
@[reducible] def G.ANY : Ev.D := (.str [42])
@[reducible] def G.LETTERS : Ev.D := (.str [97, 98, 99, 100, 101, 102, 103, 104, 105, 106, 107, 108, 109, 110, 111, 112, 113, 114, 115, 116, 117, 118, 119, 120, 121, 122])
@[reducible] def G.MAX_NAME : Ev.D := (.int 8)
@[reducible] def G.MAX_PATH : Ev.D := (.int 4)
@[reducible] def G.REST : Ev.D := (.str [42, 42])
@[reducible] def F._law_matches : Nat := 0
@[reducible] def F.joint_items : Nat := 1
@[reducible] def F.joint_pattern : Nat := 2
@[reducible] def F.joint : Nat := 3
@[reducible] def F.is_action : Nat := 4
@[reducible] def F.is_name : Nat := 5
@[reducible] def F.is_pattern : Nat := 6
@[reducible] def F.is_right : Nat := 7
@[reducible] def F.check_right : Nat := 8
@[reducible] def F.meet : Nat := 9
@[reducible] def F._law_meet_right : Nat := 10
@[reducible] def F.items_of : Nat := 11
@[reducible] def F.is_within : Nat := 12
@[reducible] def F.within : Nat := 13
@[reducible] def F._law_inside : Nat := 14
@[reducible] def F.matches : Nat := 15
@[reducible] def F.is_covered : Nat := 16
@[reducible] def F.is_path : Nat := 17
@[reducible] def F.is_request : Nat := 18
@[reducible] def F.covers : Nat := 19
@[reducible] def F._law_covers : Nat := 20
@[reducible] def F._law_take : Nat := 21
@[reducible] def F._law_pattern : Nat := 22
@[reducible] def F._law_right : Nat := 23
@[reducible] def F._law_long : Nat := 24
@[reducible] def F._law_paths : Nat := 25
@[reducible] def F._law_draw : Nat := 26
@[reducible] def F._law_cell_at : Nat := 27
@[reducible] def F._law_digits : Nat := 28
@[reducible] def F._law_pool : Nat := 29
@[reducible] def F.law : Nat := 30
/-! ### the code -/
def C._law_matches : Ev.Ss := (.cons (.if_ (.cmp .eq (.var 0) (.tup (.cons (.cst (.str [42, 42])) .nil))) (.cons (.ret (.cst (.bl true))) .nil) .nil) (.cons (.if_ (.or (.cmp .eq (.var 0) (.tup .nil)) (.cmp .eq (.var 1) (.tup .nil))) (.cons (.ret (.cmp .eq (.var 0) (.var 1))) .nil) .nil) (.cons (.ret (.and (.cmp .isin (.sub (.var 0) (.cst (.int 0))) (.tup (.cons (.cst (.str [42])) (.cons (.sub (.var 1) (.cst (.int 0))) .nil)))) (.call F._law_matches (.cons (.slc (.var 0) (.yes (.cst (.int 1))) .no) (.cons (.slc (.var 1) (.yes (.cst (.int 1))) .no) .nil))))) .nil)))
def C.joint_items : Ev.Ss := (.cons (.asg (.tg (.var 2)) (.lst .nil)) (.cons (.for_ (.tup [3, 4]) (.zip (.var 0) (.var 1)) (.cons (.if_ (.and (.cmp .ne (.var 3) (.var 4)) (.cmp .notin (.cst G.ANY) (.tup (.cons (.var 3) (.cons (.var 4) .nil))))) (.cons (.ret (.cst .non)) .nil) .nil) (.cons (.append (.var 2) (.ite (.cmp .eq (.var 3) (.cst G.ANY)) (.var 4) (.var 3))) .nil))) (.cons (.ret (.var 2)) .nil)))
def C.joint_pattern : Ev.Ss := (.cons (.if_ (.and (.cmp .ne (.sub (.var 0) (.neg (.cst (.int 1)))) (.cst G.REST)) (.cmp .ne (.sub (.var 1) (.neg (.cst (.int 1)))) (.cst G.REST))) (.cons (.asg (.tg (.var 3)) (.ite (.cmp .eq (.blt .len (.cons (.var 0) .nil)) (.blt .len (.cons (.var 1) .nil))) (.call F.joint_items (.cons (.var 0) (.cons (.var 1) .nil))) (.cst .non))) (.cons (.ret (.ite (.isn false (.var 3)) (.cst .non) (.blt .tuple (.cons (.var 3) .nil)))) .nil)) .nil) (.cons (.if_ (.or (.cmp .ne (.sub (.var 0) (.neg (.cst (.int 1)))) (.cst G.REST)) (.and (.cmp .eq (.sub (.var 1) (.neg (.cst (.int 1)))) (.cst G.REST)) (.cmp .gt (.blt .len (.cons (.var 0) .nil)) (.blt .len (.cons (.var 1) .nil))))) (.cons (.ret (.call F.joint_pattern (.cons (.var 1) (.cons (.var 0) .nil)))) .nil) .nil) (.cons (.asg (.tg (.var 2)) (.slc (.var 0) .no (.yes (.neg (.cst (.int 1)))))) (.cons (.if_ (.cmp .lt (.blt .len (.cons (.var 1) .nil)) (.blt .len (.cons (.var 2) .nil))) (.cons (.ret (.cst .non)) .nil) .nil) (.cons (.asg (.tg (.var 3)) (.call F.joint_items (.cons (.var 2) (.cons (.var 1) .nil)))) (.cons (.ret (.ite (.isn false (.var 3)) (.cst .non) (.bin .add (.blt .tuple (.cons (.var 3) .nil)) (.slc (.var 1) (.yes (.blt .len (.cons (.var 2) .nil))) .no)))) .nil))))))
def C.joint : Ev.Ss := (.cons (.if_ (.and (.cmp .ne (.sub (.var 0) (.cst (.int 0))) (.sub (.var 1) (.cst (.int 0)))) (.cmp .notin (.cst G.ANY) (.tup (.cons (.sub (.var 0) (.cst (.int 0))) (.cons (.sub (.var 1) (.cst (.int 0))) .nil))))) (.cons (.ret (.cst .non)) .nil) .nil) (.cons (.asg (.tg (.var 2)) (.call F.joint_pattern (.cons (.sub (.var 0) (.cst (.int 1))) (.cons (.sub (.var 1) (.cst (.int 1))) .nil)))) (.cons (.ret (.ite (.isn false (.var 2)) (.cst .non) (.tup (.cons (.ite (.cmp .eq (.sub (.var 0) (.cst (.int 0))) (.cst G.ANY)) (.sub (.var 1) (.cst (.int 0))) (.sub (.var 0) (.cst (.int 0)))) (.cons (.var 2) .nil))))) .nil)))
def C.is_action : Ev.Ss := (.cons (.ret (.and (.isi .str (.var 0)) (.cmp .isin (.var 0) (.cst G.ACTIONS)))) .nil)
def C.is_name : Ev.Ss := (.cons (.ret (.and (.isi .str (.var 0)) (.and (.chn .le .le (.cst (.int 1)) (.blt .len (.cons (.var 0) .nil)) (.cst G.MAX_NAME)) (.blt .all (.cons (.lc [1] (.var 1) (.e (.var 0)) .no (.cmp .isin (.var 1) (.cst G.LETTERS))) .nil))))) .nil)
def C.is_pattern : Ev.Ss := (.cons (.if_ (.or (.not (.isi .tup (.var 0))) (.not (.chn .le .le (.cst (.int 1)) (.blt .len (.cons (.var 0) .nil)) (.cst G.MAX_PATH)))) (.cons (.ret (.cst (.bl false))) .nil) .nil) (.cons (.if_ (.not (.blt .all (.cons (.lc [3] (.var 3) (.e (.var 0)) .no (.isi .str (.var 3))) .nil))) (.cons (.ret (.cst (.bl false))) .nil) .nil) (.cons (.asg (.star 2 1) (.var 0)) (.cons (.ret (.and (.blt .all (.cons (.lc [3] (.var 3) (.e (.var 2)) .no (.or (.call F.is_name (.cons (.var 3) .nil)) (.cmp .eq (.var 3) (.cst G.ANY)))) .nil)) (.or (.call F.is_name (.cons (.var 1) .nil)) (.cmp .isin (.var 1) (.tup (.cons (.cst G.ANY) (.cons (.cst G.REST) .nil))))))) .nil))))
def C.is_right : Ev.Ss := (.cons (.if_ (.or (.not (.isi .tup (.var 0))) (.or (.cmp .ne (.blt .len (.cons (.var 0) .nil)) (.cst (.int 2))) (.not (.call F.is_pattern (.cons (.sub (.var 0) (.cst (.int 1))) .nil))))) (.cons (.ret (.cst (.bl false))) .nil) .nil) (.cons (.ret (.or (.call F.is_action (.cons (.sub (.var 0) (.cst (.int 0))) .nil)) (.and (.isi .str (.sub (.var 0) (.cst (.int 0)))) (.cmp .eq (.sub (.var 0) (.cst (.int 0))) (.cst G.ANY))))) .nil))
def C.check_right : Ev.Ss := (.cons (.if_ (.not (.call F.is_right (.cons (.var 0) .nil))) (.cons .never .nil) .nil) .nil)
def C.meet : Ev.Ss := (.cons (.expr (.call F.check_right (.cons (.var 0) .nil))) (.cons (.expr (.call F.check_right (.cons (.var 1) .nil))) (.cons (.ret (.call F.joint (.cons (.var 0) (.cons (.var 1) .nil)))) .nil)))
def C._law_meet_right : Ev.Ss := (.cons (.asg (.tg (.var 3)) (.call F.meet (.cons (.var 0) (.cons (.var 1) .nil)))) (.cons (.asg (.tg (.var 4)) (.lc [5] (.var 5) (.e (.var 2)) (.yes (.and (.call F._law_matches (.cons (.sub (.var 0) (.cst (.int 1))) (.cons (.var 5) .nil))) (.call F._law_matches (.cons (.sub (.var 1) (.cst (.int 1))) (.cons (.var 5) .nil))))) (.var 5))) (.cons (.if_ (.or (.cmp .eq (.var 4) (.lst .nil)) (.and (.cmp .ne (.sub (.var 0) (.cst (.int 0))) (.sub (.var 1) (.cst (.int 0)))) (.cmp .notin (.cst (.str [42])) (.tup (.cons (.sub (.var 0) (.cst (.int 0))) (.cons (.sub (.var 1) (.cst (.int 0))) .nil)))))) (.cons (.ret (.isn false (.var 3))) .nil) .nil) (.cons (.if_ (.or (.isn false (.var 3)) (.cmp .ne (.sub (.var 3) (.cst (.int 0))) (.ite (.cmp .eq (.sub (.var 0) (.cst (.int 0))) (.cst (.str [42]))) (.sub (.var 1) (.cst (.int 0))) (.sub (.var 0) (.cst (.int 0)))))) (.cons (.ret (.cst (.bl false))) .nil) .nil) (.cons (.ret (.cmp .eq (.lc [5] (.var 5) (.e (.var 2)) (.yes (.call F._law_matches (.cons (.sub (.var 3) (.cst (.int 1))) (.cons (.var 5) .nil)))) (.var 5)) (.var 4))) .nil)))))
def C.items_of : Ev.Ss := (.cons (.if_ (.cmp .ne (.sub (.var 0) (.neg (.cst (.int 1)))) (.cst G.REST)) (.cons (.ret (.ite (.cmp .eq (.blt .len (.cons (.var 0) .nil)) (.var 1)) (.var 0) (.cst .non))) .nil) .nil) (.cons (.asg (.tg (.var 2)) (.slc (.var 0) .no (.yes (.neg (.cst (.int 1)))))) (.cons (.ret (.ite (.cmp .le (.blt .len (.cons (.var 2) .nil)) (.var 1)) (.bin .add (.var 2) (.bin .mul (.tup (.cons (.cst G.ANY) .nil)) (.bin .sub (.var 1) (.blt .len (.cons (.var 2) .nil))))) (.cst .non))) .nil)))
def C.is_within : Ev.Ss := (.cons (.if_ (.cmp .notin (.sub (.var 1) (.cst (.int 0))) (.tup (.cons (.cst G.ANY) (.cons (.sub (.var 0) (.cst (.int 0))) .nil)))) (.cons (.ret (.cst (.bl false))) .nil) .nil) (.cons (.for_ (.var 2) (.rng2 (.cst (.int 1)) (.bin .add (.cst G.MAX_PATH) (.cst (.int 1)))) (.cons (.par [3, 4] (.cons (.call F.items_of (.cons (.sub (.var 0) (.cst (.int 1))) (.cons (.var 2) .nil))) (.cons (.call F.items_of (.cons (.sub (.var 1) (.cst (.int 1))) (.cons (.var 2) .nil))) .nil))) (.cons (.if_ (.isn true (.var 3)) (.cons (.if_ (.or (.isn false (.var 4)) (.not (.blt .all (.cons (.lc [5, 6] (.tup [5, 6]) (.zip (.var 3) (.var 4)) .no (.cmp .isin (.var 6) (.tup (.cons (.cst G.ANY) (.cons (.var 5) .nil))))) .nil)))) (.cons (.ret (.cst (.bl false))) .nil) .nil) .nil) .nil) .nil))) (.cons (.ret (.cst (.bl true))) .nil)))
def C.within : Ev.Ss := (.cons (.expr (.call F.check_right (.cons (.var 0) .nil))) (.cons (.expr (.call F.check_right (.cons (.var 1) .nil))) (.cons (.ret (.call F.is_within (.cons (.var 0) (.cons (.var 1) .nil)))) .nil)))
def C._law_inside : Ev.Ss := (.cons (.if_ (.cmp .notin (.sub (.var 1) (.cst (.int 0))) (.tup (.cons (.cst (.str [42])) (.cons (.sub (.var 0) (.cst (.int 0))) .nil)))) (.cons (.ret (.cst (.bl false))) .nil) .nil) (.cons (.ret (.blt .all (.cons (.lc [3] (.var 3) (.e (.var 2)) (.yes (.call F._law_matches (.cons (.sub (.var 0) (.cst (.int 1))) (.cons (.var 3) .nil)))) (.call F._law_matches (.cons (.sub (.var 1) (.cst (.int 1))) (.cons (.var 3) .nil)))) .nil))) .nil))
def C.matches : Ev.Ss := (.cons (.asg (.tg (.var 2)) (.call F.items_of (.cons (.var 0) (.cons (.blt .len (.cons (.var 1) .nil)) .nil)))) (.cons (.ret (.and (.isn true (.var 2)) (.blt .all (.cons (.lc [3, 4] (.tup [3, 4]) (.zip (.var 2) (.var 1)) .no (.cmp .isin (.var 3) (.tup (.cons (.cst G.ANY) (.cons (.var 4) .nil))))) .nil)))) .nil))
def C.is_covered : Ev.Ss := (.cons (.ret (.and (.cmp .isin (.sub (.var 0) (.cst (.int 0))) (.tup (.cons (.cst G.ANY) (.cons (.sub (.var 1) (.cst (.int 0))) .nil)))) (.call F.matches (.cons (.sub (.var 0) (.cst (.int 1))) (.cons (.sub (.var 1) (.cst (.int 1))) .nil))))) .nil)
def C.is_path : Ev.Ss := (.cons (.ret (.and (.isi .tup (.var 0)) (.and (.chn .le .le (.cst (.int 1)) (.blt .len (.cons (.var 0) .nil)) (.cst G.MAX_PATH)) (.blt .all (.cons (.lc [1] (.var 1) (.e (.var 0)) .no (.call F.is_name (.cons (.var 1) .nil))) .nil))))) .nil)
def C.is_request : Ev.Ss := (.cons (.ret (.and (.isi .tup (.var 0)) (.and (.cmp .eq (.blt .len (.cons (.var 0) .nil)) (.cst (.int 2))) (.and (.call F.is_action (.cons (.sub (.var 0) (.cst (.int 0))) .nil)) (.call F.is_path (.cons (.sub (.var 0) (.cst (.int 1))) .nil)))))) .nil)
def C.covers : Ev.Ss := (.cons (.expr (.call F.check_right (.cons (.var 0) .nil))) (.cons (.if_ (.not (.call F.is_request (.cons (.var 1) .nil))) (.cons .never .nil) .nil) (.cons (.ret (.call F.is_covered (.cons (.var 0) (.cons (.var 1) .nil)))) .nil)))
def C._law_covers : Ev.Ss := (.cons (.ret (.and (.cmp .isin (.sub (.var 0) (.cst (.int 0))) (.tup (.cons (.cst (.str [42])) (.cons (.sub (.var 1) (.cst (.int 0))) .nil)))) (.call F._law_matches (.cons (.sub (.var 0) (.cst (.int 1))) (.cons (.sub (.var 1) (.cst (.int 1))) .nil))))) .nil)
def C._law_take : Ev.Ss := (.cons (.ret (.ite (.cmp .ne (.var 0) (.lst .nil)) (.bin .mod (.pop (.var 0) (.cst (.int 0))) (.var 1)) (.cst (.int 0)))) .nil)
def C._law_pattern : Ev.Ss := (.cons (.asg (.tg (.var 2)) (.lc [4] (.var 4) (.rng1 (.call F._law_take (.cons (.var 0) (.cons (.cst (.int 3)) .nil)))) .no (.sub (.tup (.cons (.cst (.str [42])) (.cons (.sub (.var 1) (.call F._law_take (.cons (.var 0) (.cons (.blt .len (.cons (.var 1) .nil)) .nil)))) .nil))) (.cmp .gt (.call F._law_take (.cons (.var 0) (.cons (.cst (.int 3)) .nil))) (.cst (.int 0)))))) (.cons (.asg (.tg (.var 3)) (.sub (.tup (.cons (.cst (.str [42, 42])) (.cons (.cst (.str [42])) (.cons (.sub (.var 1) (.call F._law_take (.cons (.var 0) (.cons (.blt .len (.cons (.var 1) .nil)) .nil)))) (.cons (.sub (.var 1) (.cst (.int 0))) .nil))))) (.call F._law_take (.cons (.var 0) (.cons (.cst (.int 4)) .nil))))) (.cons (.ret (.bin .add (.blt .tuple (.cons (.var 2) .nil)) (.tup (.cons (.var 3) .nil)))) .nil)))
def C._law_right : Ev.Ss := (.cons (.ret (.tup (.cons (.sub (.tup (.cons (.cst (.str [114, 101, 97, 100])) (.cons (.cst (.str [119, 114, 105, 116, 101])) (.cons (.cst (.str [108, 105, 115, 116])) (.cons (.cst (.str [100, 114, 111, 112])) (.cons (.cst (.str [42])) (.cons (.cst (.str [42])) (.cons (.cst (.str [114, 101, 97, 100])) .nil)))))))) (.call F._law_take (.cons (.var 0) (.cons (.cst (.int 7)) .nil)))) (.cons (.call F._law_pattern (.cons (.var 0) (.cons (.var 1) .nil))) .nil)))) .nil)
def C._law_long : Ev.Ss := (.cons (.asg (.tg (.tup [2, 3])) (.call F._law_right (.cons (.var 0) (.cons (.var 1) .nil)))) (.cons (.ret (.tup (.cons (.var 2) (.cons (.slc (.ite (.cmp .eq (.call F._law_take (.cons (.var 0) (.cons (.cst (.int 3)) .nil))) (.cst (.int 0))) (.bin .add (.tup (.cons (.sub (.var 1) (.call F._law_take (.cons (.var 0) (.cons (.blt .len (.cons (.var 1) .nil)) .nil)))) .nil)) (.var 3)) (.var 3)) (.yes (.neg (.cst (.int 4)))) .no) .nil)))) .nil))
def C._law_paths : Ev.Ss := (.cons (.par [2, 3] (.cons (.lst .nil) (.cons (.lst (.cons (.tup .nil) .nil)) .nil))) (.cons (.for_ (.var 1) (.rng1 (.cst (.int 4))) (.cons (.asg (.tg (.var 4)) (.lst .nil)) (.cons (.for_ (.var 5) (.e (.var 3)) (.cons (.asg (.tg (.var 4)) (.bin .add (.var 4) (.lc [6] (.var 6) (.e (.var 0)) .no (.bin .add (.var 5) (.tup (.cons (.var 6) .nil)))))) .nil)) (.cons (.par [2, 3] (.cons (.bin .add (.var 2) (.var 4)) (.cons (.var 4) .nil))) .nil)))) (.cons (.ret (.var 2)) .nil)))
def C._law_draw : Ev.Ss := (.cons (.asg (.tg (.var 3)) (.tup (.cons (.cst (.int 1000003)) (.cons (.cst (.int 1000033)) (.cons (.cst (.int 1000037)) (.cons (.cst (.int 1000039)) (.cons (.cst (.int 1000081)) (.cons (.cst (.int 1000099)) (.cons (.cst (.int 1000117)) (.cons (.cst (.int 1000121)) (.cons (.cst (.int 1000133)) (.cons (.cst (.int 1000151)) (.cons (.cst (.int 1000159)) (.cons (.cst (.int 1000171)) (.cons (.cst (.int 1000183)) (.cons (.cst (.int 1000187)) (.cons (.cst (.int 1000193)) (.cons (.cst (.int 1000199)) .nil)))))))))))))))))) (.cons (.ret (.bin .mod (.bin .mod (.bin .add (.bin .mul (.var 0) (.cst (.int 48271))) (.bin .mul (.var 1) (.cst (.int 69621)))) (.sub (.var 3) (.bin .mod (.var 1) (.cst (.int 16))))) (.var 2))) .nil))
def C._law_cell_at : Ev.Ss := (.cons (.if_ (.cmp .lt (.var 1) (.blt .len (.cons (.var 0) .nil))) (.cons (.ret (.blt .abs (.cons (.sub (.var 0) (.var 1)) .nil))) .nil) .nil) (.cons (.ret (.call F._law_draw (.cons (.bin .add (.blt .abs (.cons (.blt .sum (.cons (.var 0) .nil)) .nil)) (.bin .mul (.cst (.int 7919)) (.var 1))) (.cons (.var 1) (.cons (.cst (.int 999983)) .nil))))) .nil))
def C._law_digits : Ev.Ss := (.cons (.par [6, 7] (.cons (.call F._law_cell_at (.cons (.var 0) (.cons (.var 1) .nil))) (.cons (.lst .nil) .nil))) (.cons (.asg (.tg (.var 4)) (.bin .sub (.var 6) (.bin .pow (.cst (.int 10)) (.cst (.int 18))))) (.cons (.for_ (.var 5) (.rng1 (.var 2)) (.cons (.if_ (.cmp .ge (.var 6) (.bin .pow (.cst (.int 10)) (.cst (.int 18)))) (.cons (.append (.var 7) (.bin .mod (.var 4) (.var 3))) (.cons (.asg (.tg (.var 4)) (.bin .fdiv (.var 4) (.var 3))) .nil)) (.cons (.asg (.tg (.var 8)) (.call F._law_draw (.cons (.bin .mul (.bin .add (.var 6) (.bin .mul (.cst (.int 977)) (.var 5))) (.bin .add (.bin .add (.var 6) (.bin .mul (.cst (.int 31)) (.var 5))) (.cst (.int 5)))) (.cons (.bin .add (.bin .mod (.var 5) (.cst (.int 9))) (.cst (.int 1))) (.cons (.cst (.int 999983)) .nil))))) (.cons (.asg (.tg (.var 9)) (.call F._law_draw (.cons (.bin .add (.bin .mul (.bin .add (.var 6) (.bin .mul (.cst (.int 31)) (.var 5))) (.bin .add (.var 6) (.cst (.int 7)))) (.bin .mul (.cst (.int 977)) (.var 5))) (.cons (.bin .add (.bin .mod (.var 5) (.cst (.int 7))) (.cst (.int 2))) (.cons (.cst (.int 1000003)) .nil))))) (.cons (.append (.var 7) (.bin .mod (.bin .add (.bin .mul (.var 8) (.cst (.int 1000003))) (.var 9)) (.var 3))) .nil)))) .nil)) (.cons (.ret (.var 7)) .nil))))
def C._law_pool : Ev.Ss := (.cons (.asg (.tg (.var 2)) (.lst .nil)) (.cons (.for_ (.tup [3, 4]) (.enum (.var 1)) (.cons (.asg (.tg (.var 2)) (.bin .add (.var 2) (.call F._law_digits (.cons (.var 0) (.cons (.var 3) (.cons (.cst (.int 150)) (.cons (.var 4) .nil))))))) .nil)) (.cons (.ret (.var 2)) .nil)))
def C.law : Ev.Ss := (.cons (.asg (.tg (.var 0)) (.slc (.var 0) .no (.yes (.cst (.int 63))))) (.cons (.asg (.tg (.var 1)) (.call F._law_pool (.cons (.var 0) (.cons (.tup (.cons (.cst (.int 1000003)) (.cons (.cst (.int 999983)) .nil))) .nil)))) (.cons (.asg (.tg (.var 2)) (.slc (.tup (.cons (.cst (.str [120])) (.cons (.cst (.str [121, 121])) (.cons (.cst (.str [122, 97, 98, 99, 100, 101, 102, 103])) .nil)))) .no (.yes (.bin .add (.cst (.int 1)) (.call F._law_take (.cons (.var 1) (.cons (.cst (.int 2)) .nil))))))) (.cons (.asg (.tg (.var 3)) (.call F._law_paths (.cons (.bin .add (.var 2) (.tup (.cons (.cst (.str [111, 116, 104, 101, 114])) .nil))) .nil))) (.cons (.asg (.tg (.var 4)) (.lc [5] (.var 5) (.rng1 (.cst (.int 5))) .no (.call F._law_long (.cons (.var 1) (.cons (.var 2) .nil))))) (.cons (.for_ (.var 5) (.rng1 (.cst (.int 8))) (.cons (.asg (.tg (.var 6)) (.tup (.cons (.sub (.tup (.cons (.cst (.str [114, 101, 97, 100])) (.cons (.cst (.str [119, 114, 105, 116, 101])) (.cons (.cst (.str [108, 105, 115, 116])) (.cons (.cst (.str [100, 114, 111, 112])) .nil))))) (.call F._law_take (.cons (.var 1) (.cons (.cst (.int 4)) .nil)))) (.cons (.sub (.var 3) (.call F._law_take (.cons (.var 1) (.cons (.blt .len (.cons (.var 3) .nil)) .nil)))) .nil)))) (.cons (.for_ (.var 7) (.e (.var 4)) (.cons (.if_ (.cmp .ne (.call F.covers (.cons (.var 7) (.cons (.var 6) .nil))) (.call F._law_covers (.cons (.var 7) (.cons (.var 6) .nil)))) (.cons (.ret (.cst (.bl false))) .nil) .nil) .nil)) .nil))) (.cons (.for_ (.tup [7, 8]) (.zip (.var 4) (.bin .add (.slc (.var 4) (.yes (.cst (.int 1))) .no) (.slc (.var 4) .no (.yes (.cst (.int 1)))))) (.cons (.if_ (.or (.cmp .ne (.call F.within (.cons (.var 7) (.cons (.var 8) .nil))) (.call F._law_inside (.cons (.var 7) (.cons (.var 8) (.cons (.var 3) .nil))))) (.cmp .ne (.call F.within (.cons (.var 8) (.cons (.var 7) .nil))) (.call F._law_inside (.cons (.var 8) (.cons (.var 7) (.cons (.var 3) .nil)))))) (.cons (.ret (.cst (.bl false))) .nil) .nil) (.cons (.if_ (.or (.not (.call F.within (.cons (.var 7) (.cons (.var 7) .nil)))) (.or (.not (.call F._law_meet_right (.cons (.var 7) (.cons (.var 8) (.cons (.var 3) .nil))))) (.not (.call F._law_meet_right (.cons (.var 8) (.cons (.var 7) (.cons (.var 3) .nil))))))) (.cons (.ret (.cst (.bl false))) .nil) .nil) .nil))) (.cons (.ret (.cst (.bl true))) .nil))))))))
def fns : List Ev.Fn := [⟨2, 2, C._law_matches⟩, ⟨2, 5, C.joint_items⟩, ⟨2, 4, C.joint_pattern⟩, ⟨2, 3, C.joint⟩, ⟨1, 1, C.is_action⟩, ⟨1, 2, C.is_name⟩, ⟨1, 4, C.is_pattern⟩, ⟨1, 1, C.is_right⟩, ⟨1, 1, C.check_right⟩, ⟨2, 2, C.meet⟩, ⟨3, 6, C._law_meet_right⟩, ⟨2, 3, C.items_of⟩, ⟨2, 7, C.is_within⟩, ⟨2, 2, C.within⟩, ⟨3, 4, C._law_inside⟩, ⟨2, 5, C.matches⟩, ⟨2, 2, C.is_covered⟩, ⟨1, 2, C.is_path⟩, ⟨1, 1, C.is_request⟩, ⟨2, 2, C.covers⟩, ⟨2, 2, C._law_covers⟩, ⟨2, 2, C._law_take⟩, ⟨2, 5, C._law_pattern⟩, ⟨2, 2, C._law_right⟩, ⟨2, 4, C._law_long⟩, ⟨1, 7, C._law_paths⟩, ⟨3, 4, C._law_draw⟩, ⟨2, 2, C._law_cell_at⟩, ⟨4, 10, C._law_digits⟩, ⟨2, 5, C._law_pool⟩, ⟨1, 9, C.law⟩]
end LawX
namespace LawX
open Ev
abbrev Wd := List Nat
abbrev star : Wd := [42]
abbrev rest : Wd := [42, 42]
abbrev tupS (l : List Wd) : D := .tup (l.map .str)
def optT : Option (List Wd) → D
  | none => .non
  | some l => tupS l
def itemsOf (p : List Wd) (n : Nat) : Option (List Wd) :=
  if p.getLast? ≠ some rest then (if p.length = n then some p else none)
  else if p.length - 1 ≤ n then some (p.dropLast ++ List.replicate (n - (p.length - 1)) star) else none
theorem m_items_of {p : List Wd} {n k : Nat} {st : St} (hp : p ≠ []) (hl : p.length ≤ 100) (hn : n ≤ 100) : evFn fns (k + 1) F.items_of [tupS p, .int n] st = .ok (.d (optT (itemsOf p n))) st := by
  rw [evFn_succ (fn := ⟨2, 3, C.items_of⟩) rfl rfl]
  have hm : (p.map D.str).length ≤ 100000 := by rw [List.length_map]; omega
  have hm' : ((p.map D.str).dropLast).length ≤ 100000 := by rw [List.length_dropLast]; omega
  obtain ⟨w, hw⟩ : ∃ w, p.getLast? = some w := ⟨_, List.getLast?_eq_some_getLast hp⟩
  have hw' : (p.map D.str).getLast? = some (.str w) := by rw [List.getLast?_map, hw]; rfl
  by_cases hr : (w == [42, 42]) = true
  · have hwr : p.getLast? = some rest := by rw [hw, eq_of_beq hr]
    have hi : itemsOf p n = if p.length - 1 ≤ n then some (p.dropLast ++ List.replicate (n - (p.length - 1)) star) else none := by
      unfold itemsOf
      rw [if_neg (by simp [hwr])]
    have hlen : (p.map D.str).dropLast.length = p.length - 1 := by rw [List.length_dropLast, List.length_map]
    rw [hi]
    by_cases hc : p.length - 1 ≤ n
    · have hc' : decide (((p.length - 1 : Nat) : Int) ≤ (n : Int)) = true := decide_eq_true (by omega)
      simp (disch := first | assumption | decide | omega) only [Ev.evSs, Ev.evS, Ev.evE, Ev.evA, Ev.evR, Ev.evO, List.map_cons, List.map_nil, List.cons_append, List.nil_append, Ev.getV_0, Ev.getV_s, List.replicate, Ev.bind_ok, Ev.bind_err, Ev.ofO_some, Ev.mat_d, Ev.mat_tmp, Ev.set_var, Ev.bound_int, Ev.bound_no, List.set, Option.map_some, Option.map_none, Ev.retOf, Ev.rBl, Ev.eq_str, Ev.ne_str, Ev.in_str2, Ev.notin_str2, Ev.int_bin, Ev.int_cmp, Ev.binI, Bool.not_true, Bool.not_false, Ev.if_big, Ev.finish_bl, Ev.finish_bl0, Ev.finish_int, Ev.finish_int0, Ev.finish_non, Ev.finish_non0, Ev.finish_tupS, Ev.finish_tupS0, List.length_cons, List.length_nil, C.items_of, sub_last hm, hw', G.REST, G.ANY, hr, slc_init hm, len_tup hm', hlen, hc']
      rw [mul_tup1 (by omega) (by omega)]
      simp (disch := first | assumption | decide | omega) only [Ev.evSs, Ev.evS, Ev.evE, Ev.evA, Ev.evR, Ev.evO, List.map_cons, List.map_nil, List.cons_append, List.nil_append, Ev.getV_0, Ev.getV_s, List.replicate, Ev.bind_ok, Ev.bind_err, Ev.ofO_some, Ev.mat_d, Ev.mat_tmp, Ev.set_var, Ev.bound_int, Ev.bound_no, List.set, Option.map_some, Option.map_none, Ev.retOf, Ev.rBl, Ev.eq_str, Ev.ne_str, Ev.in_str2, Ev.notin_str2, Ev.int_bin, Ev.int_cmp, Ev.binI, Bool.not_true, Bool.not_false, Ev.if_big, Ev.finish_bl, Ev.finish_bl0, Ev.finish_int, Ev.finish_int0, Ev.finish_non, Ev.finish_non0, Ev.finish_tupS, Ev.finish_tupS0, List.length_cons, List.length_nil]
      rw [add_tup (by rw [hlen, List.length_replicate]; omega)]
      rw [if_pos hc]
      have e : (p.map D.str).dropLast ++ List.replicate ((n : Int) - ((p.length - 1 : Nat) : Int)).toNat (D.str [42]) = (p.dropLast ++ List.replicate (n - (p.length - 1)) star).map D.str := by
        rw [List.map_append, List.map_replicate, List.map_dropLast]
        congr 2
        omega
      rw [e]
      simp (disch := first | assumption | decide | omega) only [Ev.evSs, Ev.evS, Ev.evE, Ev.evA, Ev.evR, Ev.evO, List.map_cons, List.map_nil, List.cons_append, List.nil_append, Ev.getV_0, Ev.getV_s, List.replicate, Ev.bind_ok, Ev.bind_err, Ev.ofO_some, Ev.mat_d, Ev.mat_tmp, Ev.set_var, Ev.bound_int, Ev.bound_no, List.set, Option.map_some, Option.map_none, Ev.retOf, Ev.rBl, Ev.eq_str, Ev.ne_str, Ev.in_str2, Ev.notin_str2, Ev.int_bin, Ev.int_cmp, Ev.binI, Bool.not_true, Bool.not_false, Ev.if_big, Ev.finish_bl, Ev.finish_bl0, Ev.finish_int, Ev.finish_int0, Ev.finish_non, Ev.finish_non0, Ev.finish_tupS, Ev.finish_tupS0, List.length_cons, List.length_nil]
      rfl
    · have hc' : decide (((p.length - 1 : Nat) : Int) ≤ (n : Int)) = false := decide_eq_false (by omega)
      simp (disch := first | assumption | decide | omega) only [Ev.evSs, Ev.evS, Ev.evE, Ev.evA, Ev.evR, Ev.evO, List.map_cons, List.map_nil, List.cons_append, List.nil_append, Ev.getV_0, Ev.getV_s, List.replicate, Ev.bind_ok, Ev.bind_err, Ev.ofO_some, Ev.mat_d, Ev.mat_tmp, Ev.set_var, Ev.bound_int, Ev.bound_no, List.set, Option.map_some, Option.map_none, Ev.retOf, Ev.rBl, Ev.eq_str, Ev.ne_str, Ev.in_str2, Ev.notin_str2, Ev.int_bin, Ev.int_cmp, Ev.binI, Bool.not_true, Bool.not_false, Ev.if_big, Ev.finish_bl, Ev.finish_bl0, Ev.finish_int, Ev.finish_int0, Ev.finish_non, Ev.finish_non0, Ev.finish_tupS, Ev.finish_tupS0, List.length_cons, List.length_nil, C.items_of, sub_last hm, hw', G.REST, G.ANY, hr, slc_init hm, len_tup hm', hlen, hc']
      rw [if_neg hc]
      rfl
  · have hwr : p.getLast? ≠ some rest := by rw [hw]; intro z; injection z with z; exact hr (by rw [z]; rfl)
    have hr' : (w == [42, 42]) = false := by cases q : (w == [42, 42]) with | true => exact absurd q hr | false => rfl
    have hi : itemsOf p n = if p.length = n then some p else none := by
      unfold itemsOf
      rw [if_pos hwr]
    have hlen : (p.map D.str).length = p.length := List.length_map ..
    rw [hi]
    by_cases hc : p.length = n
    · have hc' : decide ((p.length : Int) = (n : Int)) = true := decide_eq_true (by omega)
      simp (disch := first | assumption | decide | omega) only [Ev.evSs, Ev.evS, Ev.evE, Ev.evA, Ev.evR, Ev.evO, List.map_cons, List.map_nil, List.cons_append, List.nil_append, Ev.getV_0, Ev.getV_s, List.replicate, Ev.bind_ok, Ev.bind_err, Ev.ofO_some, Ev.mat_d, Ev.mat_tmp, Ev.set_var, Ev.bound_int, Ev.bound_no, List.set, Option.map_some, Option.map_none, Ev.retOf, Ev.rBl, Ev.eq_str, Ev.ne_str, Ev.in_str2, Ev.notin_str2, Ev.int_bin, Ev.int_cmp, Ev.binI, Bool.not_true, Bool.not_false, Ev.if_big, Ev.finish_bl, Ev.finish_bl0, Ev.finish_int, Ev.finish_int0, Ev.finish_non, Ev.finish_non0, Ev.finish_tupS, Ev.finish_tupS0, List.length_cons, List.length_nil, C.items_of, sub_last hm, hw', G.REST, hr', len_tup hm, hlen, hc']
      rw [if_pos hc]
      rfl
    · have hc' : decide ((p.length : Int) = (n : Int)) = false := decide_eq_false (by omega)
      simp (disch := first | assumption | decide | omega) only [Ev.evSs, Ev.evS, Ev.evE, Ev.evA, Ev.evR, Ev.evO, List.map_cons, List.map_nil, List.cons_append, List.nil_append, Ev.getV_0, Ev.getV_s, List.replicate, Ev.bind_ok, Ev.bind_err, Ev.ofO_some, Ev.mat_d, Ev.mat_tmp, Ev.set_var, Ev.bound_int, Ev.bound_no, List.set, Option.map_some, Option.map_none, Ev.retOf, Ev.rBl, Ev.eq_str, Ev.ne_str, Ev.in_str2, Ev.notin_str2, Ev.int_bin, Ev.int_cmp, Ev.binI, Bool.not_true, Bool.not_false, Ev.if_big, Ev.finish_bl, Ev.finish_bl0, Ev.finish_int, Ev.finish_int0, Ev.finish_non, Ev.finish_non0, Ev.finish_tupS, Ev.finish_tupS0, List.length_cons, List.length_nil, C.items_of, sub_last hm, hw', G.REST, hr', len_tup hm, hlen, hc']
      rw [if_neg hc]
      rfl
end LawX
namespace LawX
open Ev
/-! ### names -/
def letters : List Nat := [97, 98, 99, 100, 101, 102, 103, 104, 105, 106, 107, 108, 109, 110, 111, 112, 113, 114, 115, 116, 117, 118, 119, 120, 121, 122]
def nameB (w : Wd) : Bool := (decide (1 ≤ w.length) && decide (w.length ≤ 8)) && w.all fun c => decide (c ∈ letters)
theorem m_is_name {w : Wd} {k : Nat} {st : St} (hl : w.length ≤ 100000) : evFn fns (k + 1) F.is_name [.str w] st = .ok (.d (.bl (nameB w))) st := by
  refine fn_ret0 (fn := ⟨1, 2, C.is_name⟩) rfl rfl (s_ret ?_) rfl nofun
  have hv : ∀ {st : St}, evE (evFn fns k) (.var 0) ([D.str w].map some ++ List.replicate (2 - 1) none) st = .ok (.d (.str w)) st := e_var rfl
  have e : nameB w = (true && ((decide (1 ≤ w.length) && decide (w.length ≤ 8)) && w.all fun c => decide (c ∈ letters))) := by unfold nameB; rw [Bool.true_and]
  rw [e]
  have hlen : ∀ {st : St}, bltR .len st [.d (.str w)] = some (.d (.int w.length)) := fun {st} => by
    show (if decide (w.length ≤ big) then some (Rv.d (.int w.length)) else none) = _
    rw [if_pos (decide_eq_true (show w.length ≤ big from hl))]
  refine e_and (e_isi hv rfl) fun _ => e_and ?_ fun _ => ?_
  · refine e_chn (u := .d (.int 1)) (v := .d (.int w.length)) (w := .d (.int 8)) rfl (e_blt1 hv hlen) ?_ (fun _ => rfl) fun _ => ?_
    · show some (decide ((1 : Int) ≤ (w.length : Int))) = _
      congr 1
      exact decide_eq_decide.mpr (by omega)
    · show some (decide ((w.length : Int) ≤ 8)) = _
      congr 1
      exact decide_eq_decide.mpr (by omega)
  · refine e_blt1 (v := .tmp (w.map fun c => .bl (decide (c ∈ letters)))) ?_ all_map
    refine lc_map (its := .fix (w.map fun c => D.str [c])) (f := fun c => D.str [c]) ?_ (fun _ => rfl) ?_ hl fun c hc => ⟨_, rfl, ?_⟩
    · rw [evSrc]
      show (evE _ _ _ _).bind _ = _
      rw [hv]
      rfl
    · show _ ≤ (w.map fun c => D.str [c]).length
      rw [List.length_map]
      exact Nat.le_refl _
    · exact e_cmp (u := .d (.str [c])) (v := .d (.str letters)) (e_var rfl) rfl rfl
def pathB (l : List Wd) : Bool := (decide (1 ≤ l.length) && decide (l.length ≤ 4)) && l.all nameB
theorem len4 {l : List D} {n : Nat} {call : Nat → List D → M Rv} {env : Env} {st : St} {a : E} (ha : evE call a env st = .ok (.d (.tup l)) st) (hn : l.length = n) (hl : n ≤ 100000) : evE call (.chn .le .le (.cst (.int 1)) (.blt .len (.cons a .nil)) (.cst (.int 4))) env st = .ok (.d (.bl (decide (1 ≤ n) && decide (n ≤ 4)))) st := by
  subst hn
  refine e_chn (u := .d (.int 1)) (v := .d (.int l.length)) (w := .d (.int 4)) rfl (e_blt1 ha (len_tup hl)) ?_ (fun _ => rfl) fun _ => ?_
  · show some (decide ((1 : Int) ≤ (l.length : Int))) = _
    congr 1
    exact decide_eq_decide.mpr (by omega)
  · show some (decide ((l.length : Int) ≤ 4)) = _
    congr 1
    exact decide_eq_decide.mpr (by omega)
theorem m_is_path {l : List Wd} {k : Nat} {st : St} (hl : l.length ≤ 100000) (hw : ∀ w ∈ l, w.length ≤ 100000) : evFn fns (k + 2) F.is_path [tupS l] st = .ok (.d (.bl (pathB l))) st := by
  refine fn_ret0 (fn := ⟨1, 2, C.is_path⟩) rfl rfl (s_ret ?_) rfl nofun
  have hv : ∀ {st : St}, evE (evFn fns (k + 1)) (.var 0) ([tupS l].map some ++ List.replicate (2 - 1) none) st = .ok (.d (tupS l)) st := e_var rfl
  have e : pathB l = (true && ((decide (1 ≤ l.length) && decide (l.length ≤ 4)) && l.all nameB)) := by unfold pathB; rw [Bool.true_and]
  rw [e]
  refine e_and (e_isi hv rfl) fun _ => e_and (len4 hv (List.length_map ..) hl) fun _ => ?_
  refine e_blt1 (v := .tmp (l.map fun w => .bl (nameB w))) ?_ all_map
  refine lc_map (its := .one (.tup (l.map D.str))) (f := D.str) (src_e hv) (fun _ => rfl) ?_ hl fun w hm => ⟨_, rfl, ?_⟩
  · show _ ≤ (l.map D.str).length
    rw [List.length_map]
    exact Nat.le_refl _
  · exact e_call1 (e_var rfl) (m_is_name (hw w hm))
def actions : List Wd := [[114, 101, 97, 100], [119, 114, 105, 116, 101], [108, 105, 115, 116], [100, 114, 111, 112]]
theorem m_is_action {w : Wd} {k : Nat} {st : St} : evFn fns (k + 1) F.is_action [.str w] st = .ok (.d (.bl (actions.any (· == w)))) st := by
  refine fn_ret0 (fn := ⟨1, 1, C.is_action⟩) rfl rfl (s_ret ?_) rfl nofun
  have e : (actions.any (· == w)) = (true && actions.any (· == w)) := by rw [Bool.true_and]
  rw [e]
  refine e_and (e_isi (v := .d (.str w)) (e_var rfl) rfl) fun _ => ?_
  refine e_cmp (u := .d (.str w)) (v := .d G.ACTIONS) (e_var rfl) rfl ?_
  have e2 : ∀ {st : St}, cmpR .isin st (.d (.str w)) (.d G.ACTIONS) = anyEq false (.str w) [.str [114, 101, 97, 100], .str [119, 114, 105, 116, 101], .str [108, 105, 115, 116], .str [100, 114, 111, 112]] := fun {st} => by
    match w with
    | [] => rfl
    | [_] => rfl
    | _ :: _ :: _ => rfl
  rw [e2]
  rfl
def reqB (a : Wd) (l : List Wd) : Bool := actions.any (· == a) && pathB l
theorem m_is_request {a : Wd} {l : List Wd} {k : Nat} {st : St} (hl : l.length ≤ 100000) (hw : ∀ w ∈ l, w.length ≤ 100000) : evFn fns (k + 3) F.is_request [.tup [.str a, tupS l]] st = .ok (.d (.bl (reqB a l))) st := by
  refine fn_ret0 (fn := ⟨1, 1, C.is_request⟩) rfl rfl (s_ret ?_) rfl nofun
  have hv : ∀ {st : St}, evE (evFn fns (k + 2)) (.var 0) ([D.tup [.str a, tupS l]].map some ++ List.replicate (1 - 1) none) st = .ok (.d (.tup [.str a, tupS l])) st := e_var rfl
  have e : reqB a l = (true && (true && (actions.any (· == a) && pathB l))) := by unfold reqB; rw [Bool.true_and, Bool.true_and]
  rw [e]
  refine e_and (e_isi hv rfl) fun _ => e_and ?_ fun _ => e_and ?_ fun _ => ?_
  · exact e_cmp (e_blt1 hv rfl) rfl rfl
  · exact e_call1 (e_sub hv rfl rfl) m_is_action
  · exact e_call1 (e_sub hv rfl rfl) (m_is_path hl hw)
end LawX
namespace LawX
open Ev
/-- a valid pattern -/
structure PatOk (p : List Wd) : Prop where
  ne : p ≠ []
  len : p.length ≤ 4
  small : ∀ w ∈ p, w.length ≤ 100000
  first : ∀ w ∈ p.dropLast, (nameB w || w == star) = true
  last : ∀ w, p.getLast? = some w → (nameB w || (star == w || rest == w)) = true
theorem skip {call : Nat → List D → M Rv} {env : Env} {st : St} {a : E} {t ss : Ss} (h : evE call a env st = .ok (.d (.bl false)) st) : evSs call (.cons (.if_ a t .nil) ss) env st = evSs call ss env st := by
  rw [evSs, evS]
  show ((evE call a env st).bind _).bind _ = _
  rw [h]
  rfl
theorem take {call : Nat → List D → M Rv} {env : Env} {st : St} {a : E} {t e ss : Ss} {v : Rv} {st' : St} (h : evE call a env st = .ok (.d (.bl true)) st) (h' : evSs call t env st = .ok (.rt v) st') : evSs call (.cons (.if_ a t e) ss) env st = .ok (.rt v) st' := by
  rw [evSs, evS]
  show ((evE call a env st).bind _).bind _ = _
  rw [h]
  show (evSs call t env st).bind _ = _
  rw [h']
  rfl
theorem m_is_pattern {p : List Wd} {k : Nat} {st : St} (h : PatOk p) : evFn fns (k + 2) F.is_pattern [tupS p] st = .ok (.d (.bl true)) st := by
  have hl : p.length ≤ 100000 := Nat.le_trans h.len (by decide)
  have h1 : 1 ≤ p.length := by have := List.length_pos_iff.mpr h.ne; omega
  obtain ⟨w, hw⟩ : ∃ w, p.getLast? = some w := ⟨_, List.getLast?_eq_some_getLast h.ne⟩
  refine fn_ret (fn := ⟨1, 4, C.is_pattern⟩) (new := [.lst (p.dropLast.map D.str)]) rfl rfl ?_ rfl nofun
  have hv : ∀ {st : St}, evE (evFn fns (k + 1)) (.var 0) ([tupS p].map some ++ List.replicate (4 - 1) none) st = .ok (.d (tupS p)) st := e_var rfl
  refine (skip ?_).trans ((skip ?_).trans ?_)
  · have e : false = ((!true) || !(decide (1 ≤ p.length) && decide (p.length ≤ 4))) := by
      rw [decide_eq_true h1, decide_eq_true h.len]
      rfl
    rw [e]
    exact e_or (e_not (e_isi hv rfl)) fun _ => e_not (len4 hv (List.length_map ..) hl)
  · have e : false = !(p.all fun _ => true) := by rw [List.all_eq_true.mpr fun _ _ => rfl]; rfl
    rw [e]
    refine e_not (e_blt1 (v := .tmp (p.map fun _ => .bl true)) ?_ all_map)
    refine lc_map (its := .one (.tup (p.map D.str))) (f := D.str) (src_e hv) (fun _ => rfl) ?_ hl fun w hm => ⟨_, rfl, ?_⟩
    · show _ ≤ (p.map D.str).length
      rw [List.length_map]
      exact Nat.le_refl _
    · exact e_isi (v := .d (.str w)) (e_var rfl) rfl
  · rw [evSs, evS]
    show ((evE _ _ _ _).bind _).bind _ = _
    rw [hv]
    have hg : (p.map D.str).getLast? = some (.str w) := by rw [List.getLast?_map, hw]; rfl
    show ((match (p.map D.str).getLast? with
        | some l => if (p.map D.str).length ≤ big then (alloc (.lst (p.map D.str).dropLast) ⟨st.objs, st.objs.length⟩).bind fun q st2 => .ok (Fl.nx ((([tupS p].map some ++ List.replicate (4 - 1) none).set 2 (some (.ref q))).set 1 (some l))) st2 else .err
        | none => .err) : Res Fl).bind _ = _
    rw [hg]
    show Res.bind (if (p.map D.str).length ≤ big then _ else _) _ = _
    rw [if_pos (by rw [List.length_map]; exact hl), ← List.map_dropLast]
    refine s_ret ?_
    show evE _ _ [some (tupS p), some (.str w), some (.ref st.objs.length), none] ⟨st.objs ++ [.lst (p.dropLast.map D.str)], st.objs.length⟩ = _
    have e : true = ((p.dropLast.all fun w => nameB w || w == star) && (nameB w || (star == w || rest == w))) := by
      rw [List.all_eq_true.mpr h.first, h.last w hw]
      rfl
    rw [e]
    refine e_and (e_blt1 (v := .tmp (p.dropLast.map fun w => .bl (nameB w || w == star))) ?_ all_map) fun _ => ?_
    · refine lc_map (its := .one (.live st.objs.length)) (f := D.str) ?_ (fun j => ?_) ?_ (by rw [List.length_dropLast]; omega) fun u hu => ⟨_, rfl, ?_⟩
      · rw [evSrc]
        show (evE _ _ _ _).bind _ = _
        rw [e_var (d := .ref st.objs.length) rfl]
        show (match itsOf ⟨st.objs ++ [.lst (p.dropLast.map D.str)], st.objs.length⟩ (.d (.ref st.objs.length)) with | some its => Res.ok its _ | none => .err) = _
        have : itsOf ⟨st.objs ++ [.lst (p.dropLast.map D.str)], st.objs.length⟩ (.d (.ref st.objs.length)) = some (.one (.live st.objs.length)) := by
          show (match (st.objs ++ [Ob.lst (p.dropLast.map D.str)])[st.objs.length]? with | some _ => some (Side.live st.objs.length) | none => none).map Its.one = _
          rw [get_new]
          rfl
        rw [this]
      · show (listOf ⟨st.objs ++ [.lst (p.dropLast.map D.str)], st.objs.length⟩ (.d (.ref st.objs.length))).map (fun ds => ds[j]?) = _
        rw [list_new]
        rfl
      · show _ ≤ (match listOf ⟨st.objs ++ [.lst (p.dropLast.map D.str)], st.objs.length⟩ (.d (.ref st.objs.length)) with | some ds => ds.length | none => 0)
        rw [list_new]
        show _ ≤ (p.dropLast.map D.str).length
        rw [List.length_map]
        exact Nat.le_refl _
      · refine e_or (e_call1 (e_var rfl) (m_is_name (h.small u ((List.dropLast_sublist p).subset hu)))) fun _ => ?_
        exact e_cmp (u := .d (.str u)) (v := .d (.str star)) (e_var rfl) rfl eq_str
    · refine e_or (e_call1 (e_var rfl) (m_is_name (h.small w (List.mem_of_getLast? hw)))) fun _ => ?_
      exact e_cmp (u := .d (.str w)) (v := .d (.tup [.str star, .str rest])) (e_var rfl) (e_tup2 rfl rfl) in_str2
structure RightOk (a : Wd) (p : List Wd) : Prop where
  act : (actions.any (· == a) || a == star) = true
  pat : PatOk p
abbrev rt (a : Wd) (p : List Wd) : D := .tup [.str a, tupS p]
theorem m_is_right {a : Wd} {p : List Wd} {k : Nat} {st : St} (h : RightOk a p) : evFn fns (k + 3) F.is_right [rt a p] st = .ok (.d (.bl true)) st := by
  have hv : ∀ {st : St}, evE (evFn fns (k + 2)) (.var 0) ([rt a p].map some ++ List.replicate (1 - 1) none) st = .ok (.d (rt a p)) st := e_var rfl
  refine fn_ret0 (fn := ⟨1, 1, C.is_right⟩) rfl rfl ((skip ?_).trans (s_ret ?_)) rfl nofun
  · have e : false = ((!true) || ((!true) || !true)) := rfl
    rw [e]
    refine e_or (e_not (e_isi hv rfl)) fun _ => e_or ?_ fun _ => e_not (e_call1 (e_sub hv rfl rfl) (m_is_pattern h.pat))
    exact e_cmp (u := .d (.int 2)) (v := .d (.int 2)) (e_blt1 hv rfl) rfl rfl
  · have e : true = (actions.any (· == a) || (true && (a == star))) := by rw [Bool.true_and]; exact h.act.symm
    rw [e]
    refine e_or (e_call1 (e_sub hv rfl rfl) m_is_action) fun _ => e_and (e_isi (v := .d (.str a)) (e_sub hv rfl rfl) rfl) fun _ => ?_
    exact e_cmp (u := .d (.str a)) (v := .d (.str star)) (e_sub hv rfl rfl) rfl eq_str
theorem m_check_right {a : Wd} {p : List Wd} {k : Nat} {st : St} (h : RightOk a p) : evFn fns (k + 4) F.check_right [rt a p] st = .ok (.d .non) st := by
  rw [evFn_succ (fn := ⟨1, 1, C.check_right⟩) rfl rfl]
  have hv : ∀ {st : St}, evE (evFn fns (k + 3)) (.var 0) ([rt a p].map some ++ List.replicate (1 - 1) none) st = .ok (.d (rt a p)) st := e_var rfl
  have e : evSs (evFn fns (k + 3)) C.check_right ([rt a p].map some ++ List.replicate (1 - 1) none) ⟨st.objs, st.objs.length⟩ = .ok (.nx ([rt a p].map some ++ List.replicate (1 - 1) none)) ⟨st.objs, st.objs.length⟩ := by
    refine (skip ?_).trans rfl
    exact e_not (x := true) (e_call1 hv (m_is_right h))
  show (evSs (evFn fns (k + 3)) C.check_right _ _).bind _ = _
  rw [e]
  exact finish_non0
/-! ### requests -/
def okI (o i : Wd) : Bool := star == o || i == o
def matchB (p path : List Wd) : Bool := match itemsOf p path.length with
  | none => false
  | some its => (its.zip path).all fun q => okI q.1 q.2
theorem items_small {p its : List Wd} {n : Nat} (h : itemsOf p n = some its) (hl : p.length ≤ 100) (hn : n ≤ 100) : its.length = n := by
  unfold itemsOf at h
  split at h
  · split at h
    · rename_i e; cases h; exact e
    · cases h
  · split at h
    · rename_i e
      cases h
      rw [List.length_append, List.length_dropLast, List.length_replicate]
      omega
    · cases h
theorem m_matches {p path : List Wd} {k : Nat} {st : St} (hp : p ≠ []) (hl : p.length ≤ 100) (hn : path.length ≤ 100) : evFn fns (k + 2) F.matches [tupS p, tupS path] st = .ok (.d (.bl (matchB p path))) st := by
  have hv0 : ∀ {st : St}, evE (evFn fns (k + 1)) (.var 0) ([tupS p, tupS path].map some ++ List.replicate (5 - 2) none) st = .ok (.d (tupS p)) st := e_var rfl
  have hv1 : ∀ {st : St}, evE (evFn fns (k + 1)) (.var 1) ([tupS p, tupS path].map some ++ List.replicate (5 - 2) none) st = .ok (.d (tupS path)) st := e_var rfl
  refine fn_ret0 (fn := ⟨2, 5, C.matches⟩) rfl rfl ((s_set (v := .d (optT (itemsOf p path.length))) (st1 := ⟨st.objs, st.objs.length⟩) ?_ rfl).trans ?_) rfl nofun
  · refine e_call2 (e := .int path.length) hv0 (e_blt1 hv1 ?_) (m_items_of hp hl hn)
    rw [len_tup (by rw [List.length_map]; omega), List.length_map]
  · refine s_ret ?_
    unfold matchB
    cases h : itemsOf p path.length with
    | none => rfl
    | some its =>
      have hi := items_small h hl hn
      show evE _ _ _ _ = .ok (.d (.bl (true && (its.zip path).all fun q => okI q.1 q.2))) _
      refine e_and rfl fun _ => ?_
      refine e_blt1 (v := .tmp ((its.zip path).map fun q => .bl (okI q.1 q.2))) ?_ all_map
      refine lc_map (its := .zip (.tup (its.map D.str)) (.tup (path.map D.str))) (f := fun q => .tup [.str q.1, .str q.2]) (src_zipT (e_var rfl) (e_var rfl)) (fun j => at_zipT) size_zipT (by rw [List.length_zip]; omega) fun q hq => ⟨_, rfl, ?_⟩
      exact e_cmp (u := .d (.str q.1)) (v := .d (.tup [.str star, .str q.2])) (e_var rfl) (e_tup2 rfl (e_var rfl)) in_str2
def coverB (a : Wd) (p : List Wd) (b : Wd) (path : List Wd) : Bool := okI a b && matchB p path
theorem m_is_covered {a b : Wd} {p path : List Wd} {k : Nat} {st : St} (hp : p ≠ []) (hl : p.length ≤ 100) (hn : path.length ≤ 100) : evFn fns (k + 3) F.is_covered [rt a p, rt b path] st = .ok (.d (.bl (coverB a p b path))) st := by
  have hv0 : ∀ {st : St}, evE (evFn fns (k + 2)) (.var 0) ([rt a p, rt b path].map some ++ List.replicate (2 - 2) none) st = .ok (.d (rt a p)) st := e_var rfl
  have hv1 : ∀ {st : St}, evE (evFn fns (k + 2)) (.var 1) ([rt a p, rt b path].map some ++ List.replicate (2 - 2) none) st = .ok (.d (rt b path)) st := e_var rfl
  refine fn_ret0 (fn := ⟨2, 2, C.is_covered⟩) rfl rfl (s_ret (e_and (x := okI a b) ?_ fun _ => ?_)) rfl nofun
  · exact e_cmp (u := .d (.str a)) (v := .d (.tup [.str star, .str b])) (e_sub hv0 rfl rfl) (e_tup2 rfl (e_sub hv1 rfl rfl)) in_str2
  · exact e_call2 (e_sub hv0 rfl rfl) (e_sub hv1 rfl rfl) (m_matches hp hl hn)
theorem s_expr {call : Nat → List D → M Rv} {env : Env} {st st' : St} {a : E} {ss : Ss} {v : Rv} (h : evE call a env st = .ok v st') : evSs call (.cons (.expr a) ss) env st = evSs call ss env st' := by
  rw [evSs, evS]
  show ((evE call a env st).bind _).bind _ = _
  rw [h]
  rfl
theorem m_covers {a b : Wd} {p path : List Wd} {k : Nat} {st : St} (h : RightOk a p) (hq : reqB b path = true) (hn : path.length ≤ 100) (hw : ∀ w ∈ path, w.length ≤ 100000) : evFn fns (k + 5) F.covers [rt a p, rt b path] st = .ok (.d (.bl (coverB a p b path))) st := by
  have hv0 : ∀ {st : St}, evE (evFn fns (k + 4)) (.var 0) ([rt a p, rt b path].map some ++ List.replicate (2 - 2) none) st = .ok (.d (rt a p)) st := e_var rfl
  have hv1 : ∀ {st : St}, evE (evFn fns (k + 4)) (.var 1) ([rt a p, rt b path].map some ++ List.replicate (2 - 2) none) st = .ok (.d (rt b path)) st := e_var rfl
  refine fn_ret0 (fn := ⟨2, 2, C.covers⟩) rfl rfl ((s_expr (e_call1 hv0 (m_check_right h))).trans ((skip ?_).trans (s_ret ?_))) rfl nofun
  · rw [show false = !(reqB b path) by rw [hq]; rfl]
    exact e_not (e_call1 hv1 (m_is_request (by omega) hw))
  · exact e_call2 hv0 hv1 (m_is_covered h.pat.ne (Nat.le_trans h.pat.len (by decide)) hn)
end LawX
namespace LawX
open Ev
/-! ### within -/
def wideB (p q : List Wd) (n : Nat) : Bool := match itemsOf p n with
  | none => true
  | some its => (match itemsOf q n with
    | none => false
    | some wd => (its.zip wd).all fun z => okI z.2 z.1)
def withinB (a : Wd) (p : List Wd) (b : Wd) (q : List Wd) : Bool := okI b a && [1, 2, 3, 4].all (wideB p q)
theorem s_for {call : Nat → List D → M Rv} {env : Env} {st st1 : St} {t : Tg} {src : Src} {b ss : Ss} {its : Its} (h : evSrc call src env st = .ok its st1) :
    evSs call (.cons (.for_ t src b) ss) env st = (forGo t (evSs call b) its (its.size st1 + 1) 0 env st1).bind fun f st2 => (match f with
      | .nx env1 => evSs call ss env1 st2
      | f => .ok f st2) := by
  rw [evSs, evS]
  show ((evSrc call src env st).bind _).bind _ = _
  rw [h]
  rfl
theorem s_par2 {call : Nat → List D → M Rv} {env : Env} {st st1 st2 st3 st4 : St} {i j : Nat} {a b : E} {ss : Ss} {u v : Rv} {d e : D} (ha : evE call a env st = .ok u st1) (hd : mat u st1 = .ok d st2) (hb : evE call b env st2 = .ok v st3) (he : mat v st3 = .ok e st4) :
    evSs call (.cons (.par [i, j] (.cons a (.cons b .nil))) ss) env st = evSs call ss ((env.set i (some d)).set j (some e)) st4 := by
  rw [evSs, evS]
  show ((((evE call a env st).bind _).bind _).bind _) = _
  rw [ha]
  show (((mat u st1).bind _).bind _).bind _ = _
  rw [hd]
  show ((((evE call b env st2).bind _).bind _).bind _).bind _ = _
  rw [hb]
  show ((((mat v st3).bind _).bind _).bind _).bind _ = _
  rw [he]
  rfl
def isnB (ng : Bool) : D → Bool
  | .non => !ng
  | _ => ng
theorem e_isn {call : Nat → List D → M Rv} {env : Env} {st : St} {a : E} {d : D} {ng : Bool} (ha : evE call a env st = .ok (.d d) st) : evE call (.isn ng a) env st = .ok (.d (.bl (isnB ng d))) st := by
  rw [evE]
  show (evE call a env st).bind _ = _
  rw [ha]
  cases d <;> rfl
theorem s_if1 {call : Nat → List D → M Rv} {env : Env} {st st' : St} {a : E} {t e : Ss} {r : Fl} (h : evE call a env st = .ok (.d (.bl true)) st) (h' : evSs call t env st = .ok r st') : evSs call (.cons (.if_ a t e) .nil) env st = .ok r st' := by
  rw [evSs, evS]
  show ((evE call a env st).bind _).bind _ = _
  rw [h]
  show (evSs call t env st).bind _ = _
  rw [h']
  cases r <;> rfl
theorem m_is_within {a b : Wd} {p q : List Wd} {k : Nat} {st : St} (hp : p ≠ []) (hpl : p.length ≤ 100) (hq : q ≠ []) (hql : q.length ≤ 100) : evFn fns (k + 2) F.is_within [rt a p, rt b q] st = .ok (.d (.bl (withinB a p b q))) st := by
  have hc : ∀ {st : St}, evE (evFn fns (k + 1)) (.cmp .notin (.sub (.var 1) (.cst (.int 0))) (.tup (.cons (.cst G.ANY) (.cons (.sub (.var 0) (.cst (.int 0))) .nil)))) ([rt a p, rt b q].map some ++ List.replicate (7 - 2) none) st = .ok (.d (.bl (!okI b a))) st :=
    fun {st} => e_cmp (u := .d (.str b)) (v := .d (.tup [.str star, .str a])) (e_sub (e_var (d := rt b q) rfl) rfl rfl) (e_tup2 rfl (e_sub (e_var (d := rt a p) rfl) rfl rfl)) notin_str2
  refine fn_ret0 (fn := ⟨2, 7, C.is_within⟩) rfl rfl ?_ rfl nofun
  unfold withinB
  cases hba : okI b a with
  | false => exact take (by rw [hc, hba]; rfl) (s_ret rfl)
  | true =>
    refine (skip (by rw [hc, hba]; rfl)).trans ?_
    show _ = Res.ok (Fl.rt (.d (.bl ([1, 2, 3, 4].all (wideB p q))))) _
    rw [s_for (its := .fix ([1, 2, 3, 4].map fun n : Nat => D.int n)) (st1 := ⟨st.objs, st.objs.length⟩) rfl]
    let I : Nat → Env → St → Prop := fun k env st' => st' = ⟨st.objs, st.objs.length⟩ ∧ (∃ l i w, env = [some (rt a p), some (rt b q), l, i, w, none, none]) ∧ ∀ j n, j < k → [1, 2, 3, 4][j]? = some n → wideB p q n = true
    let R : Rv → St → Prop := fun v st' => v = .d (.bl false) ∧ st' = ⟨st.objs, st.objs.length⟩ ∧ ∃ n ∈ [1, 2, 3, 4], wideB p q n = false
    have key := for_gen (t := .var 2) (body := evSs (evFn fns (k + 1)) (.cons (.par [3, 4] (.cons (.call F.items_of (.cons (.sub (.var 0) (.cst (.int 1))) (.cons (.var 2) .nil))) (.cons (.call F.items_of (.cons (.sub (.var 1) (.cst (.int 1))) (.cons (.var 2) .nil))) .nil))) (.cons (.if_ (.isn true (.var 3)) (.cons (.if_ (.or (.isn false (.var 4)) (.not (.blt .all (.cons (.lc [5, 6] (.tup [5, 6]) (.zip (.var 3) (.var 4)) .no (.cmp .isin (.var 6) (.tup (.cons (.cst G.ANY) (.cons (.var 5) .nil))))) .nil)))) (.cons (.ret (.cst (.bl false))) .nil) .nil) .nil) .nil) .nil)))
      (its := .fix ([1, 2, 3, 4].map fun n : Nat => D.int n)) (ds := [1, 2, 3, 4].map fun n : Nat => D.int n) I R (fun _ _ _ _ => rfl) ?_ (4 + 1) 0 ([rt a p, rt b q].map some ++ List.replicate (7 - 2) none) ⟨st.objs, st.objs.length⟩ ⟨rfl, ⟨none, none, none, rfl⟩, fun j n h => by omega⟩ (Nat.zero_le _) (by decide)
    · rcases key with ⟨env', st', e, e1, ⟨l, i, w, e2⟩, e3⟩ | ⟨v, st', e, e1, e2, n, hn, e3⟩
      · refine (congrArg (fun r => Res.bind r _) e).trans ?_
        subst e1
        have : [1, 2, 3, 4].all (wideB p q) = true := List.all_eq_true.mpr fun n hn => by
          obtain ⟨j, hj, ej⟩ := List.mem_iff_getElem.mp hn
          exact e3 j n hj (by rw [List.getElem?_eq_getElem hj, ej])
        rw [this]
        rfl
      · refine (congrArg (fun r => Res.bind r _) e).trans ?_
        subst e1 e2
        have : [1, 2, 3, 4].all (wideB p q) = false := by
          cases z : [1, 2, 3, 4].all (wideB p q) with
          | false => rfl
          | true => rw [List.all_eq_true.mp z n hn] at e3; cases e3
        rw [this]
        rfl
    · intro j env st' d hI hd
      obtain ⟨rfl, ⟨l, i, w, rfl⟩, hall⟩ := hI
      rw [List.getElem?_map] at hd
      obtain ⟨n, hn, rfl⟩ := Option.map_eq_some_iff.mp hd
      have hn4 : n ≤ 100 := by
        have hm := List.mem_of_getElem? hn
        simp only [List.mem_cons, List.not_mem_nil, or_false] at hm
        omega
      refine ⟨_, rfl, ?_⟩
      have eb : ∀ ss, evSs (evFn fns (k + 1)) (.cons (.par [3, 4] (.cons (.call F.items_of (.cons (.sub (.var 0) (.cst (.int 1))) (.cons (.var 2) .nil))) (.cons (.call F.items_of (.cons (.sub (.var 1) (.cst (.int 1))) (.cons (.var 2) .nil))) .nil))) ss) [some (rt a p), some (rt b q), some (.int n), i, w, none, none] ⟨st.objs, st.objs.length⟩
          = evSs (evFn fns (k + 1)) ss [some (rt a p), some (rt b q), some (.int n), some (optT (itemsOf p n)), some (optT (itemsOf q n)), none, none] ⟨st.objs, st.objs.length⟩ := fun ss => by
        refine s_par2 (u := .d (optT (itemsOf p n))) (v := .d (optT (itemsOf q n))) (st1 := ⟨st.objs, st.objs.length⟩) (st3 := ⟨st.objs, st.objs.length⟩) ?_ rfl ?_ rfl
        · exact e_call2 (e_sub (e_var (d := rt a p) rfl) rfl rfl) (e_var rfl) (m_items_of hp hpl hn4)
        · exact e_call2 (e_sub (e_var (d := rt b q) rfl) rfl rfl) (e_var rfl) (m_items_of hq hql hn4)
      have done : wideB p q n = true → ∀ j' n', j' < j + 1 → [1, 2, 3, 4][j']? = some n' → wideB p q n' = true := fun hw j' n' hlt e => by
        by_cases z : j' = j
        · subst z
          rw [hn] at e
          cases e
          exact hw
        · exact hall j' n' (by omega) e
      cases hi : itemsOf p n with
      | none =>
        left
        refine ⟨_, _, (eb _).trans ((skip ?_).trans rfl), rfl, ⟨_, _, _, rfl⟩, done (by unfold wideB; rw [hi])⟩
        rw [hi]
        exact e_isn (d := .non) (e_var rfl)
      | some its =>
        have his := items_small hi hpl hn4
        have cond : ∀ {c : Bool}, (match itemsOf q n with | none => true | some wd => !((its.zip wd).all fun z => okI z.2 z.1)) = c → evE (evFn fns (k + 1)) (.or (.isn false (.var 4)) (.not (.blt .all (.cons (.lc [5, 6] (.tup [5, 6]) (.zip (.var 3) (.var 4)) .no (.cmp .isin (.var 6) (.tup (.cons (.cst G.ANY) (.cons (.var 5) .nil))))) .nil)))) [some (rt a p), some (rt b q), some (.int n), some (tupS its), some (optT (itemsOf q n)), none, none] ⟨st.objs, st.objs.length⟩ = .ok (.d (.bl c)) ⟨st.objs, st.objs.length⟩ := by
          intro c hc
          subst hc
          cases hj : itemsOf q n with
          | none => exact e_or (y := true) (e_isn (d := .non) (e_var rfl)) (fun z => by cases z)
          | some wd =>
            have hjs := items_small hj hql hn4
            show _ = Res.ok (Rv.d (.bl (false || !((its.zip wd).all fun z => okI z.2 z.1)))) _
            refine e_or (e_isn (d := tupS wd) (e_var rfl)) fun _ => e_not (e_blt1 (v := .tmp ((its.zip wd).map fun z => .bl (okI z.2 z.1))) ?_ all_map)
            refine lc_map (its := .zip (.tup (its.map D.str)) (.tup (wd.map D.str))) (f := fun z => .tup [.str z.1, .str z.2]) (src_zipT (e_var rfl) (e_var rfl)) (fun j => at_zipT) size_zipT (by rw [List.length_zip]; omega) fun z hz => ⟨_, rfl, ?_⟩
            exact e_cmp (u := .d (.str z.2)) (v := .d (.tup [.str star, .str z.1])) (e_var rfl) (e_tup2 rfl (e_var rfl)) in_str2
        have outer : ∀ {r st'}, evSs (evFn fns (k + 1)) (.cons (.if_ (.or (.isn false (.var 4)) (.not (.blt .all (.cons (.lc [5, 6] (.tup [5, 6]) (.zip (.var 3) (.var 4)) .no (.cmp .isin (.var 6) (.tup (.cons (.cst G.ANY) (.cons (.var 5) .nil))))) .nil)))) (.cons (.ret (.cst (.bl false))) .nil) .nil) .nil) [some (rt a p), some (rt b q), some (.int n), some (tupS its), some (optT (itemsOf q n)), none, none] ⟨st.objs, st.objs.length⟩ = .ok r st' →
            evSs (evFn fns (k + 1)) (.cons (.if_ (.isn true (.var 3)) (.cons (.if_ (.or (.isn false (.var 4)) (.not (.blt .all (.cons (.lc [5, 6] (.tup [5, 6]) (.zip (.var 3) (.var 4)) .no (.cmp .isin (.var 6) (.tup (.cons (.cst G.ANY) (.cons (.var 5) .nil))))) .nil)))) (.cons (.ret (.cst (.bl false))) .nil) .nil) .nil) .nil) .nil) [some (rt a p), some (rt b q), some (.int n), some (optT (itemsOf p n)), some (optT (itemsOf q n)), none, none] ⟨st.objs, st.objs.length⟩ = .ok r st' := by
          intro r st' h
          rw [hi]
          exact s_if1 (e_isn (d := tupS its) (e_var rfl)) h
        cases hw : wideB p q n with
        | true =>
          left
          refine ⟨_, _, (eb _).trans (outer ((skip (cond ?_)).trans rfl)), rfl, ⟨_, _, _, rfl⟩, done hw⟩
          unfold wideB at hw
          rw [hi] at hw
          cases hj : itemsOf q n with
          | none => rw [hj] at hw; cases hw
          | some wd =>
            rw [hj] at hw
            show (!((its.zip wd).all fun z => okI z.2 z.1)) = false
            rw [show ((its.zip wd).all fun z => okI z.2 z.1) = true from hw]
            rfl
        | false =>
          right
          refine ⟨_, _, (eb _).trans (outer (take (cond ?_) (s_ret rfl))), rfl, rfl, n, List.mem_of_getElem? hn, hw⟩
          unfold wideB at hw
          rw [hi] at hw
          cases hj : itemsOf q n with
          | none => rfl
          | some wd =>
            rw [hj] at hw
            show (!((its.zip wd).all fun z => okI z.2 z.1)) = true
            rw [show ((its.zip wd).all fun z => okI z.2 z.1) = false from hw]
            rfl
theorem m_within {a b : Wd} {p q : List Wd} {k : Nat} {st : St} (h : RightOk a p) (h' : RightOk b q) : evFn fns (k + 5) F.within [rt a p, rt b q] st = .ok (.d (.bl (withinB a p b q))) st := by
  have hv0 : ∀ {st : St}, evE (evFn fns (k + 4)) (.var 0) ([rt a p, rt b q].map some ++ List.replicate (2 - 2) none) st = .ok (.d (rt a p)) st := e_var rfl
  have hv1 : ∀ {st : St}, evE (evFn fns (k + 4)) (.var 1) ([rt a p, rt b q].map some ++ List.replicate (2 - 2) none) st = .ok (.d (rt b q)) st := e_var rfl
  refine fn_ret0 (fn := ⟨2, 2, C.within⟩) rfl rfl ((s_expr (e_call1 hv0 (m_check_right h))).trans ((s_expr (e_call1 hv1 (m_check_right h'))).trans (s_ret ?_))) rfl nofun
  exact e_call2 hv0 hv1 (m_is_within (k := k + 2) h.pat.ne (Nat.le_trans h.pat.len (by decide)) h'.pat.ne (Nat.le_trans h'.pat.len (by decide)))
end LawX
namespace LawX
open Ev
/-! ### joint -/
def clash (a b : Wd) : Bool := !(a == b) && !(a == star || b == star)
def pick (a b : Wd) : Wd := if a == star then b else a
def jiO : List Wd → List Wd → Option (List Wd)
  | a :: as, b :: bs => if clash a b then none else (jiO as bs).map (pick a b :: ·)
  | _, _ => some []
theorem lowL_app {b : Nat} : ∀ {xs ys : List D}, D.lowL b xs = true → D.lowL b ys = true → D.lowL b (xs ++ ys) = true
  | [], ys, _, h => h
  | x :: xs, ys, h, h' => by
    have h1 : (x.low b && D.lowL b xs) = true := h
    rw [Bool.and_eq_true] at h1
    show (x.low b && D.lowL b (xs ++ ys)) = true
    rw [h1.1, lowL_app h1.2 h']
    rfl
theorem s_append {call : Nat → List D → M Rv} {env : Env} {objs : List Ob} {dd i : Nat} {ds : List D} {d : D} {a : E} {ss : Ss} (ho : getV env i = some (.ref objs.length)) (ha : evE call a env ⟨objs ++ [.lst ds], dd⟩ = .ok (.d d) ⟨objs ++ [.lst ds], dd⟩) (hl : ds.length < 100000) (hlow : D.lowL (objs.length + 1) (ds ++ [d]) = true) :
    evSs call (.cons (.append (.var i) a) ss) env ⟨objs ++ [.lst ds], dd⟩ = evSs call ss env ⟨objs ++ [.lst (ds ++ [d])], dd⟩ := by
  have e : evS call (.append (.var i) a) env ⟨objs ++ [.lst ds], dd⟩ = .ok (.nx env) ⟨objs ++ [.lst (ds ++ [d])], dd⟩ := by
    rw [evS]
    show (evE call (.var i) env _).bind _ = _
    rw [e_var ho]
    show (match mutOf ⟨objs ++ [.lst ds], dd⟩ (.d (.ref objs.length)) with
      | some _ => (evE call a env ⟨objs ++ [Ob.lst ds], dd⟩).bind fun y st2 => (mat y st2).bind fun d st3 => (match mutOf st3 (.d (.ref objs.length)) with
        | some (p, ds) => if ds.length < big then (put p (Ob.lst (ds ++ [d])) st3).bind fun _ st4 => .ok (Fl.nx env) st4 else .err
        | none => .err)
      | none => .err) = _
    simp only [mut_new, ha, bind_ok, mat_d]
    rw [if_pos hl, put_new hlow]
    rfl
  rw [evSs]
  show (evS call (.append (.var i) a) env _).bind _ = _
  rw [e]
  rfl
theorem e_ite {call : Nat → List D → M Rv} {env : Env} {st st' : St} {c a b : E} {x : Bool} {r : Rv} (hc : evE call c env st = .ok (.d (.bl x)) st) (h : evE call (if x then a else b) env st = .ok r st') : evE call (.ite c a b) env st = .ok r st' := by
  rw [evE]
  show (evE call c env st).bind _ = _
  rw [hc]
  cases x <;> exact h
theorem lowL_strs {l : List Wd} {b : Nat} : D.lowL b (l.map D.str) = true := lowL_str
theorem s_setT {call : Nat → List D → M Rv} {env : Env} {st : St} {i : Nat} {a : E} {ss : Ss} {ds : List D} (h : evE call a env st = .ok (.tmp ds) st) : evSs call (.cons (.asg (.tg (.var i)) a) ss) env st = evSs call ss (env.set i (some (.ref st.objs.length))) ⟨st.objs ++ [.lst ds], st.dirty⟩ := s_set h rfl
theorem m_joint_items {as bs : List Wd} {k : Nat} {st : St} (ha : as.length ≤ 1000) : evFn fns (k + 1) F.joint_items [tupS as, tupS bs] st = .ok (match jiO as bs with | none => .d .non | some l => .tmp (l.map .str)) st := by
  rw [evFn_succ (fn := ⟨2, 5, C.joint_items⟩) rfl rfl]
  have e0 : ∀ {r}, evSs (evFn fns k) (.cons (.for_ (.tup [3, 4]) (.zip (.var 0) (.var 1)) (.cons (.if_ (.and (.cmp .ne (.var 3) (.var 4)) (.cmp .notin (.cst G.ANY) (.tup (.cons (.var 3) (.cons (.var 4) .nil))))) (.cons (.ret (.cst .non)) .nil) .nil) (.cons (.append (.var 2) (.ite (.cmp .eq (.var 3) (.cst G.ANY)) (.var 4) (.var 3))) .nil))) (.cons (.ret (.var 2)) .nil)) [some (tupS as), some (tupS bs), some (.ref st.objs.length), none, none] ⟨st.objs ++ [.lst []], st.objs.length⟩ = r →
      evSs (evFn fns k) C.joint_items ([tupS as, tupS bs].map some ++ List.replicate (5 - 2) none) ⟨st.objs, st.objs.length⟩ = r := fun h => (s_setT (st := ⟨st.objs, st.objs.length⟩) (ds := []) rfl).trans h
  let I : Nat → Env → St → Prop := fun j env st' => ∃ acc i n, st' = ⟨st.objs ++ [.lst (List.map D.str acc)], st.objs.length⟩ ∧ env = [some (tupS as), some (tupS bs), some (.ref st.objs.length), i, n] ∧ acc.length ≤ j ∧ jiO as bs = (jiO (as.drop j) (bs.drop j)).map (acc ++ ·)
  let R : Rv → St → Prop := fun v st' => v = .d .non ∧ (∃ o, st' = ⟨st.objs ++ [o], st.objs.length⟩) ∧ jiO as bs = none
  have key := for_gen (t := .tup [3, 4]) (body := evSs (evFn fns k) (.cons (.if_ (.and (.cmp .ne (.var 3) (.var 4)) (.cmp .notin (.cst G.ANY) (.tup (.cons (.var 3) (.cons (.var 4) .nil))))) (.cons (.ret (.cst .non)) .nil) .nil) (.cons (.append (.var 2) (.ite (.cmp .eq (.var 3) (.cst G.ANY)) (.var 4) (.var 3))) .nil)))
    (its := .zip (.tup (as.map D.str)) (.tup (bs.map D.str))) (ds := (as.zip bs).map fun q => D.tup [.str q.1, .str q.2]) I R (fun _ _ _ _ => at_zipT) ?_ ((Its.zip (.tup (as.map D.str)) (.tup (bs.map D.str))).size ⟨st.objs ++ [.lst []], st.objs.length⟩ + 1) 0 [some (tupS as), some (tupS bs), some (.ref st.objs.length), none, none] ⟨st.objs ++ [.lst []], st.objs.length⟩
    ⟨[], none, none, rfl, rfl, Nat.le_refl _, by
      rw [List.drop_zero, List.drop_zero]
      cases jiO as bs <;> rfl⟩ (Nat.zero_le _) (by
      rw [List.length_map]
      have := size_zipT (st := ⟨st.objs ++ [.lst []], st.objs.length⟩) (as := as) (bs := bs) (f := D.str) (g := D.str)
      omega)
  · show (evSs (evFn fns k) C.joint_items ([tupS as, tupS bs].map some ++ List.replicate (5 - 2) none) ⟨st.objs, st.objs.length⟩).bind _ = _
    rw [e0 (s_for (its := .zip (.tup (as.map D.str)) (.tup (bs.map D.str))) (st1 := ⟨st.objs ++ [.lst []], st.objs.length⟩) (src_zipT (e_var rfl) (e_var rfl)))]
    rcases key with ⟨env', st', e, acc, i, n, e1, e2, hl, e3⟩ | ⟨v, st', e, e1, ⟨o, e2⟩, e3⟩
    · rw [e]
      subst e1 e2
      have hz : jiO (as.drop (as.zip bs).length) (bs.drop (as.zip bs).length) = some [] := by
        rw [List.length_zip]
        by_cases h : as.length ≤ bs.length
        · rw [Nat.min_eq_left h, List.drop_eq_nil_of_le (Nat.le_refl _)]
          rfl
        · rw [Nat.min_eq_right (by omega), List.drop_eq_nil_of_le (as := bs) (Nat.le_refl _)]
          cases as.drop bs.length <;> rfl
      rw [List.length_map] at e3
      rw [e3, hz]
      show finish st.objs.length st.dirty (.d (.ref st.objs.length)) ⟨st.objs ++ [.lst (List.map D.str acc)], st.objs.length⟩ = .ok (.tmp ((acc ++ []).map D.str)) st
      rw [List.append_nil]
      exact finish_new lowL_strs
    · rw [e]
      subst e1 e2
      rw [e3]
      exact finish_non
  · intro j env st' d hI hd
    obtain ⟨acc, i, n, rfl, rfl, hl, e3⟩ := hI
    rw [List.getElem?_map] at hd
    obtain ⟨q, hq, rfl⟩ := Option.map_eq_some_iff.mp hd
    refine ⟨_, rfl, ?_⟩
    obtain ⟨hj, eq⟩ := List.getElem?_eq_some_iff.mp hq
    have hja : j < as.length := by rw [List.length_zip] at hj; omega
    have hjb : j < bs.length := by rw [List.length_zip] at hj; omega
    have eq' : q = (as[j], bs[j]) := by rw [← eq]; simp
    have unf : jiO (as.drop j) (bs.drop j) = if clash q.1 q.2 then none else (jiO (as.drop (j + 1)) (bs.drop (j + 1))).map (pick q.1 q.2 :: ·) := by
      rw [List.drop_eq_getElem_cons hja, List.drop_eq_getElem_cons hjb, eq']
      rfl
    have hcond : evE (evFn fns k) (.and (.cmp .ne (.var 3) (.var 4)) (.cmp .notin (.cst G.ANY) (.tup (.cons (.var 3) (.cons (.var 4) .nil))))) [some (tupS as), some (tupS bs), some (.ref st.objs.length), some (.str q.1), some (.str q.2)] ⟨st.objs ++ [.lst (List.map D.str acc)], st.objs.length⟩ = .ok (.d (.bl (clash q.1 q.2))) ⟨st.objs ++ [.lst (List.map D.str acc)], st.objs.length⟩ :=
      e_and (e_cmp (u := .d (.str q.1)) (v := .d (.str q.2)) (e_var rfl) (e_var rfl) ne_str) fun _ => e_cmp (u := .d (.str star)) (v := .d (.tup [.str q.1, .str q.2])) rfl (e_tup2 (e_var rfl) (e_var rfl)) notin_str2
    cases hc : clash q.1 q.2 with
    | true =>
      right
      rw [hc] at hcond
      refine ⟨_, _, take hcond (s_ret rfl), rfl, ⟨_, rfl⟩, ?_⟩
      rw [e3, unf, hc]
      rfl
    | false =>
      left
      rw [hc] at hcond
      refine ⟨_, _, (skip hcond).trans ((s_append (d := .str (pick q.1 q.2)) rfl ?_ (by rw [List.length_map]; omega) ?_).trans rfl), acc ++ [pick q.1 q.2], _, _, ?_, rfl, ?_, ?_⟩
      · refine e_ite (x := q.1 == star) (e_cmp (u := .d (.str q.1)) (v := .d (.str star)) (e_var rfl) rfl eq_str) ?_
        unfold pick
        cases q.1 == star <;> exact e_var rfl
      · exact lowL_app lowL_strs rfl
      · rw [List.map_append]
        rfl
      · rw [List.length_append, List.length_singleton]
        omega
      · rw [e3, unf, hc]
        show ((jiO (as.drop (j + 1)) (bs.drop (j + 1))).map (pick q.1 q.2 :: ·)).map (acc ++ ·) = _
        rw [Option.map_map]
        congr 1
        funext l
        show acc ++ pick q.1 q.2 :: l = (acc ++ [pick q.1 q.2]) ++ l
        rw [List.append_assoc]
        rfl
end LawX
namespace LawX
open Ev
def coreO (a b : List Wd) : Option (List Wd) := if b.length < a.length - 1 then none else (jiO a.dropLast b).map (· ++ b.drop (a.length - 1))
def isRest (p : List Wd) : Bool := match p.getLast? with
  | some w => w == rest
  | none => false
def jpO (p q : List Wd) : Option (List Wd) :=
  if !isRest p && !isRest q then (if p.length = q.length then jiO p q else none)
  else if !isRest p || (isRest q && decide (q.length < p.length)) then coreO q p else coreO p q
theorem e_bin {call : Nat → List D → M Rv} {env : Env} {st : St} {a b : E} {op : Bop} {u v r : Rv} (ha : evE call a env st = .ok u st) (hb : evE call b env st = .ok v st) (h : binR op st u v = some r) : evE call (.bin op a b) env st = .ok r st := by
  rw [evE]
  show (evE call a env st).bind _ = _
  rw [ha]
  show (evE call b env st).bind _ = _
  rw [hb]
  show ofO (binR op st u v) st = _
  rw [h]
  rfl
theorem e_slc {call : Nat → List D → M Rv} {env : Env} {st : St} {a : E} {lo hi : Eo} {u r : Rv} {l h : Option Rv} {l' h' : Option Int} (ha : evE call a env st = .ok u st) (hl : evO call lo env st = .ok l st) (hh : evO call hi env st = .ok h st) (bl : boundOf l = some l') (bh : boundOf h = some h') (e : slcR st u l' h' = some r) : evE call (.slc a lo hi) env st = .ok r st := by
  rw [evE]
  show (evE call a env st).bind _ = _
  rw [ha]
  show (evO call lo env st).bind _ = _
  rw [hl]
  show (evO call hi env st).bind _ = _
  rw [hh]
  simp only [bind_ok, bl, bh, e]
  rfl
theorem jiO_len : ∀ {as bs l : List Wd}, jiO as bs = some l → l.length ≤ as.length ∧ l.length ≤ bs.length
  | [], bs, l, h => by
    have h : some [] = some l := h
    cases h
    exact ⟨Nat.zero_le _, Nat.zero_le _⟩
  | _ :: _, [], l, h => by
    have h : some [] = some l := h
    cases h
    exact ⟨Nat.zero_le _, Nat.zero_le _⟩
  | a :: as, b :: bs, l, h => by
    have h : (if clash a b then none else (jiO as bs).map (pick a b :: ·)) = some l := h
    split at h
    · cases h
    · obtain ⟨r, e1, e2⟩ := Option.map_eq_some_iff.mp h
      subst e2
      have := jiO_len e1
      simp only [List.length_cons]
      omega
section
variable {p q : List Wd} {k : Nat} {st : St}
/-- x[-1] != REST -/
theorem last_ne {call : Nat → List D → M Rv} {env : Env} {i : Nat} (hv : getV env i = some (tupS p)) (hp : p ≠ []) (hl : p.length ≤ 100) : evE call (.cmp .ne (.sub (.var i) (.neg (.cst (.int 1)))) (.cst G.REST)) env st = .ok (.d (.bl (!isRest p))) st := by
  obtain ⟨w, hw⟩ : ∃ w, p.getLast? = some w := ⟨_, List.getLast?_eq_some_getLast hp⟩
  have e : isRest p = (w == rest) := by unfold isRest; rw [hw]
  rw [e]
  refine e_cmp (u := .d (.str w)) (v := .d (.str rest)) (e_sub (v := .d (.int (-1))) (e_var hv) rfl ?_) rfl ne_str
  rw [sub_last (by rw [List.length_map]; omega), List.getLast?_map, hw]
  rfl
theorem last_eq {call : Nat → List D → M Rv} {env : Env} {i : Nat} (hv : getV env i = some (tupS p)) (hp : p ≠ []) (hl : p.length ≤ 100) : evE call (.cmp .eq (.sub (.var i) (.neg (.cst (.int 1)))) (.cst G.REST)) env st = .ok (.d (.bl (isRest p))) st := by
  obtain ⟨w, hw⟩ : ∃ w, p.getLast? = some w := ⟨_, List.getLast?_eq_some_getLast hp⟩
  have e : isRest p = (w == rest) := by unfold isRest; rw [hw]
  rw [e]
  refine e_cmp (u := .d (.str w)) (v := .d (.str rest)) (e_sub (v := .d (.int (-1))) (e_var hv) rfl ?_) rfl eq_str
  rw [sub_last (by rw [List.length_map]; omega), List.getLast?_map, hw]
  rfl
theorem e_len {call : Nat → List D → M Rv} {env : Env} {i : Nat} (hv : getV env i = some (tupS p)) (hl : p.length ≤ 100) : evE call (.blt .len (.cons (.var i) .nil)) env st = .ok (.d (.int p.length)) st := by
  refine e_blt1 (e_var hv) ?_
  rw [len_tup (by rw [List.length_map]; omega), List.length_map]
/-- both tests at the entry -/
theorem jp_conds (hp : p ≠ []) (hpl : p.length ≤ 100) (hq : q ≠ []) (hql : q.length ≤ 100) {n : Nat} {o1 o2 : Option D} : evE (evFn fns n) (.and (.cmp .ne (.sub (.var 0) (.neg (.cst (.int 1)))) (.cst G.REST)) (.cmp .ne (.sub (.var 1) (.neg (.cst (.int 1)))) (.cst G.REST))) [some (tupS p), some (tupS q), o1, o2] st = .ok (.d (.bl (!isRest p && !isRest q))) st ∧
    evE (evFn fns n) (.or (.cmp .ne (.sub (.var 0) (.neg (.cst (.int 1)))) (.cst G.REST)) (.and (.cmp .eq (.sub (.var 1) (.neg (.cst (.int 1)))) (.cst G.REST)) (.cmp .gt (.blt .len (.cons (.var 0) .nil)) (.blt .len (.cons (.var 1) .nil))))) [some (tupS p), some (tupS q), o1, o2] st = .ok (.d (.bl (!isRest p || (isRest q && decide (q.length < p.length))))) st := by
  refine ⟨e_and (last_ne rfl hp hpl) fun _ => last_ne rfl hq hql, e_or (last_ne rfl hp hpl) fun _ => e_and (last_eq rfl hq hql) fun _ => ?_⟩
  refine e_cmp (e_len rfl hpl) (e_len rfl hql) ?_
  show some (decide ((q.length : Int) < (p.length : Int))) = _
  congr 1
  exact decide_eq_decide.mpr (by omega)
theorem optT_low {o : Option (List Wd)} {b : Nat} : (optT o).low b = true := by
  cases o with
  | none => rfl
  | some l => exact lowL_strs (l := l)
theorem optT_ref {o : Option (List Wd)} (i : Nat) : optT o ≠ .ref i := by cases o <;> nofun
theorem m_jp_core (hp : p ≠ []) (hpl : p.length ≤ 100) (hq : q ≠ []) (hql : q.length ≤ 100) (h1 : (!isRest p && !isRest q) = false) (h2 : (!isRest p || (isRest q && decide (q.length < p.length))) = false) : evFn fns (k + 2) F.joint_pattern [tupS p, tupS q] st = .ok (.d (optT (coreO p q))) st := by
  obtain ⟨c1, c2⟩ := jp_conds (st := ⟨st.objs, st.objs.length⟩) hp hpl hq hql (n := k + 1) (o1 := none) (o2 := none)
  rw [h1] at c1
  rw [h2] at c2
  have hdl : p.dropLast.length = p.length - 1 := List.length_dropLast
  have ha : evSs (evFn fns (k + 1)) C.joint_pattern ([tupS p, tupS q].map some ++ List.replicate (4 - 2) none) ⟨st.objs, st.objs.length⟩ = evSs (evFn fns (k + 1)) (.cons (.if_ (.cmp .lt (.blt .len (.cons (.var 1) .nil)) (.blt .len (.cons (.var 2) .nil))) (.cons (.ret (.cst .non)) .nil) .nil) (.cons (.asg (.tg (.var 3)) (.call F.joint_items (.cons (.var 2) (.cons (.var 1) .nil)))) (.cons (.ret (.ite (.isn false (.var 3)) (.cst .non) (.bin .add (.blt .tuple (.cons (.var 3) .nil)) (.slc (.var 1) (.yes (.blt .len (.cons (.var 2) .nil))) .no)))) .nil))) [some (tupS p), some (tupS q), some (tupS p.dropLast), none] ⟨st.objs, st.objs.length⟩ := by
    refine (skip c1).trans ((skip c2).trans ((s_set (v := .d (tupS p.dropLast)) (d := tupS p.dropLast) (st1 := ⟨st.objs, st.objs.length⟩) (st2 := ⟨st.objs, st.objs.length⟩) ?_ rfl).trans rfl))
    refine e_slc (u := .d (tupS p)) (l := none) (h := some (.d (.int (-1)))) (e_var rfl) rfl rfl rfl rfl ?_
    rw [slc_init (by rw [List.length_map]; omega), ← List.map_dropLast]
  have c3 : ∀ {o3}, evE (evFn fns (k + 1)) (.cmp .lt (.blt .len (.cons (.var 1) .nil)) (.blt .len (.cons (.var 2) .nil))) [some (tupS p), some (tupS q), some (tupS p.dropLast), o3] ⟨st.objs, st.objs.length⟩ = .ok (.d (.bl (decide (q.length < p.length - 1)))) ⟨st.objs, st.objs.length⟩ := fun {o3} => by
    refine e_cmp (e_len rfl hql) (e_len (p := p.dropLast) rfl (by rw [hdl]; omega)) ?_
    show some (decide ((q.length : Int) < (p.dropLast.length : Int))) = _
    congr 1
    exact decide_eq_decide.mpr (by omega)
  by_cases hc : q.length < p.length - 1
  · rw [decide_eq_true hc] at c3
    have e : coreO p q = none := if_pos hc
    rw [e]
    exact fn_ret0 (fn := ⟨2, 4, C.joint_pattern⟩) rfl rfl (ha.trans (take c3 (s_ret rfl))) rfl nofun
  · rw [decide_eq_false hc] at c3
    have e : coreO p q = (jiO p.dropLast q).map (· ++ q.drop (p.length - 1)) := if_neg hc
    rw [e]
    have hji : evE (evFn fns (k + 1)) (.call F.joint_items (.cons (.var 2) (.cons (.var 1) .nil))) [some (tupS p), some (tupS q), some (tupS p.dropLast), none] ⟨st.objs, st.objs.length⟩ = _ := e_call2 (e_var rfl) (e_var rfl) (m_joint_items (as := p.dropLast) (bs := q) (k := k) (by omega))
    cases hj : jiO p.dropLast q with
    | none =>
      rw [hj] at hji
      exact fn_ret0 (fn := ⟨2, 4, C.joint_pattern⟩) rfl rfl (ha.trans ((skip c3).trans ((s_set hji rfl).trans (s_ret (e_ite (x := true) rfl rfl))))) rfl nofun
    | some l =>
      rw [hj] at hji
      refine fn_ret (fn := ⟨2, 4, C.joint_pattern⟩) (new := [.lst (l.map D.str)]) rfl rfl (ha.trans ((skip c3).trans ((s_set hji rfl).trans (s_ret (e_ite (x := false) rfl ?_))))) optT_low optT_ref
      have hl := jiO_len hj
      refine e_bin (u := .d (.tup (l.map D.str))) (v := .d (.tup ((q.drop (p.length - 1)).map D.str))) (e_blt1 (v := .d (.ref st.objs.length)) (e_var rfl) (tuple_new (by rw [List.length_map]; omega))) ?_ ?_
      · refine e_slc (u := .d (tupS q)) (l := some (.d (.int ((p.length - 1 : Nat))))) (l' := some ((p.length - 1 : Nat) : Int)) (h := none) (e_var rfl) ?_ rfl (bound_int (by omega) (by omega)) rfl ?_
        · show (evE _ _ _ _).bind _ = _
          rw [e_len (p := p.dropLast) rfl (by rw [hdl]; omega), hdl]
          rfl
        · rw [slc_from (by rw [List.length_map]; omega), List.map_drop]
      · rw [add_tup (by simp only [List.length_map, List.length_drop]; omega)]
        show _ = some (Rv.d (tupS (l ++ q.drop (p.length - 1))))
        rw [← List.map_append]
theorem m_joint_pattern (hp : p ≠ []) (hpl : p.length ≤ 100) (hq : q ≠ []) (hql : q.length ≤ 100) : evFn fns (k + 3) F.joint_pattern [tupS p, tupS q] st = .ok (.d (optT (jpO p q))) st := by
  obtain ⟨c1, c2⟩ := jp_conds (st := ⟨st.objs, st.objs.length⟩) hp hpl hq hql (n := k + 2) (o1 := none) (o2 := none)
  cases h1 : (!isRest p && !isRest q) with
  | true =>
    rw [h1] at c1
    have e : jpO p q = if p.length = q.length then jiO p q else none := if_pos h1
    rw [e]
    have hlen : ∀ {st : St}, evE (evFn fns (k + 2)) (.cmp .eq (.blt .len (.cons (.var 0) .nil)) (.blt .len (.cons (.var 1) .nil))) [some (tupS p), some (tupS q), none, none] st = .ok (.d (.bl (decide (p.length = q.length)))) st := fun {st} => by
      refine e_cmp (e_len rfl hpl) (e_len rfl hql) ?_
      show some (decide ((p.length : Int) = (q.length : Int))) = _
      congr 1
      exact decide_eq_decide.mpr (by omega)
    by_cases hc : p.length = q.length
    · rw [if_pos hc]
      have hv : evE (evFn fns (k + 2)) (.ite (.cmp .eq (.blt .len (.cons (.var 0) .nil)) (.blt .len (.cons (.var 1) .nil))) (.call F.joint_items (.cons (.var 0) (.cons (.var 1) .nil))) (.cst .non)) [some (tupS p), some (tupS q), none, none] ⟨st.objs, st.objs.length⟩ = _ :=
        e_ite (x := true) (by rw [hlen, decide_eq_true hc]) (e_call2 (e_var rfl) (e_var rfl) (m_joint_items (as := p) (bs := q) (k := k + 1) (by omega)))
      cases hj : jiO p q with
      | none =>
        rw [hj] at hv
        exact fn_ret0 (fn := ⟨2, 4, C.joint_pattern⟩) rfl rfl (take c1 ((s_set hv rfl).trans (s_ret (e_ite (x := true) rfl rfl)))) rfl nofun
      | some l =>
        rw [hj] at hv
        have hl := jiO_len hj
        exact fn_ret (fn := ⟨2, 4, C.joint_pattern⟩) (new := [.lst (l.map D.str)]) rfl rfl (take c1 ((s_set hv rfl).trans (s_ret (e_ite (x := false) rfl (e_blt1 (v := .d (.ref st.objs.length)) (e_var rfl) (tuple_new (by rw [List.length_map]; omega))))))) optT_low optT_ref
    · rw [if_neg hc]
      have hv : evE (evFn fns (k + 2)) (.ite (.cmp .eq (.blt .len (.cons (.var 0) .nil)) (.blt .len (.cons (.var 1) .nil))) (.call F.joint_items (.cons (.var 0) (.cons (.var 1) .nil))) (.cst .non)) [some (tupS p), some (tupS q), none, none] ⟨st.objs, st.objs.length⟩ = .ok (.d .non) ⟨st.objs, st.objs.length⟩ :=
        e_ite (x := false) (by rw [hlen, decide_eq_false hc]) rfl
      exact fn_ret0 (fn := ⟨2, 4, C.joint_pattern⟩) rfl rfl (take c1 ((s_set hv rfl).trans (s_ret (e_ite (x := true) rfl rfl)))) rfl nofun
  | false =>
    cases h2 : (!isRest p || (isRest q && decide (q.length < p.length))) with
    | false =>
      have e : jpO p q = coreO p q := by
        unfold jpO
        rw [h1, h2]
        rfl
      rw [e]
      exact m_jp_core (k := k + 1) hp hpl hq hql h1 h2
    | true =>
      rw [h1] at c1
      rw [h2] at c2
      have e : jpO p q = coreO q p := by
        unfold jpO
        rw [h1, h2]
        rfl
      rw [e]
      refine fn_ret0 (fn := ⟨2, 4, C.joint_pattern⟩) rfl rfl ((skip c1).trans (take c2 (s_ret (e_call2 (e_var rfl) (e_var rfl) (m_jp_core (k := k) hq hql hp hpl ?_ ?_))))) optT_low optT_ref
      · rw [Bool.and_comm]
        exact h1
      · cases hqr : isRest q with
        | false =>
          rw [hqr] at h1 h2
          cases hpr : isRest p with
          | false => rw [hpr] at h1; cases h1
          | true => rw [hpr] at h2; cases h2
        | true =>
          cases hpr : isRest p with
          | false => rfl
          | true =>
            rw [hqr, hpr] at h2
            have : q.length < p.length := of_decide_eq_true h2
            show (true && decide (p.length < q.length)) = false
            rw [decide_eq_false (by omega)]
            rfl
/-! ### joint, meet -/
def jO (a : Wd) (p : List Wd) (b : Wd) (q : List Wd) : Option (Wd × List Wd) := if clash a b then none else (jpO p q).map fun r => (pick a b, r)
def optR : Option (Wd × List Wd) → D
  | none => .non
  | some z => rt z.1 z.2
theorem optR_low {o : Option (Wd × List Wd)} {b : Nat} : (optR o).low b = true := by
  cases o with
  | none => rfl
  | some z =>
    show (true && (D.lowL b (z.2.map D.str) && true)) = true
    rw [lowL_strs]
    rfl
theorem optR_ref {o : Option (Wd × List Wd)} (i : Nat) : optR o ≠ .ref i := by cases o <;> nofun
theorem m_joint {a b : Wd} (hp : p ≠ []) (hpl : p.length ≤ 100) (hq : q ≠ []) (hql : q.length ≤ 100) : evFn fns (k + 4) F.joint [rt a p, rt b q] st = .ok (.d (optR (jO a p b q))) st := by
  have h0 : ∀ {st : St} {o : Option D}, evE (evFn fns (k + 3)) (.sub (.var 0) (.cst (.int 0))) [some (rt a p), some (rt b q), o] st = .ok (.d (.str a)) st := fun {st o} => e_sub (e_var rfl) rfl rfl
  have h1 : ∀ {st : St} {o : Option D}, evE (evFn fns (k + 3)) (.sub (.var 1) (.cst (.int 0))) [some (rt a p), some (rt b q), o] st = .ok (.d (.str b)) st := fun {st o} => e_sub (e_var rfl) rfl rfl
  have hc : ∀ {st : St}, evE (evFn fns (k + 3)) (.and (.cmp .ne (.sub (.var 0) (.cst (.int 0))) (.sub (.var 1) (.cst (.int 0)))) (.cmp .notin (.cst G.ANY) (.tup (.cons (.sub (.var 0) (.cst (.int 0))) (.cons (.sub (.var 1) (.cst (.int 0))) .nil))))) [some (rt a p), some (rt b q), none] st = .ok (.d (.bl (clash a b))) st :=
    fun {st} => e_and (e_cmp (u := .d (.str a)) (v := .d (.str b)) h0 h1 ne_str) fun _ => e_cmp (u := .d (.str star)) (v := .d (.tup [.str a, .str b])) rfl (e_tup2 h0 h1) notin_str2
  unfold jO
  cases hcl : clash a b with
  | true => exact fn_ret0 (fn := ⟨2, 3, C.joint⟩) rfl rfl (take (by rw [← hcl]; exact hc) (s_ret rfl)) rfl nofun
  | false =>
    rw [if_neg Bool.false_ne_true]
    have hjp : evE (evFn fns (k + 3)) (.call F.joint_pattern (.cons (.sub (.var 0) (.cst (.int 1))) (.cons (.sub (.var 1) (.cst (.int 1))) .nil))) [some (rt a p), some (rt b q), none] ⟨st.objs, st.objs.length⟩ = _ := e_call2 (e_sub (e_var rfl) rfl rfl) (e_sub (e_var rfl) rfl rfl) (m_joint_pattern (p := p) (q := q) (k := k) hp hpl hq hql)
    refine fn_ret0 (fn := ⟨2, 3, C.joint⟩) rfl rfl ((skip (by rw [← hcl]; exact hc)).trans ((s_set hjp rfl).trans (s_ret ?_))) optR_low optR_ref
    cases hj : jpO p q with
    | none => exact e_ite (x := true) rfl rfl
    | some r =>
      refine e_ite (x := false) rfl (e_tup2 (d := .str (pick a b)) (e_ite (x := a == star) (e_cmp (u := .d (.str a)) (v := .d (.str star)) h0 rfl eq_str) ?_) (e_var rfl))
      unfold pick
      cases a == star with
      | true => exact h1
      | false => exact h0
theorem m_meet {a b : Wd} (h : RightOk a p) (h' : RightOk b q) : evFn fns (k + 5) F.meet [rt a p, rt b q] st = .ok (.d (optR (jO a p b q))) st := by
  have hv0 : ∀ {st : St}, evE (evFn fns (k + 4)) (.var 0) ([rt a p, rt b q].map some ++ List.replicate (2 - 2) none) st = .ok (.d (rt a p)) st := e_var rfl
  have hv1 : ∀ {st : St}, evE (evFn fns (k + 4)) (.var 1) ([rt a p, rt b q].map some ++ List.replicate (2 - 2) none) st = .ok (.d (rt b q)) st := e_var rfl
  exact fn_ret0 (fn := ⟨2, 2, C.meet⟩) rfl rfl ((s_expr (e_call1 hv0 (m_check_right h))).trans ((s_expr (e_call1 hv1 (m_check_right h'))).trans (s_ret (e_call2 hv0 hv1 (m_joint h.pat.ne (Nat.le_trans h.pat.len (by decide)) h'.pat.ne (Nat.le_trans h'.pat.len (by decide))))))) optR_low optR_ref
end
end LawX
namespace LawX
/-! ### plain: expansions -/
def za (a b : List Wd) : Bool := (a.zip b).all fun q => okI q.1 q.2
theorem za_cons {x y : Wd} {a b : List Wd} : za (x :: a) (y :: b) = (okI x y && za a b) := rfl
theorem za_nil {b : List Wd} : za [] b = true := rfl
theorem matchB_eq {p path : List Wd} : matchB p path = (match itemsOf p path.length with | none => false | some its => za its path) := rfl
theorem okI_pick {a b n : Wd} (h : clash a b = false) : okI (pick a b) n = (okI a n && okI b n) := by
  unfold clash at h
  unfold pick okI
  by_cases ha : a = star
  · subst ha; simp
  · have ha' : (a == star) = false := beq_false_of_ne ha
    rw [ha']
    simp only [Bool.false_eq_true, if_false]
    by_cases hab : a = b
    · subst hab; rw [Bool.and_self]
    · have hab' : (a == b) = false := beq_false_of_ne hab
      rw [ha', hab'] at h
      by_cases hb : b = star
      · subst hb; simp
      · rw [beq_false_of_ne hb] at h; cases h
theorem okI_clash {a b n : Wd} (h : clash a b = true) : (okI a n && okI b n) = false := by
  unfold clash at h
  rw [Bool.and_eq_true] at h
  obtain ⟨h1, h2⟩ := h
  have hab : a ≠ b := fun e => by subst e; simp at h1
  have ha : a ≠ star := fun e => by subst e; simp at h2
  have hb : b ≠ star := fun e => by subst e; simp at h2
  unfold okI
  rw [beq_false_of_ne (Ne.symm ha), beq_false_of_ne (Ne.symm hb), Bool.false_or, Bool.false_or]
  by_cases h : n = a
  · subst h
    rw [beq_false_of_ne hab, Bool.and_false]
  · rw [beq_false_of_ne h, Bool.false_and]
theorem za_ji : ∀ {a b path : List Wd}, a.length = path.length → b.length = path.length → (match jiO a b with | none => false | some l => za l path) = (za a path && za b path)
  | [], [], [], _, _ => rfl
  | [], [], _ :: _, h, _ => by cases h
  | [], _ :: _, [], _, h => by cases h
  | [], _ :: _, _ :: _, h, _ => by cases h
  | _ :: _, [], [], h, _ => by cases h
  | _ :: _, [], _ :: _, _, h => by cases h
  | _ :: _, _ :: _, [], h, _ => by cases h
  | x :: a, y :: b, n :: path, h, h' => by
    have ih := za_ji (a := a) (b := b) (path := path) (by simpa using h) (by simpa using h')
    have e : jiO (x :: a) (y :: b) = if clash x y then none else (jiO a b).map (pick x y :: ·) := rfl
    rw [e, za_cons, za_cons]
    cases hc : clash x y with
    | true =>
      have := okI_clash (n := n) hc
      rw [if_pos rfl]
      show false = _
      cases h1 : okI x n <;> cases h2 : okI y n <;> rw [h1, h2] at this <;> simp at this ⊢
    | false =>
      rw [if_neg Bool.false_ne_true]
      have hp := okI_pick (n := n) hc
      cases hj : jiO a b with
      | none =>
        rw [hj] at ih
        show false = _
        have ih : false = (za a path && za b path) := ih
        cases h1 : za a path <;> cases h2 : za b path <;> rw [h1, h2] at ih <;> simp at ih ⊢
      | some l =>
        rw [hj] at ih
        have ih : za l path = (za a path && za b path) := ih
        show za (pick x y :: l) (n :: path) = _
        rw [za_cons, hp, ih]
        cases okI x n <;> cases okI y n <;> cases za a path <;> cases za b path <;> rfl
theorem clash_comm {a b : Wd} : clash a b = clash b a := by
  unfold clash
  rw [Bool.or_comm]
  congr 2
  exact Bool.eq_iff_iff.mpr ⟨fun h => by rw [eq_of_beq h]; exact beq_self_eq_true _, fun h => by rw [eq_of_beq h]; exact beq_self_eq_true _⟩
theorem pick_comm {a b : Wd} (h : clash a b = false) : pick a b = pick b a := by
  unfold clash at h
  unfold pick
  by_cases ha : a = star
  · subst ha
    by_cases hb : b = star
    · subst hb; rfl
    · rw [beq_false_of_ne hb]; rfl
  · rw [beq_false_of_ne ha] at h ⊢
    by_cases hb : b = star
    · subst hb; rfl
    · rw [beq_false_of_ne hb] at h ⊢
      by_cases hab : a = b
      · subst hab; rfl
      · rw [beq_false_of_ne hab] at h; cases h
theorem jiO_comm : ∀ {a b : List Wd}, jiO a b = jiO b a
  | [], [] => rfl
  | [], _ :: _ => rfl
  | _ :: _, [] => rfl
  | x :: a, y :: b => by
    have e1 : jiO (x :: a) (y :: b) = if clash x y then none else (jiO a b).map (pick x y :: ·) := rfl
    have e2 : jiO (y :: b) (x :: a) = if clash y x then none else (jiO b a).map (pick y x :: ·) := rfl
    rw [e1, e2, jiO_comm (a := a) (b := b), clash_comm]
    cases hc : clash y x with
    | true => rfl
    | false => rw [pick_comm (by rw [clash_comm]; exact hc)]
theorem jiO_stars : ∀ {b : List Wd}, jiO (List.replicate b.length star) b = some b
  | [] => rfl
  | y :: b => by
    have e : jiO (List.replicate (y :: b).length star) (y :: b) = if clash star y then none else (jiO (List.replicate b.length star) b).map (pick star y :: ·) := rfl
    rw [e, jiO_stars]
    have : clash star y = false := by
      unfold clash
      rw [beq_self_eq_true, Bool.true_or, Bool.not_true, Bool.and_false]
    rw [this]
    rfl
theorem jiO_app : ∀ {a a' b b' : List Wd}, a.length = b.length → jiO (a ++ a') (b ++ b') = (jiO a b).bind fun l => (jiO a' b').map (l ++ ·)
  | [], a', [], b', _ => by
    show jiO a' b' = (some []).bind fun l => (jiO a' b').map (l ++ ·)
    show jiO a' b' = (jiO a' b').map ([] ++ ·)
    cases jiO a' b' <;> rfl
  | [], _, _ :: _, _, h => by cases h
  | _ :: _, _, [], _, h => by cases h
  | x :: a, a', y :: b, b', h => by
    have e : jiO (x :: a ++ a') (y :: b ++ b') = if clash x y then none else (jiO (a ++ a') (b ++ b')).map (pick x y :: ·) := rfl
    have e2 : jiO (x :: a) (y :: b) = if clash x y then none else (jiO a b).map (pick x y :: ·) := rfl
    rw [e, e2, jiO_app (by simpa using h)]
    cases clash x y with
    | true => rfl
    | false =>
      cases jiO a b with
      | none => rfl
      | some l => cases jiO a' b' <;> rfl
theorem jiO_full : ∀ {a b l : List Wd}, a.length = b.length → jiO a b = some l → l.length = a.length
  | [], [], l, _, h => by
    have h : some [] = some l := h
    cases h; rfl
  | [], _ :: _, _, h, _ => by cases h
  | _ :: _, [], _, h, _ => by cases h
  | x :: a, y :: b, l, hl, h => by
    have h : (if clash x y then none else (jiO a b).map (pick x y :: ·)) = some l := h
    split at h
    · cases h
    · obtain ⟨r, e1, e2⟩ := Option.map_eq_some_iff.mp h
      subst e2
      rw [List.length_cons, List.length_cons, jiO_full (by simpa using hl) e1]
theorem jiO_take : ∀ {a b : List Wd}, a.length ≤ b.length → jiO a b = jiO a (b.take a.length)
  | [], b, _ => by cases b <;> rfl
  | _ :: _, [], h => by simp at h
  | x :: a, y :: b, h => by
    have e : jiO (x :: a) (y :: b) = if clash x y then none else (jiO a b).map (pick x y :: ·) := rfl
    have e2 : jiO (x :: a) ((y :: b).take (x :: a).length) = if clash x y then none else (jiO a (b.take a.length)).map (pick x y :: ·) := rfl
    rw [e, e2, jiO_take (by simpa using h)]
/-- every item of the joint is an item of one side -/
theorem jiO_mem : ∀ {a b l : List Wd} {w : Wd}, jiO a b = some l → w ∈ l → w ∈ a ∨ w ∈ b
  | [], b, l, w, h, hw => by
    have h : some [] = some l := by cases b <;> exact h
    cases h; cases hw
  | _ :: _, [], l, w, h, hw => by
    have h : some [] = some l := h
    cases h; cases hw
  | x :: a, y :: b, l, w, h, hw => by
    have h : (if clash x y then none else (jiO a b).map (pick x y :: ·)) = some l := h
    split at h
    · cases h
    · obtain ⟨r, e1, e2⟩ := Option.map_eq_some_iff.mp h
      subst e2
      rcases List.mem_cons.mp hw with e | hw
      · subst e
        unfold pick
        split
        · exact .inr List.mem_cons_self
        · exact .inl List.mem_cons_self
      · rcases jiO_mem e1 hw with z | z
        · exact .inl (List.mem_cons_of_mem _ z)
        · exact .inr (List.mem_cons_of_mem _ z)
/-! ### patterns -/
structure Pt (p : List Wd) : Prop where
  ne : p ≠ []
  len : p.length ≤ 4
  first : ∀ w ∈ p.dropLast, w ≠ rest
theorem items_rest {p : List Wd} {n : Nat} (h : isRest p = true) : itemsOf p n = if p.length - 1 ≤ n then some (p.dropLast ++ List.replicate (n - (p.length - 1)) star) else none := by
  unfold itemsOf
  have : p.getLast? = some rest := by
    unfold isRest at h
    split at h
    · rename_i w e
      rw [e, eq_of_beq h]
    · cases h
  rw [if_neg (by simp [this])]
theorem items_plain {p : List Wd} {n : Nat} (h : isRest p = false) : itemsOf p n = if p.length = n then some p else none := by
  unfold itemsOf
  rw [if_pos]
  intro e
  unfold isRest at h
  rw [e] at h
  simp at h
theorem split_last {p : List Wd} (h : p ≠ []) : ∃ w, p = p.dropLast ++ [w] ∧ p.getLast? = some w := ⟨_, (List.dropLast_concat_getLast h).symm, List.getLast?_eq_some_getLast h⟩
theorem isRest_app {a : List Wd} {w : Wd} : isRest (a ++ [w]) = (w == rest) := by
  unfold isRest
  rw [List.getLast?_append]
  rfl
def both (a b : Option (List Wd)) : Option (List Wd) := a.bind fun x => b.bind fun y => jiO x y
theorem both_comm {a b : Option (List Wd)} : both a b = both b a := by
  cases a with
  | none => cases b <;> rfl
  | some x => cases b with
    | none => rfl
    | some y => exact jiO_comm
/-- the joint pattern's expansion is the joint of both expansions -/
def Joins (p q : List Wd) (o : Option (List Wd)) : Prop := (∀ n, (o.bind fun r => itemsOf r n) = both (itemsOf p n) (itemsOf q n)) ∧ ∀ r, o = some r → Pt r ∧ ∀ w ∈ r, w ∈ p ∨ w ∈ q
theorem Joins.comm {p q : List Wd} {o : Option (List Wd)} (h : Joins p q o) : Joins q p o := ⟨fun n => by rw [h.1 n, both_comm], fun r e => ⟨(h.2 r e).1, fun w hw => ((h.2 r e).2 w hw).symm⟩⟩
theorem getLast_mem_dropLast {a : List Wd} {w : Wd} {p : List Wd} (e : p = a ++ [w]) : p.dropLast = a := by rw [e, List.dropLast_concat]
theorem joins_core {p q : List Wd} (hp : Pt p) (hq : Pt q) (hr : isRest p = true) (hc : isRest q = true → p.length ≤ q.length) : Joins p q (coreO p q) := by
  have hp1 : 1 ≤ p.length := List.length_pos_iff.mpr hp.ne
  have hq1 : 1 ≤ q.length := List.length_pos_iff.mpr hq.ne
  have hdl : p.dropLast.length = p.length - 1 := List.length_dropLast
  unfold coreO
  by_cases hlt : q.length < p.length - 1
  · rw [if_pos hlt]
    refine ⟨fun n => ?_, fun r e => by cases e⟩
    have hqr : isRest q = false := by
      cases z : isRest q with
      | false => rfl
      | true => have := hc z; omega
    show none = _
    rw [items_rest hr, items_plain hqr]
    by_cases h1 : p.length - 1 ≤ n
    · rw [if_pos h1, if_neg (by omega)]; rfl
    · rw [if_neg h1]; rfl
  · rw [if_neg hlt]
    have hq' : q = q.take (p.length - 1) ++ q.drop (p.length - 1) := (List.take_append_drop _ _).symm
    have htl : (q.take (p.length - 1)).length = p.length - 1 := by rw [List.length_take]; omega
    have hjt : jiO p.dropLast q = jiO p.dropLast (q.take (p.length - 1)) := by
      rw [jiO_take (by omega), hdl]
    rw [hjt]
    cases hqr : isRest q with
    | false =>
      -- q stands for paths of its own length
      have eq : ∀ n, both (itemsOf p n) (itemsOf q n) = if q.length = n then (jiO p.dropLast (q.take (p.length - 1))).map (· ++ q.drop (p.length - 1)) else none := fun n => by
        rw [items_rest hr, items_plain hqr]
        by_cases hn : q.length = n
        · subst hn
          rw [if_pos (by omega), if_pos rfl, if_pos rfl]
          show jiO (p.dropLast ++ List.replicate (q.length - (p.length - 1)) star) q = _
          have : jiO (p.dropLast ++ List.replicate (q.length - (p.length - 1)) star) q = jiO (p.dropLast ++ List.replicate (q.length - (p.length - 1)) star) (q.take (p.length - 1) ++ q.drop (p.length - 1)) := by rw [← hq']
          rw [this, jiO_app (by omega)]
          have hst : jiO (List.replicate (q.length - (p.length - 1)) star) (q.drop (p.length - 1)) = some (q.drop (p.length - 1)) := by
            have := jiO_stars (b := q.drop (p.length - 1))
            rwa [List.length_drop] at this
          rw [hst]
          cases jiO p.dropLast (q.take (p.length - 1)) <;> rfl
        · rw [if_neg hn, if_neg hn]
          split <;> rfl
      cases hj : jiO p.dropLast (q.take (p.length - 1)) with
      | none =>
        refine ⟨fun n => ?_, fun r e => by cases e⟩
        rw [eq n, hj]
        show none = _
        split <;> rfl
      | some l =>
        have hl : l.length = p.length - 1 := by rw [jiO_full (by omega) hj, hdl]
        have hrl : (l ++ q.drop (p.length - 1)).length = q.length := by rw [List.length_append, List.length_drop]; omega
        have hmem : ∀ w ∈ l ++ q.drop (p.length - 1), w ∈ p.dropLast ∨ w ∈ q := fun w hw => by
          rcases List.mem_append.mp hw with z | z
          · rcases jiO_mem hj z with z | z
            · exact .inl z
            · exact .inr (List.mem_of_mem_take z)
          · exact .inr (List.mem_of_mem_drop z)
        have hnr : ∀ w ∈ l ++ q.drop (p.length - 1), w ≠ rest := fun w hw => by
          rcases hmem w hw with z | z
          · exact hp.first w z
          · intro e
            subst e
            obtain ⟨u, eu, hu⟩ := split_last hq.ne
            rw [eu] at z
            rcases List.mem_append.mp z with z | z
            · exact hq.first _ z rfl
            · have : rest = u := by simpa using z
              unfold isRest at hqr
              rw [hu, ← this] at hqr
              simp at hqr
        have hrr : isRest (l ++ q.drop (p.length - 1)) = false := by
          unfold isRest
          split
          · rename_i w e
            exact beq_false_of_ne (hnr w (List.mem_of_getLast? e))
          · rfl
        refine ⟨fun n => ?_, fun r e => ?_⟩
        · rw [eq n, hj]
          show itemsOf (l ++ q.drop (p.length - 1)) n = _
          rw [items_plain hrr, hrl]
          rfl
        · cases e
          refine ⟨⟨fun z => ?_, by rw [hrl]; exact hq.len, fun w hw => hnr w ((List.dropLast_sublist _).subset hw)⟩, fun w hw => ?_⟩
          · have z : l ++ q.drop (p.length - 1) = [] := z
            rw [z] at hrl; simp at hrl; omega
          · rcases hmem w hw with z | z
            · exact .inl ((List.dropLast_sublist _).subset z)
            · exact .inr z
    | true =>
      have hle := hc hqr
      obtain ⟨u, eu, hu⟩ := split_last hq.ne
      have hur : u = rest := by
        unfold isRest at hqr
        rw [hu] at hqr
        exact eq_of_beq hqr
      subst hur
      have hqd : q.dropLast.length = q.length - 1 := List.length_dropLast
      have htk : q.take (p.length - 1) = q.dropLast.take (p.length - 1) := by
        rw [List.dropLast_eq_take, List.take_take, Nat.min_eq_left (by omega)]
      have hdr : q.drop (p.length - 1) = q.dropLast.drop (p.length - 1) ++ [rest] := by
        conv => lhs; rw [eu]
        rw [List.drop_append_of_le_length (by omega)]
      have eq : ∀ n, both (itemsOf p n) (itemsOf q n) = if q.length - 1 ≤ n then (jiO p.dropLast (q.take (p.length - 1))).map (fun l => (l ++ q.dropLast.drop (p.length - 1)) ++ List.replicate (n - (q.length - 1)) star) else none := fun n => by
        rw [items_rest hr, items_rest hqr]
        by_cases hn : q.length - 1 ≤ n
        · rw [if_pos (by omega), if_pos hn, if_pos hn]
          show jiO (p.dropLast ++ List.replicate (n - (p.length - 1)) star) (q.dropLast ++ List.replicate (n - (q.length - 1)) star) = _
          have e1 : q.dropLast ++ List.replicate (n - (q.length - 1)) star = q.take (p.length - 1) ++ (q.dropLast.drop (p.length - 1) ++ List.replicate (n - (q.length - 1)) star) := by
            rw [htk, ← List.append_assoc, List.take_append_drop]
          rw [e1, jiO_app (by omega)]
          have hst : jiO (List.replicate (n - (p.length - 1)) star) (q.dropLast.drop (p.length - 1) ++ List.replicate (n - (q.length - 1)) star) = some (q.dropLast.drop (p.length - 1) ++ List.replicate (n - (q.length - 1)) star) := by
            have := jiO_stars (b := q.dropLast.drop (p.length - 1) ++ List.replicate (n - (q.length - 1)) star)
            rw [List.length_append, List.length_drop, List.length_replicate, hqd] at this
            have e2 : q.length - 1 - (p.length - 1) + (n - (q.length - 1)) = n - (p.length - 1) := by omega
            rwa [e2] at this
          rw [hst]
          cases jiO p.dropLast (q.take (p.length - 1)) with
          | none => rfl
          | some l =>
            show some (l ++ (q.dropLast.drop (p.length - 1) ++ List.replicate (n - (q.length - 1)) star)) = some _
            exact congrArg some (List.append_assoc ..).symm
        · rw [if_neg hn, if_neg hn]
          split <;> rfl
      cases hj : jiO p.dropLast (q.take (p.length - 1)) with
      | none =>
        refine ⟨fun n => ?_, fun r e => by cases e⟩
        rw [eq n, hj]
        show none = _
        split <;> rfl
      | some l =>
        have hl : l.length = p.length - 1 := by rw [jiO_full (by omega) hj, hdl]
        have hr' : l ++ q.drop (p.length - 1) = (l ++ q.dropLast.drop (p.length - 1)) ++ [rest] := by rw [hdr, List.append_assoc]
        have hrl : (l ++ q.drop (p.length - 1)).length = q.length := by rw [List.length_append, List.length_drop]; omega
        have hrr : isRest (l ++ q.drop (p.length - 1)) = true := by rw [hr', isRest_app]; rfl
        have hmem : ∀ w ∈ l ++ q.dropLast.drop (p.length - 1), w ∈ p.dropLast ∨ w ∈ q.dropLast := fun w hw => by
          rcases List.mem_append.mp hw with z | z
          · rcases jiO_mem hj z with z | z
            · exact .inl z
            · rw [htk] at z
              exact .inr (List.mem_of_mem_take z)
          · exact .inr (List.mem_of_mem_drop z)
        have hdl2 : (l ++ q.drop (p.length - 1)).dropLast = l ++ q.dropLast.drop (p.length - 1) := getLast_mem_dropLast hr'
        refine ⟨fun n => ?_, fun r e => ?_⟩
        · rw [eq n, hj]
          show itemsOf (l ++ q.drop (p.length - 1)) n = _
          rw [items_rest hrr, hrl, hdl2]
          rfl
        · cases e
          refine ⟨⟨fun z => ?_, by rw [hrl]; exact hq.len, fun w hw => ?_⟩, fun w hw => ?_⟩
          · have z : l ++ q.drop (p.length - 1) = [] := z
            rw [z] at hrl; simp at hrl; omega
          · have hw : w ∈ (l ++ q.drop (p.length - 1)).dropLast := hw
            rw [hdl2] at hw
            rcases hmem w hw with z | z
            · exact hp.first w z
            · exact hq.first w z
          · have hw : w ∈ l ++ q.drop (p.length - 1) := hw
            rw [hr'] at hw
            rcases List.mem_append.mp hw with z | z
            · rcases hmem w z with z | z
              · exact .inl ((List.dropLast_sublist _).subset z)
              · exact .inr ((List.dropLast_sublist _).subset z)
            · have : w = rest := by simpa using z
              subst this
              exact .inr (List.mem_of_getLast? hu)
theorem joins {p q : List Wd} (hp : Pt p) (hq : Pt q) : Joins p q (jpO p q) := by
  unfold jpO
  cases hpr : isRest p with
  | false =>
    cases hqr : isRest q with
    | false =>
      show Joins p q (if p.length = q.length then jiO p q else none)
      have eq : ∀ n, both (itemsOf p n) (itemsOf q n) = if p.length = n ∧ q.length = n then jiO p q else none := fun n => by
        rw [items_plain hpr, items_plain hqr]
        by_cases h1 : p.length = n
        · by_cases h2 : q.length = n
          · rw [if_pos h1, if_pos h2, if_pos ⟨h1, h2⟩]; rfl
          · rw [if_pos h1, if_neg h2, if_neg (by omega)]; rfl
        · rw [if_neg h1, if_neg (c := p.length = n ∧ q.length = n) (by omega)]; rfl
      by_cases hl : p.length = q.length
      · rw [if_pos hl]
        cases hj : jiO p q with
        | none =>
          refine ⟨fun n => ?_, fun r e => by cases e⟩
          rw [eq n, hj]
          show none = _
          split <;> rfl
        | some r =>
          have hrl : r.length = p.length := jiO_full hl hj
          have nr : ∀ {s : List Wd}, Pt s → isRest s = false → ∀ w ∈ s, w ≠ rest := fun {s} hs h w hw e => by
            subst e
            obtain ⟨u, eu, hu⟩ := split_last hs.ne
            rw [eu] at hw
            rcases List.mem_append.mp hw with z | z
            · exact hs.first _ z rfl
            · have : rest = u := by simpa using z
              unfold isRest at h
              rw [hu, ← this] at h
              simp at h
          have hnr : ∀ w ∈ r, w ≠ rest := fun w hw => by
            rcases jiO_mem hj hw with z | z
            · exact nr hp hpr w z
            · exact nr hq hqr w z
          have hrr : isRest r = false := by
            unfold isRest
            split
            · rename_i w e
              exact beq_false_of_ne (hnr w (List.mem_of_getLast? e))
            · rfl
          refine ⟨fun n => ?_, fun r' e => ?_⟩
          · rw [eq n, hj]
            show itemsOf r n = _
            rw [items_plain hrr, hrl]
            by_cases h1 : p.length = n
            · rw [if_pos h1, if_pos ⟨h1, by omega⟩]
            · rw [if_neg h1, if_neg (by omega)]
          · cases e
            refine ⟨⟨fun z => ?_, by rw [hrl]; exact hp.len, fun w hw => hnr w ((List.dropLast_sublist _).subset hw)⟩, fun w hw => jiO_mem hj hw⟩
            have := List.length_pos_iff.mpr hp.ne
            rw [z] at hrl; simp at hrl; omega
      · rw [if_neg hl]
        refine ⟨fun n => ?_, fun r e => by cases e⟩
        rw [eq n, if_neg (by omega)]
        rfl
    | true => exact (joins_core hq hp hqr (fun z => by rw [hpr] at z; cases z)).comm
  | true =>
    cases hqr : isRest q with
    | false => exact joins_core hp hq hpr (fun z => by rw [hqr] at z; cases z)
    | true =>
      by_cases hl : q.length < p.length
      · show Joins p q (if (!true && !true) = true then _ else if (!true || (true && decide (q.length < p.length))) = true then coreO q p else coreO p q)
        rw [if_neg (by decide), if_pos (by rw [decide_eq_true hl]; rfl)]
        exact (joins_core hq hp hqr (fun _ => by omega)).comm
      · show Joins p q (if (!true && !true) = true then _ else if (!true || (true && decide (q.length < p.length))) = true then coreO q p else coreO p q)
        rw [if_neg (by decide), if_neg (by rw [decide_eq_false hl]; decide)]
        exact joins_core hp hq hpr (fun _ => by omega)
end LawX
namespace LawX
/-! ### plain: what the law asks -/
theorem za_iff : ∀ {a b : List Wd}, a.length = b.length → (za a b = true ↔ ∀ k, k < b.length → okI (a.getD k []) (b.getD k []) = true)
  | [], [], _ => ⟨fun _ k h => by simp at h, fun _ => rfl⟩
  | [], _ :: _, h => by cases h
  | _ :: _, [], h => by cases h
  | x :: a, y :: b, h => by
    rw [za_cons, Bool.and_eq_true, za_iff (by simpa using h)]
    constructor
    · intro ⟨h1, h2⟩ k hk
      cases k with
      | zero => exact h1
      | succ k => exact h2 k (by simpa using hk)
    · intro hh
      exact ⟨hh 0 (by simp), fun k hk => hh (k + 1) (by simpa using hk)⟩
theorem items_len {p its : List Wd} {n : Nat} (h : itemsOf p n = some its) (hp : Pt p) : its.length = n := by
  have hp1 : 1 ≤ p.length := List.length_pos_iff.mpr hp.ne
  unfold itemsOf at h
  split at h
  · split at h
    · rename_i e; cases h; exact e
    · cases h
  · split at h
    · rename_i e
      cases h
      rw [List.length_append, List.length_dropLast, List.length_replicate]
      omega
    · cases h
/-- a joint pattern matches what both match -/
theorem match_both {p q path : List Wd} (hp : Pt p) (hq : Pt q) : (match jpO p q with | none => false | some r => matchB r path) = (matchB p path && matchB q path) := by
  have J := (joins hp hq).1 path.length
  have key : (match both (itemsOf p path.length) (itemsOf q path.length) with | none => false | some l => za l path) = (matchB p path && matchB q path) := by
    rw [matchB_eq, matchB_eq]
    cases h1 : itemsOf p path.length with
    | none => rfl
    | some a =>
      cases h2 : itemsOf q path.length with
      | none => show false = (za a path && false); rw [Bool.and_false]
      | some b => exact za_ji (items_len h1 hp) (items_len h2 hq)
  rw [← key, ← J]
  cases jpO p q with
  | none => rfl
  | some r => exact matchB_eq
section
variable {nms : List Wd} {f : Wd}
/-- the words of a pattern -/
def Over (nms : List Wd) (p : List Wd) : Prop := ∀ w ∈ p, w ∈ nms ∨ w = star ∨ w = rest
structure PathOk (nms : List Wd) (f : Wd) (path : List Wd) : Prop where
  pos : 1 ≤ path.length
  len : path.length ≤ 4
  over : ∀ w ∈ path, w ∈ nms ∨ w = f
structure Fresh (nms : List Wd) (f : Wd) : Prop where
  out : f ∉ nms
  star : f ≠ star
  nstar : LawX.star ∉ nms
  nrest : rest ∉ nms
def wit (f : Wd) (its : List Wd) : List Wd := its.map fun w => if w == star then f else w
theorem items_over {p its : List Wd} {n : Nat} (hp : Pt p) (ho : Over nms p) (h : itemsOf p n = some its) : ∀ w ∈ its, w ∈ nms ∨ w = star := by
  intro w hw
  cases hr : isRest p with
  | false =>
    rw [items_plain hr] at h
    split at h
    · cases h
      rcases ho w hw with z | z | z
      · exact .inl z
      · exact .inr z
      · exfalso
        subst z
        obtain ⟨u, eu, hu⟩ := split_last hp.ne
        rw [eu] at hw
        rcases List.mem_append.mp hw with z | z
        · exact hp.first _ z rfl
        · have : rest = u := by simpa using z
          unfold isRest at hr
          rw [hu, ← this] at hr
          simp at hr
    · cases h
  | true =>
    rw [items_rest hr] at h
    split at h
    · cases h
      rcases List.mem_append.mp hw with z | z
      · rcases ho w ((List.dropLast_sublist _).subset z) with y | y | y
        · exact .inl y
        · exact .inr y
        · exact absurd y (hp.first w z)
      · exact .inr (List.eq_of_mem_replicate z)
    · cases h
theorem okI_wit {w : Wd} : okI w (if w == star then f else w) = true := by
  unfold okI
  by_cases h : w = star
  · subst h; simp
  · rw [beq_false_of_ne h]
    simp
theorem za_wit : ∀ {its : List Wd}, za its (wit f its) = true
  | [] => rfl
  | w :: its => by
    show (okI w (if w == star then f else w) && za its (wit f its)) = true
    rw [okI_wit, za_wit]
    rfl
theorem wit_path {p its : List Wd} {n : Nat} (hp : Pt p) (ho : Over nms p) (h : itemsOf p n = some its) (h1 : 1 ≤ n) (h4 : n ≤ 4) : PathOk nms f (wit f its) ∧ matchB p (wit f its) = true ∧ (wit f its).length = n := by
  have hl := items_len h hp
  have hw : (wit f its).length = n := by unfold wit; rw [List.length_map, hl]
  refine ⟨⟨by omega, by omega, fun w hw => ?_⟩, ?_, hw⟩
  · obtain ⟨u, hu, e⟩ := List.mem_map.mp hw
    subst e
    rcases items_over hp ho h u hu with z | z
    · by_cases hs : u = star
      · subst hs; exact .inr (by simp)
      · rw [beq_false_of_ne hs]; exact .inl z
    · subst z; exact .inr (by simp)
  · rw [matchB_eq, hw, h]
    exact za_wit
theorem some_path {p : List Wd} (hp : Pt p) (ho : Over nms p) : ∃ path, PathOk nms f path ∧ matchB p path = true := by
  have hp1 : 1 ≤ p.length := List.length_pos_iff.mpr hp.ne
  have hp4 := hp.len
  cases hr : isRest p with
  | false =>
    obtain ⟨h1, h2, _⟩ := wit_path (f := f) hp ho (n := p.length) (its := p) (by rw [items_plain hr, if_pos rfl]) hp1 hp4
    exact ⟨_, h1, h2⟩
  | true =>
    obtain ⟨h1, h2, _⟩ := wit_path (f := f) hp ho (n := p.length) (its := p.dropLast ++ List.replicate (p.length - (p.length - 1)) star) (by rw [items_rest hr, if_pos (by omega)]) hp1 hp4
    exact ⟨_, h1, h2⟩
theorem zr_iff : ∀ {a b : List Wd}, a.length = b.length → ((a.zip b).all (fun z => okI z.2 z.1) = true ↔ za b a = true)
  | [], [], _ => Iff.rfl
  | [], _ :: _, h => by cases h
  | _ :: _, [], h => by cases h
  | x :: a, y :: b, h => by
    show (okI y x && (a.zip b).all (fun z => okI z.2 z.1)) = true ↔ (okI y x && za b a) = true
    rw [Bool.and_eq_true, Bool.and_eq_true, zr_iff (by simpa using h)]
theorem okI_trans {o i n : Wd} (h1 : okI o i = true) (h2 : okI i n = true) : okI o n = true := by
  unfold okI at *
  rw [Bool.or_eq_true] at *
  rcases h1 with h1 | h1
  · exact .inl h1
  · have e := eq_of_beq h1
    subst e
    exact h2
theorem za_trans : ∀ {a b c : List Wd}, a.length = b.length → b.length = c.length → za a b = true → za b c = true → za a c = true
  | [], [], [], _, _, _, _ => rfl
  | [], _ :: _, _, h, _, _, _ => by cases h
  | _ :: _, [], _, h, _, _, _ => by cases h
  | _, [], _ :: _, _, h, _, _ => by cases h
  | _, _ :: _, [], _, h, _, _ => by cases h
  | x :: a, y :: b, z :: c, h, h', h1, h2 => by
    rw [za_cons, Bool.and_eq_true] at *
    exact ⟨okI_trans h1.1 h2.1, za_trans (by simpa using h) (by simpa using h') h1.2 h2.2⟩
theorem za_back (F : Fresh nms f) : ∀ {wd its : List Wd}, wd.length = its.length → (∀ w ∈ wd, w ∈ nms ∨ w = star) → za wd (wit f its) = true → za wd its = true
  | [], _, _, _, _ => rfl
  | _ :: _, [], h, _, _ => by cases h
  | o :: wd, i :: its, h, ho, hz => by
    have hz : (okI o (if i == star then f else i) && za wd (wit f its)) = true := hz
    rw [za_cons]
    rw [Bool.and_eq_true] at hz ⊢
    refine ⟨?_, za_back F (by simpa using h) (fun w hw => ho w (List.mem_cons_of_mem _ hw)) hz.2⟩
    have h1 := hz.1
    by_cases hs : i = star
    · subst hs
      rw [if_pos (by simp)] at h1
      unfold okI at h1 ⊢
      rw [Bool.or_eq_true] at h1 ⊢
      rcases h1 with h1 | h1
      · exact .inl h1
      · have e := eq_of_beq h1
        subst e
        rcases ho f List.mem_cons_self with z | z
        · exact absurd z F.out
        · exact absurd z F.star
    · rw [beq_false_of_ne hs] at h1
      exact h1
/-- within, by all paths -/
theorem wide_iff {p q : List Wd} (F : Fresh nms f) (hp : Pt p) (hq : Pt q) (op : Over nms p) (oq : Over nms q) : [1, 2, 3, 4].all (wideB p q) = true ↔ ∀ path, PathOk nms f path → matchB p path = true → matchB q path = true := by
  rw [List.all_eq_true]
  constructor
  · intro h path hpath hm
    have hw := h path.length (by
      have h1 := hpath.pos
      have h2 := hpath.len
      simp only [List.mem_cons, List.not_mem_nil, or_false]
      omega)
    unfold wideB at hw
    rw [matchB_eq] at hm ⊢
    cases h1 : itemsOf p path.length with
    | none => rw [h1] at hm; cases hm
    | some its =>
      rw [h1] at hm hw
      cases h2 : itemsOf q path.length with
      | none => rw [h2] at hw; cases hw
      | some wd =>
        rw [h2] at hw
        have l1 := items_len h1 hp
        have l2 := items_len h2 hq
        exact za_trans (by omega) (by omega) ((zr_iff (by omega)).mp hw) hm
  · intro h n hn
    have hn' : 1 ≤ n ∧ n ≤ 4 := by
      simp only [List.mem_cons, List.not_mem_nil, or_false] at hn
      omega
    unfold wideB
    cases h1 : itemsOf p n with
    | none => rfl
    | some its =>
      obtain ⟨w1, w2, w3⟩ := wit_path (f := f) hp op h1 hn'.1 hn'.2
      have hm := h _ w1 w2
      rw [matchB_eq, w3] at hm
      cases h2 : itemsOf q n with
      | none => rw [h2] at hm; cases hm
      | some wd =>
        rw [h2] at hm
        have l1 := items_len h1 hp
        have l2 := items_len h2 hq
        exact (zr_iff (by omega)).mpr (za_back F (by omega) (items_over hq oq h2) hm)
/-! ### actions -/
def ActOk (a : Wd) : Prop := a ∈ actions ∨ a = star
theorem act_some {a : Wd} (h : ActOk a) : ∃ b ∈ actions, okI a b = true := by
  rcases h with h | h
  · exact ⟨a, h, by unfold okI; simp⟩
  · subst h
    exact ⟨_, List.mem_cons_self, by unfold okI; simp⟩
theorem okI_self {a : Wd} : okI a a = true := by unfold okI; simp
theorem star_out : star ∉ actions := by decide
/-- an action that the one names, the other does not -/
theorem act_other {a b : Wd} (ha : ActOk a) (h : okI b a = false) : ∃ c ∈ actions, okI a c = true ∧ okI b c = false := by
  have hb : b ≠ star := fun e => by subst e; unfold okI at h; simp at h
  have hba : b ≠ a := fun e => by subst e; rw [okI_self] at h; cases h
  rcases ha with ha | ha
  · exact ⟨a, ha, okI_self, h⟩
  · subst ha
    have : ∃ c ∈ actions, c ≠ b := by
      by_cases hc : [114, 101, 97, 100] = b
      · exact ⟨[119, 114, 105, 116, 101], by decide, fun e => by rw [← e] at hc; cases hc⟩
      · exact ⟨[114, 101, 97, 100], by decide, hc⟩
    obtain ⟨c, hc, hne⟩ := this
    refine ⟨c, hc, by unfold okI; simp, ?_⟩
    unfold okI
    rw [beq_false_of_ne (Ne.symm hb), beq_false_of_ne hne]
    rfl
theorem within_iff {a b : Wd} {p q : List Wd} (F : Fresh nms f) (ha : ActOk a) (hp : Pt p) (hq : Pt q) (op : Over nms p) (oq : Over nms q) : withinB a p b q = true ↔ ∀ c ∈ actions, ∀ path, PathOk nms f path → coverB a p c path = true → coverB b q c path = true := by
  unfold withinB coverB
  rw [Bool.and_eq_true, wide_iff F hp hq op oq]
  constructor
  · intro ⟨h1, h2⟩ c hc path hpath hm
    rw [Bool.and_eq_true] at hm ⊢
    exact ⟨okI_trans h1 hm.1, h2 path hpath hm.2⟩
  · intro h
    obtain ⟨path, h1, h2⟩ := some_path (f := f) hp op
    have hba : okI b a = true := by
      cases z : okI b a with
      | true => rfl
      | false =>
        obtain ⟨c, hc, k1, k2⟩ := act_other ha z
        have := h c hc path h1 (by rw [k1, h2]; rfl)
        rw [k2] at this
        cases this
    refine ⟨hba, fun path hpath hm => ?_⟩
    obtain ⟨c, hc, k1⟩ := act_some ha
    have := h c hc path hpath (by rw [k1, hm]; rfl)
    rw [Bool.and_eq_true] at this
    exact this.2
theorem within_self {a : Wd} {p : List Wd} (hp : Pt p) : withinB a p a p = true := by
  unfold withinB
  rw [okI_self, Bool.true_and, List.all_eq_true]
  intro n _
  unfold wideB
  cases h : itemsOf p n with
  | none => rfl
  | some its =>
    show ((its.zip its).all fun z => okI z.2 z.1) = true
    rw [zr_iff rfl, za_iff rfl]
    exact fun k _ => okI_self
/-! ### meet -/
theorem cover_both {a b c : Wd} {p q path : List Wd} (hp : Pt p) (hq : Pt q) : (match jO a p b q with | none => false | some z => coverB z.1 z.2 c path) = (coverB a p c path && coverB b q c path) := by
  have hm := match_both (path := path) hp hq
  unfold jO coverB
  cases hc : clash a b with
  | true =>
    have := okI_clash (n := c) hc
    show false = _
    cases h1 : okI a c <;> cases h2 : okI b c <;> rw [h1, h2] at this <;> simp at this ⊢
  | false =>
    have hk := okI_pick (n := c) hc
    rw [if_neg Bool.false_ne_true]
    cases hj : jpO p q with
    | none =>
      rw [hj] at hm
      have hm : false = (matchB p path && matchB q path) := hm
      show false = _
      cases h1 : matchB p path <;> cases h2 : matchB q path <;> rw [h1, h2] at hm <;> simp at hm ⊢
    | some r =>
      rw [hj] at hm
      have hm : matchB r path = (matchB p path && matchB q path) := hm
      show (okI (pick a b) c && matchB r path) = _
      rw [hk, hm]
      cases okI a c <;> cases okI b c <;> cases matchB p path <;> cases matchB q path <;> rfl
theorem pick_act {a b : Wd} (ha : ActOk a) (hb : ActOk b) : ActOk (pick a b) := by
  unfold pick
  split
  · exact hb
  · exact ha
theorem jO_some {a b : Wd} {p q : List Wd} {z : Wd × List Wd} (hp : Pt p) (hq : Pt q) (ha : ActOk a) (hb : ActOk b) (op : Over nms p) (oq : Over nms q) (h : jO a p b q = some z) : ActOk z.1 ∧ Pt z.2 ∧ Over nms z.2 := by
  unfold jO at h
  split at h
  · cases h
  · obtain ⟨r, e1, e2⟩ := Option.map_eq_some_iff.mp h
    subst e2
    obtain ⟨k1, k2⟩ := (joins hp hq).2 r e1
    exact ⟨pick_act ha hb, k1, fun w hw => (k2 w hw).elim (op w) (oq w)⟩
theorem none_iff {a b : Wd} {p q : List Wd} (hp : Pt p) (hq : Pt q) (ha : ActOk a) (hb : ActOk b) (op : Over nms p) (oq : Over nms q) : jO a p b q = none ↔ ∀ c ∈ actions, ∀ path, PathOk nms f path → (coverB a p c path && coverB b q c path) = false := by
  constructor
  · intro h c _ path _
    rw [← cover_both hp hq, h]
  · intro h
    cases hj : jO a p b q with
    | none => rfl
    | some z =>
      obtain ⟨k1, k2, k3⟩ := jO_some hp hq ha hb op oq hj
      obtain ⟨c, hc, h1⟩ := act_some k1
      obtain ⟨path, h2, h3⟩ := some_path (f := f) k2 k3
      have := h c hc path h2
      rw [← cover_both hp hq, hj] at this
      have this : coverB z.1 z.2 c path = false := this
      unfold coverB at this
      rw [h1, h3] at this
      cases this
end
end LawX
namespace LawX
open Ev
theorem rangeL_nat {a n : Nat} (ha : a ≤ 1000000) (hn : n ≤ 1000000) : rangeL (a : Int) ((a + n : Nat) : Int) 1 = some ((List.range n).map fun k : Nat => D.int ((a + k : Nat) : Int)) := by
  unfold rangeL
  rw [if_pos (by simp; omega)]
  congr 1
  have e : ((((a + n : Nat) : Int) - (a : Int) + 1 - 1) / 1).toNat = n := by rw [Int.ediv_one]; omega
  rw [e]
  apply List.map_congr_left
  intro k _
  congr 1
  omega
theorem src_rng2 {call : Nat → List D → M Rv} {env : Env} {st : St} {x y : E} {a n : Nat} (hx : evE call x env st = .ok (.d (.int a)) st) (hy : evE call y env st = .ok (.d (.int ((a + n : Nat) : Int))) st) (ha : a ≤ 1000000) (hn : n ≤ 1000000) : evSrc call (.rng2 x y) env st = .ok (.fix ((List.range n).map fun k : Nat => D.int ((a + k : Nat) : Int))) st := by
  rw [evSrc]
  show (evE call x env st).bind _ = _
  rw [hx]
  show (evE call y env st).bind _ = _
  rw [hy]
  show (match rangeL a ((a + n : Nat) : Int) 1 with | some ds => Res.ok (Its.fix ds) st | none => .err) = _
  rw [rangeL_nat ha hn]
theorem src_rng1 {call : Nat → List D → M Rv} {env : Env} {st : St} {x : E} {n : Nat} (hx : evE call x env st = .ok (.d (.int n)) st) (hn : n ≤ 1000000) : evSrc call (.rng1 x) env st = .ok (.fix ((List.range n).map fun k : Nat => D.int (k : Int))) st := by
  rw [evSrc]
  show (evE call x env st).bind _ = _
  rw [hx]
  have e := rangeL_nat (a := 0) (n := n) (by omega) hn
  simp only [Nat.zero_add] at e
  show (match rangeL 0 (n : Int) 1 with | some ds => Res.ok (Its.fix ds) st | none => .err) = _
  rw [show rangeL 0 (n : Int) 1 = _ from e]
theorem lowL_tups {l : List (List Wd)} {b : Nat} : D.lowL b (l.map tupS) = true := by
  induction l with
  | nil => rfl
  | cons a r ih => show (D.lowL b (a.map D.str) && D.lowL b (r.map tupS)) = true; rw [lowL_strs, ih]; rfl
theorem src_live {call : Nat → List D → M Rv} {env : Env} {s : St} {v i : Nat} {ds : List D} (hv : getV env v = some (.ref i)) (h : s.objs[i]? = some (.lst ds)) : evSrc call (.e (.var v)) env s = .ok (.one (.live i)) s := by
  rw [evSrc]
  show (evE call (.var v) env s).bind _ = _
  rw [e_var hv]
  have : itsOf s (.d (.ref i)) = some (.one (.live i)) := by
    show (match s.objs[i]? with | some _ => some (Side.live i) | none => none).map Its.one = _
    rw [h]
    rfl
  show (match itsOf s (.d (.ref i)) with | some its => Res.ok its s | none => .err) = _
  rw [this]
theorem at_live {s : St} {i j : Nat} {ds : List D} (h : s.objs[i]? = some (.lst ds)) : (Its.one (.live i)).at s j = some ds[j]? := by
  show (match s.objs[i]? with | some (.lst ds) => some ds | none => none).map (fun ds => ds[j]?) = _
  rw [h]
  rfl
theorem size_live {s : St} {i : Nat} {ds : List D} (h : s.objs[i]? = some (.lst ds)) : (Its.one (.live i)).size s = ds.length := by
  show (match (match s.objs[i]? with | some (.lst ds) => some ds | none => none) with | some ds => ds.length | none => 0) = _
  rw [h]
theorem cmp_bl {s : St} {x y : Bool} {op : Cop} (h : op = .ne) : cmpR op s (.d (.bl x)) (.d (.bl y)) = some (!(x == y)) := by subst h; rfl
def primesL : List Int := [1000003, 1000033, 1000037, 1000039, 1000081, 1000099, 1000117, 1000121, 1000133, 1000151, 1000159, 1000171, 1000183, 1000187, 1000193, 1000199]
theorem small_of {i : Int} (h : -1000000000000 ≤ i) (h' : i ≤ 1000000000000) : smallI i = true := by
  unfold smallI two64
  rw [Bool.and_eq_true, decide_eq_true_eq, decide_eq_true_eq]
  omega
theorem b_add {st : St} {i j : Int} : binR .add st (.d (.int i)) (.d (.int j)) = some (.d (.int (i + j))) := rfl
theorem b_sub {st : St} {i j : Int} : binR .sub st (.d (.int i)) (.d (.int j)) = some (.d (.int (i - j))) := rfl
theorem b_mul {st : St} {i j : Int} (h : smallI i = true ∨ smallI j = true) : binR .mul st (.d (.int i)) (.d (.int j)) = some (.d (.int (i * j))) := by
  show (if smallI i || smallI j then some (i * j) else none).map (fun k => Rv.d (.int k)) = _
  rw [if_pos (by rw [Bool.or_eq_true]; exact h)]
  rfl
theorem b_mod {st : St} {i j : Int} (h : 0 < j) : binR .mod st (.d (.int i)) (.d (.int j)) = some (.d (.int (i % j))) := by
  show (if decide (0 < j) then some (i % j) else none).map (fun k => Rv.d (.int k)) = _
  rw [if_pos (decide_eq_true h)]
  rfl
theorem b_fdiv {st : St} {i j : Int} (h : 0 < j) (h' : j.natAbs < 2 ^ 8000) : binR .fdiv st (.d (.int i)) (.d (.int j)) = some (.d (.int (i / j))) := by
  show (if decide (0 < j) && decide (j.natAbs < 2 ^ 8000) then some (i / j) else none).map (fun k => Rv.d (.int k)) = _
  rw [if_pos (by rw [decide_eq_true h, decide_eq_true h']; rfl)]
  rfl
theorem e_call3 {call : Nat → List D → M Rv} {env : Env} {st : St} {a b c : E} {f : Nat} {x y z : D} {r : Rv} (ha : evE call a env st = .ok (.d x) st) (hb : evE call b env st = .ok (.d y) st) (hc : evE call c env st = .ok (.d z) st) (h : call f [x, y, z] st = .ok r st) : evE call (.call f (.cons a (.cons b (.cons c .nil)))) env st = .ok r st := by
  simp only [evE, evA, ha, hb, hc, bind_ok, mat_d]
  exact h
theorem m_draw {cell : Int} {r : Nat} {b : Int} {k : Nat} {st : St} (hb : 0 < b) : ∃ v, 0 ≤ v ∧ v < b ∧ evFn fns (k + 1) F._law_draw [.int cell, .int r, .int b] st = .ok (.d (.int v)) st := by
  have hr : r % 16 < primesL.length := Nat.mod_lt _ (by decide)
  have hpos : ∀ z ∈ primesL, (0 : Int) < z := by decide
  have hz := hpos _ (List.getElem_mem hr)
  refine ⟨(cell * 48271 + (r : Int) * 69621) % primesL[r % 16] % b, Int.emod_nonneg _ (by omega), Int.emod_lt_of_pos _ hb, ?_⟩
  refine fn_ret0 (fn := ⟨3, 4, C._law_draw⟩) rfl rfl ((s_set (v := .d (.tup (primesL.map D.int))) (st1 := ⟨st.objs, st.objs.length⟩) rfl rfl).trans (s_ret ?_)) rfl nofun
  refine e_bin (u := .d (.int ((cell * 48271 + (r : Int) * 69621) % primesL[r % 16]))) (v := .d (.int b)) (e_bin (u := .d (.int (cell * 48271 + (r : Int) * 69621))) (v := .d (.int primesL[r % 16])) (e_bin (u := .d (.int (cell * 48271))) (v := .d (.int ((r : Int) * 69621))) (e_bin (u := .d (.int cell)) (v := .d (.int 48271)) (e_var rfl) rfl (b_mul (.inr (small_of (by decide) (by decide))))) (e_bin (u := .d (.int r)) (v := .d (.int 69621)) (e_var rfl) rfl (b_mul (.inr (small_of (by decide) (by decide))))) b_add) ?_ (b_mod hz)) (e_var rfl) (b_mod hb)
  refine e_sub (u := .d (.tup (primesL.map D.int))) (v := .d (.int ((r % 16 : Nat) : Int))) (e_var rfl) (e_bin (u := .d (.int r)) (v := .d (.int 16)) (e_var rfl) rfl ?_) ?_
  · rw [b_mod (by decide)]
    rfl
  · rw [sub_nat (by decide), List.getElem?_map, List.getElem?_eq_getElem hr]
    rfl
theorem finish_gen {base d0 dd : Nat} {objs : List Ob} {d : D} (h : base ≤ dd) (hd : d.low base = true) (hr : ∀ i, d ≠ .ref i) : finish base d0 (.d d) ⟨objs, dd⟩ = .ok (.d d) ⟨objs.take base, d0⟩ := by
  unfold finish
  rw [if_neg (by show ¬ dd < base; omega)]
  cases d with
  | ref i => exact absurd rfl (hr i)
  | _ =>
    show (if _ then Res.ok _ _ else _) = _
    rw [if_pos hd]
theorem listOf_ref {st : St} {i : Nat} {ds : List D} (h : st.objs[i]? = some (.lst ds)) : listOf st (.d (.ref i)) = some ds := by
  show (match st.objs[i]? with | some (.lst ds) => some ds | none => none) = _
  rw [h]
theorem mutOf_ref {st : St} {i : Nat} {ds : List D} (h : st.objs[i]? = some (.lst ds)) : mutOf st (.d (.ref i)) = some (i, ds) := by
  show (match st.objs[i]? with | some (.lst ds) => some (i, ds) | _ => none) = _
  rw [h]
theorem sub_ref {st : St} {i : Nat} {ds : List D} {k : Nat} (h : st.objs[i]? = some (.lst ds)) (hl : ds.length ≤ 100000) : subR st (.d (.ref i)) (.d (.int k)) = ds[k]? := by
  show (match listOf st (.d (.ref i)) with | some xs => if decide (xs.length ≤ big) then atI xs k else none | none => none) = _
  rw [listOf_ref h]
  have e : subR st (.d (.tup ds)) (.d (.int k)) = (if decide (ds.length ≤ big) then atI ds k else none) := rfl
  show (if decide (ds.length ≤ big) then atI ds k else none) = _
  rw [← e, sub_nat hl]
theorem set_get {st : St} {i : Nat} {o o' : Ob} (h : st.objs[i]? = some o) : (st.objs.set i o')[i]? = some o' := by
  obtain ⟨hi, _⟩ := List.getElem?_eq_some_iff.mp h
  rw [List.getElem?_set_self hi]
theorem e_call2x {call : Nat → List D → M Rv} {env : Env} {st st' : St} {a b : E} {f : Nat} {d e : D} {r : Rv} (ha : evE call a env st = .ok (.d d) st) (hb : evE call b env st = .ok (.d e) st) (h : call f [d, e] st = .ok r st') : evE call (.call f (.cons a (.cons b .nil))) env st = .ok r st' := by
  simp only [evE, evA, ha, hb, bind_ok, mat_d]
  exact h
section
variable {call : Nat → List D → M Rv} {env : Env} {st st1 st2 : St}
theorem e_binx {a b : E} {op : Bop} {u v r : Rv} (ha : evE call a env st = .ok u st1) (hb : evE call b env st1 = .ok v st2) (h : binR op st2 u v = some r) : evE call (.bin op a b) env st = .ok r st2 := by
  simp only [evE, ha, hb, bind_ok, h, ofO_some]
theorem e_cmpx {a b : E} {op : Cop} {u v : Rv} {r : Bool} (ha : evE call a env st = .ok u st1) (hb : evE call b env st1 = .ok v st2) (h : cmpR op st2 u v = some r) : evE call (.cmp op a b) env st = .ok (.d (.bl r)) st2 := by
  simp only [evE, ha, hb, bind_ok, h, Option.map_some, ofO_some, rBl]
theorem e_andx {a b : E} {y : Bool} (ha : evE call a env st = .ok (.d (.bl true)) st1) (hb : evE call b env st1 = .ok (.d (.bl y)) st2) : evE call (.and a b) env st = .ok (.d (.bl y)) st2 := by
  simp only [evE, ha, bind_ok, hb]
theorem s_ifx {a : E} {t e ss : Ss} {x : Bool} {env2 : Env} (h : evE call a env st = .ok (.d (.bl x)) st1) (h' : evSs call (if x then t else e) env st1 = .ok (.nx env2) st2) : evSs call (.cons (.if_ a t e) ss) env st = evSs call ss env2 st2 := by
  rw [evSs, evS]
  show ((evE call a env st).bind _).bind _ = _
  rw [h]
  cases x with
  | true =>
    show (evSs call t env st1).bind _ = _
    have h' : evSs call t env st1 = .ok (.nx env2) st2 := h'
    rw [h']
    rfl
  | false =>
    show (evSs call e env st1).bind _ = _
    have h' : evSs call e env st1 = .ok (.nx env2) st2 := h'
    rw [h']
    rfl
theorem src_rng1x {x : E} {n : Nat} (hx : evE call x env st = .ok (.d (.int n)) st1) (hn : n ≤ 1000000) : evSrc call (.rng1 x) env st = .ok (.fix ((List.range n).map fun k : Nat => D.int (k : Int))) st1 := by
  rw [evSrc]
  show (evE call x env st).bind _ = _
  rw [hx]
  have e := rangeL_nat (a := 0) (n := n) (by omega) hn
  simp only [Nat.zero_add] at e
  show (match rangeL 0 (n : Int) 1 with | some ds => Res.ok (Its.fix ds) st1 | none => .err) = _
  rw [show rangeL 0 (n : Int) 1 = _ from e]
end
theorem e_call2t {call : Nat → List D → M Rv} {env : Env} {st st' : St} {a b : E} {f : Nat} {d : D} {ds : List D} {r : Rv} (ha : evE call a env st = .ok (.d d) st) (hb : evE call b env st = .ok (.tmp ds) st) (h : call f [d, .ref st.objs.length] ⟨st.objs ++ [.lst ds], st.dirty⟩ = .ok r st') : evE call (.call f (.cons a (.cons b .nil))) env st = .ok r st' := by
  simp only [evE, evA, ha, hb, bind_ok, mat_d, mat_tmp]
  exact h
theorem e_tup2x {call : Nat → List D → M Rv} {env : Env} {st st1 st2 : St} {a b : E} {d e : D} (ha : evE call a env st = .ok (.d d) st1) (hb : evE call b env st1 = .ok (.d e) st2) : evE call (.tup (.cons a (.cons b .nil))) env st = .ok (.d (.tup [d, e])) st2 := by
  simp only [evE, evA, ha, hb, bind_ok, mat_d]
  rfl
/-- a step of the drawing, for any store that holds the state -/
theorem e_blt2 {call : Nat → List D → M Rv} {env : Env} {st : St} {a b : E} {f : Blt} {u v r : Rv} (ha : evE call a env st = .ok u st) (hb : evE call b env st = .ok v st) (h : bltR f st [u, v] = some r) : evE call (.blt f (.cons a (.cons b .nil))) env st = .ok r st := by
  simp only [evE, evR, ha, hb, bind_ok, h, ofO_some]
theorem e_call3x {call : Nat → List D → M Rv} {env : Env} {st st1 st2 st3 st4 : St} {a b c : E} {f : Nat} {x y z : D} {r : Rv} (ha : evE call a env st = .ok (.d x) st1) (hb : evE call b env st1 = .ok (.d y) st2) (hc : evE call c env st2 = .ok (.d z) st3) (h : call f [x, y, z] st3 = .ok r st4) : evE call (.call f (.cons a (.cons b (.cons c .nil)))) env st = .ok r st4 := by
  simp only [evE, evA, ha, hb, hc, bind_ok, mat_d]
  exact h
theorem e_notx {call : Nat → List D → M Rv} {env : Env} {st st' : St} {a : E} {x : Bool} (ha : evE call a env st = .ok (.d (.bl x)) st') : evE call (.not a) env st = .ok (.d (.bl (!x))) st' := by
  simp only [evE, ha, bind_ok, rBl]
theorem e_call1t {call : Nat → List D → M Rv} {env : Env} {st st' : St} {b : E} {f : Nat} {ds : List D} {r : Rv} (hb : evE call b env st = .ok (.tmp ds) st) (h : call f [.ref st.objs.length] ⟨st.objs ++ [.lst ds], st.dirty⟩ = .ok r st') : evE call (.call f (.cons b .nil)) env st = .ok r st' := by
  simp only [evE, evA, hb, bind_ok, mat_tmp]
  exact h
end LawX
namespace LawX
open Ev
/-! ### the law's own matching -/
def lmB : List Wd → List Wd → Bool
  | p, path => if p = [rest] then true else match p, path with
    | [], [] => true
    | [], _ :: _ => false
    | _ :: _, [] => false
    | w :: q, n :: t => okI w n && lmB q t
theorem items_cons {w : Wd} {q : List Wd} {n : Nat} (hq : q ≠ []) : itemsOf (w :: q) (n + 1) = (itemsOf q n).map (w :: ·) := by
  have hr : isRest (w :: q) = isRest q := by
    unfold isRest
    rw [List.getLast?_cons_of_ne_nil hq]
  have hl : 1 ≤ q.length := List.length_pos_iff.mpr hq
  cases h : isRest q with
  | true =>
    rw [items_rest (hr.trans h), items_rest h]
    have e : (w :: q).dropLast = w :: q.dropLast := List.dropLast_cons_of_ne_nil hq
    by_cases c : q.length - 1 ≤ n
    · rw [if_pos c, if_pos (by simp only [List.length_cons]; omega), e]
      simp only [Option.map_some, List.cons_append, List.length_cons]
      congr 4
      omega
    · rw [if_neg c, if_neg (by simp only [List.length_cons]; omega)]
      rfl
  | false =>
    rw [items_plain (hr.trans h), items_plain h]
    by_cases c : q.length = n
    · rw [if_pos c, if_pos (by simp only [List.length_cons]; omega)]
      rfl
    · rw [if_neg c, if_neg (by simp only [List.length_cons]; omega)]
      rfl
theorem items_cons0 {w : Wd} {q : List Wd} (hq : q ≠ []) : itemsOf (w :: q) 0 = none := by
  have hr : isRest (w :: q) = isRest q := by
    unfold isRest
    rw [List.getLast?_cons_of_ne_nil hq]
  have hl : 1 ≤ q.length := List.length_pos_iff.mpr hq
  cases h : isRest q with
  | true => rw [items_rest (hr.trans h), if_neg (by simp only [List.length_cons]; omega)]
  | false => rw [items_plain (hr.trans h), if_neg (by simp only [List.length_cons]; omega)]
theorem lm_match : ∀ {p path : List Wd}, p ≠ [] → (∀ w ∈ p.dropLast, w ≠ rest) → lmB p path = matchB p path
  | [], _, h, _ => absurd rfl h
  | [w], path, _, _ => by
    by_cases hw : w = rest
    · subst hw
      have e : lmB [rest] path = true := by unfold lmB; rw [if_pos rfl]
      rw [e, matchB_eq, items_rest (p := [rest]) (by decide)]
      have : ([rest] : List Wd).length - 1 ≤ path.length := by simp
      rw [if_pos this]
      symm
      show za ([] ++ List.replicate (path.length - 0) star) path = true
      rw [List.nil_append, Nat.sub_zero]
      clear e this
      induction path with
      | nil => rfl
      | cons a r ih =>
        show (okI star a && za (List.replicate r.length star) r) = true
        rw [ih]
        rfl
    · have hr : isRest [w] = false := by
        unfold isRest
        simp only [List.getLast?_singleton]
        exact beq_false_of_ne hw
      have hne : ¬ ([w] : List Wd) = [rest] := fun z => hw (by injection z)
      rw [matchB_eq, items_plain hr]
      unfold lmB
      rw [if_neg hne]
      match path with
      | [] => rfl
      | [n] =>
        show (okI w n && lmB [] []) = za [w] [n]
        have e : lmB [] [] = true := by unfold lmB; rw [if_neg (by decide)]
        rw [e]
        rfl
      | n :: m :: t =>
        have e : lmB [] (m :: t) = false := by unfold lmB; rw [if_neg (by decide)]
        show (okI w n && lmB [] (m :: t)) = (match (if [w].length = (n :: m :: t).length then some [w] else none) with | none => false | some its => za its (n :: m :: t))
        rw [e, Bool.and_false, if_neg (by simp)]
  | w :: u :: q, path, _, hf => by
    have hne : ¬ (w :: u :: q : List Wd) = [rest] := fun z => by simp at z
    have hq : (u :: q : List Wd) ≠ [] := by simp
    have hd : (w :: u :: q : List Wd).dropLast = w :: (u :: q).dropLast := List.dropLast_cons_of_ne_nil hq
    unfold lmB
    rw [if_neg hne]
    match path with
    | [] =>
      rw [matchB_eq]
      show false = (match itemsOf (w :: u :: q) 0 with | none => false | some its => za its [])
      rw [items_cons0 hq]
    | n :: t =>
      show (okI w n && lmB (u :: q) t) = _
      rw [lm_match (p := u :: q) (path := t) hq (fun x hx => hf x (by rw [hd]; exact List.mem_cons_of_mem _ hx)), matchB_eq, matchB_eq]
      show _ = (match itemsOf (w :: u :: q) (t.length + 1) with | none => false | some its => za its (n :: t))
      rw [items_cons hq]
      cases itemsOf (u :: q) t.length with
      | none => exact Bool.and_false _
      | some its => rfl
theorem eq_tupS {p q : List Wd} {st : St} (hp : ∀ w ∈ p, ∀ c ∈ w, c < 55296) (hq : ∀ w ∈ q, ∀ c ∈ w, c < 55296) : cmpR .eq st (.d (tupS p)) (.d (tupS q)) = some (decide (p = q)) := by
  have pl : ∀ {p : List Wd}, (∀ w ∈ p, ∀ c ∈ w, c < 55296) → (tupS p).plain 10 = true := fun {p} h => by
    show D.plainL 9 (p.map D.str) = true
    induction p with
    | nil => rfl
    | cons a r ih =>
      show ((a.all fun c => Nat.blt c 55296) && D.plainL 9 (r.map D.str)) = true
      rw [ih fun w hw => h w (List.mem_cons_of_mem _ hw), List.all_eq_true.mpr fun c hc => Nat.blt_eq.mpr (h a List.mem_cons_self c hc)]
      rfl
  have eb : ∀ {p q : List Wd}, D.eqbL (p.map D.str) (q.map D.str) = decide (p = q) := fun {p q} => by
    induction p generalizing q with
    | nil => cases q <;> rfl
    | cons a r ih =>
      cases q with
      | nil => rfl
      | cons b t =>
        show ((a == b) && D.eqbL (r.map D.str) (t.map D.str)) = _
        rw [ih, Bool.eq_iff_iff]
        simp
  show (if D.scal (tupS p) (tupS q) || ((tupS p).plain 10 && (tupS q).plain 10) then some ((tupS p).eqb (tupS q)) else none) = _
  rw [if_pos (by rw [pl hp, pl hq]; simp)]
  congr 1
  exact eb
theorem e_slc1 {call : Nat → List D → M Rv} {env : Env} {st : St} {i : Nat} {p : List Wd} (h : getV env i = some (tupS p)) (hl : p.length ≤ 100) : evE call (.slc (.var i) (.yes (.cst (.int 1))) .no) env st = .ok (.d (tupS p.tail)) st := by
  have e1 : evE call (.var i) env st = .ok (.d (tupS p)) st := e_var h
  rw [evE]
  show (evE call (.var i) env st).bind _ = _
  rw [e1]
  show ofO (slcR st (.d (tupS p)) (some ((1 : Nat) : Int)) none) st = _
  rw [slc_from (by rw [List.length_map]; omega)]
  show Res.ok (Rv.d (.tup ((p.map D.str).drop 1))) st = _
  rw [← List.map_drop, List.drop_one]
theorem m_lmatches {st : St} : ∀ {p path : List Wd} {k : Nat}, p.length ≤ 100 → path.length ≤ 100 → (∀ w ∈ p, ∀ c ∈ w, c < 55296) → (∀ w ∈ path, ∀ c ∈ w, c < 55296) → evFn fns (k + p.length + 1) F._law_matches [tupS p, tupS path] st = .ok (.d (.bl (lmB p path))) st
  | p, path, k, hp, hn, cp, cn => by
    have c1 : ∀ {n : Nat}, evE (evFn fns n) (.cmp .eq (.var 0) (.tup (.cons (.cst (.str [42, 42])) .nil))) [some (tupS p), some (tupS path)] ⟨st.objs, st.objs.length⟩ = .ok (.d (.bl (decide (p = [rest])))) ⟨st.objs, st.objs.length⟩ := fun {n} => e_cmp (u := .d (tupS p)) (v := .d (tupS [rest])) (e_var rfl) rfl (eq_tupS cp (by decide))
    have cE : ∀ {n i : Nat} {q : List Wd}, getV [some (tupS p), some (tupS path)] i = some (tupS q) → (∀ w ∈ q, ∀ c ∈ w, c < 55296) → evE (evFn fns n) (.cmp .eq (.var i) (.tup .nil)) [some (tupS p), some (tupS path)] ⟨st.objs, st.objs.length⟩ = .ok (.d (.bl (decide (q = [])))) ⟨st.objs, st.objs.length⟩ := fun {n i q} h cq => e_cmp (u := .d (tupS q)) (v := .d (tupS [])) (e_var h) rfl (eq_tupS cq (by decide))
    by_cases hr : p = [rest]
    · have e : lmB p path = true := by unfold lmB; rw [if_pos hr]
      rw [e]
      refine fn_ret0 (fn := ⟨2, 2, C._law_matches⟩) rfl rfl (take (c1.trans (by rw [decide_eq_true hr])) (s_ret rfl)) rfl nofun
    · have c1' : ∀ n : Nat, evE (evFn fns n) (.cmp .eq (.var 0) (.tup (.cons (.cst (.str [42, 42])) .nil))) [some (tupS p), some (tupS path)] ⟨st.objs, st.objs.length⟩ = .ok (.d (.bl false)) ⟨st.objs, st.objs.length⟩ := fun n => c1.trans (by rw [decide_eq_false hr])
      have c2 : ∀ n : Nat, evE (evFn fns n) (.or (.cmp .eq (.var 0) (.tup .nil)) (.cmp .eq (.var 1) (.tup .nil))) [some (tupS p), some (tupS path)] ⟨st.objs, st.objs.length⟩ = .ok (.d (.bl (decide (p = []) || decide (path = [])))) ⟨st.objs, st.objs.length⟩ := fun n => e_or (cE rfl cp) fun _ => cE rfl cn
      match p, path, hp, hn, cp, cn, hr, c1', c2 with
      | [], path, hp, hn, cp, cn, hr, c1', c2 =>
        refine fn_ret0 (fn := ⟨2, 2, C._law_matches⟩) rfl rfl ((skip (c1' _)).trans (take ((c2 _).trans (by simp)) (s_ret (e_cmp (u := .d (tupS [])) (v := .d (tupS path)) (e_var rfl) (e_var rfl) ((eq_tupS cp cn).trans ?_))))) rfl nofun
        unfold lmB
        rw [if_neg hr]
        cases path <;> rfl
      | w :: q, [], hp, hn, cp, cn, hr, c1', c2 =>
        refine fn_ret0 (fn := ⟨2, 2, C._law_matches⟩) rfl rfl ((skip (c1' _)).trans (take ((c2 _).trans (by simp)) (s_ret (e_cmp (u := .d (tupS (w :: q))) (v := .d (tupS [])) (e_var rfl) (e_var rfl) ((eq_tupS cp cn).trans ?_))))) rfl nofun
        unfold lmB
        rw [if_neg hr]
        rfl
      | w :: q, n :: t, hp, hn, cp, cn, hr, c1', c2 =>
        have e : lmB (w :: q) (n :: t) = (okI w n && lmB q t) := by
          rw [lmB]
          rw [if_neg hr]
        rw [e]
        have ih := m_lmatches (st := ⟨st.objs, st.objs.length⟩) (p := q) (path := t) (k := k) (by simp only [List.length_cons] at hp; omega) (by simp only [List.length_cons] at hn; omega) (fun x hx => cp x (List.mem_cons_of_mem _ hx)) (fun x hx => cn x (List.mem_cons_of_mem _ hx))
        refine fn_ret0 (fn := ⟨2, 2, C._law_matches⟩) rfl rfl ((skip (c1' _)).trans ((skip ((c2 _).trans (by simp))).trans (s_ret (e_and ?_ fun _ => ?_)))) rfl nofun
        · refine e_cmp (u := .d (.str w)) (v := .d (.tup [.str star, .str n])) (e_sub (u := .d (tupS (w :: q))) (v := .d (.int ((0 : Nat) : Int))) (e_var rfl) rfl ?_) (e_tup2 rfl (e_sub (u := .d (tupS (n :: t))) (v := .d (.int ((0 : Nat) : Int))) (e_var rfl) rfl ?_)) in_str2
          · rw [sub_nat (by rw [List.length_map]; omega)]
            rfl
          · rw [sub_nat (by rw [List.length_map]; omega)]
            rfl
        · exact e_call2 (d := tupS q) (e := tupS t) (e_slc1 (p := w :: q) rfl hp) (e_slc1 (p := n :: t) rfl hn) ih
termination_by p _ _ => p.length
end LawX
namespace LawX
open Ev
/-! ### what the law draws -/
abbrev B3 : List Wd := [[120], [121, 121], [122, 97, 98, 99, 100, 101, 102, 103]]
abbrev fr : Wd := [111, 116, 104, 101, 114]
structure Nms (nms : List Wd) : Prop where
  sub : ∀ w ∈ nms, w ∈ B3
theorem Nms.fresh {nms : List Wd} (h : Nms nms) : Fresh nms fr := ⟨fun m => absurd (h.sub _ m) (by decide), by decide, fun m => absurd (h.sub _ m) (by decide), fun m => absurd (h.sub _ m) (by decide)⟩
/-- a right that the law draws -/
structure Rg (nms : List Wd) (a : Wd) (p : List Wd) : Prop where
  act : ActOk a
  pt : Pt p
  over : Over nms p
def okW (w : Wd) : Bool := w.all fun c => decide (c < 55296)
theorem okW_B3 : ∀ w ∈ B3, okW w = true ∧ nameB w = true ∧ w.length ≤ 100000 := by decide
theorem ch_of {w : Wd} (h : okW w = true) : ∀ c ∈ w, c < 55296 := fun c hc => of_decide_eq_true (List.all_eq_true.mp h c hc)
section
variable {nms : List Wd} (N : Nms nms)
include N
theorem Over.ch {p : List Wd} (h : Over nms p) : ∀ w ∈ p, ∀ c ∈ w, c < 55296 := fun w hw => by
  rcases h w hw with z | z | z
  · exact ch_of (okW_B3 w (N.sub w z)).1
  · subst z; exact ch_of (by decide)
  · subst z; exact ch_of (by decide)
theorem PathOk.ch {path : List Wd} (h : PathOk nms fr path) : ∀ w ∈ path, ∀ c ∈ w, c < 55296 := fun w hw => by
  rcases h.over w hw with z | z
  · exact ch_of (okW_B3 w (N.sub w z)).1
  · subst z; exact ch_of (by decide)
theorem Rg.ok {a : Wd} {p : List Wd} (h : Rg nms a p) : RightOk a p := by
  have w1 : ∀ w ∈ p, nameB w = true ∧ w.length ≤ 100000 ∨ w = star ∨ w = rest := fun w hw => by
    rcases h.over w hw with z | z | z
    · exact .inl (okW_B3 w (N.sub w z)).2
    · exact .inr (.inl z)
    · exact .inr (.inr z)
  refine ⟨?_, h.pt.ne, h.pt.len, fun w hw => ?_, fun w hw => ?_, fun w hw => ?_⟩
  · rcases h.act with z | z
    · rw [show (actions.any fun x => x == a) = true from List.any_eq_true.mpr ⟨a, z, beq_self_eq_true a⟩]; rfl
    · rw [z]; decide
  · rcases w1 w hw with z | z | z
    · exact z.2
    · subst z; decide
    · subst z; decide
  · have := h.pt.first w hw
    rcases w1 w ((List.dropLast_sublist _).subset hw) with z | z | z
    · rw [z.1]; rfl
    · subst z; decide
    · exact absurd z this
  · rcases w1 w (List.mem_of_getLast? hw) with z | z | z
    · rw [z.1]; rfl
    · subst z; decide
    · subst z; decide
theorem path_req {c : Wd} {path : List Wd} (hc : c ∈ actions) (h : PathOk nms fr path) : reqB c path = true ∧ ∀ w ∈ path, w.length ≤ 100000 := by
  have w1 : ∀ w ∈ path, nameB w = true ∧ w.length ≤ 100000 := fun w hw => by
    rcases h.over w hw with z | z
    · exact (okW_B3 w (N.sub w z)).2
    · subst z; decide
  refine ⟨?_, fun w hw => (w1 w hw).2⟩
  unfold reqB pathB
  rw [show (actions.any fun x => x == c) = true from List.any_eq_true.mpr ⟨c, hc, beq_self_eq_true c⟩, decide_eq_true h.pos, decide_eq_true h.len, List.all_eq_true.mpr fun w hw => (w1 w hw).1]
  rfl
end
theorem m_lm {p path : List Wd} {k : Nat} {st : St} (hp : p.length ≤ 4) (hn : path.length ≤ 100) (cp : ∀ w ∈ p, ∀ c ∈ w, c < 55296) (cn : ∀ w ∈ path, ∀ c ∈ w, c < 55296) : evFn fns (k + 5) F._law_matches [tupS p, tupS path] st = .ok (.d (.bl (lmB p path))) st := by
  have := m_lmatches (st := st) (p := p) (path := path) (k := k + (4 - p.length)) (by omega) hn cp cn
  rwa [show k + (4 - p.length) + p.length + 1 = k + 5 by omega] at this
theorem sub_rt {a : Wd} {p : List Wd} {call : Nat → List D → M Rv} {env : Env} {st : St} {i : Nat} (h : getV env i = some (rt a p)) : evE call (.sub (.var i) (.cst (.int 0))) env st = .ok (.d (.str a)) st ∧ evE call (.sub (.var i) (.cst (.int 1))) env st = .ok (.d (tupS p)) st := ⟨e_sub (u := .d (rt a p)) (v := .d (.int 0)) (e_var h) rfl rfl, e_sub (u := .d (rt a p)) (v := .d (.int 1)) (e_var h) rfl rfl⟩
theorem m_lcovers {a b : Wd} {p path : List Wd} {k : Nat} {st : St} (hp : p.length ≤ 4) (hn : path.length ≤ 100) (cp : ∀ w ∈ p, ∀ c ∈ w, c < 55296) (cn : ∀ w ∈ path, ∀ c ∈ w, c < 55296) : evFn fns (k + 6) F._law_covers [rt a p, rt b path] st = .ok (.d (.bl (okI a b && lmB p path))) st := by
  refine fn_ret0 (fn := ⟨2, 2, C._law_covers⟩) rfl rfl (s_ret (e_and (x := okI a b) ?_ fun _ => ?_)) rfl nofun
  · exact e_cmp (u := .d (.str a)) (v := .d (.tup [.str star, .str b])) (sub_rt (p := p) rfl).1 (e_tup2 rfl (sub_rt (p := path) rfl).1) in_str2
  · exact e_call2 (d := tupS p) (e := tupS path) (sub_rt (a := a) rfl).2 (sub_rt (a := b) rfl).2 (m_lm hp hn cp cn)
/-! ### a comprehension with a test -/
theorem lc_filter {α : Type} {own : List Nat} {t : Tg} {src : Src} {elt cond : E} {its : Its} {l : List α} {f g : α → D} {c : α → Bool} {st : St} {call : Nat → List D → M Rv} {env : Env} (hs : evSrc call src env st = .ok its st) (hat : ∀ k, its.at st k = some (l.map f)[k]?) (hz : l.length ≤ its.size st) (hl : l.length ≤ 100000)
    (hb : ∀ a ∈ l, ∃ env', setTg t (f a) (wipe env own) = some env' ∧ evE call cond env' st = .ok (.d (.bl (c a))) st ∧ (c a = true → evE call elt env' st = .ok (.d (g a)) st)) : evE call (.lc own t src (.yes cond) elt) env st = .ok (.tmp ((l.filter c).map g)) st := by
  rw [evE]
  show (evSrc call src env st).bind _ = _
  rw [hs, bind_ok]
  have key : ∀ (n k : Nat), l.length < n + k → k ≤ l.length → lcGo (fun d st => match setTg t d (wipe env own) with
      | none => .err
      | some env' => (evO call (.yes cond) env' st).bind fun b st2 => (match condOf b with
        | some true => (evE call elt env' st2).bind fun y st3 => (mat y st3).bind fun y st4 => .ok (some y) st4
        | some false => .ok none st2
        | none => .err)) its n k st = .ok (((l.drop k).filter c).map g) st := by
    intro n
    induction n with
    | zero => intro k h1 h2; omega
    | succ n ih =>
      intro k h1 h2
      rw [lcGo_succ, hat k]
      by_cases hlt : k < l.length
      · rw [List.getElem?_map, List.getElem?_eq_getElem hlt]
        obtain ⟨env', e1, e2, e3⟩ := hb l[k] (List.getElem_mem hlt)
        show (match setTg t (f l[k]) (wipe env own) with
          | none => Res.err
          | some env' => (evO call (.yes cond) env' st).bind fun b st2 => (match condOf b with
            | some true => (evE call elt env' st2).bind fun y st3 => (mat y st3).bind fun y st4 => .ok (some y) st4
            | some false => .ok none st2
            | none => .err)).bind _ = _
        rw [e1]
        have eo : evO call (.yes cond) env' st = .ok (some (.d (.bl (c l[k])))) st := by
          rw [evO]
          show (evE call cond env' st).bind _ = _
          rw [e2]
          rfl
        show ((evO call (.yes cond) env' st).bind _).bind _ = _
        rw [eo, List.drop_eq_getElem_cons hlt]
        cases hc : c l[k] with
        | true =>
          show ((evE call elt env' st).bind _).bind _ = _
          rw [e3 hc]
          show (lcGo _ its n (k + 1) st).bind _ = _
          rw [ih (k + 1) (by omega) (by omega), List.filter_cons, if_pos hc]
          rfl
        | false =>
          show (lcGo _ its n (k + 1) st).bind _ = _
          rw [ih (k + 1) (by omega) (by omega), List.filter_cons, if_neg (by rw [hc]; exact Bool.false_ne_true)]
          rfl
      · rw [List.getElem?_eq_none (by rw [List.length_map]; omega), List.drop_eq_nil_of_le (by omega)]
        rfl
  have e := key (its.size st + 1) 0 (by omega) (by omega)
  rw [List.drop_zero] at e
  show (lcGo _ its (its.size st + 1) 0 st).bind lcTmp = _
  refine (congrArg (fun r => Res.bind r lcTmp) e).trans ?_
  show (if ((l.filter c).map g).length ≤ big then Res.ok (Rv.tmp ((l.filter c).map g)) st else .err) = _
  rw [if_pos (by rw [List.length_map]; exact Nat.le_trans (List.length_filter_le _ _) hl)]
section
variable {pl : List (List Wd)} {nms : List Wd} (N : Nms nms) (hpl : ∀ path ∈ pl, PathOk nms fr path) (hlen : pl.length ≤ 1000) {a b : Wd} {p q : List Wd} (h1 : Rg nms a p) (h2 : Rg nms b q) {k i : Nat} {st : St} (hst : st.objs[i]? = some (.lst (pl.map tupS)))
include N hpl hlen h1 h2 hst
theorem m_linside : evFn fns (k + 6) F._law_inside [rt a p, rt b q, .ref i] st = .ok (.d (.bl (okI b a && (pl.filter (lmB p)).all (lmB q)))) st := by
  have g1 : ∀ n : Nat, evE (evFn fns n) (.cmp .notin (.sub (.var 1) (.cst (.int 0))) (.tup (.cons (.cst (.str [42])) (.cons (.sub (.var 0) (.cst (.int 0))) .nil)))) [some (rt a p), some (rt b q), some (.ref i), none] ⟨st.objs, st.objs.length⟩ = .ok (.d (.bl (!okI b a))) ⟨st.objs, st.objs.length⟩ := fun n => e_cmp (u := .d (.str b)) (v := .d (.tup [.str star, .str a])) (sub_rt (p := q) rfl).1 (e_tup2 rfl (sub_rt (p := p) rfl).1) notin_str2
  cases ho : okI b a with
  | false =>
    refine fn_ret0 (fn := ⟨3, 4, C._law_inside⟩) rfl rfl (take ((g1 _).trans (by rw [ho]; rfl)) (s_ret rfl)) rfl nofun
  | true =>
    refine fn_ret0 (fn := ⟨3, 4, C._law_inside⟩) rfl rfl ((skip ((g1 _).trans (by rw [ho]; rfl))).trans (s_ret (e_blt1 (v := .tmp ((pl.filter (lmB p)).map fun x => D.bl (lmB q x))) ?_ ?_))) rfl nofun
    · refine lc_filter (f := tupS) (its := .one (.live i)) (src_live (ds := pl.map tupS) rfl hst) (fun k => at_live hst) (by rw [size_live (s := ⟨st.objs, st.objs.length⟩) (ds := pl.map tupS) hst, List.length_map]; exact Nat.le_refl _) (by omega) fun path hp => ⟨_, rfl, ?_, fun _ => ?_⟩
      · exact e_call2 (d := tupS p) (e := tupS path) (sub_rt (a := a) rfl).2 (e_var rfl) (m_lm h1.pt.len (Nat.le_trans (hpl path hp).len (by decide)) (Over.ch N h1.over) (PathOk.ch N (hpl path hp)))
      · exact e_call2 (d := tupS q) (e := tupS path) (sub_rt (a := b) rfl).2 (e_var rfl) (m_lm h2.pt.len (Nat.le_trans (hpl path hp).len (by decide)) (Over.ch N h2.over) (PathOk.ch N (hpl path hp)))
    · rw [all_map, Bool.true_and]
end
/-! ### meets -/
theorem eqb_tups {l m : List (List Wd)} : D.eqbL (l.map tupS) (m.map tupS) = decide (l = m) := by
  have eb : ∀ {p q : List Wd}, D.eqbL (p.map D.str) (q.map D.str) = decide (p = q) := fun {p q} => by
    induction p generalizing q with
    | nil => cases q <;> rfl
    | cons a r ih =>
      cases q with
      | nil => rfl
      | cons b t =>
        show ((a == b) && D.eqbL (r.map D.str) (t.map D.str)) = _
        rw [ih, Bool.eq_iff_iff]
        simp
  induction l generalizing m with
  | nil => cases m <;> rfl
  | cons a r ih =>
    cases m with
    | nil => rfl
    | cons b t =>
      show (D.eqbL (a.map D.str) (b.map D.str) && D.eqbL (r.map tupS) (t.map tupS)) = _
      rw [ih, eb, Bool.eq_iff_iff]
      simp
theorem plain_tups {l : List (List Wd)} (h : ∀ p ∈ l, ∀ w ∈ p, ∀ c ∈ w, c < 55296) : plainAll (l.map tupS) = true := by
  have pl : ∀ {p : List Wd}, (∀ w ∈ p, ∀ c ∈ w, c < 55296) → (tupS p).plain 10 = true := fun {p} h => by
    show D.plainL 9 (p.map D.str) = true
    induction p with
    | nil => rfl
    | cons a r ih =>
      show ((a.all fun c => Nat.blt c 55296) && D.plainL 9 (r.map D.str)) = true
      rw [ih fun w hw => h w (List.mem_cons_of_mem _ hw), List.all_eq_true.mpr fun c hc => Nat.blt_eq.mpr (h a List.mem_cons_self c hc)]
      rfl
  show D.plainL 10 (l.map tupS) = true
  induction l with
  | nil => rfl
  | cons a r ih =>
    show ((tupS a).plain 10 && D.plainL 10 (r.map tupS)) = true
    rw [pl (h a List.mem_cons_self), ih fun p hp => h p (List.mem_cons_of_mem _ hp)]
    rfl
theorem eq_lists {st : St} {u v : Rv} {l m : List (List Wd)} (hu : listOf st u = some (l.map tupS)) (hv : listOf st v = some (m.map tupS)) (hl : ∀ p ∈ l, ∀ w ∈ p, ∀ c ∈ w, c < 55296) (hm : ∀ p ∈ m, ∀ w ∈ p, ∀ c ∈ w, c < 55296) : cmpR .eq st u v = some (decide (l = m)) := by
  show eqR st u v = _
  unfold eqR
  rw [hu, hv]
  show (if plainAll (l.map tupS) && plainAll (m.map tupS) then some (D.eqbL (l.map tupS) (m.map tupS)) else none) = _
  rw [plain_tups hl, plain_tups hm, eqb_tups]
  rfl
section
variable {pl : List (List Wd)} {nms : List Wd} (N : Nms nms) (hpl : ∀ path ∈ pl, PathOk nms fr path) (hfull : ∀ path, PathOk nms fr path → path ∈ pl) {a b : Wd} {p q : List Wd} (h1 : Rg nms a p) (h2 : Rg nms b q)
include N hpl hfull h1 h2
theorem com_none (hj : jpO p q = none) : pl.filter (fun path => lmB p path && lmB q path) = [] := by
  rw [List.filter_eq_nil_iff]
  intro path hp
  have := match_both (path := path) h1.pt h2.pt
  rw [hj] at this
  rw [lm_match h1.pt.ne h1.pt.first, lm_match h2.pt.ne h2.pt.first, ← this]
  exact Bool.false_ne_true
theorem com_some {r : List Wd} (hj : jpO p q = some r) : Pt r ∧ Over nms r ∧ pl.filter (fun path => lmB p path && lmB q path) = pl.filter (lmB r) ∧ pl.filter (lmB r) ≠ [] := by
  have J := (joins h1.pt h2.pt).2 r hj
  have hr : Pt r := J.1
  have ho : Over nms r := fun w hw => (J.2 w hw).elim (h1.over w) (h2.over w)
  refine ⟨hr, ho, List.filter_congr fun path _ => ?_, fun z => ?_⟩
  · have := match_both (path := path) h1.pt h2.pt
    rw [hj] at this
    rw [lm_match h1.pt.ne h1.pt.first, lm_match h2.pt.ne h2.pt.first, lm_match hr.ne hr.first]
    exact this.symm
  · obtain ⟨path, hp, hm⟩ := some_path (f := fr) hr ho
    rw [List.filter_eq_nil_iff] at z
    exact z path (hfull path hp) (by rw [lm_match hr.ne hr.first]; exact hm)
end
end LawX
namespace LawX
open Ev
theorem s_setx {call : Nat → List D → M Rv} {env : Env} {st st1 : St} {i : Nat} {a : E} {ss : Ss} {d : D} (h : evE call a env st = .ok (.d d) st1) : evSs call (.cons (.asg (.tg (.var i)) a) ss) env st = evSs call ss (env.set i (some d)) st1 := s_set h rfl
theorem up_get {l : List Ob} {o o' : Ob} {k : Nat} (h : l[k]? = some o) : (l ++ [o'])[k]? = some o := by
  rw [List.getElem?_append_left (List.getElem?_eq_some_iff.mp h).1]
  exact h
section
variable {pl : List (List Wd)} {nms : List Wd} (N : Nms nms) (hpl : ∀ path ∈ pl, PathOk nms fr path) (hfull : ∀ path, PathOk nms fr path → path ∈ pl) (hlen : pl.length ≤ 1000) {a b : Wd} {p q : List Wd} (h1 : Rg nms a p) (h2 : Rg nms b q) {k i : Nat} {st : St} (hst : st.objs[i]? = some (.lst (pl.map tupS)))
include N hpl hfull hlen h1 h2 hst
theorem m_lmeet : evFn fns (k + 6) F._law_meet_right [rt a p, rt b q, .ref i] st = .ok (.d (.bl true)) st := by
  let com := pl.filter (fun path => lmB p path && lmB q path)
  let S0 : St := ⟨st.objs, st.objs.length⟩
  let S1 : St := ⟨st.objs ++ [.lst (com.map tupS)], st.objs.length⟩
  let fd := optR (jO a p b q)
  let env : Env := [some (rt a p), some (rt b q), some (.ref i), some fd, some (.ref st.objs.length), none]
  have cpl : ∀ path ∈ pl, ∀ w ∈ path, ∀ c ∈ w, c < 55296 := fun path hp => PathOk.ch N (hpl path hp)
  have ccom : ∀ path ∈ com, ∀ w ∈ path, ∀ c ∈ w, c < 55296 := fun path hp => cpl path (List.mem_filter.mp hp).1
  have lmE : ∀ {r : List Wd} {s : St} {path : List Wd}, r.length ≤ 4 → (∀ w ∈ r, ∀ c ∈ w, c < 55296) → path ∈ pl → evFn fns (k + 5) F._law_matches [tupS r, tupS path] s = .ok (.d (.bl (lmB r path))) s := fun {r s path} hr cr hp => m_lm hr (Nat.le_trans (hpl path hp).len (by decide)) cr (cpl path hp)
  have start : ∀ ss, evSs (evFn fns (k + 5)) (.cons (.asg (.tg (.var 3)) (.call F.meet (.cons (.var 0) (.cons (.var 1) .nil)))) (.cons (.asg (.tg (.var 4)) (.lc [5] (.var 5) (.e (.var 2)) (.yes (.and (.call F._law_matches (.cons (.sub (.var 0) (.cst (.int 1))) (.cons (.var 5) .nil))) (.call F._law_matches (.cons (.sub (.var 1) (.cst (.int 1))) (.cons (.var 5) .nil))))) (.var 5))) ss)) [some (rt a p), some (rt b q), some (.ref i), none, none, none] S0 = evSs (evFn fns (k + 5)) ss env S1 := fun ss => by
    refine (s_setx (d := fd) (e_call2 (d := rt a p) (e := rt b q) (e_var rfl) (e_var rfl) (m_meet (Rg.ok N h1) (Rg.ok N h2)))).trans ?_
    refine s_setT (ds := com.map tupS) ?_
    refine lc_filter (f := tupS) (g := tupS) (its := .one (.live i)) (src_live (ds := pl.map tupS) rfl hst) (fun k => at_live hst) (by rw [size_live (s := S0) (ds := pl.map tupS) hst, List.length_map]; exact Nat.le_refl _) (by omega) fun path hp => ⟨_, rfl, ?_, fun _ => e_var rfl⟩
    exact e_and (e_call2 (d := tupS p) (e := tupS path) (sub_rt (a := a) rfl).2 (e_var rfl) (lmE h1.pt.len (Over.ch N h1.over) hp)) fun _ => e_call2 (d := tupS q) (e := tupS path) (sub_rt (a := b) rfl).2 (e_var rfl) (lmE h2.pt.len (Over.ch N h2.over) hp)
  have hcom : listOf S1 (.d (.ref st.objs.length)) = some (com.map tupS) := list_new
  have c1 : evE (evFn fns (k + 5)) (.cmp .eq (.var 4) (.lst .nil)) env S1 = .ok (.d (.bl (decide (com = [])))) S1 := e_cmp (u := .d (.ref st.objs.length)) (v := .tmp []) (e_var rfl) rfl (eq_lists (m := []) hcom rfl ccom (fun _ h => nomatch h))
  have c2 : evE (evFn fns (k + 5)) (.and (.cmp .ne (.sub (.var 0) (.cst (.int 0))) (.sub (.var 1) (.cst (.int 0)))) (.cmp .notin (.cst (.str [42])) (.tup (.cons (.sub (.var 0) (.cst (.int 0))) (.cons (.sub (.var 1) (.cst (.int 0))) .nil))))) env S1 = .ok (.d (.bl (clash a b))) S1 := by
    have e : clash a b = ((!(a == b)) && !(a == star || b == star)) := rfl
    rw [e]
    exact e_and (e_cmp (u := .d (.str a)) (v := .d (.str b)) (sub_rt (p := p) rfl).1 (sub_rt (p := q) rfl).1 ne_str) fun _ => e_cmp (u := .d (.str star)) (v := .d (.tup [.str a, .str b])) rfl (e_tup2 (sub_rt (p := p) rfl).1 (sub_rt (p := q) rfl).1) notin_str2
  have c3 : evE (evFn fns (k + 5)) (.or (.cmp .eq (.var 4) (.lst .nil)) (.and (.cmp .ne (.sub (.var 0) (.cst (.int 0))) (.sub (.var 1) (.cst (.int 0)))) (.cmp .notin (.cst (.str [42])) (.tup (.cons (.sub (.var 0) (.cst (.int 0))) (.cons (.sub (.var 1) (.cst (.int 0))) .nil)))))) env S1 = .ok (.d (.bl (decide (com = []) || clash a b))) S1 := e_or c1 fun _ => c2
  have fin : ∀ {bb : Bool}, evSs (evFn fns (k + 5)) C._law_meet_right [some (rt a p), some (rt b q), some (.ref i), none, none, none] S0 = .ok (.rt (.d (.bl bb))) S1 → evFn fns (k + 6) F._law_meet_right [rt a p, rt b q, .ref i] st = .ok (.d (.bl bb)) st := fun {bb} h => fn_ret (fn := ⟨3, 6, C._law_meet_right⟩) rfl rfl h rfl nofun
  refine fin ?_
  by_cases hc : clash a b = true
  · have hj : fd = .non := by
      show optR (jO a p b q) = _
      unfold jO
      rw [if_pos hc]
      rfl
    refine (start _).trans (take (c3.trans (by rw [hc, Bool.or_true])) (s_ret ?_))
    refine (e_isn (d := fd) (e_var rfl)).trans ?_
    rw [hj]
    rfl
  · have hc : clash a b = false := by simpa using hc
    cases hj : jpO p q with
    | none =>
      have hn := com_none N hpl hfull h1 h2 hj
      have hf : fd = .non := by
        show optR (jO a p b q) = _
        unfold jO
        rw [if_neg (by rw [hc]; exact Bool.false_ne_true), hj]
        rfl
      refine (start _).trans (take (c3.trans (by rw [show com = [] from hn]; rfl)) (s_ret ?_))
      refine (e_isn (d := fd) (e_var rfl)).trans ?_
      rw [hf]
      rfl
    | some r =>
      obtain ⟨hr, ho, hcm, hne⟩ := com_some N hpl hfull h1 h2 hj
      have hcne : com ≠ [] := fun z => hne (hcm.symm.trans z)
      have hf : fd = rt (pick a b) r := by
        show optR (jO a p b q) = _
        unfold jO
        rw [if_neg (by rw [hc]; exact Bool.false_ne_true), hj]
        rfl
      have gv : getV env 3 = some (rt (pick a b) r) := by
        show some fd = _
        rw [hf]
      refine (start _).trans ((skip (c3.trans (by rw [decide_eq_false hcne, hc]; rfl))).trans ((skip (a := .or (.isn false (.var 3)) (.cmp .ne (.sub (.var 3) (.cst (.int 0))) (.ite (.cmp .eq (.sub (.var 0) (.cst (.int 0))) (.cst (.str [42]))) (.sub (.var 1) (.cst (.int 0))) (.sub (.var 0) (.cst (.int 0)))))) ?_).trans (s_ret ?_)))
      · have hite : evE (evFn fns (k + 5)) (.ite (.cmp .eq (.sub (.var 0) (.cst (.int 0))) (.cst (.str [42]))) (.sub (.var 1) (.cst (.int 0))) (.sub (.var 0) (.cst (.int 0)))) env S1 = .ok (.d (.str (pick a b))) S1 := by
          refine e_ite (x := a == star) (e_cmp (u := .d (.str a)) (v := .d (.str star)) (sub_rt (p := p) rfl).1 rfl eq_str) ?_
          unfold pick
          cases a == star with
          | true => exact (sub_rt (p := q) rfl).1
          | false => exact (sub_rt (p := p) rfl).1
        have h := e_or (e_isn (ng := false) (call := evFn fns (k + 5)) (st := S1) (e_var gv)) fun _ => e_cmp (op := .ne) (u := .d (.str (pick a b))) (v := .d (.str (pick a b))) (sub_rt gv).1 hite ne_str
        refine h.trans ?_
        have e : (isnB false (rt (pick a b) r) || !(pick a b == pick a b)) = false := by simp [isnB]
        rw [e]
      · have hst1 : S1.objs[i]? = some (.lst (pl.map tupS)) := up_get hst
        have e1 : evE (evFn fns (k + 5)) (.lc [5] (.var 5) (.e (.var 2)) (.yes (.call F._law_matches (.cons (.sub (.var 3) (.cst (.int 1))) (.cons (.var 5) .nil)))) (.var 5)) env S1 = .ok (.tmp ((pl.filter (lmB r)).map tupS)) S1 := by
          refine lc_filter (f := tupS) (g := tupS) (its := .one (.live i)) (src_live (ds := pl.map tupS) rfl hst1) (fun k => at_live hst1) (by rw [size_live (s := S1) (ds := pl.map tupS) hst1, List.length_map]; exact Nat.le_refl _) (by omega) fun path hp => ⟨[some (rt a p), some (rt b q), some (.ref i), some fd, some (.ref st.objs.length), some (tupS path)], rfl, ?_, fun _ => e_var rfl⟩
          exact e_call2 (d := tupS r) (e := tupS path) (sub_rt (a := pick a b) (by show some fd = _; rw [hf])).2 (e_var rfl) (lmE hr.len (Over.ch N ho) hp)
        refine (e_cmp (u := .tmp ((pl.filter (lmB r)).map tupS)) (v := .d (.ref st.objs.length)) e1 (e_var rfl) (eq_lists rfl hcom (fun path hp => cpl path (List.mem_filter.mp hp).1) ccom)).trans ?_
        rw [decide_eq_true (show pl.filter (lmB r) = com from hcm.symm)]
end
end LawX
namespace LawX
open Ev
/-! ### lists of whole numbers -/
theorem lowL_ints {l : List Int} {b : Nat} : D.lowL b (l.map D.int) = true := by
  induction l with
  | nil => rfl
  | cons a r ih => show (true && D.lowL b (r.map D.int)) = true; rw [ih]; rfl
theorem plain_ints {l : List Int} : plainAll (l.map D.int) = true := by
  show D.plainL 10 (l.map D.int) = true
  induction l with
  | nil => rfl
  | cons a r ih => show (true && D.plainL 10 (r.map D.int)) = true; rw [ih]; rfl
theorem ne_nil {st : St} {i : Nat} {l : List Int} (h : st.objs[i]? = some (.lst (l.map D.int))) : cmpR .ne st (.d (.ref i)) (.tmp []) = some (!l.isEmpty) := by
  show (eqR st (.d (.ref i)) (.tmp [])).map (!·) = _
  unfold eqR
  rw [listOf_ref h]
  show (if plainAll (l.map D.int) && plainAll [] then some (D.eqbL (l.map D.int) []) else none).map (!·) = _
  rw [plain_ints]
  cases l <;> rfl
theorem set_same {l : List Ob} {i : Nat} {o : Ob} (h : l[i]? = some o) : l.set i o = l := by
  obtain ⟨hi, e⟩ := List.getElem?_eq_some_iff.mp h
  rw [← e, List.set_getElem_self]
theorem put_ints {s : St} {p : Nat} {l : List Int} : put p (.lst (l.map D.int)) s = .ok () ⟨s.objs.set p (.lst (l.map D.int)), s.dirty⟩ := by
  show Res.ok () (St.mk (s.objs.set p (.lst (l.map D.int))) (if D.lowL (p + 1) (l.map D.int) then s.dirty else min s.dirty p)) = _
  rw [lowL_ints]
  rfl
theorem e_pop0 {call : Nat → List D → M Rv} {env : Env} {st : St} {v i : Nat} {x : Int} {t : List Int} (hv : getV env v = some (.ref i)) (h : st.objs[i]? = some (.lst ((x :: t).map D.int))) (hl : (x :: t).length ≤ 100000) : evE call (.pop (.var v) (.cst (.int 0))) env st = .ok (.d (.int x)) ⟨st.objs.set i (.lst (t.map D.int)), st.dirty⟩ := by
  rw [evE]
  show (evE call (.var v) env st).bind _ = _
  rw [e_var hv]
  show (match mutOf st (.d (.ref i)) with
    | some _ => (Res.ok (Rv.d (.int 0)) st).bind fun y st2 => (match mutOf st2 (.d (.ref i)), y with
      | some (p, ds), .d (.int k) => if ds.length ≤ big then (match ixN ds.length k with
        | some j => (match ds[j]? with
          | some d => (put p (Ob.lst (ds.eraseIdx j)) st2).bind fun _ st3 => .ok (Rv.d d) st3
          | none => .err)
        | none => .err) else .err
      | _, _ => .err)
    | none => .err) = _
  rw [mutOf_ref h]
  show (match mutOf st (.d (.ref i)), Rv.d (D.int 0) with
      | some (p, ds), .d (.int k) => if ds.length ≤ big then (match ixN ds.length k with
        | some j => (match ds[j]? with
          | some d => (put p (Ob.lst (ds.eraseIdx j)) st).bind fun _ st3 => .ok (Rv.d d) st3
          | none => .err)
        | none => .err) else .err
      | _, _ => Res.err) = _
  rw [mutOf_ref h]
  show (if ((x :: t).map D.int).length ≤ big then (match ixN ((x :: t).map D.int).length 0 with
        | some j => (match ((x :: t).map D.int)[j]? with
          | some d => (put i (Ob.lst (((x :: t).map D.int).eraseIdx j)) st).bind fun _ st3 => .ok (Rv.d d) st3
          | none => .err)
        | none => .err) else Res.err) = _
  rw [if_pos (by rw [List.length_map]; exact hl)]
  have e : ixN ((x :: t).map D.int).length 0 = some 0 := by
    unfold ixN
    rw [if_pos (by decide), if_pos (by simp only [List.length_map, List.length_cons]; omega)]
    rfl
  rw [e]
  show (put i (Ob.lst (t.map D.int)) st).bind _ = _
  rw [put_ints]
  rfl
theorem e_itex {call : Nat → List D → M Rv} {env : Env} {st st1 st' : St} {c a b : E} {x : Bool} {r : Rv} (hc : evE call c env st = .ok (.d (.bl x)) st1) (h : evE call (if x then a else b) env st1 = .ok r st') : evE call (.ite c a b) env st = .ok r st' := by
  rw [evE]
  show (evE call c env st).bind _ = _
  rw [hc]
  cases x <;> exact h
theorem m_take {l : List Int} {m : Int} {k i : Nat} {st : St} (hm : 0 < m) (hl : l.length ≤ 1000) (hi : st.objs[i]? = some (.lst (l.map D.int))) : ∃ v, 0 ≤ v ∧ v < m ∧ evFn fns (k + 1) F._law_take [.ref i, .int m] st = .ok (.d (.int v)) ⟨st.objs.set i (.lst (l.tail.map D.int)), st.dirty⟩ := by
  have c : evE (evFn fns k) (.cmp .ne (.var 0) (.lst .nil)) [some (.ref i), some (.int m)] ⟨st.objs, st.objs.length⟩ = .ok (.d (.bl (!l.isEmpty))) ⟨st.objs, st.objs.length⟩ := e_cmp (u := .d (.ref i)) (v := .tmp []) (e_var rfl) rfl (ne_nil (st := ⟨st.objs, st.objs.length⟩) hi)
  cases l with
  | nil =>
    refine ⟨0, by decide, hm, ?_⟩
    rw [evFn_succ (fn := ⟨2, 2, C._law_take⟩) rfl rfl]
    have e : evSs (evFn fns k) C._law_take [some (.ref i), some (.int m)] ⟨st.objs, st.objs.length⟩ = .ok (.rt (.d (.int 0))) ⟨st.objs, st.objs.length⟩ := s_ret (e_ite (x := false) c rfl)
    show (evSs (evFn fns k) C._law_take [some (.ref i), some (.int m)] ⟨st.objs, st.objs.length⟩).bind _ = _
    rw [e]
    show finish st.objs.length st.dirty (.d (.int 0)) ⟨st.objs, st.objs.length⟩ = _
    rw [finish_gen (d := .int 0) (Nat.le_refl _) rfl nofun, List.take_of_length_le (Nat.le_refl _)]
    congr 2
    exact (set_same hi).symm
  | cons x t =>
    refine ⟨x % m, Int.emod_nonneg _ (by omega), Int.emod_lt_of_pos _ hm, ?_⟩
    rw [evFn_succ (fn := ⟨2, 2, C._law_take⟩) rfl rfl]
    have e : evSs (evFn fns k) C._law_take [some (.ref i), some (.int m)] ⟨st.objs, st.objs.length⟩ = .ok (.rt (.d (.int (x % m)))) ⟨st.objs.set i (.lst (t.map D.int)), st.objs.length⟩ :=
      s_ret (e_ite (x := true) c (e_binx (u := .d (.int x)) (v := .d (.int m)) (e_pop0 (st := ⟨st.objs, st.objs.length⟩) rfl hi (by omega)) (e_var rfl) (b_mod hm)))
    show (evSs (evFn fns k) C._law_take [some (.ref i), some (.int m)] ⟨st.objs, st.objs.length⟩).bind _ = _
    rw [e]
    show finish st.objs.length st.dirty (.d (.int (x % m))) ⟨st.objs.set i (.lst (t.map D.int)), st.objs.length⟩ = _
    rw [finish_gen (d := .int (x % m)) (Nat.le_refl _) rfl nofun, List.take_of_length_le (by rw [List.length_set]; exact Nat.le_refl _)]
    rfl
/-! ### cells -/
theorem ints_back {l : List Int} : intsD (l.map D.int) = some l := by
  induction l with
  | nil => rfl
  | cons a r ih => show (intsD (r.map D.int)).map (a :: ·) = _; rw [ih]; rfl
theorem m_cell {ns : List Int} {r k j : Nat} {st : St} (hn : ns.length ≤ 1000) (hj : st.objs[j]? = some (.lst (ns.map D.int))) : ∃ v, 0 ≤ v ∧ evFn fns (k + 2) F._law_cell_at [.ref j, .int r] st = .ok (.d (.int v)) st := by
  let S : St := ⟨st.objs, st.objs.length⟩
  have hjS : S.objs[j]? = some (.lst (ns.map D.int)) := hj
  have hlen : evE (evFn fns (k + 1)) (.blt .len (.cons (.var 0) .nil)) [some (.ref j), some (.int r)] S = .ok (.d (.int ns.length)) S := by
    refine e_blt1 (v := .d (.ref j)) (e_var rfl) ?_
    show lenB S (.d (.ref j)) = _
    unfold lenB lenR
    simp only [listOf_ref hjS, Option.map_some, List.length_map]
    rw [if_pos (decide_eq_true (show _ ≤ big by show _ ≤ 100000; omega))]
  have hc : evE (evFn fns (k + 1)) (.cmp .lt (.var 1) (.blt .len (.cons (.var 0) .nil))) [some (.ref j), some (.int r)] S = .ok (.d (.bl (decide (r < ns.length)))) S := by
    refine e_cmp (u := .d (.int r)) (v := .d (.int ns.length)) (e_var rfl) hlen ?_
    show some (decide ((r : Int) < (ns.length : Int))) = _
    congr 1
    exact decide_eq_decide.mpr (by omega)
  by_cases h : r < ns.length
  · rw [decide_eq_true h] at hc
    refine ⟨if ns[r] < 0 then -ns[r] else ns[r], by split <;> omega, fn_ret0 (fn := ⟨2, 2, C._law_cell_at⟩) rfl rfl (take hc (s_ret (e_blt1 (v := .d (.int ns[r])) (e_sub (u := .d (.ref j)) (v := .d (.int r)) (e_var rfl) (e_var rfl) ?_) rfl))) rfl nofun⟩
    rw [sub_ref (st := S) hjS (by rw [List.length_map]; omega), List.getElem?_map, List.getElem?_eq_getElem h]
    rfl
  · rw [decide_eq_false h] at hc
    let A : Int := if ns.sum < 0 then -ns.sum else ns.sum
    obtain ⟨v, v0, v1, ev⟩ := m_draw (cell := A + 7919 * (r : Int)) (r := r) (b := 999983) (k := k) (st := S) (by decide)
    refine ⟨v, v0, fn_ret0 (fn := ⟨2, 2, C._law_cell_at⟩) rfl rfl ((skip hc).trans (s_ret (e_call3 (x := .int (A + 7919 * (r : Int))) (y := .int r) (z := .int 999983) ?_ (e_var rfl) rfl ev))) rfl nofun⟩
    refine e_bin (u := .d (.int A)) (v := .d (.int (7919 * (r : Int)))) (e_blt1 (v := .d (.int ns.sum)) (e_blt1 (v := .d (.ref j)) (e_var rfl) ?_) rfl) (e_bin (u := .d (.int 7919)) (v := .d (.int r)) rfl (e_var rfl) (b_mul (.inl (small_of (by decide) (by decide))))) b_add
    show sumB S (.d (.ref j)) = _
    unfold sumB
    rw [listOf_ref hjS]
    show (intsD (ns.map D.int)).map _ = _
    rw [ints_back]
    rfl
end LawX
namespace LawX
open Ev
/-! ### digits -/
abbrev P18 : Int := 10 ^ 18
abbrev envD (j a : Nat) (m bs lf : Int) (o5 : Option D) (c : Int) (n : Nat) (o8 o9 : Option D) : Env := [some (.ref j), some (.int a), some (.int m), some (.int bs), some (.int lf), o5, some (.int c), some (.ref n), o8, o9]
abbrev BODY_D : Ss := (.cons (.if_ (.cmp .ge (.var 6) (.bin .pow (.cst (.int 10)) (.cst (.int 18)))) (.cons (.append (.var 7) (.bin .mod (.var 4) (.var 3))) (.cons (.asg (.tg (.var 4)) (.bin .fdiv (.var 4) (.var 3))) .nil)) (.cons (.asg (.tg (.var 8)) (.call F._law_draw (.cons (.bin .mul (.bin .add (.var 6) (.bin .mul (.cst (.int 977)) (.var 5))) (.bin .add (.bin .add (.var 6) (.bin .mul (.cst (.int 31)) (.var 5))) (.cst (.int 5)))) (.cons (.bin .add (.bin .mod (.var 5) (.cst (.int 9))) (.cst (.int 1))) (.cons (.cst (.int 999983)) .nil))))) (.cons (.asg (.tg (.var 9)) (.call F._law_draw (.cons (.bin .add (.bin .mul (.bin .add (.var 6) (.bin .mul (.cst (.int 31)) (.var 5))) (.bin .add (.var 6) (.cst (.int 7)))) (.bin .mul (.cst (.int 977)) (.var 5))) (.cons (.bin .add (.bin .mod (.var 5) (.cst (.int 7))) (.cst (.int 2))) (.cons (.cst (.int 1000003)) .nil))))) (.cons (.append (.var 7) (.bin .mod (.bin .add (.bin .mul (.var 8) (.cst (.int 1000003))) (.var 9)) (.var 3))) .nil)))) .nil)
theorem small_big {i : Int} (h : 0 ≤ i) (h' : i ≤ 2000000000000000000) : smallI i = true := by
  unfold smallI two64
  rw [Bool.and_eq_true, decide_eq_true_eq, decide_eq_true_eq]
  omega
theorem e_pow {call : Nat → List D → M Rv} {env : Env} {st : St} : evE call (.bin .pow (.cst (.int 10)) (.cst (.int 18))) env st = .ok (.d (.int P18)) st := rfl
theorem mod_nat {st : St} {t m : Nat} (h : 0 < m) : binR .mod st (.d (.int t)) (.d (.int m)) = some (.d (.int ((t % m : Nat) : Int))) := by
  rw [b_mod (by omega)]
  rfl
section
variable {j a : Nat} {m bs c : Int} {n : Nat} {k t : Nat} {objs : List Ob} {dd : Nat} (hb : 0 < bs) (hb' : bs ≤ 2000000) (hc : 0 ≤ c) (ht : t ≤ 1000)
include hb hb' hc ht
theorem body_d {lf : Int} {l : List Int} {o8 o9 : Option D} (hl : l.length ≤ 1000) : ∃ lf' o8' o9' x, evSs (evFn fns (k + 1)) BODY_D (envD j a m bs lf (some (.int t)) c objs.length o8 o9) ⟨objs ++ [.lst (l.map D.int)], dd⟩ = .ok (.nx (envD j a m bs lf' (some (.int t)) c objs.length o8' o9')) ⟨objs ++ [.lst ((l ++ [x]).map D.int)], dd⟩ := by
  have eg : ∀ {env : Env} {st : St}, getV env 6 = some (.int c) → evE (evFn fns (k + 1)) (.cmp .ge (.var 6) (.bin .pow (.cst (.int 10)) (.cst (.int 18)))) env st = .ok (.d (.bl (decide (P18 ≤ c)))) st := fun {env st} h => e_cmp (u := .d (.int c)) (v := .d (.int P18)) (e_var h) e_pow rfl
  have em : ∀ {x : Int}, (l ++ [x]).map D.int = l.map D.int ++ [D.int x] := by simp
  have lw : ∀ {x : Int} {b : Nat}, D.lowL b (l.map D.int ++ [D.int x]) = true := fun {x b} => by rw [← em]; exact lowL_ints
  by_cases hg : P18 ≤ c
  · refine ⟨lf / bs, o8, o9, lf % bs, (s_ifx (x := true) ((eg rfl).trans (by rw [decide_eq_true hg])) ?_).trans rfl⟩
    show evSs (evFn fns (k + 1)) (.cons (.append (.var 7) (.bin .mod (.var 4) (.var 3))) (.cons (.asg (.tg (.var 4)) (.bin .fdiv (.var 4) (.var 3))) .nil)) _ _ = _
    refine (s_append (d := .int (lf % bs)) rfl (e_bin (u := .d (.int lf)) (v := .d (.int bs)) (e_var rfl) (e_var rfl) (b_mod hb)) (by rw [List.length_map]; omega) lw).trans ?_
    rw [← em]
    refine (s_setx (d := .int (lf / bs)) (e_bin (u := .d (.int lf)) (v := .d (.int bs)) (e_var rfl) (e_var rfl) (b_fdiv hb ?_))).trans rfl
    calc bs.natAbs ≤ 2000000 := by omega
      _ < 2 ^ 21 := by decide
      _ ≤ 2 ^ 8000 := Nat.pow_le_pow_right (by decide) (by decide)
  · have hlt : c < P18 := by omega
    have hP : P18 = 1000000000000000000 := by decide
    let S : St := ⟨objs ++ [.lst (l.map D.int)], dd⟩
    obtain ⟨v, v0, v1, ev⟩ := m_draw (cell := (c + 977 * (t : Int)) * (c + 31 * (t : Int) + 5)) (r := t % 9 + 1) (b := 999983) (k := k) (st := S) (by decide)
    obtain ⟨w, w0, w1, ew⟩ := m_draw (cell := (c + 31 * (t : Int)) * (c + 7) + 977 * (t : Int)) (r := t % 7 + 2) (b := 1000003) (k := k) (st := S) (by decide)
    refine ⟨lf, some (.int v), some (.int w), (v * 1000003 + w) % bs, (s_ifx (x := false) ((eg rfl).trans (by rw [decide_eq_false hg])) ?_).trans rfl⟩
    have e977 : ∀ {env : Env}, getV env 5 = some (.int t) → evE (evFn fns (k + 1)) (.bin .mul (.cst (.int 977)) (.var 5)) env S = .ok (.d (.int (977 * (t : Int)))) S := fun {env} h => e_bin (u := .d (.int 977)) (v := .d (.int t)) rfl (e_var h) (b_mul (.inl (small_of (by decide) (by decide))))
    have e31 : ∀ {env : Env}, getV env 5 = some (.int t) → evE (evFn fns (k + 1)) (.bin .mul (.cst (.int 31)) (.var 5)) env S = .ok (.d (.int (31 * (t : Int)))) S := fun {env} h => e_bin (u := .d (.int 31)) (v := .d (.int t)) rfl (e_var h) (b_mul (.inl (small_of (by decide) (by decide))))
    refine (s_setx (d := .int v) (st1 := S) (e_call3 (x := .int ((c + 977 * (t : Int)) * (c + 31 * (t : Int) + 5))) (y := .int ((t % 9 + 1 : Nat) : Int)) (z := .int 999983) ?_ ?_ rfl ev)).trans ((s_setx (d := .int w) (st1 := S) (e_call3 (x := .int ((c + 31 * (t : Int)) * (c + 7) + 977 * (t : Int))) (y := .int ((t % 7 + 2 : Nat) : Int)) (z := .int 1000003) ?_ ?_ rfl ew)).trans ?_)
    · refine e_bin (u := .d (.int (c + 977 * (t : Int)))) (v := .d (.int (c + 31 * (t : Int) + 5))) (e_bin (u := .d (.int c)) (v := .d (.int (977 * (t : Int)))) (e_var rfl) (e977 rfl) b_add) (e_bin (u := .d (.int (c + 31 * (t : Int)))) (v := .d (.int 5)) (e_bin (u := .d (.int c)) (v := .d (.int (31 * (t : Int)))) (e_var rfl) (e31 rfl) b_add) rfl b_add) (b_mul (.inl (small_big (by omega) (by omega))))
    · exact e_bin (u := .d (.int ((t % 9 : Nat) : Int))) (v := .d (.int 1)) (e_bin (u := .d (.int t)) (v := .d (.int ((9 : Nat) : Int))) (e_var rfl) rfl (mod_nat (by decide))) rfl rfl
    · refine e_bin (u := .d (.int ((c + 31 * (t : Int)) * (c + 7)))) (v := .d (.int (977 * (t : Int)))) (e_bin (u := .d (.int (c + 31 * (t : Int)))) (v := .d (.int (c + 7))) (e_bin (u := .d (.int c)) (v := .d (.int (31 * (t : Int)))) (e_var rfl) (e31 rfl) b_add) (e_bin (u := .d (.int c)) (v := .d (.int 7)) (e_var rfl) rfl b_add) (b_mul (.inl (small_big (by omega) (by omega))))) (e977 rfl) b_add
    · exact e_bin (u := .d (.int ((t % 7 : Nat) : Int))) (v := .d (.int 2)) (e_bin (u := .d (.int t)) (v := .d (.int ((7 : Nat) : Int))) (e_var rfl) rfl (mod_nat (by decide))) rfl rfl
    · refine (s_append (d := .int ((v * 1000003 + w) % bs)) rfl (e_bin (u := .d (.int (v * 1000003 + w))) (v := .d (.int bs)) (e_bin (u := .d (.int (v * 1000003))) (v := .d (.int w)) (e_bin (u := .d (.int v)) (v := .d (.int 1000003)) (e_var rfl) rfl (b_mul (.inr (small_of (by decide) (by decide))))) (e_var rfl) b_add) (e_var rfl) (b_mod hb)) (by rw [List.length_map]; omega) lw).trans ?_
      rw [← em]
      rfl
end
theorem m_digits {ns : List Int} {j a : Nat} {bs : Int} {k : Nat} {st : St} (hn : ns.length ≤ 1000) (hj : st.objs[j]? = some (.lst (ns.map D.int))) (hb : 0 < bs) (hb' : bs ≤ 2000000) : ∃ l : List Int, l.length = 150 ∧ evFn fns (k + 3) F._law_digits [.ref j, .int a, .int 150, .int bs] st = .ok (.tmp (l.map D.int)) st := by
  obtain ⟨c, c0, ec⟩ := m_cell (ns := ns) (r := a) (k := k) (st := ⟨st.objs, st.objs.length⟩) hn hj
  let S1 : St := ⟨st.objs ++ [.lst []], st.objs.length⟩
  let I : Nat → Env → St → Prop := fun t env s => (∃ lf o5 o8 o9, env = envD j a 150 bs lf o5 c st.objs.length o8 o9) ∧ ∃ l : List Int, l.length = t ∧ s = ⟨st.objs ++ [.lst (l.map D.int)], st.objs.length⟩
  have hat : (List.range 150).length = 150 := List.length_range
  have key := for_gen (t := .var 5) (body := evSs (evFn fns (k + 2)) BODY_D) (its := .fix ((List.range 150).map fun k : Nat => D.int (k : Int))) (ds := (List.range 150).map fun k : Nat => D.int (k : Int)) I (fun _ _ => False) (fun _ _ _ _ => rfl) ?_ (150 + 1) 0 (envD j a 150 bs (c - P18) none c st.objs.length none none) S1 ⟨⟨_, _, _, _, rfl⟩, [], rfl, rfl⟩ (Nat.zero_le _) (by rw [List.length_map, List.length_range]; decide)
  · rcases key with ⟨env', s', e, ⟨lf, o5, o8, o9, rfl⟩, l, hl, rfl⟩ | ⟨v, st', e, f⟩
    · rw [List.length_map, List.length_range] at hl
      refine ⟨l, hl, ?_⟩
      rw [evFn_succ (fn := ⟨4, 10, C._law_digits⟩) rfl rfl]
      have e1 : evSs (evFn fns (k + 2)) C._law_digits [some (.ref j), some (.int a), some (.int 150), some (.int bs), none, none, none, none, none, none] ⟨st.objs, st.objs.length⟩ = .ok (.rt (.d (.ref st.objs.length))) ⟨st.objs ++ [.lst (l.map D.int)], st.objs.length⟩ := by
        refine (s_par2 (u := .d (.int c)) (d := .int c) (v := .tmp []) (e := .ref st.objs.length) (st1 := ⟨st.objs, st.objs.length⟩) (st2 := ⟨st.objs, st.objs.length⟩) (st3 := ⟨st.objs, st.objs.length⟩) (st4 := S1) (e_call2 (d := .ref j) (e := .int a) (e_var rfl) (e_var rfl) ec) rfl rfl rfl).trans ?_
        refine (s_setx (d := .int (c - P18)) (st1 := S1) (e_bin (u := .d (.int c)) (v := .d (.int P18)) (e_var rfl) e_pow b_sub)).trans ?_
        refine (s_for (its := .fix ((List.range 150).map fun k : Nat => D.int (k : Int))) (st1 := S1) (src_rng1 (n := 150) (e_var rfl) (by decide))).trans ?_
        have hsz : (Its.fix ((List.range 150).map fun k : Nat => D.int (k : Int))).size S1 = 150 := by
          show ((List.range 150).map fun k : Nat => D.int (k : Int)).length = _
          rw [List.length_map, List.length_range]
        rw [hsz]
        refine (congrArg (fun r => Res.bind r _) e).trans ?_
        show evSs (evFn fns (k + 2)) (.cons (.ret (.var 7)) .nil) (envD j a 150 bs lf o5 c st.objs.length o8 o9) ⟨st.objs ++ [.lst (l.map D.int)], st.objs.length⟩ = _
        exact s_ret (e_var rfl)
      show (evSs (evFn fns (k + 2)) C._law_digits _ _).bind _ = _
      refine (congrArg (fun r => Res.bind r _) e1).trans ?_
      exact finish_new lowL_ints
    · exact f.elim
  · intro t env s d hI hd
    obtain ⟨⟨lf, o5, o8, o9, rfl⟩, l, hl, rfl⟩ := hI
    rw [List.getElem?_map] at hd
    obtain ⟨t', ht', rfl⟩ := Option.map_eq_some_iff.mp hd
    obtain ⟨h1, h2⟩ := List.getElem?_eq_some_iff.mp ht'
    rw [List.length_range] at h1
    rw [List.getElem_range] at h2
    subst h2
    obtain ⟨lf', o8', o9', x, e⟩ := body_d (j := j) (a := a) (m := 150) (k := k + 1) (t := t) (objs := st.objs) (dd := st.objs.length) hb hb' c0 (by omega) (lf := lf) (l := l) (o8 := o8) (o9 := o9) (by omega)
    refine ⟨_, rfl, .inl ⟨_, _, e, ⟨_, _, _, _, rfl⟩, l ++ [x], by rw [List.length_append, hl]; rfl, rfl⟩⟩
/-! ### the pool -/
theorem own_ref {st : St} {i : Nat} {ds : List D} (h : st.objs[i]? = some (.lst ds)) : ownL st (.d (.ref i)) = some ds := by
  show (match st.objs[i]? with | some (.lst ds) => some ds | none => none) = _
  rw [h]
theorem add_lists {st : St} {i : Nat} {l m : List Int} (h : st.objs[i]? = some (.lst (l.map D.int))) (hl : l.length + m.length ≤ 100000) : binR .add st (.d (.ref i)) (.tmp (m.map D.int)) = some (.tmp ((l ++ m).map D.int)) := by
  show (match ownL st (.d (.ref i)), ownL st (.tmp (m.map D.int)) with
    | some x, some y => if decide (x.length + y.length ≤ big) then some (Rv.tmp (x ++ y)) else none
    | _, _ => none) = _
  rw [own_ref h]
  show (if decide ((l.map D.int).length + (m.map D.int).length ≤ big) then some (Rv.tmp (l.map D.int ++ m.map D.int)) else none) = _
  rw [if_pos (decide_eq_true (by rw [List.length_map, List.length_map]; exact hl)), List.map_append]
theorem e_call4 {call : Nat → List D → M Rv} {env : Env} {st st' : St} {a b c e : E} {f : Nat} {x y z w : D} {r : Rv} (ha : evE call a env st = .ok (.d x) st) (hb : evE call b env st = .ok (.d y) st) (hc : evE call c env st = .ok (.d z) st) (he : evE call e env st = .ok (.d w) st) (h : call f [x, y, z, w] st = .ok r st') : evE call (.call f (.cons a (.cons b (.cons c (.cons e .nil))))) env st = .ok r st' := by
  simp only [evE, evA, ha, hb, hc, he, bind_ok, mat_d]
  exact h
theorem finish_ref {st : St} {objs : List Ob} {i : Nat} {ds : List D} {new : List Ob} (hi : st.objs.length ≤ i) (h : (st.objs ++ new)[i]? = some (.lst ds)) (hl : D.lowL st.objs.length ds = true) : finish st.objs.length st.dirty (.d (.ref i)) ⟨st.objs ++ new, st.objs.length⟩ = .ok (.tmp ds) st := by
  unfold finish
  rw [if_neg (Nat.lt_irrefl _)]
  have h1 : ¬ i < st.objs.length := by omega
  simp only [h1, if_false, h, hl, if_true]
  simp
abbrev basesD : List D := [.int 1000003, .int 999983]
abbrev BODY_P : Ss := (.cons (.asg (.tg (.var 2)) (.bin .add (.var 2) (.call F._law_digits (.cons (.var 0) (.cons (.var 3) (.cons (.cst (.int 150)) (.cons (.var 4) .nil))))))) .nil)
theorem m_pool {ns : List Int} {j : Nat} {k : Nat} {st : St} (hn : ns.length ≤ 1000) (hj : st.objs[j]? = some (.lst (ns.map D.int))) : ∃ l : List Int, l.length = 300 ∧ evFn fns (k + 4) F._law_pool [.ref j, .tup basesD] st = .ok (.tmp (l.map D.int)) st := by
  let S1 : St := ⟨st.objs ++ [.lst []], st.objs.length⟩
  let ds : List D := [.tup [.int 0, .int 1000003], .tup [.int 1, .int 999983]]
  let I : Nat → Env → St → Prop := fun t env s => ∃ i o3 o4 new, env = [some (.ref j), some (.tup basesD), some (.ref i), o3, o4] ∧ s = ⟨st.objs ++ new, st.objs.length⟩ ∧ st.objs.length ≤ i ∧ ∃ l : List Int, l.length = 150 * t ∧ (st.objs ++ new)[i]? = some (.lst (l.map D.int))
  have hatE : ∀ (q : Nat) (s : St), (Its.enum (.tup basesD)).at s q = some ds[q]? := fun q s => by
    match q with
    | 0 => rfl
    | 1 => rfl
    | q + 2 => rfl
  have key := for_gen (t := .tup [3, 4]) (body := evSs (evFn fns (k + 3)) BODY_P) (its := .enum (.tup basesD)) (ds := ds) I (fun _ _ => False) (fun q _ s _ => hatE q s) ?_ 3 0 [some (.ref j), some (.tup basesD), some (.ref st.objs.length), none, none] S1 ⟨_, _, _, [.lst []], rfl, rfl, Nat.le_refl _, [], rfl, get_new⟩ (Nat.zero_le _) (by decide)
  · rcases key with ⟨env', s', e, i, o3, o4, new, rfl, rfl, hi, l, hl, hget⟩ | ⟨v, st', e, f⟩
    · refine ⟨l, hl, ?_⟩
      rw [evFn_succ (fn := ⟨2, 5, C._law_pool⟩) rfl rfl]
      have e1 : evSs (evFn fns (k + 3)) C._law_pool [some (.ref j), some (.tup basesD), none, none, none] ⟨st.objs, st.objs.length⟩ = .ok (.rt (.d (.ref i))) ⟨st.objs ++ new, st.objs.length⟩ := by
        refine (s_setT (ds := []) rfl).trans ?_
        refine (s_for (its := .enum (.tup basesD)) (st1 := S1) rfl).trans ?_
        refine (congrArg (fun r => Res.bind r _) e).trans ?_
        show evSs (evFn fns (k + 3)) (.cons (.ret (.var 2)) .nil) [some (.ref j), some (.tup basesD), some (.ref i), o3, o4] ⟨st.objs ++ new, st.objs.length⟩ = _
        exact s_ret (e_var rfl)
      show (evSs (evFn fns (k + 3)) C._law_pool _ _).bind _ = _
      refine (congrArg (fun r => Res.bind r _) e1).trans ?_
      exact finish_ref (objs := []) hi hget lowL_ints
    · exact f.elim
  · intro t env s d hI hd
    obtain ⟨i, o3, o4, new, rfl, rfl, hi, l, hl, hget⟩ := hI
    have ht : t < 2 := (List.getElem?_eq_some_iff.mp hd).1
    have hj2 : (st.objs ++ new)[j]? = some (.lst (ns.map D.int)) := by
      rw [List.getElem?_append_left (List.getElem?_eq_some_iff.mp hj).1]
      exact hj
    have hd' : ∃ (q : Nat) (bs : Int), d = .tup [.int q, .int bs] ∧ 0 < bs ∧ bs ≤ 2000000 := by
      match t, ht, hd with
      | 0, _, hd => exact ⟨0, 1000003, (Option.some.inj hd).symm, by decide, by decide⟩
      | 1, _, hd => exact ⟨1, 999983, (Option.some.inj hd).symm, by decide, by decide⟩
    obtain ⟨q, bs, rfl, b0, b1⟩ := hd'
    obtain ⟨m, hm, em⟩ := m_digits (a := q) (bs := bs) (k := k) (st := ⟨st.objs ++ new, st.objs.length⟩) hn hj2 b0 b1
    refine ⟨[some (.ref j), some (.tup basesD), some (.ref i), some (.int q), some (.int bs)], rfl, .inl ⟨_, _, (s_setT (ds := (l ++ m).map D.int) (e_bin (u := .d (.ref i)) (v := .tmp (m.map D.int)) (e_var rfl) (e_call4 (x := .ref j) (y := .int q) (z := .int 150) (w := .int bs) (e_var rfl) (e_var rfl) rfl (e_var rfl) em) (add_lists (st := ⟨st.objs ++ new, st.objs.length⟩) hget (by omega)))).trans rfl, (st.objs ++ new).length, _, _, new ++ [.lst ((l ++ m).map D.int)], rfl, ?_, by rw [List.length_append]; omega, l ++ m, by rw [List.length_append]; omega, ?_⟩⟩
    · rw [List.append_assoc]
    · rw [← List.append_assoc]
      exact get_new
end LawX
namespace LawX
open Ev
/-! ### comprehensions whose items change the store -/
theorem lc_inv {own : List Nat} {t : Tg} {src : Src} {elt : E} {its : Its} {ds : List D} {st st1 : St} {call : Nat → List D → M Rv} {env : Env} (P : Nat → St → Prop) (Gd : D → Prop) (hs : evSrc call src env st = .ok its st1) (hP : P 0 st1) (hat : ∀ k s, P k s → its.at s k = some ds[k]?) (hz : ds.length ≤ its.size st1) (hl : ds.length ≤ 100000)
    (step : ∀ k s d, P k s → ds[k]? = some d → ∃ env' y s2, setTg t d (wipe env own) = some env' ∧ evE call elt env' s = .ok (.d y) s2 ∧ P (k + 1) s2 ∧ Gd y) : ∃ ys st', evE call (.lc own t src .no elt) env st = .ok (.tmp ys) st' ∧ P ds.length st' ∧ (∀ y ∈ ys, Gd y) ∧ ys.length = ds.length := by
  have key : ∀ (n k : Nat) (s : St), P k s → ds.length < n + k → k ≤ ds.length → ∃ ys s', lcGo (fun d st => match setTg t d (wipe env own) with
      | none => .err
      | some env' => (evO call .no env' st).bind fun b st2 => (match condOf b with
        | some true => (evE call elt env' st2).bind fun y st3 => (mat y st3).bind fun y st4 => .ok (some y) st4
        | some false => .ok none st2
        | none => .err)) its n k s = .ok ys s' ∧ P ds.length s' ∧ (∀ y ∈ ys, Gd y) ∧ ys.length = ds.length - k := by
    intro n
    induction n with
    | zero => intro k s _ h1 h2; omega
    | succ n ih =>
      intro k s hPk h1 h2
      by_cases hlt : k < ds.length
      · obtain ⟨env', y, s2, e1, e2, hP2, hy⟩ := step k s ds[k] hPk (List.getElem?_eq_getElem hlt)
        obtain ⟨ys, s', e3, hP3, hys, hlen⟩ := ih (k + 1) s2 hP2 (by omega) (by omega)
        refine ⟨y :: ys, s', ?_, hP3, fun z hz => ?_, by rw [List.length_cons, hlen]; omega⟩
        · rw [lcGo_succ, hat k s hPk, List.getElem?_eq_getElem hlt]
          show (match setTg t ds[k] (wipe env own) with
            | none => Res.err
            | some env' => (evO call .no env' s).bind fun b st2 => (match condOf b with
              | some true => (evE call elt env' st2).bind fun y st3 => (mat y st3).bind fun y st4 => .ok (some y) st4
              | some false => .ok none st2
              | none => .err)).bind _ = _
          rw [e1]
          show ((evE call elt env' s).bind _).bind _ = _
          rw [e2]
          show (lcGo _ its n (k + 1) s2).bind _ = _
          refine (congrArg (fun r => Res.bind r _) e3).trans ?_
          rfl
        · rcases List.mem_cons.mp hz with z | z
          · rw [z]; exact hy
          · exact hys _ z
      · have e : k = ds.length := by omega
        subst e
        refine ⟨[], s, ?_, hPk, (fun _ h => nomatch h), by simp⟩
        rw [lcGo_succ, hat _ s hPk, List.getElem?_eq_none (Nat.le_refl _)]
  obtain ⟨ys, s', e, hP', hys, hlen⟩ := key (its.size st1 + 1) 0 st1 hP (by omega) (Nat.zero_le _)
  refine ⟨ys, s', ?_, hP', hys, by omega⟩
  rw [evE]
  show (evSrc call src env st).bind _ = _
  rw [hs]
  show (lcGo _ its (its.size st1 + 1) 0 st1).bind lcTmp = _
  refine (congrArg (fun r => Res.bind r lcTmp) e).trans ?_
  show (if ys.length ≤ big then Res.ok (Rv.tmp ys) s' else .err) = _
  rw [if_pos (by show ys.length ≤ 100000; omega)]
/-! ### the draws' list changes, all else stays -/
def Mid (i : Nat) (objs ex : List Ob) (dd : Nat) (S : St) : Prop := ∃ l : List Int, l.length ≤ 1000 ∧ S = ⟨objs.set i (.lst (l.map D.int)) ++ ex, dd⟩
def Left (i : Nat) (st st' : St) : Prop := ∃ l : List Int, l.length ≤ 1000 ∧ st' = ⟨st.objs.set i (.lst (l.map D.int)), st.dirty⟩
section
variable {i : Nat} {objs ex : List Ob} {dd : Nat} {S : St} (hi : i < objs.length)
include hi
theorem mid_take {m : Int} {k : Nat} (h : Mid i objs ex dd S) (hm : 0 < m) : ∃ v S', 0 ≤ v ∧ v < m ∧ evFn fns (k + 1) F._law_take [.ref i, .int m] S = .ok (.d (.int v)) S' ∧ Mid i objs ex dd S' := by
  obtain ⟨l, hl, rfl⟩ := h
  have hlen : i < (objs.set i (.lst (l.map D.int))).length := by rw [List.length_set]; exact hi
  have hg : (objs.set i (.lst (l.map D.int)) ++ ex)[i]? = some (.lst (l.map D.int)) := by
    rw [List.getElem?_append_left hlen, List.getElem?_set_self hi]
  obtain ⟨v, v0, v1, e⟩ := m_take (k := k) (st := ⟨objs.set i (.lst (l.map D.int)) ++ ex, dd⟩) hm hl hg
  refine ⟨v, _, v0, v1, e, l.tail, by rw [List.length_tail]; omega, ?_⟩
  congr 1
  rw [List.set_append_left _ _ hlen, List.set_set]
theorem mid_call {m : Int} {k : Nat} {env : Env} {b : E} (h : Mid i objs ex dd S) (hm : 0 < m) (h0 : getV env 0 = some (.ref i)) (hb : evE (evFn fns (k + 1)) b env S = .ok (.d (.int m)) S) : ∃ v S', 0 ≤ v ∧ v < m ∧ evE (evFn fns (k + 1)) (.call F._law_take (.cons (.var 0) (.cons b .nil))) env S = .ok (.d (.int v)) S' ∧ Mid i objs ex dd S' := by
  obtain ⟨v, S', v0, v1, e, h'⟩ := mid_take (k := k) hi h hm
  exact ⟨v, S', v0, v1, e_call2x (d := .ref i) (e := .int m) (e_var h0) hb e, h'⟩
end
theorem e_subx {call : Nat → List D → M Rv} {env : Env} {st st1 st2 : St} {a b : E} {u v : Rv} {d : D} (ha : evE call a env st = .ok u st1) (hb : evE call b env st1 = .ok v st2) (h : subR st2 u v = some d) : evE call (.sub a b) env st = .ok (.d d) st2 := by
  simp only [evE, ha, hb, bind_ok, h, Option.map_some, ofO_some]
theorem e_tup4x {call : Nat → List D → M Rv} {env : Env} {st st1 st2 st3 st4 : St} {a b c e : E} {x y z w : D} (ha : evE call a env st = .ok (.d x) st1) (hb : evE call b env st1 = .ok (.d y) st2) (hc : evE call c env st2 = .ok (.d z) st3) (he : evE call e env st3 = .ok (.d w) st4) : evE call (.tup (.cons a (.cons b (.cons c (.cons e .nil))))) env st = .ok (.d (.tup [x, y, z, w])) st4 := by
  simp only [evE, evA, ha, hb, hc, he, bind_ok, mat_d]
  rfl
theorem words_of {l : List D} {G : Wd → Prop} (h : ∀ y ∈ l, ∃ w, y = .str w ∧ G w) : ∃ ws : List Wd, l = ws.map D.str ∧ ∀ w ∈ ws, G w := by
  induction l with
  | nil => exact ⟨[], rfl, fun _ h => nomatch h⟩
  | cons a r ih =>
    obtain ⟨w, rfl, hw⟩ := h a List.mem_cons_self
    obtain ⟨ws, rfl, hws⟩ := ih fun y hy => h y (List.mem_cons_of_mem _ hy)
    exact ⟨w :: ws, rfl, fun x hx => by
      rcases List.mem_cons.mp hx with z | z
      · rw [z]; exact hw
      · exact hws _ z⟩
section
variable {nms : List Wd} (hne : nms ≠ []) (hnl : nms.length ≤ 10) {i : Nat} {objs ex : List Ob} {dd : Nat} {S : St} (hi : i < objs.length)
include hne hnl hi
theorem mid_name {k : Nat} {env : Env} (h : Mid i objs ex dd S) (h0 : getV env 0 = some (.ref i)) (h1 : getV env 1 = some (tupS nms)) : ∃ w ∈ nms, ∃ S', evE (evFn fns (k + 1)) (.sub (.var 1) (.call F._law_take (.cons (.var 0) (.cons (.blt .len (.cons (.var 1) .nil)) .nil)))) env S = .ok (.d (.str w)) S' ∧ Mid i objs ex dd S' := by
  have hpos := List.length_pos_iff.mpr hne
  obtain ⟨v, S', v0, v1, e, h'⟩ := mid_call (k := k) (m := (nms.length : Int)) (b := .blt .len (.cons (.var 1) .nil)) hi h (by omega) h0 (e_blt1 (v := .d (tupS nms)) (e_var h1) (by rw [len_tup (by rw [List.length_map]; omega), List.length_map]))
  obtain ⟨u, rfl⟩ := Int.eq_ofNat_of_zero_le v0
  have hu : u < nms.length := by omega
  refine ⟨nms[u], List.getElem_mem hu, S', e_subx (u := .d (tupS nms)) (v := .d (.int u)) (e_var h1) e ?_, h'⟩
  rw [sub_nat (by rw [List.length_map]; omega), List.getElem?_map, List.getElem?_eq_getElem hu]
  rfl
end
abbrev ELT : E := (.sub (.tup (.cons (.cst (.str [42])) (.cons (.sub (.var 1) (.call F._law_take (.cons (.var 0) (.cons (.blt .len (.cons (.var 1) .nil)) .nil)))) .nil))) (.cmp .gt (.call F._law_take (.cons (.var 0) (.cons (.cst (.int 3)) .nil))) (.cst (.int 0))))
theorem m_pattern {nms : List Wd} (hne : nms ≠ []) (hnl : nms.length ≤ 10) {k i : Nat} {st : St} (hi : i < st.objs.length) {l0 : List Int} (hl0 : l0.length ≤ 1000) (h0 : st.objs[i]? = some (.lst (l0.map D.int))) : ∃ ws w st', evFn fns (k + 2) F._law_pattern [.ref i, tupS nms] st = .ok (.d (tupS (ws ++ [w]))) st' ∧ Left i st st' ∧ ws.length ≤ 2 ∧ (∀ x ∈ ws, x ∈ nms ∨ x = star) ∧ (w ∈ nms ∨ w = star ∨ w = rest) := by
  let env0 : Env := [some (.ref i), some (tupS nms), none, none, none]
  have hM0 : Mid i st.objs [] st.objs.length ⟨st.objs, st.objs.length⟩ := ⟨l0, hl0, by rw [List.append_nil, set_same h0]⟩
  obtain ⟨n0, S1, n1, n2, en, hM1⟩ := mid_call (k := k) (m := 3) (env := env0) (b := .cst (.int 3)) hi hM0 (by decide) rfl rfl
  obtain ⟨n, rfl⟩ := Int.eq_ofNat_of_zero_le n1
  have hn : n ≤ 2 := by omega
  obtain ⟨ys, S2, e2, hM2, hys, hyl⟩ := lc_inv (own := [4]) (t := .var 4) (src := .rng1 (.call F._law_take (.cons (.var 0) (.cons (.cst (.int 3)) .nil)))) (elt := ELT) (its := .fix ((List.range n).map fun k : Nat => D.int (k : Int))) (ds := (List.range n).map fun k : Nat => D.int (k : Int)) (call := evFn fns (k + 1)) (env := env0) (fun _ s => Mid i st.objs [] st.objs.length s) (fun y => ∃ w, y = .str w ∧ (w ∈ nms ∨ w = star)) (src_rng1x en (by omega)) hM1 (fun _ _ _ => rfl) (Nat.le_refl _) (by rw [List.length_map, List.length_range]; omega) (fun q s d hM hd => by
    let env' : Env := [some (.ref i), some (tupS nms), none, none, some d]
    obtain ⟨w, hw, s1, e1, hM1⟩ := mid_name (k := k) (env := env') hne hnl hi hM rfl rfl
    obtain ⟨v, s2, v0, v1, ev, hM2⟩ := mid_call (k := k) (m := 3) (env := env') (b := .cst (.int 3)) hi hM1 (by decide) rfl rfl
    have ec : evE (evFn fns (k + 1)) (.cmp .gt (.call F._law_take (.cons (.var 0) (.cons (.cst (.int 3)) .nil))) (.cst (.int 0))) env' s1 = .ok (.d (.bl (decide ((0 : Int) < v)))) s2 := e_cmpx (u := .d (.int v)) (v := .d (.int 0)) ev rfl rfl
    refine ⟨env', .str (if (0 : Int) < v then w else star), s2, rfl, e_subx (u := .d (.tup [.str star, .str w])) (v := .d (.bl (decide ((0 : Int) < v)))) (e_tup2x rfl e1) ec ?_, hM2, _, rfl, ?_⟩
    · by_cases hv : (0 : Int) < v
      · rw [decide_eq_true hv, if_pos hv]; rfl
      · rw [decide_eq_false hv, if_neg hv]; rfl
    · by_cases hv : (0 : Int) < v
      · rw [if_pos hv]; exact .inl hw
      · rw [if_neg hv]; exact .inr rfl)
  rw [List.length_map, List.length_range] at hyl
  obtain ⟨ws, rfl, hws⟩ := words_of hys
  rw [List.length_map] at hyl
  obtain ⟨l2, hl2, rfl⟩ := hM2
  have hslen : (st.objs.set i (.lst (l2.map D.int)) ++ []).length = st.objs.length := by rw [List.append_nil, List.length_set]
  let ob : Ob := .lst (ws.map D.str)
  let env1 : Env := [some (.ref i), some (tupS nms), some (.ref st.objs.length), none, none]
  have hM3 : Mid i st.objs [ob] st.objs.length ⟨(st.objs.set i (.lst (l2.map D.int)) ++ []) ++ [ob], st.objs.length⟩ := ⟨l2, hl2, by rw [List.append_nil]⟩
  obtain ⟨w3, hw3, S4, e4, hM4⟩ := mid_name (k := k) (env := env1) hne hnl hi hM3 rfl rfl
  have hg0 : evE (evFn fns (k + 1)) (.sub (.var 1) (.cst (.int 0))) env1 S4 = .ok (.d (.str (nms[0]'(List.length_pos_iff.mpr hne)))) S4 := by
    refine e_sub (u := .d (tupS nms)) (v := .d (.int ((0 : Nat) : Int))) (e_var rfl) rfl ?_
    rw [sub_nat (by rw [List.length_map]; omega), List.getElem?_map, List.getElem?_eq_getElem (List.length_pos_iff.mpr hne)]
    rfl
  obtain ⟨v5, S5, v50, v51, e5, hM5⟩ := mid_call (k := k) (m := 4) (env := env1) (b := .cst (.int 4)) hi hM4 (by decide) rfl rfl
  obtain ⟨u5, rfl⟩ := Int.eq_ofNat_of_zero_le v50
  have hu5 : u5 < 4 := by omega
  let four : List Wd := [rest, star, w3, nms[0]'(List.length_pos_iff.mpr hne)]
  have hu5' : u5 < four.length := hu5
  have hlast : four[u5] ∈ nms ∨ four[u5] = star ∨ four[u5] = rest := by
    match u5, hu5 with
    | 0, _ => exact .inr (.inr rfl)
    | 1, _ => exact .inr (.inl rfl)
    | 2, _ => exact .inl hw3
    | 3, _ => exact .inl (List.getElem_mem _)
  have e6 : evE (evFn fns (k + 1)) (.sub (.tup (.cons (.cst (.str [42, 42])) (.cons (.cst (.str [42])) (.cons (.sub (.var 1) (.call F._law_take (.cons (.var 0) (.cons (.blt .len (.cons (.var 1) .nil)) .nil)))) (.cons (.sub (.var 1) (.cst (.int 0))) .nil))))) (.call F._law_take (.cons (.var 0) (.cons (.cst (.int 4)) .nil)))) env1 ⟨(st.objs.set i (.lst (l2.map D.int)) ++ []) ++ [ob], st.objs.length⟩ = .ok (.d (.str four[u5])) S5 := by
    refine e_subx (u := .d (.tup (four.map D.str))) (v := .d (.int u5)) (e_tup4x rfl rfl e4 hg0) e5 ?_
    rw [sub_nat (by show 4 ≤ 100000; decide), List.getElem?_map, List.getElem?_eq_getElem hu5']
    rfl
  obtain ⟨l5, hl5, rfl⟩ := hM5
  refine ⟨ws, four[u5], ⟨st.objs.set i (.lst (l5.map D.int)), st.dirty⟩, ?_, ⟨l5, hl5, rfl⟩, by omega, hws, hlast⟩
  rw [evFn_succ (fn := ⟨2, 5, C._law_pattern⟩) rfl rfl]
  have hget : (st.objs.set i (.lst (l5.map D.int)) ++ [ob])[st.objs.length]? = some ob := by
    have := get_new (objs := st.objs.set i (.lst (l5.map D.int))) (o := ob)
    rwa [List.length_set] at this
  have e1 : evSs (evFn fns (k + 1)) C._law_pattern env0 ⟨st.objs, st.objs.length⟩ = .ok (.rt (.d (tupS (ws ++ [four[u5]])))) ⟨st.objs.set i (.lst (l5.map D.int)) ++ [ob], st.objs.length⟩ := by
    refine (s_set (v := .tmp (ws.map D.str)) (d := .ref st.objs.length) (st2 := ⟨(st.objs.set i (.lst (l2.map D.int)) ++ []) ++ [ob], st.objs.length⟩) e2 (by rw [mat_tmp, hslen])).trans ?_
    refine (s_setx (d := .str four[u5]) e6).trans ?_
    refine s_ret (e_bin (u := .d (tupS ws)) (v := .d (tupS [four[u5]])) (e_blt1 (v := .d (.ref st.objs.length)) (e_var rfl) ?_) rfl ?_)
    · show tupB ⟨st.objs.set i (.lst (l5.map D.int)) ++ [ob], st.objs.length⟩ (.d (.ref st.objs.length)) = _
      unfold tupB
      simp only [listOf_ref (st := ⟨st.objs.set i (.lst (l5.map D.int)) ++ [ob], st.objs.length⟩) hget]
      rw [if_pos (decide_eq_true (by show _ ≤ 100000; rw [List.length_map]; omega))]
    · rw [add_tup (by rw [List.length_map]; simp; omega)]
      rw [show tupS (ws ++ [four[u5]]) = .tup (ws.map D.str ++ [D.str four[u5]]) by simp [tupS]]
      rfl
  show (evSs (evFn fns (k + 1)) C._law_pattern env0 ⟨st.objs, st.objs.length⟩).bind _ = _
  rw [e1]
  show finish st.objs.length st.dirty (.d (tupS (ws ++ [four[u5]]))) ⟨st.objs.set i (.lst (l5.map D.int)) ++ [ob], st.objs.length⟩ = _
  rw [finish_gen (d := tupS (ws ++ [four[u5]])) (Nat.le_refl _) (lowL_str (l := ws ++ [four[u5]])) nofun]
  rw [List.take_left' (by rw [List.length_set])]
end LawX
namespace LawX
open Ev
abbrev acts7 : List Wd := [[114, 101, 97, 100], [119, 114, 105, 116, 101], [108, 105, 115, 116], [100, 114, 111, 112], [42], [42], [114, 101, 97, 100]]
theorem mid_get {i : Nat} {objs ex : List Ob} {dd : Nat} {S : St} (hi : i < objs.length) (h : Mid i objs ex dd S) : ∃ l : List Int, l.length ≤ 1000 ∧ S.objs[i]? = some (.lst (l.map D.int)) ∧ i < S.objs.length ∧ S = ⟨objs.set i (.lst (l.map D.int)) ++ ex, dd⟩ := by
  obtain ⟨l, hl, rfl⟩ := h
  have hlen : i < (objs.set i (.lst (l.map D.int))).length := by rw [List.length_set]; exact hi
  refine ⟨l, hl, ?_, ?_, rfl⟩
  · show (objs.set i (.lst (l.map D.int)) ++ ex)[i]? = _
    rw [List.getElem?_append_left hlen, List.getElem?_set_self hi]
  · show i < (objs.set i (.lst (l.map D.int)) ++ ex).length
    rw [List.length_append]
    omega
theorem mid_left {i : Nat} {objs ex : List Ob} {dd : Nat} {S S' : St} (hi : i < objs.length) (h : Mid i objs ex dd S) (h' : Left i S S') : Mid i objs ex dd S' := by
  obtain ⟨l, hl, rfl⟩ := h
  obtain ⟨l', hl', rfl⟩ := h'
  refine ⟨l', hl', ?_⟩
  congr 1
  show (objs.set i (.lst (l.map D.int)) ++ ex).set i _ = _
  rw [List.set_append_left _ _ (by rw [List.length_set]; exact hi), List.set_set]
theorem left_of {i : Nat} {st S : St} {ex : List Ob} {d : D} (h : Mid i st.objs ex st.objs.length S) (hd : d.low st.objs.length = true) (hr : ∀ j, d ≠ .ref j) : ∃ st', Left i st st' ∧ finish st.objs.length st.dirty (.d d) S = .ok (.d d) st' := by
  obtain ⟨l, hl, rfl⟩ := h
  refine ⟨_, ⟨l, hl, rfl⟩, ?_⟩
  rw [finish_gen (Nat.le_refl _) hd hr, List.take_left' (by rw [List.length_set])]
theorem mid_start {i : Nat} {st : St} {l0 : List Int} (hl0 : l0.length ≤ 1000) (h0 : st.objs[i]? = some (.lst (l0.map D.int))) : Mid i st.objs [] st.objs.length ⟨st.objs, st.objs.length⟩ := ⟨l0, hl0, by rw [List.append_nil, set_same h0]⟩
section
variable {nms : List Wd} (N : Nms nms) (hne : nms ≠ []) (hnl : nms.length ≤ 10) {i : Nat} {st : St} {l0 : List Int} (hl0 : l0.length ≤ 1000) (h0 : st.objs[i]? = some (.lst (l0.map D.int)))
include N hne hnl hl0 h0
theorem m_right {k : Nat} : ∃ a ws w st', evFn fns (k + 3) F._law_right [.ref i, tupS nms] st = .ok (.d (rt a (ws ++ [w]))) st' ∧ Left i st st' ∧ ActOk a ∧ ws.length ≤ 2 ∧ (∀ x ∈ ws, x ∈ nms ∨ x = star) ∧ (w ∈ nms ∨ w = star ∨ w = rest) := by
  have hi : i < st.objs.length := (List.getElem?_eq_some_iff.mp h0).1
  let env0 : Env := [some (.ref i), some (tupS nms)]
  obtain ⟨v, S1, v0, v1, e1, M1⟩ := mid_call (k := k + 1) (m := 7) (env := env0) (b := .cst (.int 7)) hi (mid_start hl0 h0) (by decide) rfl rfl
  obtain ⟨u, rfl⟩ := Int.eq_ofNat_of_zero_le v0
  have hu : u < acts7.length := by show u < 7; omega
  have hact : ActOk acts7[u] := by
    have : ∀ x ∈ acts7, x ∈ actions ∨ x = star := by decide
    exact this _ (List.getElem_mem hu)
  have ea : evE (evFn fns (k + 2)) (.sub (.tup (.cons (.cst (.str [114, 101, 97, 100])) (.cons (.cst (.str [119, 114, 105, 116, 101])) (.cons (.cst (.str [108, 105, 115, 116])) (.cons (.cst (.str [100, 114, 111, 112])) (.cons (.cst (.str [42])) (.cons (.cst (.str [42])) (.cons (.cst (.str [114, 101, 97, 100])) .nil)))))))) (.call F._law_take (.cons (.var 0) (.cons (.cst (.int 7)) .nil)))) env0 ⟨st.objs, st.objs.length⟩ = .ok (.d (.str acts7[u])) S1 := by
    refine e_subx (u := .d (.tup (acts7.map D.str))) (v := .d (.int u)) rfl e1 ?_
    rw [sub_nat (by show 7 ≤ 100000; decide), List.getElem?_map, List.getElem?_eq_getElem hu]
    rfl
  obtain ⟨l1, hl1, hg1, hi1, _⟩ := mid_get hi M1
  obtain ⟨ws, w, S2, e2, L2, h1, h2, h3⟩ := m_pattern (k := k) (st := S1) hne hnl hi1 hl1 hg1
  have M2 := mid_left hi M1 L2
  obtain ⟨st', L, ef⟩ := left_of (d := rt acts7[u] (ws ++ [w])) M2 (by
    show (true && ((tupS (ws ++ [w])).low st.objs.length && true)) = true
    rw [show (tupS (ws ++ [w])).low st.objs.length = true from lowL_str (l := ws ++ [w])]
    rfl) nofun
  refine ⟨acts7[u], ws, w, st', ?_, L, hact, h1, h2, h3⟩
  rw [evFn_succ (fn := ⟨2, 2, C._law_right⟩) rfl rfl]
  have e3 : evSs (evFn fns (k + 2)) C._law_right env0 ⟨st.objs, st.objs.length⟩ = .ok (.rt (.d (rt acts7[u] (ws ++ [w])))) S2 := s_ret (e_tup2x ea (e_call2x (d := .ref i) (e := tupS nms) (e_var rfl) (e_var rfl) e2))
  show (evSs (evFn fns (k + 2)) C._law_right env0 ⟨st.objs, st.objs.length⟩).bind _ = _
  rw [e3]
  exact ef
theorem m_long {k : Nat} : ∃ a p st', evFn fns (k + 4) F._law_long [.ref i, tupS nms] st = .ok (.d (rt a p)) st' ∧ Left i st st' ∧ Rg nms a p := by
  have hi : i < st.objs.length := (List.getElem?_eq_some_iff.mp h0).1
  have M0 := mid_start hl0 h0
  obtain ⟨a, ws, w, S1, e1, L1, hact, h1, h2, h3⟩ := m_right (k := k) (st := ⟨st.objs, st.objs.length⟩) N hne hnl hl0 h0
  have M1 : Mid i st.objs [] st.objs.length S1 := mid_left hi M0 L1
  let env1 : Env := [some (.ref i), some (tupS nms), some (.str a), some (tupS (ws ++ [w]))]
  obtain ⟨v, S2, v0, v1, e2, M2⟩ := mid_call (k := k + 2) (m := 3) (env := env1) (b := .cst (.int 3)) hi M1 (by decide) rfl rfl
  have ec : evE (evFn fns (k + 3)) (.cmp .eq (.call F._law_take (.cons (.var 0) (.cons (.cst (.int 3)) .nil))) (.cst (.int 0))) env1 S1 = .ok (.d (.bl (decide (v = 0)))) S2 := e_cmpx (u := .d (.int v)) (v := .d (.int 0)) e2 rfl rfl
  -- the pattern before the cut
  have hx : ∃ (xs : List Wd) (S3 : St), evE (evFn fns (k + 3)) (.ite (.cmp .eq (.call F._law_take (.cons (.var 0) (.cons (.cst (.int 3)) .nil))) (.cst (.int 0))) (.bin .add (.tup (.cons (.sub (.var 1) (.call F._law_take (.cons (.var 0) (.cons (.blt .len (.cons (.var 1) .nil)) .nil)))) .nil)) (.var 3)) (.var 3)) env1 S1 = .ok (.d (tupS (xs ++ [w]))) S3 ∧ Mid i st.objs [] st.objs.length S3 ∧ xs.length ≤ 3 ∧ ∀ x ∈ xs, x ∈ nms ∨ x = star := by
    by_cases hv : v = 0
    · obtain ⟨n, hn, S3, e3, M3⟩ := mid_name (k := k + 2) (env := env1) hne hnl hi M2 rfl rfl
      refine ⟨n :: ws, S3, e_itex (x := true) (ec.trans (by rw [decide_eq_true hv])) ?_, M3, by rw [List.length_cons]; omega, fun x hx => ?_⟩
      · have et : evE (evFn fns (k + 3)) (.tup (.cons (.sub (.var 1) (.call F._law_take (.cons (.var 0) (.cons (.blt .len (.cons (.var 1) .nil)) .nil)))) .nil)) env1 S2 = .ok (.d (tupS [n])) S3 := by
          simp only [evE, evA]
          simp only [evE, evA] at e3
          rw [e3]
          rfl
        refine e_binx (u := .d (tupS [n])) (v := .d (tupS (ws ++ [w]))) et (e_var rfl) ?_
        rw [add_tup (by rw [List.length_map, List.length_map]; simp; omega)]
        rfl
      · rcases List.mem_cons.mp hx with z | z
        · rw [z]; exact .inl hn
        · exact h2 x z
    · exact ⟨ws, S2, e_itex (x := false) (ec.trans (by rw [decide_eq_false hv])) (e_var rfl), M2, by omega, h2⟩
  obtain ⟨xs, S3, e3, M3, hxl, hxs⟩ := hx
  have hcut : slcR S3 (.d (tupS (xs ++ [w]))) (some (-4)) none = some (.d (tupS (xs ++ [w]))) := by
    have hl : ((xs ++ [w]).map D.str).length ≤ 4 := by rw [List.length_map, List.length_append]; simp; omega
    show (if decide (((xs ++ [w]).map D.str).length ≤ big) then some (Rv.d (.tup (cut ((xs ++ [w]).map D.str) (some (-4)) none))) else none) = _
    rw [if_pos (decide_eq_true (by show _ ≤ 100000; omega))]
    congr 3
    unfold cut
    have e : sIx ((xs ++ [w]).map D.str).length 0 (some (-4)) = 0 := by
      show (if (-4 : Int) < 0 then (-4 + (((xs ++ [w]).map D.str).length : Int)).toNat else min (-4 : Int).toNat ((xs ++ [w]).map D.str).length) = 0
      rw [if_pos (by decide)]
      omega
    rw [e, List.drop_zero]
    exact List.take_of_length_le (Nat.le_refl _)
  have hR : Rg nms a (xs ++ [w]) := by
    refine ⟨hact, ⟨by simp, by rw [List.length_append]; simp; omega, fun x hx => ?_⟩, fun x hx => ?_⟩
    · rw [List.dropLast_concat] at hx
      rcases hxs x hx with z | z
      · intro q
        subst q
        exact absurd (N.sub _ z) (by decide)
      · rw [z]; decide
    · rcases List.mem_append.mp hx with z | z
      · rcases hxs x z with q | q
        · exact .inl q
        · exact .inr (.inl q)
      · have : x = w := by simpa using z
        subst this
        exact h3
  obtain ⟨st', L, ef⟩ := left_of (d := rt a (xs ++ [w])) M3 (by
    show (true && ((tupS (xs ++ [w])).low st.objs.length && true)) = true
    rw [show (tupS (xs ++ [w])).low st.objs.length = true from lowL_str (l := xs ++ [w])]
    rfl) nofun
  refine ⟨a, xs ++ [w], st', ?_, L, hR⟩
  rw [evFn_succ (fn := ⟨2, 4, C._law_long⟩) rfl rfl]
  have er : evE (evFn fns (k + 3)) (.call F._law_right (.cons (.var 0) (.cons (.var 1) .nil))) [some (.ref i), some (tupS nms), none, none] ⟨st.objs, st.objs.length⟩ = .ok (.d (rt a (ws ++ [w]))) S1 := e_call2x (d := .ref i) (e := tupS nms) (e_var rfl) (e_var rfl) e1
  have es : ∀ ss, evSs (evFn fns (k + 3)) (.cons (.asg (.tg (.tup [2, 3])) (.call F._law_right (.cons (.var 0) (.cons (.var 1) .nil)))) ss) [some (.ref i), some (tupS nms), none, none] ⟨st.objs, st.objs.length⟩ = evSs (evFn fns (k + 3)) ss env1 S1 := fun ss => by
    rw [evSs, evS]
    show ((evE _ _ _ _).bind _).bind _ = _
    rw [er]
    rfl
  have eslc : evE (evFn fns (k + 3)) (.slc (.ite (.cmp .eq (.call F._law_take (.cons (.var 0) (.cons (.cst (.int 3)) .nil))) (.cst (.int 0))) (.bin .add (.tup (.cons (.sub (.var 1) (.call F._law_take (.cons (.var 0) (.cons (.blt .len (.cons (.var 1) .nil)) .nil)))) .nil)) (.var 3)) (.var 3)) (.yes (.neg (.cst (.int 4)))) .no) env1 S1 = .ok (.d (tupS (xs ++ [w]))) S3 := by
    rw [evE]
    show (evE _ _ _ _).bind _ = _
    rw [e3]
    show ofO (slcR S3 (.d (tupS (xs ++ [w]))) (some (-4)) none) S3 = _
    rw [hcut]
    rfl
  have e5 : evSs (evFn fns (k + 3)) C._law_long [some (.ref i), some (tupS nms), none, none] ⟨st.objs, st.objs.length⟩ = .ok (.rt (.d (rt a (xs ++ [w])))) S3 := (es _).trans (s_ret (e_tup2x (e_var rfl) eslc))
  show (evSs (evFn fns (k + 3)) C._law_long _ _).bind _ = _
  refine (congrArg (fun r => Res.bind r _) e5).trans ?_
  exact ef
end
end LawX
namespace LawX
open Ev
/-! ### the paths -/
def lv (nn : List Wd) : Nat → List (List Wd)
  | 0 => [[]]
  | n + 1 => (lv nn n).flatMap fun one => nn.map fun w => one ++ [w]
def pathsL (nn : List Wd) : List (List Wd) := lv nn 1 ++ (lv nn 2 ++ (lv nn 3 ++ lv nn 4))
theorem mem_lv {nn : List Wd} : ∀ {n : Nat} {path : List Wd}, path ∈ lv nn n ↔ path.length = n ∧ ∀ w ∈ path, w ∈ nn
  | 0, path => by
    show path ∈ [[]] ↔ _
    constructor
    · intro h
      have : path = [] := by simpa using h
      subst this
      exact ⟨rfl, fun w hw => by cases hw⟩
    · intro h
      have : path = [] := List.eq_nil_of_length_eq_zero h.1
      subst this
      exact List.mem_cons_self
  | n + 1, path => by
    show path ∈ (lv nn n).flatMap _ ↔ _
    rw [List.mem_flatMap]
    constructor
    · intro ⟨one, h1, h2⟩
      obtain ⟨w, hw, e⟩ := List.mem_map.mp h2
      subst e
      obtain ⟨h3, h4⟩ := mem_lv.mp h1
      refine ⟨by rw [List.length_append, List.length_singleton, h3], fun u hu => ?_⟩
      rcases List.mem_append.mp hu with z | z
      · exact h4 u z
      · have : u = w := by simpa using z
        rw [this]
        exact hw
    · intro ⟨h1, h2⟩
      have hne : path ≠ [] := fun z => by rw [z] at h1; cases h1
      obtain ⟨w, ew, _⟩ := split_last hne
      refine ⟨path.dropLast, mem_lv.mpr ⟨by rw [List.length_dropLast, h1]; rfl, fun u hu => h2 u ((List.dropLast_sublist _).subset hu)⟩, List.mem_map.mpr ⟨w, h2 w (by rw [ew]; simp), ew.symm⟩⟩
theorem mem_paths {nms : List Wd} {path : List Wd} : path ∈ pathsL (nms ++ [fr]) ↔ PathOk nms fr path := by
  unfold pathsL
  rw [List.mem_append, List.mem_append, List.mem_append, mem_lv, mem_lv, mem_lv, mem_lv]
  have hw : (∀ w ∈ path, w ∈ nms ++ [fr]) ↔ ∀ w ∈ path, w ∈ nms ∨ w = fr := by
    constructor
    · intro h w hw
      have := h w hw
      rw [List.mem_append, List.mem_singleton] at this
      exact this
    · intro h w hw
      rw [List.mem_append, List.mem_singleton]
      exact h w hw
  rw [hw]
  constructor
  · intro h
    rcases h with h | h | h | h <;> exact ⟨by omega, by omega, h.2⟩
  · intro h
    have h1 := h.pos
    have h2 := h.len
    have h3 := h.over
    by_cases e1 : path.length = 1
    · exact .inl ⟨e1, h3⟩
    · by_cases e2 : path.length = 2
      · exact .inr (.inl ⟨e2, h3⟩)
      · by_cases e3 : path.length = 3
        · exact .inr (.inr (.inl ⟨e3, h3⟩))
        · exact .inr (.inr (.inr ⟨by omega, h3⟩))
theorem paths_run1 (o1 o2 : Ob) : evFn fns 11 F._law_paths [tupS [[120], fr]] ⟨[o1, o2], 0⟩ = .ok (.tmp ((pathsL [[120], fr]).map tupS)) ⟨[o1, o2], 0⟩ := by kernel_rfl
theorem paths_run2 (o1 o2 : Ob) : evFn fns 11 F._law_paths [tupS [[120], [121, 121], fr]] ⟨[o1, o2], 0⟩ = .ok (.tmp ((pathsL [[120], [121, 121], fr]).map tupS)) ⟨[o1, o2], 0⟩ := by kernel_rfl
theorem paths_len1 : (pathsL [[120], fr]).length = 30 := by decide +kernel
theorem paths_len2 : (pathsL [[120], [121, 121], fr]).length = 120 := by decide +kernel
/-! ### within, inside -/
theorem within_inside {pl : List (List Wd)} {nms : List Wd} (N : Nms nms) (hpl : ∀ path ∈ pl, PathOk nms fr path) (hfull : ∀ path, PathOk nms fr path → path ∈ pl) {a b : Wd} {p q : List Wd} (h1 : Rg nms a p) (h2 : Rg nms b q) : withinB a p b q = (okI b a && (pl.filter (lmB p)).all (lmB q)) := by
  unfold withinB
  congr 1
  rw [Bool.eq_iff_iff, wide_iff N.fresh h1.pt h2.pt h1.over h2.over, List.all_eq_true]
  constructor
  · intro h path hp
    obtain ⟨m1, m2⟩ := List.mem_filter.mp hp
    rw [lm_match h2.pt.ne h2.pt.first]
    rw [lm_match h1.pt.ne h1.pt.first] at m2
    exact h path (hpl path m1) m2
  · intro h path hp hm
    have := h path (List.mem_filter.mpr ⟨hfull path hp, by rw [lm_match h1.pt.ne h1.pt.first]; exact hm⟩)
    rwa [lm_match h2.pt.ne h2.pt.first] at this
theorem mid_callv {i v : Nat} {objs ex : List Ob} {dd : Nat} {S : St} (hi : i < objs.length) {m : Int} {k : Nat} {env : Env} {b : E} (h : Mid i objs ex dd S) (hm : 0 < m) (h0 : getV env v = some (.ref i)) (hb : evE (evFn fns (k + 1)) b env S = .ok (.d (.int m)) S) : ∃ v' S', 0 ≤ v' ∧ v' < m ∧ evE (evFn fns (k + 1)) (.call F._law_take (.cons (.var v) (.cons b .nil))) env S = .ok (.d (.int v')) S' ∧ Mid i objs ex dd S' := by
  obtain ⟨w, S', v0, v1, e, h'⟩ := mid_take (k := k) hi h hm
  exact ⟨w, S', v0, v1, e_call2x (d := .ref i) (e := .int m) (e_var h0) hb e, h'⟩
abbrev rtP (r : Wd × List Wd) : D := rt r.1 r.2
theorem rights_of {l : List D} {G : Wd → List Wd → Prop} (h : ∀ y ∈ l, ∃ a p, y = rt a p ∧ G a p) : ∃ rs : List (Wd × List Wd), l = rs.map rtP ∧ ∀ r ∈ rs, G r.1 r.2 := by
  induction l with
  | nil => exact ⟨[], rfl, fun _ h => nomatch h⟩
  | cons x r ih =>
    obtain ⟨a, p, rfl, hw⟩ := h x List.mem_cons_self
    obtain ⟨ws, rfl, hws⟩ := ih fun y hy => h y (List.mem_cons_of_mem _ hy)
    exact ⟨(a, p) :: ws, rfl, fun x hx => by
      rcases List.mem_cons.mp hx with z | z
      · rw [z]; exact hw
      · exact hws _ z⟩
section
variable {nms : List Wd} {pl : List (List Wd)} {rs : List (Wd × List Wd)} (N : Nms nms) (hne : nms ≠ []) (hpl : ∀ path ∈ pl, PathOk nms fr path) (hfull : ∀ path, PathOk nms fr path → path ∈ pl) (hlen : pl.length ≤ 1000) (hpos : 0 < pl.length) (hrs : ∀ r ∈ rs, Rg nms r.1 r.2) (hrl : rs.length = 5) {o0 o1 : Ob}
abbrev envL (nms : List Wd) (o5 o6 o7 o8 : Option D) : Env := [some (.ref 0), some (.ref 1), some (tupS nms), some (.ref 2), some (.ref 3), o5, o6, o7, o8]
abbrev EXL (pl : List (List Wd)) (rs : List (Wd × List Wd)) : List Ob := [.lst (pl.map tupS), .lst (rs.map rtP)]
theorem ml_get {S : St} (h : Mid 1 [o0, o1] (EXL pl rs) 0 S) : S.objs[2]? = some (.lst (pl.map tupS)) ∧ S.objs[3]? = some (.lst (rs.map rtP)) ∧ S.dirty = 0 := by
  obtain ⟨l, hl, rfl⟩ := h
  exact ⟨rfl, rfl, rfl⟩
abbrev COV : Ss := (.cons (.if_ (.cmp .ne (.call F.covers (.cons (.var 7) (.cons (.var 6) .nil))) (.call F._law_covers (.cons (.var 7) (.cons (.var 6) .nil)))) (.cons (.ret (.cst (.bl false))) .nil) .nil) .nil)
include N hrs in
theorem cov_run {c : Wd} {path : List Wd} (hc : c ∈ actions) (hp : PathOk nms fr path) {o5 o7 o8 : Option D} {S : St} (h3 : S.objs[3]? = some (.lst (rs.map rtP))) : ∃ o7', evSs (evFn fns 11) (.cons (.for_ (.var 7) (.e (.var 4)) COV) .nil) (envL nms o5 (some (rt c path)) o7 o8) S = .ok (.nx (envL nms o5 (some (rt c path)) o7' o8)) S := by
  let I : Nat → Env → St → Prop := fun _ env s => (∃ o7', env = envL nms o5 (some (rt c path)) o7' o8) ∧ s = S
  have key := for_gen (t := .var 7) (body := evSs (evFn fns 11) COV) (its := .one (.live 3)) (ds := rs.map rtP) I (fun _ _ => False) (fun q env s hI => by obtain ⟨_, rfl⟩ := hI; exact at_live h3) ?_ ((rs.map rtP).length + 1) 0 (envL nms o5 (some (rt c path)) o7 o8) S ⟨⟨_, rfl⟩, rfl⟩ (Nat.zero_le _) (by omega)
  · rcases key with ⟨env', s', e, ⟨o7', rfl⟩, rfl⟩ | ⟨v, st', e, f⟩
    · refine ⟨o7', (s_for (its := .one (.live 3)) (st1 := s') (src_live (ds := rs.map rtP) rfl h3)).trans ?_⟩
      rw [size_live (s := s') (ds := rs.map rtP) h3]
      exact (congrArg (fun r => Res.bind r _) e).trans rfl
    · exact f.elim
  · intro q env s d hI hd
    obtain ⟨⟨o7', rfl⟩, rfl⟩ := hI
    rw [List.getElem?_map] at hd
    obtain ⟨r, hr, rfl⟩ := Option.map_eq_some_iff.mp hd
    have hR := hrs r (List.mem_of_getElem? hr)
    obtain ⟨hq, hw⟩ := path_req N hc hp
    refine ⟨envL nms o5 (some (rt c path)) (some (rtP r)) o8, rfl, .inl ⟨_, _, (skip ?_).trans rfl, ⟨_, rfl⟩, rfl⟩⟩
    have e1 : evE (evFn fns 11) (.call F.covers (.cons (.var 7) (.cons (.var 6) .nil))) (envL nms o5 (some (rt c path)) (some (rtP r)) o8) s = .ok (.d (.bl (coverB r.1 r.2 c path))) s := e_call2 (d := rtP r) (e := rt c path) (e_var rfl) (e_var rfl) (m_covers (k := 6) (Rg.ok N hR) hq (Nat.le_trans hp.len (by decide)) hw)
    have e2 : evE (evFn fns 11) (.call F._law_covers (.cons (.var 7) (.cons (.var 6) .nil))) (envL nms o5 (some (rt c path)) (some (rtP r)) o8) s = .ok (.d (.bl (coverB r.1 r.2 c path))) s := by
      refine e_call2 (d := rtP r) (e := rt c path) (e_var rfl) (e_var rfl) ((m_lcovers (k := 5) hR.pt.len (Nat.le_trans hp.len (by decide)) (Over.ch N hR.over) (PathOk.ch N hp)).trans ?_)
      rw [lm_match hR.pt.ne hR.pt.first]
      rfl
    refine (e_cmp (u := .d (.bl (coverB r.1 r.2 c path))) (v := .d (.bl (coverB r.1 r.2 c path))) e1 e2 (cmp_bl rfl)).trans ?_
    rw [beq_self_eq_true]
    rfl
abbrev PAIR : Ss := (.cons (.if_ (.or (.cmp .ne (.call F.within (.cons (.var 7) (.cons (.var 8) .nil))) (.call F._law_inside (.cons (.var 7) (.cons (.var 8) (.cons (.var 3) .nil))))) (.cmp .ne (.call F.within (.cons (.var 8) (.cons (.var 7) .nil))) (.call F._law_inside (.cons (.var 8) (.cons (.var 7) (.cons (.var 3) .nil)))))) (.cons (.ret (.cst (.bl false))) .nil) .nil) (.cons (.if_ (.or (.not (.call F.within (.cons (.var 7) (.cons (.var 7) .nil)))) (.or (.not (.call F._law_meet_right (.cons (.var 7) (.cons (.var 8) (.cons (.var 3) .nil))))) (.not (.call F._law_meet_right (.cons (.var 8) (.cons (.var 7) (.cons (.var 3) .nil))))))) (.cons (.ret (.cst (.bl false))) .nil) .nil) .nil))
include N hpl hfull hlen in
theorem pair_run {a b : Wd} {p q : List Wd} (h1 : Rg nms a p) (h2 : Rg nms b q) {o5 o6 : Option D} {S : St} (hS : S.objs[2]? = some (.lst (pl.map tupS))) : evSs (evFn fns 11) PAIR (envL nms o5 o6 (some (rt a p)) (some (rt b q))) S = .ok (.nx (envL nms o5 o6 (some (rt a p)) (some (rt b q)))) S := by
  let env := envL nms o5 o6 (some (rt a p)) (some (rt b q))
  have w12 : evE (evFn fns 11) (.call F.within (.cons (.var 7) (.cons (.var 8) .nil))) env S = .ok (.d (.bl (withinB a p b q))) S := e_call2 (d := rt a p) (e := rt b q) (e_var rfl) (e_var rfl) (m_within (k := 6) (Rg.ok N h1) (Rg.ok N h2))
  have w21 : evE (evFn fns 11) (.call F.within (.cons (.var 8) (.cons (.var 7) .nil))) env S = .ok (.d (.bl (withinB b q a p))) S := e_call2 (d := rt b q) (e := rt a p) (e_var rfl) (e_var rfl) (m_within (k := 6) (Rg.ok N h2) (Rg.ok N h1))
  have w11 : evE (evFn fns 11) (.call F.within (.cons (.var 7) (.cons (.var 7) .nil))) env S = .ok (.d (.bl (withinB a p a p))) S := e_call2 (d := rt a p) (e := rt a p) (e_var rfl) (e_var rfl) (m_within (k := 6) (Rg.ok N h1) (Rg.ok N h1))
  have i12 : evE (evFn fns 11) (.call F._law_inside (.cons (.var 7) (.cons (.var 8) (.cons (.var 3) .nil)))) env S = .ok (.d (.bl (withinB a p b q))) S := by
    rw [within_inside N hpl hfull h1 h2]
    exact e_call3 (x := rt a p) (y := rt b q) (z := .ref 2) (e_var rfl) (e_var rfl) (e_var rfl) (m_linside (k := 5) N hpl hlen h1 h2 hS)
  have i21 : evE (evFn fns 11) (.call F._law_inside (.cons (.var 8) (.cons (.var 7) (.cons (.var 3) .nil)))) env S = .ok (.d (.bl (withinB b q a p))) S := by
    rw [within_inside N hpl hfull h2 h1]
    exact e_call3 (x := rt b q) (y := rt a p) (z := .ref 2) (e_var rfl) (e_var rfl) (e_var rfl) (m_linside (k := 5) N hpl hlen h2 h1 hS)
  have m12 : evE (evFn fns 11) (.call F._law_meet_right (.cons (.var 7) (.cons (.var 8) (.cons (.var 3) .nil)))) env S = .ok (.d (.bl true)) S := e_call3 (x := rt a p) (y := rt b q) (z := .ref 2) (e_var rfl) (e_var rfl) (e_var rfl) (m_lmeet (k := 5) N hpl hfull hlen h1 h2 hS)
  have m21 : evE (evFn fns 11) (.call F._law_meet_right (.cons (.var 8) (.cons (.var 7) (.cons (.var 3) .nil)))) env S = .ok (.d (.bl true)) S := e_call3 (x := rt b q) (y := rt a p) (z := .ref 2) (e_var rfl) (e_var rfl) (e_var rfl) (m_lmeet (k := 5) N hpl hfull hlen h2 h1 hS)
  have c1 := e_or (e_cmp (op := .ne) w12 i12 (cmp_bl rfl)) fun _ => e_cmp (op := .ne) w21 i21 (cmp_bl rfl)
  have c2 := e_or (e_not w11) fun _ => e_or (e_not m12) fun _ => e_not m21
  refine (skip (c1.trans ?_)).trans ((skip (c2.trans ?_)).trans rfl)
  · rw [beq_self_eq_true, beq_self_eq_true]
    rfl
  · rw [within_self h1.pt]
    rfl
theorem slc_list {S : St} {i : Nat} {ds : List D} {lo hi : Option Int} (h : S.objs[i]? = some (.lst ds)) (hl : ds.length ≤ 100000) : slcR S (.d (.ref i)) lo hi = some (.tmp (cut ds lo hi)) := by
  show (match listOf S (.d (.ref i)) with | some xs => if decide (xs.length ≤ big) then some (Rv.tmp (cut xs lo hi)) else none | none => none) = _
  rw [listOf_ref h]
  show (if decide (ds.length ≤ big) then some (Rv.tmp (cut ds lo hi)) else none) = _
  rw [if_pos (decide_eq_true hl)]
include N hpl hfull hlen hrs hrl in
theorem zip_run {o5 o6 o7 o8 : Option D} {S : St} (h2 : S.objs[2]? = some (.lst (pl.map tupS))) (h3 : S.objs[3]? = some (.lst (rs.map rtP))) : ∃ o7' o8', evSs (evFn fns 11) (.cons (.for_ (.tup [7, 8]) (.zip (.var 4) (.bin .add (.slc (.var 4) (.yes (.cst (.int 1))) .no) (.slc (.var 4) .no (.yes (.cst (.int 1)))))) PAIR) (.cons (.ret (.cst (.bl true))) .nil)) (envL nms o5 o6 o7 o8) S = evSs (evFn fns 11) (.cons (.ret (.cst (.bl true))) .nil) (envL nms o5 o6 o7' o8') S := by
  match rs, hrl with
  | [r1, r2, r3, r4, r5], _ =>
    let zs : List (Wd × List Wd) := [r2, r3, r4, r5, r1]
    let ps : List D := [.tup [rtP r1, rtP r2], .tup [rtP r2, rtP r3], .tup [rtP r3, rtP r4], .tup [rtP r4, rtP r5], .tup [rtP r5, rtP r1]]
    have hsrc : evSrc (evFn fns 11) (.zip (.var 4) (.bin .add (.slc (.var 4) (.yes (.cst (.int 1))) .no) (.slc (.var 4) .no (.yes (.cst (.int 1)))))) (envL nms o5 o6 o7 o8) S = .ok (.zip (.live 3) (.tmp (zs.map rtP))) S := by
      have ev : evE (evFn fns 11) (.var 4) (envL nms o5 o6 o7 o8) S = .ok (.d (.ref 3)) S := e_var rfl
      have s1 : evE (evFn fns 11) (.slc (.var 4) (.yes (.cst (.int 1))) .no) (envL nms o5 o6 o7 o8) S = .ok (.tmp ([r2, r3, r4, r5].map rtP)) S := by
        rw [evE]
        show (evE _ _ _ _).bind _ = _
        rw [ev]
        show ofO (slcR S (.d (.ref 3)) (some 1) none) S = _
        rw [slc_list h3 (by show 5 ≤ 100000; decide)]
        rfl
      have s2 : evE (evFn fns 11) (.slc (.var 4) .no (.yes (.cst (.int 1)))) (envL nms o5 o6 o7 o8) S = .ok (.tmp ([r1].map rtP)) S := by
        rw [evE]
        show (evE _ _ _ _).bind _ = _
        rw [ev]
        show ofO (slcR S (.d (.ref 3)) none (some 1)) S = _
        rw [slc_list h3 (by show 5 ≤ 100000; decide)]
        rfl
      have s3 : evE (evFn fns 11) (.bin .add (.slc (.var 4) (.yes (.cst (.int 1))) .no) (.slc (.var 4) .no (.yes (.cst (.int 1))))) (envL nms o5 o6 o7 o8) S = .ok (.tmp (zs.map rtP)) S := e_bin s1 s2 rfl
      have sd : sideOf S (.d (.ref 3)) = some (.live 3) := by
        show (match S.objs[3]? with | some _ => some (Side.live 3) | none => none) = _
        rw [h3]
      rw [evSrc]
      show (evE _ _ _ _).bind _ = _
      rw [ev]
      show (evE _ _ _ _).bind _ = _
      rw [s3]
      show (match sideOf S (.d (.ref 3)), sideOf S (.tmp (zs.map rtP)) with
        | some s, some t => if s.isT == t.isT then Res.ok (Its.zip s t) S else .err
        | _, _ => .err) = _
      rw [sd]
      rfl
    have hat : ∀ q, (Its.zip (.live 3) (.tmp (zs.map rtP))).at S q = some ps[q]? := fun q => by
      have e : Side.at S q (.live 3) = some ([r1, r2, r3, r4, r5].map rtP)[q]? := at_live h3
      show (match Side.at S q (.live 3), some (zs.map rtP)[q]? with
        | some (some x), some (some y) => some (some (D.tup [x, y]))
        | some _, some _ => some none
        | _, _ => none) = _
      rw [e]
      match q with
      | 0 => rfl
      | 1 => rfl
      | 2 => rfl
      | 3 => rfl
      | 4 => rfl
      | q + 5 => rfl
    have hin : ∀ d ∈ ps, ∃ x y, d = .tup [rtP x, rtP y] ∧ Rg nms x.1 x.2 ∧ Rg nms y.1 y.2 := by
      have R : ∀ r, r ∈ [r1, r2, r3, r4, r5] → Rg nms r.1 r.2 := hrs
      intro d hd
      simp only [ps, List.mem_cons, List.not_mem_nil, or_false] at hd
      rcases hd with e | e | e | e | e
      · exact ⟨r1, r2, e, R _ (by simp), R _ (by simp)⟩
      · exact ⟨r2, r3, e, R _ (by simp), R _ (by simp)⟩
      · exact ⟨r3, r4, e, R _ (by simp), R _ (by simp)⟩
      · exact ⟨r4, r5, e, R _ (by simp), R _ (by simp)⟩
      · exact ⟨r5, r1, e, R _ (by simp), R _ (by simp)⟩
    let I : Nat → Env → St → Prop := fun _ env s => (∃ o7' o8', env = envL nms o5 o6 o7' o8') ∧ s = S
    have hsz : (Its.zip (.live 3) (.tmp (zs.map rtP))).size S = 10 := by
      have e : Side.size S (.live 3) = 5 := size_live h3
      show Side.size S (.live 3) + 5 = 10
      rw [e]
    have key := for_gen (t := .tup [7, 8]) (body := evSs (evFn fns 11) PAIR) (its := .zip (.live 3) (.tmp (zs.map rtP))) (ds := ps) I (fun _ _ => False) (fun q env s hI => by obtain ⟨_, rfl⟩ := hI; exact hat q) ?_ 11 0 (envL nms o5 o6 o7 o8) S ⟨⟨_, _, rfl⟩, rfl⟩ (Nat.zero_le _) (by show 5 < 11 + 0; decide)
    · rcases key with ⟨env', s', e, ⟨o7', o8', rfl⟩, rfl⟩ | ⟨v, st', e, f⟩
      · refine ⟨o7', o8', (s_for (its := .zip (.live 3) (.tmp (zs.map rtP))) (st1 := s') hsrc).trans ?_⟩
        rw [hsz]
        exact (congrArg (fun r => Res.bind r _) e).trans rfl
      · exact f.elim
    · intro q env s d hI hd
      obtain ⟨⟨o7', o8', rfl⟩, rfl⟩ := hI
      obtain ⟨x, y, rfl, hx, hy⟩ := hin d (List.mem_of_getElem? hd)
      exact ⟨envL nms o5 o6 (some (rtP x)) (some (rtP y)), rfl, .inl ⟨_, _, pair_run N hpl hfull hlen hx hy h2, ⟨_, _, rfl⟩, rfl⟩⟩
end
end LawX
namespace LawX
open Ev
theorem h12 {o0 o1 : Ob} : 1 < [o0, o1].length := Nat.lt_succ_self 1
abbrev acts4 : List Wd := [[114, 101, 97, 100], [119, 114, 105, 116, 101], [108, 105, 115, 116], [100, 114, 111, 112]]
abbrev REQ : E := (.tup (.cons (.sub (.tup (.cons (.cst (.str [114, 101, 97, 100])) (.cons (.cst (.str [119, 114, 105, 116, 101])) (.cons (.cst (.str [108, 105, 115, 116])) (.cons (.cst (.str [100, 114, 111, 112])) .nil))))) (.call F._law_take (.cons (.var 1) (.cons (.cst (.int 4)) .nil)))) (.cons (.sub (.var 3) (.call F._law_take (.cons (.var 1) (.cons (.blt .len (.cons (.var 3) .nil)) .nil)))) .nil)))
abbrev TURN8 : Ss := (.cons (.asg (.tg (.var 6)) REQ) (.cons (.for_ (.var 7) (.e (.var 4)) COV) .nil))
section
variable {nms : List Wd} {pl : List (List Wd)} (N : Nms nms) (hne : nms ≠ []) (hnl : nms.length ≤ 10) (hpl : ∀ path ∈ pl, PathOk nms fr path) (hfull : ∀ path, PathOk nms fr path → path ∈ pl) (hlen : pl.length ≤ 1000) (hpos : 0 < pl.length) {o0 o1 : Ob}
include N hpl hlen hpos in
theorem turns_run {rs : List (Wd × List Wd)} (hrs : ∀ r ∈ rs, Rg nms r.1 r.2) {o5 o6 o7 o8 : Option D} {S : St} (hM : Mid 1 [o0, o1] (EXL pl rs) 0 S) {ss : Ss} : ∃ o5' o6' o7' o8' S', Mid 1 [o0, o1] (EXL pl rs) 0 S' ∧ evSs (evFn fns 11) (.cons (.for_ (.var 5) (.rng1 (.cst (.int 8))) TURN8) ss) (envL nms o5 o6 o7 o8) S = evSs (evFn fns 11) ss (envL nms o5' o6' o7' o8') S' := by
  let I : Nat → Env → St → Prop := fun _ env s => (∃ o5 o6 o7 o8, env = envL nms o5 o6 o7 o8) ∧ Mid 1 [o0, o1] (EXL pl rs) 0 s
  have key := for_gen (t := .var 5) (body := evSs (evFn fns 11) TURN8) (its := .fix ((List.range 8).map fun k : Nat => D.int (k : Int))) (ds := (List.range 8).map fun k : Nat => D.int (k : Int)) I (fun _ _ => False) (fun _ _ _ _ => rfl) ?_ (8 + 1) 0 (envL nms o5 o6 o7 o8) S ⟨⟨_, _, _, _, rfl⟩, hM⟩ (Nat.zero_le _) (by rw [List.length_map, List.length_range]; decide)
  · rcases key with ⟨env', s', e, ⟨o5', o6', o7', o8', rfl⟩, hM'⟩ | ⟨v, st', e, f⟩
    · refine ⟨o5', o6', o7', o8', s', hM', (s_for (its := .fix ((List.range 8).map fun k : Nat => D.int (k : Int))) (st1 := S) (src_rng1 (n := 8) rfl (by decide))).trans ?_⟩
      exact (congrArg (fun r => Res.bind r _) e).trans rfl
    · exact f.elim
  · intro q env s d hI hd
    obtain ⟨⟨o5, o6, o7, o8, rfl⟩, hM⟩ := hI
    let env1 := envL nms (some d) o6 o7 o8
    refine ⟨env1, rfl, .inl ?_⟩
    obtain ⟨v, S1, v0, v1, e1, M1⟩ := mid_callv (v := 1) (k := 10) (m := 4) (env := env1) (b := .cst (.int 4)) h12 hM (by decide) rfl rfl
    obtain ⟨u, rfl⟩ := Int.eq_ofNat_of_zero_le v0
    have hu : u < acts4.length := by show u < 4; omega
    obtain ⟨g2, g3, _⟩ := ml_get M1
    have el : evE (evFn fns 11) (.blt .len (.cons (.var 3) .nil)) env1 S1 = .ok (.d (.int pl.length)) S1 := by
      refine e_blt1 (v := .d (.ref 2)) (e_var rfl) ?_
      show lenB S1 (.d (.ref 2)) = _
      unfold lenB lenR
      simp only [listOf_ref g2, Option.map_some, List.length_map]
      rw [if_pos (decide_eq_true (show _ ≤ big by show _ ≤ 100000; omega))]
    obtain ⟨v2, S2, v20, v21, e2, M2⟩ := mid_callv (v := 1) (k := 10) (m := (pl.length : Int)) (env := env1) h12 M1 (by omega) rfl el
    obtain ⟨u2, rfl⟩ := Int.eq_ofNat_of_zero_le v20
    have hu2 : u2 < pl.length := by omega
    obtain ⟨f2, f3, _⟩ := ml_get M2
    have er : evE (evFn fns 11) REQ env1 s = .ok (.d (rt acts4[u] pl[u2])) S2 := by
      refine e_tup2x (e_subx (u := .d (.tup (acts4.map D.str))) (v := .d (.int u)) rfl e1 ?_) (e_subx (u := .d (.ref 2)) (v := .d (.int u2)) (e_var rfl) e2 ?_)
      · rw [sub_nat (by show 4 ≤ 100000; decide), List.getElem?_map, List.getElem?_eq_getElem hu]
        rfl
      · rw [sub_ref f2 (by rw [List.length_map]; omega), List.getElem?_map, List.getElem?_eq_getElem hu2]
        rfl
    have hc : acts4[u] ∈ actions := by
      have : ∀ x ∈ acts4, x ∈ actions := by decide
      exact this _ (List.getElem_mem hu)
    obtain ⟨o7', e3⟩ := cov_run N hrs hc (hpl _ (List.getElem_mem hu2)) (o5 := some d) (o7 := o7) (o8 := o8) f3
    exact ⟨_, S2, (s_setx (d := rt acts4[u] pl[u2]) er).trans e3, ⟨_, _, _, _, rfl⟩, M2⟩
end
abbrev LCS : E := (.lc [5] (.var 5) (.rng1 (.cst (.int 5))) .no (.call F._law_long (.cons (.var 1) (.cons (.var 2) .nil))))
abbrev ZIPS : Ss := (.cons (.for_ (.tup [7, 8]) (.zip (.var 4) (.bin .add (.slc (.var 4) (.yes (.cst (.int 1))) .no) (.slc (.var 4) .no (.yes (.cst (.int 1)))))) PAIR) (.cons (.ret (.cst (.bl true))) .nil))
abbrev REST5 : Ss := (.cons (.asg (.tg (.var 4)) LCS) (.cons (.for_ (.var 5) (.rng1 (.cst (.int 8))) TURN8) ZIPS))
abbrev env0L (nms : List Wd) : Env := [some (.ref 0), some (.ref 1), some (tupS nms), some (.ref 2), none, none, none, none, none]
theorem long_elt {nms : List Wd} (N : Nms nms) (hne : nms ≠ []) (hnl : nms.length ≤ 10) {pl : List (List Wd)} {o0 o1 : Ob} {s : St} {d : D} (hMs : Mid 1 [o0, o1] [.lst (pl.map tupS)] 0 s) : ∃ env' y s2, setTg (.var 5) d (wipe (env0L nms) [5]) = some env' ∧ evE (evFn fns 11) (.call F._law_long (.cons (.var 1) (.cons (.var 2) .nil))) env' s = .ok (.d y) s2 ∧ Mid 1 [o0, o1] [.lst (pl.map tupS)] 0 s2 ∧ ∃ a p, y = rt a p ∧ Rg nms a p := by
  obtain ⟨l, hl, hg, hi, _⟩ := mid_get h12 hMs
  obtain ⟨a, p, s2, e, L, hR⟩ := m_long (k := 7) (st := s) N hne hnl hl hg
  refine ⟨[some (.ref 0), some (.ref 1), some (tupS nms), some (.ref 2), none, some d, none, none, none], rt a p, s2, rfl, ?_, mid_left h12 hMs L, a, p, rfl, hR⟩
  exact e_call2x (d := .ref 1) (e := tupS nms) (e_var rfl) (e_var rfl) e
theorem some_run {nms : List Wd} (N : Nms nms) (hne : nms ≠ []) (hnl : nms.length ≤ 10) {pl : List (List Wd)} {o0 o1 : Ob} {S : St} (hM : Mid 1 [o0, o1] [.lst (pl.map tupS)] 0 S) : ∃ (rs : List (Wd × List Wd)) (S2 : St), evE (evFn fns 11) LCS (env0L nms) S = .ok (.tmp (rs.map rtP)) S2 ∧ Mid 1 [o0, o1] [.lst (pl.map tupS)] 0 S2 ∧ (∀ r ∈ rs, Rg nms r.1 r.2) ∧ rs.length = 5 := by
  have hs : evSrc (evFn fns 11) (.rng1 (.cst (.int 5))) (env0L nms) S = .ok (.fix ((List.range 5).map fun k : Nat => D.int (k : Int))) S := src_rng1 (n := 5) rfl (by decide)
  obtain ⟨ys, S2, e2, hM2, hys, hyl⟩ := lc_inv (own := [5]) (t := .var 5) (elt := .call F._law_long (.cons (.var 1) (.cons (.var 2) .nil))) (ds := (List.range 5).map fun k : Nat => D.int (k : Int)) (fun _ s => Mid 1 [o0, o1] [.lst (pl.map tupS)] 0 s) (fun y => ∃ a p, y = rt a p ∧ Rg nms a p) hs hM (fun _ _ _ => rfl) (Nat.le_refl _) (by rw [List.length_map, List.length_range]; decide) (fun q s d hMs hd => long_elt N hne hnl hMs)
  rw [List.length_map, List.length_range] at hyl
  obtain ⟨rs, rfl, hrs⟩ := rights_of hys
  rw [List.length_map] at hyl
  exact ⟨rs, S2, e2, hM2, hrs, hyl⟩
theorem rest_run {nms : List Wd} {pl : List (List Wd)} (N : Nms nms) (hne : nms ≠ []) (hnl : nms.length ≤ 10) (hpl : ∀ path ∈ pl, PathOk nms fr path) (hfull : ∀ path, PathOk nms fr path → path ∈ pl) (hlen : pl.length ≤ 1000) (hpos : 0 < pl.length) {o0 o1 : Ob} {S : St} (hM : Mid 1 [o0, o1] [.lst (pl.map tupS)] 0 S) : ∃ S', S'.dirty = 0 ∧ evSs (evFn fns 11) REST5 (env0L nms) S = .ok (.rt (.d (.bl true))) S' := by
  obtain ⟨rs, S2, e2, hM2, hrs, hyl⟩ := some_run N hne hnl hM
  obtain ⟨l2, hl2, rfl⟩ := hM2
  let S3 : St := ⟨([o0, o1].set 1 (.lst (l2.map D.int)) ++ [.lst (pl.map tupS)]) ++ [.lst (rs.map rtP)], 0⟩
  have hM3 : Mid 1 [o0, o1] (EXL pl rs) 0 S3 := ⟨l2, hl2, rfl⟩
  obtain ⟨o5, o6, o7, o8, S4, hM4, e4⟩ := turns_run N hpl hlen hpos hrs (o5 := none) (o6 := none) (o7 := none) (o8 := none) hM3 (ss := ZIPS)
  obtain ⟨g2, g3, gd⟩ := ml_get hM4
  obtain ⟨o7', o8', e5⟩ := zip_run N hpl hfull hlen hrs hyl (o5 := o5) (o6 := o6) (o7 := o7) (o8 := o8) g2 g3
  have e6 : evSs (evFn fns 11) (.cons (.ret (.cst (.bl true))) .nil) (envL nms o5 o6 o7' o8') S4 = .ok (.rt (.d (.bl true))) S4 := s_ret rfl
  have e3 : evSs (evFn fns 11) REST5 (env0L nms) S = evSs (evFn fns 11) (.cons (.for_ (.var 5) (.rng1 (.cst (.int 8))) TURN8) ZIPS) (envL nms none none none none) S3 := s_set (v := .tmp (rs.map rtP)) (d := .ref 3) (st2 := S3) e2 rfl
  exact ⟨S4, gd, e3.trans (e4.trans (e5.trans e6))⟩
theorem main (ns : List Int) (hn : ns.length ≤ 63) : ∃ st', evFn fns 12 F.law [.scr ns] ⟨[], 0⟩ = .ok (.d (.bl true)) st' := by
  let o0 : Ob := .lst (ns.map D.int)
  obtain ⟨l, hl, e1⟩ := m_pool (ns := ns) (j := 0) (k := 7) (st := ⟨[o0], 0⟩) (by omega) rfl
  let o1 : Ob := .lst (l.map D.int)
  have hM1 : Mid 1 [o0, o1] [] 0 ⟨[o0, o1], 0⟩ := ⟨l, by omega, rfl⟩
  let env1 : Env := [some (.ref 0), some (.ref 1), none, none, none, none, none, none, none]
  obtain ⟨v, S2, v0, v1, e2, hM2⟩ := mid_callv (v := 1) (k := 10) (m := 2) (env := env1) (b := .cst (.int 2)) h12 hM1 (by decide) rfl rfl
  obtain ⟨l2, hl2, rfl⟩ := hM2
  have hfirst : ∀ ss, evSs (evFn fns 11) (.cons (.asg (.tg (.var 0)) (.slc (.var 0) .no (.yes (.cst (.int 63))))) (.cons (.asg (.tg (.var 1)) (.call F._law_pool (.cons (.var 0) (.cons (.tup (.cons (.cst (.int 1000003)) (.cons (.cst (.int 999983)) .nil))) .nil)))) ss)) [some (.scr ns), none, none, none, none, none, none, none, none] ⟨[], 0⟩ = evSs (evFn fns 11) ss env1 ⟨[o0, o1], 0⟩ := fun ss => by
    have es : evE (evFn fns 11) (.slc (.var 0) .no (.yes (.cst (.int 63)))) [some (.scr ns), none, none, none, none, none, none, none, none] ⟨[], 0⟩ = .ok (.tmp (ns.map D.int)) ⟨[], 0⟩ := by
      rw [evE]
      show (Res.ok (Rv.d (.scr ns)) (St.mk [] 0)).bind _ = _
      show ofO (if decide ((ns.map D.int).length ≤ big) then some (Rv.tmp (cut (ns.map D.int) none (some 63))) else none) ⟨[], 0⟩ = _
      rw [if_pos (decide_eq_true (by show _ ≤ 100000; rw [List.length_map]; omega))]
      show Res.ok (Rv.tmp (cut (ns.map D.int) none (some 63))) _ = _
      congr 2
      unfold cut
      have e : sIx (ns.map D.int).length (ns.map D.int).length (some 63) = (ns.map D.int).length := by
        show (if (63 : Int) < 0 then ((63 : Int) + ((ns.map D.int).length : Int)).toNat else min (63 : Int).toNat (ns.map D.int).length) = _
        rw [if_neg (by decide), List.length_map]
        show min 63 ns.length = _
        omega
      rw [e]
      show ((ns.map D.int).drop 0).take ((ns.map D.int).length - 0) = _
      rw [List.drop_zero, Nat.sub_zero, List.take_length]
    refine (s_setT (ds := ns.map D.int) es).trans ((s_setT (ds := l.map D.int) (e_call2 (d := .ref 0) (e := .tup basesD) (e_var rfl) rfl e1)).trans rfl)
  have fin : ∀ {nms : List Wd} {pl : List (List Wd)}, Nms nms → nms ≠ [] → nms.length ≤ 10 → (∀ path, path ∈ pl ↔ PathOk nms fr path) → pl.length ≤ 1000 → 0 < pl.length → slcR ⟨[o0, o1].set 1 (.lst (l2.map D.int)) ++ [], 0⟩ (.d (tupS B3)) none (some (1 + v)) = some (.d (tupS nms)) →
      evFn fns 11 F._law_paths [tupS (nms ++ [fr])] ⟨[o0, .lst (l2.map D.int)], 0⟩ = .ok (.tmp (pl.map tupS)) ⟨[o0, .lst (l2.map D.int)], 0⟩ → ∃ st', evFn fns 12 F.law [.scr ns] ⟨[], 0⟩ = .ok (.d (.bl true)) st' := by
    intro nms pl N hne hnl hmem hlen hpos hsl hp
    obtain ⟨S', hd, e⟩ := rest_run N hne hnl (fun path h => (hmem path).mp h) (fun path h => (hmem path).mpr h) hlen hpos (o0 := o0) (o1 := o1) (S := ⟨[o0, .lst (l2.map D.int), .lst (pl.map tupS)], 0⟩) ⟨l2, hl2, rfl⟩
    have en : evE (evFn fns 11) (.slc (.tup (.cons (.cst (.str [120])) (.cons (.cst (.str [121, 121])) (.cons (.cst (.str [122, 97, 98, 99, 100, 101, 102, 103])) .nil)))) .no (.yes (.bin .add (.cst (.int 1)) (.call F._law_take (.cons (.var 1) (.cons (.cst (.int 2)) .nil)))))) env1 ⟨[o0, o1], 0⟩ = .ok (.d (tupS nms)) ⟨[o0, o1].set 1 (.lst (l2.map D.int)) ++ [], 0⟩ := by
      have ea : evE (evFn fns 11) (.bin .add (.cst (.int 1)) (.call F._law_take (.cons (.var 1) (.cons (.cst (.int 2)) .nil)))) env1 ⟨[o0, o1], 0⟩ = .ok (.d (.int (1 + v))) ⟨[o0, o1].set 1 (.lst (l2.map D.int)) ++ [], 0⟩ := e_binx (u := .d (.int 1)) (v := .d (.int v)) rfl e2 b_add
      rw [evE]
      show (Res.ok (Rv.d (tupS B3)) (St.mk [o0, o1] 0)).bind _ = _
      show ((evE (evFn fns 11) (.bin .add (.cst (.int 1)) (.call F._law_take (.cons (.var 1) (.cons (.cst (.int 2)) .nil)))) env1 ⟨[o0, o1], 0⟩).bind _).bind _ = _
      rw [ea]
      show (match boundOf none, boundOf (some (Rv.d (.int (1 + v)))) with
        | some l, some h => ofO (slcR ⟨[o0, o1].set 1 (.lst (l2.map D.int)) ++ [], 0⟩ (.d (tupS B3)) l h) ⟨[o0, o1].set 1 (.lst (l2.map D.int)) ++ [], 0⟩
        | _, _ => Res.err) = _
      rw [bound_int (by omega) (by omega)]
      show ofO (slcR ⟨[o0, o1].set 1 (.lst (l2.map D.int)) ++ [], 0⟩ (.d (tupS B3)) none (some (1 + v))) _ = _
      rw [hsl]
      rfl
    have ep : evE (evFn fns 11) (.call F._law_paths (.cons (.bin .add (.var 2) (.tup (.cons (.cst (.str [111, 116, 104, 101, 114])) .nil))) .nil)) [some (.ref 0), some (.ref 1), some (tupS nms), none, none, none, none, none, none] ⟨[o0, .lst (l2.map D.int)], 0⟩ = .ok (.tmp (pl.map tupS)) ⟨[o0, .lst (l2.map D.int)], 0⟩ := by
      refine e_call1 (d := tupS (nms ++ [fr])) (e_bin (u := .d (tupS nms)) (v := .d (tupS [fr])) (e_var rfl) rfl ?_) hp
      rw [add_tup (by rw [List.length_map, List.length_map]; show nms.length + 1 ≤ 100000; omega)]
      rw [show tupS (nms ++ [fr]) = .tup (nms.map D.str ++ [D.str fr]) by simp [tupS]]
      rfl
    have all : evSs (evFn fns 11) C.law [some (.scr ns), none, none, none, none, none, none, none, none] ⟨[], 0⟩ = .ok (.rt (.d (.bl true))) S' := (hfirst _).trans ((s_setx (d := tupS nms) en).trans ((s_setT (st := ⟨[o0, .lst (l2.map D.int)], 0⟩) (ds := pl.map tupS) ep).trans e))
    refine ⟨⟨[], 0⟩, ?_⟩
    show (evSs (evFn fns 11) C.law [some (.scr ns), none, none, none, none, none, none, none, none] ⟨[], 0⟩).bind _ = _
    rw [all]
    obtain ⟨objs, dd⟩ := S'
    exact finish_gen (base := 0) (d := .bl true) (Nat.zero_le _) rfl nofun
  have hv : v = 0 ∨ v = 1 := by omega
  rcases hv with rfl | rfl
  · exact fin (nms := [[120]]) (pl := pathsL [[120], fr]) ⟨by decide⟩ (by decide) (by decide) (fun path => mem_paths (nms := [[120]])) (by rw [paths_len1]; decide) (by rw [paths_len1]; decide) rfl (paths_run1 _ _)
  · exact fin (nms := [[120], [121, 121]]) (pl := pathsL [[120], [121, 121], fr]) ⟨by decide⟩ (by decide) (by decide) (fun path => mem_paths (nms := [[120], [121, 121]])) (by rw [paths_len2]; decide) (by rw [paths_len2]; decide) rfl (paths_run2 _ _)
end LawX
namespace LawX
def glo : List (PySem.Str × Ev.D) := [("ACTIONS", G.ACTIONS), ("ANY", G.ANY), ("LETTERS", G.LETTERS), ("MAX_NAME", G.MAX_NAME), ("MAX_PATH", G.MAX_PATH), ("REST", G.REST)]
def top (i : Nat) : PySem.Stmt := PySem.Challenge.pw_leastgrant_k01_whole_rights.main.body.getD i (.Pass ⟨0, 0, 0, 0⟩)
def R._law_matches : EvS.FnR := ⟨"_law_matches", top 34, ["_law_pattern_here", "_law_path"], ["_law_pattern_here", "_law_path"], C._law_matches⟩
def R.joint_items : EvS.FnR := ⟨"joint_items", top 21, ["one", "other"], ["one", "other", "joint", "item", "name"], C.joint_items⟩
def R.joint_pattern : EvS.FnR := ⟨"joint_pattern", top 22, ["one", "other"], ["one", "other", "head", "items"], C.joint_pattern⟩
def R.joint : EvS.FnR := ⟨"joint", top 23, ["one", "other"], ["one", "other", "pattern"], C.joint⟩
def R.is_action : EvS.FnR := ⟨"is_action", top 13, ["value"], ["value"], C.is_action⟩
def R.is_name : EvS.FnR := ⟨"is_name", top 11, ["value"], ["value", "sign"], C.is_name⟩
def R.is_pattern : EvS.FnR := ⟨"is_pattern", top 15, ["value"], ["value", "last", "first", "item"], C.is_pattern⟩
def R.is_right : EvS.FnR := ⟨"is_right", top 16, ["value"], ["value"], C.is_right⟩
def R.check_right : EvS.FnR := ⟨"check_right", top 24, ["right"], ["right"], C.check_right⟩
def R.meet : EvS.FnR := ⟨"meet", top 27, ["one", "other"], ["one", "other"], C.meet⟩
def R._law_meet_right : EvS.FnR := ⟨"_law_meet_right", top 41, ["_law_one", "_law_other", "_law_paths_here"], ["_law_one", "_law_other", "_law_paths_here", "_law_found", "_law_common", "_law_path"], C._law_meet_right⟩
def R.items_of : EvS.FnR := ⟨"items_of", top 17, ["pattern", "length"], ["pattern", "length", "head"], C.items_of⟩
def R.is_within : EvS.FnR := ⟨"is_within", top 20, ["one", "other"], ["one", "other", "length", "items", "wider", "inner", "outer"], C.is_within⟩
def R.within : EvS.FnR := ⟨"within", top 26, ["one", "other"], ["one", "other"], C.within⟩
def R._law_inside : EvS.FnR := ⟨"_law_inside", top 39, ["_law_one", "_law_other", "_law_paths_here"], ["_law_one", "_law_other", "_law_paths_here", "_law_path"], C._law_inside⟩
def R.matches : EvS.FnR := ⟨"matches", top 18, ["pattern", "path"], ["pattern", "path", "items", "item", "name"], C.matches⟩
def R.is_covered : EvS.FnR := ⟨"is_covered", top 19, ["right", "request"], ["right", "request"], C.is_covered⟩
def R.is_path : EvS.FnR := ⟨"is_path", top 12, ["value"], ["value", "item"], C.is_path⟩
def R.is_request : EvS.FnR := ⟨"is_request", top 14, ["value"], ["value"], C.is_request⟩
def R.covers : EvS.FnR := ⟨"covers", top 25, ["right", "request"], ["right", "request"], C.covers⟩
def R._law_covers : EvS.FnR := ⟨"_law_covers", top 35, ["_law_one", "_law_request"], ["_law_one", "_law_request"], C._law_covers⟩
def R._law_take : EvS.FnR := ⟨"_law_take", top 32, ["_law_draws", "_law_many"], ["_law_draws", "_law_many"], C._law_take⟩
def R._law_pattern : EvS.FnR := ⟨"_law_pattern", top 37, ["_law_draws", "_law_names"], ["_law_draws", "_law_names", "_law_found", "_law_last", "_law_item"], C._law_pattern⟩
def R._law_right : EvS.FnR := ⟨"_law_right", top 38, ["_law_draws", "_law_names"], ["_law_draws", "_law_names"], C._law_right⟩
def R._law_long : EvS.FnR := ⟨"_law_long", top 40, ["_law_draws", "_law_names"], ["_law_draws", "_law_names", "_law_word", "_law_pattern_here"], C._law_long⟩
def R._law_paths : EvS.FnR := ⟨"_law_paths", top 36, ["_law_names"], ["_law_names", "_law_size", "_law_found", "_law_last", "_law_longer", "_law_path", "_law_name"], C._law_paths⟩
def R._law_draw : EvS.FnR := ⟨"_law_draw", top 29, ["_law_cell", "_law_k", "_law_many"], ["_law_cell", "_law_k", "_law_many", "_law_primes"], C._law_draw⟩
def R._law_cell_at : EvS.FnR := ⟨"_law_cell_at", top 30, ["_law_script", "_law_k"], ["_law_script", "_law_k"], C._law_cell_at⟩
def R._law_digits : EvS.FnR := ⟨"_law_digits", top 31, ["_law_script", "_law_at", "_law_many", "_law_base"], ["_law_script", "_law_at", "_law_many", "_law_base", "_law_left", "_law_turn", "_law_cell", "_law_found", "_law_blend", "_law_more"], C._law_digits⟩
def R._law_pool : EvS.FnR := ⟨"_law_pool", top 33, ["_law_script", "_law_bases"], ["_law_script", "_law_bases", "_law_found", "_law_at", "_law_base"], C._law_pool⟩
def R.law : EvS.FnR := ⟨"law", top 42, ["_law_script"], ["_law_script", "_law_draws", "_law_names", "_law_paths_here", "_law_some", "_law_turn", "_law_request", "_law_one", "_law_other"], C.law⟩
def rs : List EvS.FnR := [R._law_matches, R.joint_items, R.joint_pattern, R.joint, R.is_action, R.is_name, R.is_pattern, R.is_right, R.check_right, R.meet, R._law_meet_right, R.items_of, R.is_within, R.within, R._law_inside, R.matches, R.is_covered, R.is_path, R.is_request, R.covers, R._law_covers, R._law_take, R._law_pattern, R._law_right, R._law_long, R._law_paths, R._law_draw, R._law_cell_at, R._law_digits, R._law_pool, R.law]
theorem fns_eq : rs.map EvS.FnR.fn = fns := rfl
/-! ### the check -/
theorem ok__law_matches : R._law_matches.ok (rs.map EvS.FnR.name) glo = true := by kernel_rfl
theorem ok_joint_items : R.joint_items.ok (rs.map EvS.FnR.name) glo = true := by kernel_rfl
theorem ok_joint_pattern : R.joint_pattern.ok (rs.map EvS.FnR.name) glo = true := by kernel_rfl
theorem ok_joint : R.joint.ok (rs.map EvS.FnR.name) glo = true := by kernel_rfl
theorem ok_is_action : R.is_action.ok (rs.map EvS.FnR.name) glo = true := by kernel_rfl
theorem ok_is_name : R.is_name.ok (rs.map EvS.FnR.name) glo = true := by kernel_rfl
theorem ok_is_pattern : R.is_pattern.ok (rs.map EvS.FnR.name) glo = true := by kernel_rfl
theorem ok_is_right : R.is_right.ok (rs.map EvS.FnR.name) glo = true := by kernel_rfl
theorem ok_check_right : R.check_right.ok (rs.map EvS.FnR.name) glo = true := by kernel_rfl
theorem ok_meet : R.meet.ok (rs.map EvS.FnR.name) glo = true := by kernel_rfl
theorem ok__law_meet_right : R._law_meet_right.ok (rs.map EvS.FnR.name) glo = true := by kernel_rfl
theorem ok_items_of : R.items_of.ok (rs.map EvS.FnR.name) glo = true := by kernel_rfl
theorem ok_is_within : R.is_within.ok (rs.map EvS.FnR.name) glo = true := by kernel_rfl
theorem ok_within : R.within.ok (rs.map EvS.FnR.name) glo = true := by kernel_rfl
theorem ok__law_inside : R._law_inside.ok (rs.map EvS.FnR.name) glo = true := by kernel_rfl
theorem ok_matches : R.matches.ok (rs.map EvS.FnR.name) glo = true := by kernel_rfl
theorem ok_is_covered : R.is_covered.ok (rs.map EvS.FnR.name) glo = true := by kernel_rfl
theorem ok_is_path : R.is_path.ok (rs.map EvS.FnR.name) glo = true := by kernel_rfl
theorem ok_is_request : R.is_request.ok (rs.map EvS.FnR.name) glo = true := by kernel_rfl
theorem ok_covers : R.covers.ok (rs.map EvS.FnR.name) glo = true := by kernel_rfl
theorem ok__law_covers : R._law_covers.ok (rs.map EvS.FnR.name) glo = true := by kernel_rfl
theorem ok__law_take : R._law_take.ok (rs.map EvS.FnR.name) glo = true := by kernel_rfl
theorem ok__law_pattern : R._law_pattern.ok (rs.map EvS.FnR.name) glo = true := by kernel_rfl
theorem ok__law_right : R._law_right.ok (rs.map EvS.FnR.name) glo = true := by kernel_rfl
theorem ok__law_long : R._law_long.ok (rs.map EvS.FnR.name) glo = true := by kernel_rfl
theorem ok__law_paths : R._law_paths.ok (rs.map EvS.FnR.name) glo = true := by kernel_rfl
theorem ok__law_draw : R._law_draw.ok (rs.map EvS.FnR.name) glo = true := by kernel_rfl
theorem ok__law_cell_at : R._law_cell_at.ok (rs.map EvS.FnR.name) glo = true := by kernel_rfl
theorem ok__law_digits : R._law_digits.ok (rs.map EvS.FnR.name) glo = true := by kernel_rfl
theorem ok__law_pool : R._law_pool.ok (rs.map EvS.FnR.name) glo = true := by kernel_rfl
theorem ok_law : R.law.ok (rs.map EvS.FnR.name) glo = true := by kernel_rfl
theorem ok_all : rs.all (EvS.FnR.ok (rs.map EvS.FnR.name) glo) = true := by
  refine List.all_eq_true.mpr fun r hr => ?_
  have hr : r ∈ ([R._law_matches, R.joint_items, R.joint_pattern, R.joint, R.is_action, R.is_name, R.is_pattern, R.is_right, R.check_right, R.meet, R._law_meet_right, R.items_of, R.is_within, R.within, R._law_inside, R.matches, R.is_covered, R.is_path, R.is_request, R.covers, R._law_covers, R._law_take, R._law_pattern, R._law_right, R._law_long, R._law_paths, R._law_draw, R._law_cell_at, R._law_digits, R._law_pool, R.law] : List EvS.FnR) := hr
  simp only [List.mem_cons, List.not_mem_nil, or_false] at hr
  rcases hr with rfl | rfl | rfl | rfl | rfl | rfl | rfl | rfl | rfl | rfl | rfl | rfl | rfl | rfl | rfl | rfl | rfl | rfl | rfl | rfl | rfl | rfl | rfl | rfl | rfl | rfl | rfl | rfl | rfl | rfl | rfl
  · exact ok__law_matches
  · exact ok_joint_items
  · exact ok_joint_pattern
  · exact ok_joint
  · exact ok_is_action
  · exact ok_is_name
  · exact ok_is_pattern
  · exact ok_is_right
  · exact ok_check_right
  · exact ok_meet
  · exact ok__law_meet_right
  · exact ok_items_of
  · exact ok_is_within
  · exact ok_within
  · exact ok__law_inside
  · exact ok_matches
  · exact ok_is_covered
  · exact ok_is_path
  · exact ok_is_request
  · exact ok_covers
  · exact ok__law_covers
  · exact ok__law_take
  · exact ok__law_pattern
  · exact ok__law_right
  · exact ok__law_long
  · exact ok__law_paths
  · exact ok__law_draw
  · exact ok__law_cell_at
  · exact ok__law_digits
  · exact ok__law_pool
  · exact ok_law
theorem bnd__law_matches : R._law_matches.Bnd := fun _ _ _ _ _ _ us hl => match us, hl with | [_, _], _ => rfl
theorem bnd_joint_items : R.joint_items.Bnd := fun _ _ _ _ _ _ us hl => match us, hl with | [_, _], _ => rfl
theorem bnd_joint_pattern : R.joint_pattern.Bnd := fun _ _ _ _ _ _ us hl => match us, hl with | [_, _], _ => rfl
theorem bnd_joint : R.joint.Bnd := fun _ _ _ _ _ _ us hl => match us, hl with | [_, _], _ => rfl
theorem bnd_is_action : R.is_action.Bnd := fun _ _ _ _ _ _ us hl => match us, hl with | [_], _ => rfl
theorem bnd_is_name : R.is_name.Bnd := fun _ _ _ _ _ _ us hl => match us, hl with | [_], _ => rfl
theorem bnd_is_pattern : R.is_pattern.Bnd := fun _ _ _ _ _ _ us hl => match us, hl with | [_], _ => rfl
theorem bnd_is_right : R.is_right.Bnd := fun _ _ _ _ _ _ us hl => match us, hl with | [_], _ => rfl
theorem bnd_check_right : R.check_right.Bnd := fun _ _ _ _ _ _ us hl => match us, hl with | [_], _ => rfl
theorem bnd_meet : R.meet.Bnd := fun _ _ _ _ _ _ us hl => match us, hl with | [_, _], _ => rfl
theorem bnd__law_meet_right : R._law_meet_right.Bnd := fun _ _ _ _ _ _ us hl => match us, hl with | [_, _, _], _ => rfl
theorem bnd_items_of : R.items_of.Bnd := fun _ _ _ _ _ _ us hl => match us, hl with | [_, _], _ => rfl
theorem bnd_is_within : R.is_within.Bnd := fun _ _ _ _ _ _ us hl => match us, hl with | [_, _], _ => rfl
theorem bnd_within : R.within.Bnd := fun _ _ _ _ _ _ us hl => match us, hl with | [_, _], _ => rfl
theorem bnd__law_inside : R._law_inside.Bnd := fun _ _ _ _ _ _ us hl => match us, hl with | [_, _, _], _ => rfl
theorem bnd_matches : R.matches.Bnd := fun _ _ _ _ _ _ us hl => match us, hl with | [_, _], _ => rfl
theorem bnd_is_covered : R.is_covered.Bnd := fun _ _ _ _ _ _ us hl => match us, hl with | [_, _], _ => rfl
theorem bnd_is_path : R.is_path.Bnd := fun _ _ _ _ _ _ us hl => match us, hl with | [_], _ => rfl
theorem bnd_is_request : R.is_request.Bnd := fun _ _ _ _ _ _ us hl => match us, hl with | [_], _ => rfl
theorem bnd_covers : R.covers.Bnd := fun _ _ _ _ _ _ us hl => match us, hl with | [_, _], _ => rfl
theorem bnd__law_covers : R._law_covers.Bnd := fun _ _ _ _ _ _ us hl => match us, hl with | [_, _], _ => rfl
theorem bnd__law_take : R._law_take.Bnd := fun _ _ _ _ _ _ us hl => match us, hl with | [_, _], _ => rfl
theorem bnd__law_pattern : R._law_pattern.Bnd := fun _ _ _ _ _ _ us hl => match us, hl with | [_, _], _ => rfl
theorem bnd__law_right : R._law_right.Bnd := fun _ _ _ _ _ _ us hl => match us, hl with | [_, _], _ => rfl
theorem bnd__law_long : R._law_long.Bnd := fun _ _ _ _ _ _ us hl => match us, hl with | [_, _], _ => rfl
theorem bnd__law_paths : R._law_paths.Bnd := fun _ _ _ _ _ _ us hl => match us, hl with | [_], _ => rfl
theorem bnd__law_draw : R._law_draw.Bnd := fun _ _ _ _ _ _ us hl => match us, hl with | [_, _, _], _ => rfl
theorem bnd__law_cell_at : R._law_cell_at.Bnd := fun _ _ _ _ _ _ us hl => match us, hl with | [_, _], _ => rfl
theorem bnd__law_digits : R._law_digits.Bnd := fun _ _ _ _ _ _ us hl => match us, hl with | [_, _, _, _], _ => rfl
theorem bnd__law_pool : R._law_pool.Bnd := fun _ _ _ _ _ _ us hl => match us, hl with | [_, _], _ => rfl
theorem bnd_law : R.law.Bnd := fun _ _ _ _ _ _ us hl => match us, hl with | [_], _ => rfl
theorem bnd_all : ∀ r ∈ rs, r.Bnd := by
  intro r hr
  simp only [rs, List.mem_cons, List.not_mem_nil, or_false] at hr
  rcases hr with rfl | rfl | rfl | rfl | rfl | rfl | rfl | rfl | rfl | rfl | rfl | rfl | rfl | rfl | rfl | rfl | rfl | rfl | rfl | rfl | rfl | rfl | rfl | rfl | rfl | rfl | rfl | rfl | rfl | rfl | rfl
  · exact bnd__law_matches
  · exact bnd_joint_items
  · exact bnd_joint_pattern
  · exact bnd_joint
  · exact bnd_is_action
  · exact bnd_is_name
  · exact bnd_is_pattern
  · exact bnd_is_right
  · exact bnd_check_right
  · exact bnd_meet
  · exact bnd__law_meet_right
  · exact bnd_items_of
  · exact bnd_is_within
  · exact bnd_within
  · exact bnd__law_inside
  · exact bnd_matches
  · exact bnd_is_covered
  · exact bnd_is_path
  · exact bnd_is_request
  · exact bnd_covers
  · exact bnd__law_covers
  · exact bnd__law_take
  · exact bnd__law_pattern
  · exact bnd__law_right
  · exact bnd__law_long
  · exact bnd__law_paths
  · exact bnd__law_draw
  · exact bnd__law_cell_at
  · exact bnd__law_digits
  · exact bnd__law_pool
  · exact bnd_law
/-! ### the head -/
abbrev R0 : PySem.W.OpenRow := PySem.W.OpenLaw.row PySem.Challenge.rw_leastgrant_k01_whole_rights
abbrev qv : PySem.Program := PySem.W.view R0.prog [42]
def loose : List PySem.Str := (["RightError", "BadRight", "BadRequest", "LETTERS", "MAX_NAME", "MAX_PATH", "ACTIONS", "ANY", "REST", "is_name", "is_path", "is_action", "is_request", "is_pattern", "is_right", "items_of", "matches", "is_covered", "is_within", "joint_items", "joint_pattern", "joint", "check_right", "covers", "within", "meet", "_law_draw", "_law_cell_at", "_law_digits", "_law_take"] : List PySem.Str) ++ (["_law_pool", "_law_matches", "_law_covers", "_law_paths", "_law_pattern", "_law_right", "_law_inside", "_law_long", "_law_meet_right"] : List PySem.Str)
abbrev hk : PySem.W.Hook := EvS.hookE 5 (EvS.faOf rs) glo (rs.map EvS.FnR.dd)
def ob (s : PySem.W.SharedT) : He.AlD := EvS.obsEG 5 (EvS.faOf rs) glo (rs.map EvS.FnR.dd) (HandSHeadRun.getT s)
theorem ob_eq (s : PySem.W.SharedT) : ob s = hk.obs s.abs := EvS.obsEG_eq (HandSHeadRun.getT_eq s)
theorem run (w : PySem.World) : HandSHeadRun.RunEq R0 qv hk ob 6000 loose w := by
  intro os
  kernel_rfl

end LawX
open PySem PySem.W PySem.Calls PyProof.Rows
theorem law_of (main : ∀ ns : List Int, ns.length ≤ 63 → ∃ st', Ev.evFn LawX.fns 12 LawX.F.law [.scr ns] ⟨[], 0⟩ = .ok (.d (.bl true)) st') : PySem.Challenge.rw_leastgrant_k01_whole_rights.Holds := by
  w_on; o_law
  refine HandSHeadRun.head_any (r := OpenLaw.row PySem.Challenge.rw_leastgrant_k01_whole_rights) (q := view (OpenLaw.row PySem.Challenge.rw_leastgrant_k01_whole_rights).prog [42]) (H := LawX.hk) (ob := LawX.ob) (M := 6000) (loose := LawX.loose) (d := HandSHeadRun.topDef (OpenLaw.row PySem.Challenge.rw_leastgrant_k01_whole_rights).prog 42) (kwd := []) LawX.ob_eq
    (by kernel_rfl) (fun s => by kernel_rfl) LawX.run (by kernel_rfl) (by kernel_rfl) (by kernel_rfl) (by rfl) (by first | assumption | decide +kernel) (by decide +kernel) ⟨rfl, rfl, rfl, rfl, rfl, by decide +kernel⟩ ?hw ?hc
  case hw => w_witness2
  case hc =>
    refine L2.walk_ofE (l := PySem.Challenge.rw_leastgrant_k01_whole_rights) (n := 63) (k := 12) (x := "_law_script") (CX := L2.CX0) rfl (by decide) (by kernel_rfl) ⟨rfl, by decide, by decide⟩ ?F (fun _ _ _ _ z => z)
    intro w mg fa h Y G hmg0
    obtain ⟨K, KX, c⟩ := Y
    have hmg : mg ("law" : PySem.Str) = some (.ref fa) := by
      have e : (HandSHeadRun.topDef (OpenLaw.row PySem.Challenge.rw_leastgrant_k01_whole_rights).prog 42).name = ("law" : PySem.Str) := by kernel_rfl
      rw [← e]
      exact hmg0
    obtain ⟨P, D⟩ := EvS.prg_of KX G c LawX.ok_all LawX.bnd_all
    obtain ⟨fd, DL, hbl⟩ := D LawX.F.law LawX.R.law rfl
    have e := hmg.symm.trans DL.mg
    cases e
    rw [LawX.fns_eq] at P
    refine ⟨K, fd, EvS.spF K (Ev.evFn LawX.fns 12) LawX.F.law, KX, fun s v => ?_, fun H a ns hl hO hS => EvS.sp_law hO hS (main ns hl), fun base _ _ => EvS.all_fn P 12 LawX.F.law _ _ _ fd _ rfl DL⟩
    exact hbl s [v] rfl
theorem PySem.Challenge.cw_leastgrant_k01_whole_rights_holds : PySem.Challenge.rw_leastgrant_k01_whole_rights.Holds :=
  law_of LawX.main
