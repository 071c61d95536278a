import PyProof.Rows.All
import Wide.All
import OpenK.AllK
import Wide.FinOn
import HandS.ForMost
import HandS.ForExc
import HandS.Wide
import HandS.TupMul
import HandS.TupAny
import HandS.SortInts
import HandS.Deep
import HandS.IsInst
import HandS.Strs
import HandS.Conv
import HandS.NoneIn
import HandS.RaiseMore
import HandS.Style
import HandS.Walk
import HandS.TupLe
import PyProof.FitsInt
import KE.GoesEnum
import HandS.SetFor
import PySem.Challenge.RW_piecetrees_k19_is_firm_by_all_lots_as_pi
set_option Elab.async false
set_option linter.all false
set_option maxRecDepth 100000
/-! Co1: a small language of expressions and statements over plain values, and what it computes (no model in sight). -/
namespace Co
open PySem

/-- a value: data as a tree; ref i: the list or dict that stands in the i-th cell of the store -/
inductive Val where
  | non | bl (b : Bool) | int (i : Int) | str (x : Str)
  | tup (xs : List Val) | lst (xs : List Val) | scr (xs : List Val) | dct (ks : List L2.Key) (xs : List Val) | ref (i : Nat)
deriving Inhabited

def keyPy : L2.Key → PyData
  | .inl k => .int k
  | .inr x => .str x
mutual
def toPy : Val → PyData
  | .non => .none
  | .bl b => .bool b
  | .int i => .int i
  | .str x => .str x
  | .tup xs => .tuple (toPys xs)
  | .lst xs => .list (toPys xs)
  | .scr xs => .list (toPys xs)
  | .dct ks xs => .dict ((ks.map keyPy).zip (toPys xs))
  | .ref _ => .none
def toPys : List Val → List PyData
  | [] => []
  | x :: xs => toPy x :: toPys xs
end
mutual
def below (n : Nat) : Val → Bool
  | .non | .bl _ | .int _ | .str _ => true
  | .tup xs | .lst xs | .scr xs | .dct _ xs => belows n xs
  | .ref i => decide (i < n)
def belows (n : Nat) : List Val → Bool
  | [] => true
  | x :: xs => below n x && belows n xs
end
abbrev noRef (v : Val) : Bool := below 0 v

inductive Cell where
  | lst (xs : List Val) | dct (ks : List L2.Key) (xs : List Val) | dead
def Cell.below (n : Nat) : Cell → Bool
  | .lst xs => belows n xs
  | .dct _ xs => belows n xs
  | .dead => true
abbrev Store := List Cell
abbrev Ev := List (Option Val)

inductive R (α : Type) where
  | ok (a : α) (st : Store) | exc (c : Nat) (xs : List Val) (st : Store) | stuck
def R.bind {α β : Type} : R α → (α → Store → R β) → R β
  | .ok a st, f => f a st
  | .exc c xs st, _ => .exc c xs st
  | .stuck, _ => .stuck
@[simp] theorem R.bind_ok {α β : Type} (a : α) (st : Store) (f : α → Store → R β) : (R.ok a st).bind f = f a st := rfl

def LIM : Nat := 100000

inductive Bop where | add | sub | mul | fdiv | mod | pow | shl | shr | band | bor | bxor
inductive Cop where | lt | le | gt | ge | eq | ne | isin | notin | isn | notn
inductive Ty where | int | bool | str | tuple | list | dict | none
inductive Bi where | len | tuple | list | sum | any | all | sorted | min2 | max2 | max1 | min1 | abs | int | str | repr | isin (t : Ty) | sset
inductive Mt where | append | pop | popAt | extend | index | insert | get

/-- what a name of a list in the store holds -/
def dr (st : Store) : Val → Val
  | .ref i => match st[i]? with
    | some (.lst xs) => .lst xs
    | some (.dct ks xs) => .dct ks xs
    | _ => .ref i
  | v => v
def mkL (lv : Bool) (xs : List Val) (st : Store) : R Val := if lv then .ok (.ref st.length) (st ++ [.lst xs]) else .ok (.lst xs) st
def mulOk (a b : Int) : Bool := decide (a.natAbs < 2 ^ 64) || decide (b.natAbs < 2 ^ 64) || (decide (a.natAbs < 2 ^ 2000) && decide (b.natAbs < 2 ^ 2000))
def binI : Bop → Int → Int → Option Int
  | .add, a, b => some (a + b)
  | .sub, a, b => some (a - b)
  | .mul, a, b => if mulOk a b then some (a * b) else none
  | .fdiv, a, b => if 0 < b ∧ b < 1073741824 then some (a / b) else none
  | .mod, a, b => if 0 < b then some (a % b) else none
  | .pow, a, b => if 0 ≤ b ∧ b ≤ 1000 ∧ a.natAbs < 2 ^ 64 then some (a ^ b.toNat) else none
  | .shl, a, b => if 0 ≤ b ∧ b ≤ 1000 ∧ a.natAbs < 2 ^ 64 then some (a * 2 ^ b.toNat) else none
  | .shr, a, b => if 0 ≤ b then some (a / 2 ^ b.toNat) else none
  | .band, a, b => some (Builtin.bitAnd a b)
  | .bor, a, b => some (Builtin.bitOr a b)
  | .bxor, a, b => some (Builtin.bitXor a b)
def rep (k : Int) (xs : List Val) : List Val := (List.replicate k.toNat xs).flatten
def bin (op : Bop) (lv : Bool) (a b : Val) (st : Store) : R Val :=
  match a, b with
  | .int i, .int j => match binI op i j with
    | some k => .ok (.int k) st
    | none => .stuck
  | .str x, .str y => match op with
    | .add => if x.length + y.length ≤ LIM then .ok (.str (x ++ y)) st else .stuck
    | _ => .stuck
  | .tup xs, .tup ys => match op with
    | .add => if xs.length + ys.length ≤ LIM then .ok (.tup (xs ++ ys)) st else .stuck
    | _ => .stuck
  | .tup xs, .int k => match op with
    | .mul => if xs.length ≤ 1000 ∧ xs ≠ [] ∧ 2 ≤ k ∧ k ≤ 1000 then .ok (.tup (rep k xs)) st else .stuck
    | _ => .stuck
  | .lst xs, .int k => match op with
    | .mul => if xs.length ≤ 1000 ∧ k ≤ 1000 ∧ -1000 ≤ k then mkL lv (rep k xs) st else .stuck
    | _ => .stuck
  | .lst xs, .lst ys => match op with
    | .add => if xs.length + ys.length ≤ LIM then mkL lv (xs ++ ys) st else .stuck
    | _ => .stuck
  | _, _ => .stuck

/-- data that == is carried for -/
def eqOk (v : Val) : Bool := noRef v && SeqAt.shaped (toPy v)
def veq (a b : Val) : Bool := PyData.eqv (toPy a) (toPy b)
def flat : Val → Bool
  | .non | .bl _ | .int _ | .str _ => true
  | _ => false
def hasIn (x : Val) (xs : List Val) : Bool := xs.any fun y => veq y x
def cmpv (op : Cop) (a b : Val) : Option Bool :=
  match op with
  | .lt => match a, b with | .int i, .int j => some (decide (i < j)) | _, _ => none
  | .le => match a, b with | .int i, .int j => some (decide (i ≤ j)) | _, _ => none
  | .gt => match a, b with | .int i, .int j => some (decide (j < i)) | _, _ => none
  | .ge => match a, b with | .int i, .int j => some (decide (j ≤ i)) | _, _ => none
  | .eq => if eqOk a && eqOk b then some (veq a b) else none
  | .ne => if eqOk a && eqOk b then some (!veq a b) else none
  | .isn => match b with | .non => (match a with | .non => some true | _ => some false) | .bl c => (match a with | .bl d => some (decide (d = c)) | _ => none) | _ => none
  | .notn => match b with | .non => (match a with | .non => some false | _ => some true) | .bl c => (match a with | .bl d => some (!decide (d = c)) | _ => none) | _ => none
  | .isin => match b with
    | .tup xs | .lst xs => if flat a && xs.all flat then some (hasIn a xs) else none
    | _ => none
  | .notin => match b with
    | .tup xs | .lst xs => if flat a && xs.all flat then some (!hasIn a xs) else none
    | _ => none
/-- whether there is anything -/
def trL : Val → Option Bool
  | .lst xs => some (!xs.isEmpty)
  | .tup xs => some (!xs.isEmpty)
  | _ => none
/-- a truth value -/
def tru : Val → Option Bool
  | .bl b => some b
  | _ => none
open L2 (ixN atI)
def keyOf : Val → Option L2.Key
  | .int i => some (.inl i)
  | .str x => some (.inr x)
  | _ => none
def look (k : L2.Key) : List L2.Key → List Val → Option Val
  | k' :: ks, v :: vs => if k' = k then some v else look k ks vs
  | _, _ => none
def putKs (k : L2.Key) (ks : List L2.Key) : List L2.Key := if (ks.any fun k' => decide (k' = k)) = true then ks else ks ++ [k]
def putVs (k : L2.Key) (v : Val) (ks : List L2.Key) (xs : List Val) : List Val :=
  if (ks.any fun k' => decide (k' = k)) = true then List.zipWith (fun k' x => if k' = k then v else x) ks xs else xs ++ [v]
def idx (a i : Val) : Option Val :=
  match a with
  | .tup xs | .lst xs | .scr xs => match i with
    | .int k => atI xs k
    | _ => none
  | .dct ks xs => match keyOf i with
    | some k => look k ks xs
    | none => none
  | _ => none
def cut {α : Type} (xs : List α) (lo hi : Option Int) : List α := (xs.drop (HT.sIx xs.length 0 lo)).take (HT.sIx xs.length xs.length hi - HT.sIx xs.length 0 lo)
def part? : Val → Option (Option Int)
  | .non => some none
  | .int i => some (some i)
  | _ => none
def ints? : List Val → Option (List Int)
  | [] => some []
  | .int i :: r => (ints? r).map (i :: ·)
  | _ => none
def bls? : List Val → Option (List Bool)
  | [] => some []
  | .bl i :: r => (bls? r).map (i :: ·)
  | _ => none
def insI (x : Int) : List Int → List Int
  | [] => [x]
  | y :: r => if x ≤ y then x :: y :: r else y :: insI x r
def sortI : List Int → List Int
  | [] => []
  | x :: r => insI x (sortI r)
def dedup : List Int → List Int
  | [] => []
  | x :: r => if x ∈ r then dedup r else x :: dedup r
def maxI : Int → List Int → Int
  | a, [] => a
  | a, x :: r => maxI (if a < x then x else a) r
def minI : Int → List Int → Int
  | a, [] => a
  | a, x :: r => minI (if x < a then x else a) r
def isTy : Ty → Val → Bool
  | .int, .int _ => true
  | .int, .bl _ => true
  | .bool, .bl _ => true
  | .str, .str _ => true
  | .tuple, .tup _ => true
  | .list, .lst _ => true
  | .dict, .dct _ _ => true
  | .none, .non => true
  | _, _ => false
/-- what repr is carried for: any data whose text is not too long -/
def shOk (v : Val) : Bool := eqOk v && (toPy v).showable && decide ((toPy v).shown.length ≤ sizeLine)
def biv (b : Bi) (lv : Bool) (vs : List Val) (st : Store) : R Val :=
  match b, vs with
  | .len, [v] => match dr st v with
    | .tup xs | .lst xs | .scr xs => .ok (.int xs.length) st
    | .dct ks _ => .ok (.int ks.length) st
    | .str x => if x.length ≤ LIM then .ok (.int x.length) st else .stuck
    | _ => .stuck
  | .tuple, [v] => match dr st v with
    | .tup xs | .lst xs => .ok (.tup xs) st
    | _ => .stuck
  | .list, [v] => match dr st v with
    | .tup xs | .lst xs => mkL lv xs st
    | _ => .stuck
  | .sum, [v] => match dr st v with
    | .lst xs => match ints? xs with
      | some ns => .ok (.int ns.sum) st
      | none => .stuck
    | _ => .stuck
  | .any, [v] => match dr st v with
    | .lst xs => match bls? xs with
      | some ns => .ok (.bl (ns.any id)) st
      | none => .stuck
    | _ => .stuck
  | .all, [v] => match dr st v with
    | .lst xs => match bls? xs with
      | some ns => .ok (.bl (ns.all id)) st
      | none => .stuck
    | _ => .stuck
  | .sorted, [v] => match dr st v with
    | .lst xs | .tup xs => match ints? xs with
      | some ns => mkL lv ((sortI ns).map .int) st
      | none => .stuck
    | _ => .stuck
  | .sset, [v] => match dr st v with
    | .lst xs | .tup xs => match ints? xs with
      | some ns => if ns.length ≤ 63 then mkL lv ((sortI (dedup ns)).map .int) st else .stuck
      | none => .stuck
    | _ => .stuck
  | .min2, [.int i, .int j] => .ok (.int (if j < i then j else i)) st
  | .max2, [.int i, .int j] => .ok (.int (if j > i then j else i)) st
  | .max1, [v] => match dr st v with
    | .lst xs | .tup xs => match ints? xs with
      | some (n :: ns) => .ok (.int (maxI n ns)) st
      | _ => .stuck
    | _ => .stuck
  | .min1, [v] => match dr st v with
    | .lst xs | .tup xs => match ints? xs with
      | some (n :: ns) => .ok (.int (minI n ns)) st
      | _ => .stuck
    | _ => .stuck
  | .abs, [.int i] => .ok (.int (if i < 0 then -i else i)) st
  | .int, [.int i] => .ok (.int i) st
  | .int, [.bl k] => .ok (.int (if k then 1 else 0)) st
  | .str, [.int i] => if i.natAbs < 2 ^ 1000 then .ok (.str (Str.ofString (toString i))) st else .stuck
  | .str, [.str x] => .ok (.str x) st
  | .repr, [v] => if shOk (dr st v) then .ok (.str (toPy (dr st v)).shown) st else .stuck
  | .isin t, [v] => match dr st v with
    | .ref _ | .scr _ => .stuck
    | w => .ok (.bl (isTy t w)) st
  | _, _ => .stuck
def setCell (i : Nat) (c : Cell) (st : Store) : Store := st.set i c
def mtv (m : Mt) (lv : Bool) (o : Val) (vs : List Val) (st : Store) : R Val :=
  match m, vs with
  | .append, [v] => match o with
    | .ref i => match st[i]? with
      | some (.lst xs) => if xs.length < LIM then .ok .non (st.set i (.lst (xs ++ [v]))) else .stuck
      | _ => .stuck
    | _ => .stuck
  | .pop, [] => match o with
    | .ref i => match st[i]? with
      | some (.lst xs) => match xs.getLast? with
        | some v => .ok v (st.set i (.lst xs.dropLast))
        | none => .stuck
      | _ => .stuck
    | _ => .stuck
  | .popAt, [.int k] => match o with
    | .ref i => match st[i]? with
      | some (.lst xs) => if 0 ≤ k ∧ k < xs.length ∧ xs.length ≤ LIM then (match xs[k.toNat]? with
        | some v => .ok v (st.set i (.lst (xs.eraseIdx k.toNat)))
        | none => .stuck) else .stuck
      | _ => .stuck
    | _ => .stuck
  | .extend, [v] => match o, dr st v with
    | .ref i, .lst ys => match st[i]? with
      | some (.lst xs) => if xs.length + ys.length ≤ LIM then .ok .non (st.set i (.lst (xs ++ ys))) else .stuck
      | _ => .stuck
    | _, _ => .stuck
  | _, _ => .stuck
def setv (o i v : Val) (st : Store) : R Unit :=
  match o with
  | .ref a => match st[a]? with
    | some (.lst xs) => match i with
      | .int k => match ixN xs.length k with
        | some j => .ok () (st.set a (.lst (xs.set j v)))
        | none => .stuck
      | _ => .stuck
    | some (.dct ks xs) => match keyOf i with
      | some k => if ks.length < 1000 then .ok () (st.set a (.dct (putKs k ks) (putVs k v ks xs))) else .stuck
      | none => .stuck
    | _ => .stuck
  | _ => .stuck

inductive Tg where
  | nm (i : Nat) | tp (is : List Nat)
def setAll : List Nat → List Val → Ev → Option Ev
  | [], [], env => some env
  | i :: is, v :: vs, env => setAll is vs (env.set i (some v))
  | _, _, _ => none
def bindT (t : Tg) (v : Val) (env : Ev) : Option Ev :=
  match t with
  | .nm i => some (env.set i (some v))
  | .tp is => match v with
    | .tup xs | .lst xs => setAll is xs env
    | _ => none
def wipe (env : Ev) : List Nat → Ev
  | [] => env
  | v :: vs => (wipe env vs).set v none

mutual
inductive Ex where
  | var (i : Nat) | cst (v : Val)
  | tup (es : Exs) | lst (lv : Bool) (es : Exs) | dct (lv : Bool) (ks : List L2.Key) (es : Exs)
  | bin (op : Bop) (lv : Bool) (a b : Ex) | neg (a : Ex) | not_ (a : Ex)
  | cmp (op : Cop) (a b : Ex) | chn (o1 o2 : Cop) (a b c : Ex) | and_ (a b : Ex) | or_ (a b : Ex) | ite (c a b : Ex)
  | call (f : Nat) (pm : List Nat) (es ks : Exs)
  | bi (b : Bi) (lv : Bool) (es : Exs) | mth (m : Mt) (lv : Bool) (o : Ex) (es : Exs)
  | idx (a i : Ex) | slc (lv : Bool) (a lo hi : Ex)
  | lc (lv : Bool) (elt : Ex) (tg : Tg) (it : Ic) (cnd : Ex) (own : List Nat)
  | sset (lv : Bool) (a : Ex) | rgl (tp lv : Bool) (it : Ic) | frz (a : Ex) | tst (a : Ex)
inductive Exs where
  | nil | cons (e : Ex) (es : Exs)
inductive Ic where
  | seq (e : Ex) | rng1 (e : Ex) | rng2 (a b : Ex) | enm (e : Ex)
end

abbrev CF := Nat → List Val → Store → R Val
def compL (f : Val → Store → R (Option Val)) : List Val → Store → R (List Val)
  | [], st => .ok [] st
  | x :: xs, st => (f x st).bind fun o st1 => (compL f xs st1).bind fun r st2 => .ok (match o with | some v => v :: r | none => r) st2
def pick (pm : List Nat) (vs : List Val) : Option (List Val) := pm.mapM fun i => vs[i]?
def enumV : Nat → List Val → List Val
  | _, [] => []
  | n, x :: xs => .tup [.int n, x] :: enumV (n + 1) xs
def rngV (lo : Int) (n : Nat) : List Val := (List.range n).map fun (k : Nat) => .int (lo + (k : Int))

/-- a written end of a slice, or none -/
def isNon : Ex → Bool
  | .cst .non => true
  | _ => false
def partE (lo : Ex) (y : Val) : Option (Option Int) := if isNon lo then some none else match y with
  | .int i => some (some i)
  | _ => none
/-- what a method is carried on -/
def mthOk (m : Mt) (x : Val) (st : Store) : Bool := match m with
  | .append | .pop | .popAt | .extend | .insert => (match x with
    | .ref i => (match st[i]? with
      | some (.lst _) => true
      | _ => false)
    | _ => false)
  | _ => false
def frzL (f : Val → Store → Option (Val × Store)) : List Val → Store → Option (List Val × Store)
  | [], st => some ([], st)
  | x :: xs, st => match f x st with
    | some (y, st') => (match frzL f xs st' with
      | some (ys, st'') => some (y :: ys, st'')
      | none => none)
    | none => none
def frzV : Nat → Val → Store → Option (Val × Store)
  | 0, v, st => some (v, st)
  | n + 1, v, st => match v with
    | .ref i => (match st[i]? with
      | some (.lst xs) => (match frzL (frzV n) xs (st.set i .dead) with
        | some (ys, st') => some (.lst ys, st')
        | none => none)
      | some (.dct ks xs) => (match frzL (frzV n) xs (st.set i .dead) with
        | some (ys, st') => some (.dct ks ys, st')
        | none => none)
      | _ => none)
    | v => some (v, st)
mutual
def evalE (cf : CF) : Ex → Ev → Store → R Val
  | .var i, env, st => match env[i]? with
    | some (some v) => .ok v st
    | _ => .stuck
  | .cst v, _, st => .ok v st
  | .tup es, env, st => (evalEs cf es env st).bind fun vs st1 => .ok (.tup vs) st1
  | .lst lv es, env, st => (evalEs cf es env st).bind fun vs st1 => mkL lv vs st1
  | .dct lv ks es, env, st => (evalEs cf es env st).bind fun vs st1 => if lv then .ok (.ref st1.length) (st1 ++ [.dct ks vs]) else .ok (.dct ks vs) st1
  | .bin op lv a b, env, st => (evalE cf a env st).bind fun x st1 => (evalE cf b env st1).bind fun y st2 => bin op lv (dr st2 x) (dr st2 y) st2
  | .neg a, env, st => (evalE cf a env st).bind fun x st1 => match x with
    | .int i => .ok (.int (-i)) st1
    | _ => .stuck
  | .not_ a, env, st => (evalE cf a env st).bind fun x st1 => match tru x with
    | some b => .ok (.bl (!b)) st1
    | none => .stuck
  | .cmp op a b, env, st => (evalE cf a env st).bind fun x st1 => (evalE cf b env st1).bind fun y st2 => match cmpv op (dr st2 x) (dr st2 y) with
    | some k => .ok (.bl k) st2
    | none => .stuck
  | .chn o1 o2 a b c, env, st => (evalE cf a env st).bind fun x st1 => (evalE cf b env st1).bind fun y st2 => match cmpv o1 (dr st2 x) (dr st2 y) with
    | some true => (evalE cf c env st2).bind fun z st3 => (match cmpv o2 (dr st3 y) (dr st3 z) with
      | some k => .ok (.bl k) st3
      | none => .stuck)
    | some false => .ok (.bl false) st2
    | none => .stuck
  | .and_ a b, env, st => (evalE cf a env st).bind fun x st1 => match tru x with
    | some true => evalE cf b env st1
    | some false => .ok (.bl false) st1
    | none => .stuck
  | .or_ a b, env, st => (evalE cf a env st).bind fun x st1 => match tru x with
    | some false => evalE cf b env st1
    | some true => .ok (.bl true) st1
    | none => .stuck
  | .ite c a b, env, st => (evalE cf c env st).bind fun x st1 => match tru x with
    | some true => evalE cf a env st1
    | some false => evalE cf b env st1
    | none => .stuck
  | .call f pm es ks, env, st => (evalEs cf es env st).bind fun vs st1 => (evalEs cf ks env st1).bind fun ws st2 => match pick pm (vs ++ ws) with
    | some us => cf f us st2
    | none => .stuck
  | .bi b lv es, env, st => (evalEs cf es env st).bind fun vs st1 => biv b lv vs st1
  | .mth m lv o es, env, st => (evalE cf o env st).bind fun x st1 => if mthOk m x st1 then (evalEs cf es env st1).bind fun vs st2 => mtv m lv x vs st2 else .stuck
  | .idx a i, env, st => (evalE cf a env st).bind fun x st1 => (evalE cf i env st1).bind fun y st2 => match idx (dr st2 x) y with
    | some v => .ok v st2
    | none => .stuck
  | .slc lv a lo hi, env, st => (evalE cf a env st).bind fun x st1 => (evalE cf lo env st1).bind fun y st2 => (evalE cf hi env st2).bind fun z st3 => match partE lo y, partE hi z with
    | some l, some h => (match dr st3 x with
      | .tup xs => .ok (.tup (cut xs l h)) st3
      | .lst xs | .scr xs => mkL lv (cut xs l h) st3
      | _ => .stuck)
    | _, _ => .stuck
  | .lc lv elt tg it cnd own, env, st => (evalI cf it env st).bind fun xs st1 => if LIM < xs.length then .stuck else (compL (fun x st2 => match bindT tg x (wipe env own) with
      | some env2 => (evalE cf cnd env2 st2).bind fun b st3 => (match tru b with
        | some true => (evalE cf elt env2 st3).bind fun v st4 => .ok (some v) st4
        | some false => .ok none st3
        | none => .stuck)
      | none => .stuck) xs st1).bind fun vs st5 => mkL lv vs st5
  | .sset lv a, env, st => (evalE cf a env st).bind fun x st1 => biv .sset lv [x] st1
  | .frz a, env, st => (evalE cf a env st).bind fun x st1 => match frzV 3 x st1 with
    | some (v, st2) => .ok v st2
    | none => .stuck
  | .tst a, env, st => (evalE cf a env st).bind fun x st1 => match trL (dr st1 x) with
    | some b => .ok (.bl b) st1
    | none => .stuck
  | .rgl tp lv it, env, st => (evalI cf it env st).bind fun xs st1 => if tp then .ok (.tup xs) st1 else mkL lv xs st1
def evalEs (cf : CF) : Exs → Ev → Store → R (List Val)
  | .nil, _, st => .ok [] st
  | .cons e es, env, st => (evalE cf e env st).bind fun x st1 => (evalEs cf es env st1).bind fun xs st2 => .ok (x :: xs) st2
def evalI (cf : CF) : Ic → Ev → Store → R (List Val)
  | .seq e, env, st => (evalE cf e env st).bind fun x st1 => match x with
    | .tup xs | .lst xs => .ok xs st1
    | _ => .stuck
  | .rng1 e, env, st => (evalE cf e env st).bind fun x st1 => match x with
    | .int n => if -1000000 ≤ n ∧ n ≤ 1000000 then .ok (rngV 0 n.toNat) st1 else .stuck
    | _ => .stuck
  | .rng2 a b, env, st => (evalE cf a env st).bind fun x st1 => (evalE cf b env st1).bind fun y st2 => match x, y with
    | .int i, .int j => if -1000000 ≤ i ∧ i ≤ 1000000 ∧ -1000000 ≤ j ∧ j ≤ 1000000 then .ok (rngV i (j - i).toNat) st2 else .stuck
    | _, _ => .stuck
  | .enm e, env, st => (evalE cf e env st).bind fun x st1 => match x with
    | .tup xs | .lst xs => .ok (enumV 0 xs) st1
    | _ => .stuck
end

/-! ### statements -/
mutual
inductive Sx where
  | asg (tg : Tg) (e : Ex) | par (is : List Nat) (es : Exs) | seti (o i e : Ex) | aug (i : Nat) (op : Bop) (e : Ex)
  | ex (e : Ex) | ret (e : Ex) | iff (c : Ex) (a b : Sxs) | fr (tg : Tg) (it : Ic) (body : Sxs) (clr : List Nat) | whl (c : Ex) (body : Sxs) (clr : List Nat)
  | brk | cont | pass | clr (is : List Nat) | frz (i : Nat)
  | sw (o1 i1 o2 i2 e : Ex) | rse
inductive Sxs where
  | nil | cons (s : Sx) (r : Sxs)
end
inductive RS where
  | nx (env : Ev) (st : Store) | ret (v : Val) (st : Store) | bk (env : Ev) (st : Store) | ct (env : Ev) (st : Store) | exc (c : Nat) (xs : List Val) (st : Store) | stuck
def RS.bind : RS → (Ev → Store → RS) → RS
  | .nx env st, f => f env st
  | r, _ => r
@[simp] theorem RS.bind_nx (env : Ev) (st : Store) (f : Ev → Store → RS) : (RS.nx env st).bind f = f env st := rfl
@[simp] theorem RS.bind_ret (v : Val) (st : Store) (f : Ev → Store → RS) : (RS.ret v st).bind f = RS.ret v st := rfl
@[simp] theorem RS.bind_bk (env : Ev) (st : Store) (f : Ev → Store → RS) : (RS.bk env st).bind f = RS.bk env st := rfl
@[simp] theorem RS.bind_ct (env : Ev) (st : Store) (f : Ev → Store → RS) : (RS.ct env st).bind f = RS.ct env st := rfl
def R.toS {α : Type} : R α → (α → Store → RS) → RS
  | .ok a st, f => f a st
  | .exc c xs st, _ => .exc c xs st
  | .stuck, _ => .stuck
@[simp] theorem R.toS_ok {α : Type} (a : α) (st : Store) (f : α → Store → RS) : (R.ok a st).toS f = f a st := rfl
/-- for: a turn each -/
def forL (f : Val → Ev → Store → RS) (clr : List Nat) : List Val → Ev → Store → RS
  | [], env, st => .nx env st
  | x :: xs, env, st => match f x env st with
    | .nx env' st' => forL f clr xs (wipe env' clr) st'
    | .ct env' st' => forL f clr xs (wipe env' clr) st'
    | .bk env' st' => .nx (wipe env' clr) st'
    | r => r
/-- while, with so many turns at the most -/
def whlL (t : Ev → Store → R Val) (f : Ev → Store → RS) (clr : List Nat) : Nat → Ev → Store → RS
  | 0, _, _ => .stuck
  | n + 1, env, st => (t env st).toS fun v st1 => match tru v with
    | some true => (match f env st1 with
      | .nx env' st' => whlL t f clr n (wipe env' clr) st'
      | .ct env' st' => whlL t f clr n (wipe env' clr) st'
      | .bk env' st' => .nx (wipe env' clr) st'
      | r => r)
    | some false => .nx (wipe env clr) st1
    | none => .stuck
def WF : Nat := 100000
mutual
def execS (cf : CF) : Sx → Ev → Store → RS
  | .asg tg e, env, st => (evalE cf e env st).toS fun v st1 => match bindT tg v env with
    | some env' => .nx env' st1
    | none => .stuck
  | .par is es, env, st => (evalEs cf es env st).toS fun vs st1 => match setAll is vs env with
    | some env' => .nx env' st1
    | none => .stuck
  | .seti o i e, env, st => (evalE cf e env st).toS fun v st1 => (evalE cf o env st1).toS fun x st2 => (evalE cf i env st2).toS fun y st3 => (setv x y v st3).toS fun _ st4 => .nx env st4
  | .aug i op e, env, st => match env[i]? with
    | some (some x) => (evalE cf e env st).toS fun y st1 => match x, y with
      | .int a, .int b => (match op with
        | .add => .nx (env.set i (some (.int (a + b)))) st1
        | .sub => .nx (env.set i (some (.int (a - b)))) st1
        | _ => .stuck)
      | _, _ => .stuck
    | _ => .stuck
  | .ex e, env, st => (evalE cf e env st).toS fun _ st1 => .nx env st1
  | .ret e, env, st => (evalE cf e env st).toS fun v st1 => .ret v st1
  | .iff c a b, env, st => (evalE cf c env st).toS fun x st1 => match tru x with
    | some true => execSs cf a env st1
    | some false => execSs cf b env st1
    | none => .stuck
  | .fr tg it body clr, env, st => (evalI cf it env st).toS fun xs st1 => forL (fun x env' st' => match bindT tg x env' with
    | some env2 => execSs cf body env2 st'
    | none => .stuck) clr xs env st1
  | .whl c body clr, env, st => whlL (fun env' st' => evalE cf c env' st') (fun env' st' => execSs cf body env' st') clr WF env st
  | .brk, env, st => .bk env st
  | .cont, env, st => .ct env st
  | .pass, env, st => .nx env st
  | .sw o1 i1 o2 i2 e, env, st => (evalE cf e env st).toS fun v st1 => match v with
    | .tup [v1, v2] => (evalE cf o1 env st1).toS fun x1 st2 => (evalE cf i1 env st2).toS fun y1 st3 => (setv x1 y1 v1 st3).toS fun _ st4 =>
      (evalE cf o2 env st4).toS fun x2 st5 => (evalE cf i2 env st5).toS fun y2 st6 => (setv x2 y2 v2 st6).toS fun _ st7 => .nx env st7
    | _ => .stuck
  | .rse, _, _ => .stuck
  | .clr is, env, st => .nx (wipe env is) st
  | .frz i, env, st => match env[i]? with
    | some (some v) => (match frzV 3 v st with
      | some (v', st') => .nx (env.set i (some v')) st'
      | none => .stuck)
    | _ => .stuck
def execSs (cf : CF) : Sxs → Ev → Store → RS
  | .nil, env, st => .nx env st
  | .cons s r, env, st => (execS cf s env st).bind fun env' st' => execSs cf r env' st'
end

/-! ### defs -/
structure FD where
  np : Nat
  ns : Nat
  body : Sxs
def trunc (n : Nat) (v : Val) (st : Store) : Store :=
  if st.length = n then st else if below n v && (st.take n).all (Cell.below n) then st.take n else st
def fin (n : Nat) : RS → R Val
  | .ret v st => .ok v (trunc n v st)
  | .nx _ st => .ok .non (trunc n .non st)
  | .exc c xs st => .exc c xs st
  | _ => .stuck
def runF (F : Nat → Option FD) : Nat → CF
  | 0, _, _, _ => .stuck
  | n + 1, f, args, st => match F f with
    | none => .stuck
    | some d => if args.length = d.np then fin st.length (execSs (runF F n) d.body (args.map some ++ List.replicate (d.ns - d.np) none) st) else .stuck
end Co

set_option Elab.async false
set_option linter.all false
set_option maxRecDepth 100000
set_option maxHeartbeats 4000000
/-! CoP1: plain facts about small data: its text, its equality. -/
namespace Cp
open Co
open PySem

/-! ### small data: ints within 64 bits, bools, None, tuples, lists -/
mutual
def small : Val → Bool
  | .non | .bl _ => true
  | .int i => decide (i.natAbs < 2 ^ 64)
  | .tup xs | .lst xs => smalls xs
  | _ => false
def smalls : List Val → Bool
  | [] => true
  | x :: xs => small x && smalls xs
end
mutual
def wt : Val → Nat
  | .int _ => 66
  | .tup xs | .lst xs => 3 + wts xs
  | _ => 5
def wts : List Val → Nat
  | [] => 0
  | x :: xs => wt x + 2 + wts xs
end
mutual
def dep : Val → Nat
  | .tup xs | .lst xs => deps xs + 1
  | _ => 0
def deps : List Val → Nat
  | [] => 0
  | x :: xs => max (dep x) (deps xs)
end
theorem small_log {i : Int} (h : i.natAbs < 2 ^ 64) : i.natAbs.log2 < 64 := by
  by_cases h0 : i.natAbs = 0
  · rw [h0]; decide
  · exact (Nat.log2_lt h0).mpr h
mutual
theorem small_ref : ∀ (v : Val) (n : Nat), small v = true → below n v = true
  | .non, _, _ => rfl
  | .bl _, _, _ => rfl
  | .int _, _, _ => rfl
  | .str _, _, h => by simp [small] at h
  | .tup xs, n, h => by
    simp only [small] at h
    simpa only [below] using smalls_ref xs n h
  | .lst xs, n, h => by
    simp only [small] at h
    simpa only [below] using smalls_ref xs n h
  | .scr _, _, h => by simp [small] at h
  | .dct _ _, _, h => by simp [small] at h
  | .ref _, _, h => by simp [small] at h
theorem smalls_ref : ∀ (vs : List Val) (n : Nat), smalls vs = true → belows n vs = true
  | [], _, _ => rfl
  | x :: xs, n, h => by
    simp only [smalls, Bool.and_eq_true] at h
    simp only [belows, Bool.and_eq_true]
    exact ⟨small_ref x n h.1, smalls_ref xs n h.2⟩
end
mutual
theorem small_lay : ∀ v : Val, small v = true → (toPy v).canLay0 = true ∧ (toPy v).depth = dep v ∧ (toPy v).showable = true
  | .non, _ => ⟨rfl, rfl, rfl⟩
  | .bl _, _ => ⟨rfl, rfl, rfl⟩
  | .int i, h => by
    simp only [small, decide_eq_true_eq] at h
    have := small_log h
    refine ⟨rfl, rfl, ?_⟩
    simp only [toPy, PyData.showable, decide_eq_true_eq]
    omega
  | .str _, h => by simp [small] at h
  | .tup xs, h => by
    simp only [small] at h
    obtain ⟨h1, h2, h3⟩ := smalls_lay xs h
    exact ⟨by simpa only [toPy, PyData.canLay0] using h1, by simp only [toPy, PyData.depth, dep, h2], by simpa only [toPy, PyData.showable] using h3⟩
  | .lst xs, h => by
    simp only [small] at h
    obtain ⟨h1, h2, h3⟩ := smalls_lay xs h
    exact ⟨by simpa only [toPy, PyData.canLay0] using h1, by simp only [toPy, PyData.depth, dep, h2], by simpa only [toPy, PyData.showable] using h3⟩
  | .scr _, h => by simp [small] at h
  | .dct _ _, h => by simp [small] at h
  | .ref _, h => by simp [small] at h
theorem smalls_lay : ∀ vs : List Val, smalls vs = true → PyData.canLayAll0 (toPys vs) = true ∧ PyData.depthAll (toPys vs) = deps vs ∧ PyData.showableAll (toPys vs) = true
  | [], _ => ⟨rfl, rfl, rfl⟩
  | x :: xs, h => by
    simp only [smalls, Bool.and_eq_true] at h
    obtain ⟨a1, a2, a3⟩ := small_lay x h.1
    obtain ⟨b1, b2, b3⟩ := smalls_lay xs h.2
    exact ⟨by simp only [toPys, PyData.canLayAll0, a1, b1, Bool.and_self], by simp only [toPys, PyData.depthAll, deps, a2, b2], by simp only [toPys, PyData.showableAll, a3, b3, Bool.and_self]⟩
end
theorem join_len : ∀ ts : List Str, (Str.join ", " ts).length ≤ piled ts
  | [] => Nat.zero_le _
  | t :: ts => by
    have := join_length_add (t :: ts) (by simp)
    omega
theorem textFrom_le : ∀ (ts : List Str) (k : Nat) (acc : Str), (textFrom k acc ts).length ≤ acc.length + piled ts
  | [], _, acc => by simp [textFrom, piled]
  | t :: ts, k, acc => by
    have ih := textFrom_le ts (k + 1) (acc ++ (if k > 0 then ", " else "" : String) ++ t)
    have e2 : (Str.ofString (if k > 0 then ", " else "" : String)).length ≤ 2 := by split <;> decide
    simp only [textFrom]
    rw [strLen_append, strLen_append] at ih
    rw [piled_cons]
    omega
mutual
theorem small_len : ∀ v : Val, small v = true → (toPy v).shown.length ≤ wt v
  | .non, _ => by simp only [toPy, PyData.shown, wt]; decide
  | .bl b, _ => by simp only [toPy, PyData.shown, wt]; cases b <;> decide
  | .int i, h => by
    simp only [small, decide_eq_true_eq] at h
    have := int_text_length_le (k := 64) (by decide) (small_log h)
    simp only [toPy, PyData.shown, wt]
    rw [ofString_length]
    omega
  | .str _, h => by simp [small] at h
  | .tup xs, h => by
    simp only [small] at h
    have ih := smalls_len xs h
    simp only [toPy, PyData.shown, wt, tupleText]
    rw [strLen_append, strLen_append]
    have h1 := join_len (PyData.shownAll (toPys xs))
    have h2 : (Str.ofString "(").length = 1 := by decide
    have h3 : (Str.ofString (if (PyData.shownAll (toPys xs)).length == 1 then ",)" else ")" : String)).length ≤ 2 := by split <;> decide
    omega
  | .lst xs, h => by
    simp only [small] at h
    have ih := smalls_len xs h
    simp only [toPy, PyData.shown, wt, listText]
    rw [strLen_append]
    have h1 := textFrom_le (PyData.shownAll (toPys xs)) 0 "["
    have h2 : (Str.ofString "[").length = 1 := by decide
    have h3 : (Str.ofString "]").length = 1 := by decide
    omega
  | .scr _, h => by simp [small] at h
  | .dct _ _, h => by simp [small] at h
  | .ref _, h => by simp [small] at h
theorem smalls_len : ∀ vs : List Val, smalls vs = true → piled (PyData.shownAll (toPys vs)) ≤ wts vs
  | [], _ => by simp [toPys, PyData.shownAll, piled, wts]
  | x :: xs, h => by
    simp only [smalls, Bool.and_eq_true] at h
    have a := small_len x h.1
    have b := smalls_len xs h.2
    simp only [toPys, PyData.shownAll, wts]
    rw [piled_cons]
    omega
end
theorem eqOk_small {v : Val} (h : small v = true) (d : dep v ≤ 64) : eqOk v = true := by
  obtain ⟨h1, h2, _⟩ := small_lay v h
  simp only [eqOk, Bool.and_eq_true, SeqAt.shaped, decide_eq_true_eq]
  exact ⟨small_ref v 0 h, h1, by rw [h2]; exact d⟩
theorem shOk_small {v : Val} (h : small v = true) (d : dep v ≤ 64) (w : wt v ≤ 16000000) : shOk v = true := by
  obtain ⟨h1, h2, h3⟩ := small_lay v h
  have h4 := small_len v h
  simp only [shOk, Bool.and_eq_true, decide_eq_true_eq]
  refine ⟨⟨eqOk_small h d, h3⟩, ?_⟩
  rw [sizeLine_eq]
  omega
/-! ### the text is a text -/
theorem strOk_append (x y : Str) : PyData.strOk (x ++ y) = (PyData.strOk x && PyData.strOk y) := by
  show (x.cps ++ y.cps).all _ = _
  rw [Array.all_append]; rfl
theorem strOk_of (s : String) : PyData.strOk (Str.ofString s) = true := by
  rw [Str.ofString_eq_toList]
  show ((s.toList.map Char.toNat).toArray).all _ = true
  simp only [List.all_toArray, List.all_map, List.all_eq_true, Function.comp_apply, decide_eq_true_eq]
  intro c _
  have := c.valid
  have hc : c.toNat = c.val.toNat := rfl
  rcases this with h | h
  · show c.val.toNat < _
    have : c.val.toNat < 0xd800 := h
    omega
  · show c.val.toNat < _
    have : c.val.toNat < 0x110000 := h.2
    omega
theorem strOk_join {sep : Str} (hs : PyData.strOk sep = true) : ∀ ts : List Str, (∀ t ∈ ts, PyData.strOk t = true) → PyData.strOk (Str.join sep ts) = true
  | [], _ => by simp [Str.join, Str.empty, PyData.strOk]
  | [x], h => h x (by simp)
  | x :: y :: r, h => by
    show PyData.strOk (x ++ sep ++ Str.join sep (y :: r)) = true
    rw [strOk_append, strOk_append, h x (by simp), hs, strOk_join hs (y :: r) fun t ht => h t (by simp [ht])]
    rfl
theorem strOk_from : ∀ (ts : List Str) (k : Nat) (acc : Str), (∀ t ∈ ts, PyData.strOk t = true) → PyData.strOk acc = true → PyData.strOk (textFrom k acc ts) = true
  | [], _, _, _, h => h
  | t :: ts, k, acc, h, ha => by
    simp only [textFrom]
    refine strOk_from ts _ _ (fun u hu => h u (by simp [hu])) ?_
    rw [strOk_append, strOk_append, ha, h t (by simp), strOk_of]
    rfl
mutual
theorem small_text : ∀ v : Val, small v = true → PyData.strOk (toPy v).shown = true
  | .non, _ => by simp only [toPy, PyData.shown]; exact strOk_of _
  | .bl b, _ => by simp only [toPy, PyData.shown]; cases b <;> exact strOk_of _
  | .int i, _ => by simp only [toPy, PyData.shown]; exact strOk_of _
  | .str _, h => by simp [small] at h
  | .tup xs, h => by
    simp only [small] at h
    simp only [toPy, PyData.shown, tupleText]
    rw [strOk_append, strOk_append, strOk_of, strOk_of, strOk_join (strOk_of _) _ (smalls_text xs h)]
    rfl
  | .lst xs, h => by
    simp only [small] at h
    simp only [toPy, PyData.shown, listText]
    rw [strOk_append, strOk_of, strOk_from _ _ _ (smalls_text xs h) (strOk_of _)]
    rfl
  | .scr _, h => by simp [small] at h
  | .dct _ _, h => by simp [small] at h
  | .ref _, h => by simp [small] at h
theorem smalls_text : ∀ vs : List Val, smalls vs = true → ∀ t ∈ PyData.shownAll (toPys vs), PyData.strOk t = true
  | [], _, t, ht => by simp [toPys, PyData.shownAll] at ht
  | x :: xs, h, t, ht => by
    simp only [smalls, Bool.and_eq_true] at h
    simp only [toPys, PyData.shownAll, List.mem_cons] at ht
    rcases ht with rfl | ht
    · exact small_text x h.1
    · exact smalls_text xs h.2 t ht
end
theorem eqOk_text {v : Val} (h : small v = true) : eqOk (.str (toPy v).shown) = true := by
  simp only [eqOk, Bool.and_eq_true, SeqAt.shaped, decide_eq_true_eq]
  exact ⟨rfl, by simpa only [toPy, PyData.canLay0] using small_text v h, by simp [toPy, PyData.depth]⟩
theorem veq_str (x y : Str) : veq (.str x) (.str y) = (x == y) := by simp only [veq, toPy, PyData.eqv]
/-- lists of ints -/
theorem smalls_ints : ∀ ns : List Int, (∀ n ∈ ns, n.natAbs < 2 ^ 64) → smalls (ns.map .int) = true
  | [], _ => rfl
  | n :: ns, h => by
    simp only [List.map_cons, smalls, small, Bool.and_eq_true, decide_eq_true_eq]
    exact ⟨h n (by simp), smalls_ints ns fun k hk => h k (by simp [hk])⟩
theorem eqOk_ints (ns : List Int) : eqOk (.lst (ns.map .int)) = true := by
  have h1 : belows 0 (ns.map Val.int) = true := by
    induction ns with
    | nil => rfl
    | cons n ns ih => simp only [List.map_cons, belows, below, ih, Bool.and_self]
  have h2 : PyData.canLayAll0 (toPys (ns.map Val.int)) = true := by
    clear h1
    induction ns with
    | nil => rfl
    | cons n ns ih => simp only [List.map_cons, toPys, toPy, PyData.canLayAll0, PyData.canLay0, ih, Bool.and_self]
  have h3 : PyData.depthAll (toPys (ns.map Val.int)) = 0 := by
    clear h1 h2
    induction ns with
    | nil => rfl
    | cons n ns ih => simp only [List.map_cons, toPys, toPy, PyData.depthAll, PyData.depth, ih, Nat.max_self]
  simp only [eqOk, Bool.and_eq_true, SeqAt.shaped, decide_eq_true_eq, noRef, below, toPy, PyData.canLay0, PyData.depth, h1, h2, h3]
  simp
theorem veq_ints : ∀ a b : List Int, veq (.lst (a.map .int)) (.lst (b.map .int)) = decide (a = b) := by
  intro a b
  simp only [veq, toPy, PyData.eqv]
  induction a generalizing b with
  | nil => cases b <;> simp [toPys, PyData.eqvAll]
  | cons x a ih =>
    cases b with
    | nil => simp [toPys, PyData.eqvAll]
    | cons y b =>
      simp only [List.map_cons, toPys, toPy, PyData.eqvAll, PyData.eqv, ih, List.cons.injEq, Bool.decide_and]
      by_cases h : x = y <;> simp [h]
end Cp

set_option Elab.async false
set_option linter.all false
set_option maxRecDepth 100000
set_option maxHeartbeats 4000000
/-! CoP2: loops and calls of the small language, as plain lemmas. -/
namespace Cp
open Co
open PySem
/-! ### reading a term step by step: what comes later is no lambda, so simp does not look at it ahead of time -/
section
variable {cf : CF}
def rdVar : Option (Option Val) → Store → R Val
  | some (some v), st => .ok v st
  | _, _ => .stuck
@[scoped simp] theorem rdVar_some (v : Val) (st : Store) : rdVar (some (some v)) st = .ok v st := Eq.trans rfl rfl
@[scoped simp] theorem ev_var (i : Nat) (env : Ev) (st : Store) : evalE cf (.var i) env st = rdVar env[i]? st := by
  simp only [evalE, rdVar]
  cases env[i]? with
  | none => rfl
  | some o => cases o <;> rfl
@[scoped simp] theorem ev_cst (v : Val) (env : Ev) (st : Store) : evalE cf (.cst v) env st = .ok v st := Eq.trans rfl rfl
@[scoped simp] theorem mkL_f (xs : List Val) (st : Store) : mkL false xs st = .ok (.lst xs) st := Eq.trans rfl rfl
@[scoped simp] theorem mkL_t (xs : List Val) (st : Store) : mkL true xs st = .ok (.ref st.length) (st ++ [.lst xs]) := Eq.trans rfl rfl
def kTup (r : R (List Val)) : R Val := r.bind fun vs st1 => .ok (.tup vs) st1
@[scoped simp] theorem ev_tup (es : Exs) (env : Ev) (st : Store) : evalE cf (.tup es) env st = kTup (evalEs cf es env st) := Eq.trans rfl rfl
@[scoped simp] theorem kTup_ok (vs : List Val) (st : Store) : kTup (.ok vs st) = .ok (.tup vs) st := Eq.trans rfl rfl
def kLst (lv : Bool) (r : R (List Val)) : R Val := r.bind fun vs st1 => mkL lv vs st1
@[scoped simp] theorem ev_lst (lv : Bool) (es : Exs) (env : Ev) (st : Store) : evalE cf (.lst lv es) env st = kLst lv (evalEs cf es env st) := Eq.trans rfl rfl
@[scoped simp] theorem kLst_ok (lv : Bool) (vs : List Val) (st : Store) : kLst lv (.ok vs st) = mkL lv vs st := Eq.trans rfl rfl
def kDct (lv : Bool) (ks : List L2.Key) (r : R (List Val)) : R Val := r.bind fun vs st1 => if lv then .ok (.ref st1.length) (st1 ++ [.dct ks vs]) else .ok (.dct ks vs) st1
@[scoped simp] theorem ev_dct (lv : Bool) (ks : List L2.Key) (es : Exs) (env : Ev) (st : Store) : evalE cf (.dct lv ks es) env st = kDct lv ks (evalEs cf es env st) := Eq.trans rfl rfl
@[scoped simp] theorem kDct_f (ks : List L2.Key) (vs : List Val) (st : Store) : kDct false ks (.ok vs st) = .ok (.dct ks vs) st := Eq.trans rfl rfl
@[scoped simp] theorem kDct_t (ks : List L2.Key) (vs : List Val) (st : Store) : kDct true ks (.ok vs st) = .ok (.ref st.length) (st ++ [.dct ks vs]) := Eq.trans rfl rfl
def kBin2 (op : Bop) (lv : Bool) (x : Val) (r : R Val) : R Val := r.bind fun y st2 => bin op lv (dr st2 x) (dr st2 y) st2
def kBin (cf : CF) (op : Bop) (lv : Bool) (b : Ex) (env : Ev) (r : R Val) : R Val := r.bind fun x st1 => kBin2 op lv x (evalE cf b env st1)
@[scoped simp] theorem ev_bin (op : Bop) (lv : Bool) (a b : Ex) (env : Ev) (st : Store) : evalE cf (.bin op lv a b) env st = kBin cf op lv b env (evalE cf a env st) := Eq.trans rfl rfl
@[scoped simp] theorem kBin_ok (op : Bop) (lv : Bool) (b : Ex) (env : Ev) (x : Val) (st : Store) : kBin cf op lv b env (.ok x st) = kBin2 op lv x (evalE cf b env st) := Eq.trans rfl rfl
@[scoped simp] theorem kBin2_ok (op : Bop) (lv : Bool) (x y : Val) (st : Store) : kBin2 op lv x (.ok y st) = bin op lv (dr st x) (dr st y) st := Eq.trans rfl rfl
def kNeg (r : R Val) : R Val := r.bind fun x st1 => match x with
    | .int i => .ok (.int (-i)) st1
    | _ => .stuck
@[scoped simp] theorem ev_neg (a : Ex) (env : Ev) (st : Store) : evalE cf (.neg a) env st = kNeg (evalE cf a env st) := Eq.trans rfl rfl
@[scoped simp] theorem kNeg_ok (i : Int) (st : Store) : kNeg (.ok (.int i) st) = .ok (.int (-i)) st := Eq.trans rfl rfl
def kNot (r : R Val) : R Val := r.bind fun x st1 => match tru x with
    | some b => .ok (.bl (!b)) st1
    | none => .stuck
@[scoped simp] theorem ev_not (a : Ex) (env : Ev) (st : Store) : evalE cf (.not_ a) env st = kNot (evalE cf a env st) := Eq.trans rfl rfl
@[scoped simp] theorem kNot_ok (b : Bool) (st : Store) : kNot (.ok (.bl b) st) = .ok (.bl (!b)) st := Eq.trans rfl rfl
def cmpR : Option Bool → Store → R Val
  | some k, st => .ok (.bl k) st
  | none, _ => .stuck
@[scoped simp] theorem cmpR_ok (k : Bool) (st : Store) : cmpR (some k) st = .ok (.bl k) st := Eq.trans rfl rfl
def kCmp2 (op : Cop) (x : Val) (r : R Val) : R Val := r.bind fun y st2 => cmpR (cmpv op (dr st2 x) (dr st2 y)) st2
def kCmp (cf : CF) (op : Cop) (b : Ex) (env : Ev) (r : R Val) : R Val := r.bind fun x st1 => kCmp2 op x (evalE cf b env st1)
@[scoped simp] theorem ev_cmp (op : Cop) (a b : Ex) (env : Ev) (st : Store) : evalE cf (.cmp op a b) env st = kCmp cf op b env (evalE cf a env st) := by
  simp only [evalE, kCmp, kCmp2]
  congr
  funext x st1
  congr
  funext y st2
  cases cmpv op (dr st2 x) (dr st2 y) <;> rfl
@[scoped simp] theorem kCmp_ok (op : Cop) (b : Ex) (env : Ev) (x : Val) (st : Store) : kCmp cf op b env (.ok x st) = kCmp2 op x (evalE cf b env st) := Eq.trans rfl rfl
@[scoped simp] theorem kCmp2_ok (op : Cop) (x y : Val) (st : Store) : kCmp2 op x (.ok y st) = cmpR (cmpv op (dr st x) (dr st y)) st := Eq.trans rfl rfl
def kAnd (cf : CF) (b : Ex) (env : Ev) (r : R Val) : R Val := r.bind fun x st1 => match tru x with
    | some true => evalE cf b env st1
    | some false => .ok (.bl false) st1
    | none => .stuck
@[scoped simp] theorem ev_and (a b : Ex) (env : Ev) (st : Store) : evalE cf (.and_ a b) env st = kAnd cf b env (evalE cf a env st) := Eq.trans rfl rfl
/-- and, or of what is plain -/
def bAnd (c : Bool) (st : Store) (r : R Val) : R Val := if c = true then r else .ok (.bl false) st
def bOr (c : Bool) (st : Store) (r : R Val) : R Val := if c = true then .ok (.bl true) st else r
@[scoped simp] theorem bAnd_t (st : Store) (r : R Val) : bAnd true st r = r := Eq.trans rfl rfl
@[scoped simp] theorem bAnd_f (st : Store) (r : R Val) : bAnd false st r = .ok (.bl false) st := Eq.trans rfl rfl
@[scoped simp] theorem bOr_t (st : Store) (r : R Val) : bOr true st r = .ok (.bl true) st := Eq.trans rfl rfl
@[scoped simp] theorem bOr_f (st : Store) (r : R Val) : bOr false st r = r := Eq.trans rfl rfl
@[scoped simp] theorem bAnd_ok (c d : Bool) (st : Store) : bAnd c st (.ok (.bl d) st) = .ok (.bl (c && d)) st := by cases c <;> rfl
@[scoped simp] theorem bOr_ok (c d : Bool) (st : Store) : bOr c st (.ok (.bl d) st) = .ok (.bl (c || d)) st := by cases c <;> rfl
@[scoped simp] theorem kAnd_ok (b : Ex) (env : Ev) (c : Bool) (st : Store) : kAnd cf b env (.ok (.bl c) st) = bAnd c st (evalE cf b env st) := by cases c <;> rfl
def kOr (cf : CF) (b : Ex) (env : Ev) (r : R Val) : R Val := r.bind fun x st1 => match tru x with
    | some false => evalE cf b env st1
    | some true => .ok (.bl true) st1
    | none => .stuck
@[scoped simp] theorem ev_or (a b : Ex) (env : Ev) (st : Store) : evalE cf (.or_ a b) env st = kOr cf b env (evalE cf a env st) := Eq.trans rfl rfl
@[scoped simp] theorem kOr_ok (b : Ex) (env : Ev) (c : Bool) (st : Store) : kOr cf b env (.ok (.bl c) st) = bOr c st (evalE cf b env st) := by cases c <;> rfl
def kIte (cf : CF) (a b : Ex) (env : Ev) (r : R Val) : R Val := r.bind fun x st1 => match tru x with
    | some true => evalE cf a env st1
    | some false => evalE cf b env st1
    | none => .stuck
@[scoped simp] theorem ev_ite (c a b : Ex) (env : Ev) (st : Store) : evalE cf (.ite c a b) env st = kIte cf a b env (evalE cf c env st) := Eq.trans rfl rfl
@[scoped simp] theorem kIte_ok (a b : Ex) (env : Ev) (c : Bool) (st : Store) : kIte cf a b env (.ok (.bl c) st) = if c = true then evalE cf a env st else evalE cf b env st := by cases c <;> rfl
def callR (cf : CF) (f : Nat) : Option (List Val) → Store → R Val
  | some us, st => cf f us st
  | none, _ => .stuck
@[scoped simp] theorem callR_ok (f : Nat) (us : List Val) (st : Store) : callR cf f (some us) st = cf f us st := Eq.trans rfl rfl
def kCall2 (cf : CF) (f : Nat) (pm : List Nat) (vs : List Val) (r : R (List Val)) : R Val := r.bind fun ws st2 => callR cf f (pick pm (vs ++ ws)) st2
def kCall (cf : CF) (f : Nat) (pm : List Nat) (ks : Exs) (env : Ev) (r : R (List Val)) : R Val := r.bind fun vs st1 => kCall2 cf f pm vs (evalEs cf ks env st1)
@[scoped simp] theorem ev_call (f : Nat) (pm : List Nat) (es ks : Exs) (env : Ev) (st : Store) : evalE cf (.call f pm es ks) env st = kCall cf f pm ks env (evalEs cf es env st) := by
  simp only [evalE, kCall, kCall2]
  congr
  funext x st1
  congr
  funext y st2
  cases pick pm (x ++ y) <;> rfl
@[scoped simp] theorem kCall_ok (f : Nat) (pm : List Nat) (ks : Exs) (env : Ev) (vs : List Val) (st : Store) : kCall cf f pm ks env (.ok vs st) = kCall2 cf f pm vs (evalEs cf ks env st) := Eq.trans rfl rfl
@[scoped simp] theorem kCall2_ok (f : Nat) (pm : List Nat) (vs ws : List Val) (st : Store) : kCall2 cf f pm vs (.ok ws st) = callR cf f (pick pm (vs ++ ws)) st := Eq.trans rfl rfl
def kBi (b : Bi) (lv : Bool) (r : R (List Val)) : R Val := r.bind fun vs st1 => biv b lv vs st1
@[scoped simp] theorem ev_bi (b : Bi) (lv : Bool) (es : Exs) (env : Ev) (st : Store) : evalE cf (.bi b lv es) env st = kBi b lv (evalEs cf es env st) := Eq.trans rfl rfl
@[scoped simp] theorem kBi_ok (b : Bi) (lv : Bool) (vs : List Val) (st : Store) : kBi b lv (.ok vs st) = biv b lv vs st := Eq.trans rfl rfl
def kMth2 (m : Mt) (lv : Bool) (x : Val) (r : R (List Val)) : R Val := r.bind fun vs st2 => mtv m lv x vs st2
def kMth (cf : CF) (m : Mt) (lv : Bool) (es : Exs) (env : Ev) (r : R Val) : R Val := r.bind fun x st1 => if mthOk m x st1 then kMth2 m lv x (evalEs cf es env st1) else .stuck
@[scoped simp] theorem ev_mth (m : Mt) (lv : Bool) (o : Ex) (es : Exs) (env : Ev) (st : Store) : evalE cf (.mth m lv o es) env st = kMth cf m lv es env (evalE cf o env st) := Eq.trans rfl rfl
@[scoped simp] theorem kMth_ok (m : Mt) (lv : Bool) (es : Exs) (env : Ev) (x : Val) (st : Store) : kMth cf m lv es env (.ok x st) = if mthOk m x st = true then kMth2 m lv x (evalEs cf es env st) else .stuck := Eq.trans rfl rfl
@[scoped simp] theorem kMth2_ok (m : Mt) (lv : Bool) (x : Val) (vs : List Val) (st : Store) : kMth2 m lv x (.ok vs st) = mtv m lv x vs st := Eq.trans rfl rfl
def valR : Option Val → Store → R Val
  | some v, st => .ok v st
  | none, _ => .stuck
@[scoped simp] theorem valR_ok (v : Val) (st : Store) : valR (some v) st = .ok v st := Eq.trans rfl rfl
def kIdx2 (x : Val) (r : R Val) : R Val := r.bind fun y st2 => valR (idx (dr st2 x) y) st2
def kIdx (cf : CF) (i : Ex) (env : Ev) (r : R Val) : R Val := r.bind fun x st1 => kIdx2 x (evalE cf i env st1)
@[scoped simp] theorem ev_idx (a i : Ex) (env : Ev) (st : Store) : evalE cf (.idx a i) env st = kIdx cf i env (evalE cf a env st) := by
  simp only [evalE, kIdx, kIdx2]
  congr
  funext x st1
  congr
  funext y st2
  cases idx (dr st2 x) y <;> rfl
@[scoped simp] theorem kIdx_ok (i : Ex) (env : Ev) (x : Val) (st : Store) : kIdx cf i env (.ok x st) = kIdx2 x (evalE cf i env st) := Eq.trans rfl rfl
@[scoped simp] theorem kIdx2_ok (x y : Val) (st : Store) : kIdx2 x (.ok y st) = valR (idx (dr st x) y) st := Eq.trans rfl rfl
def slcR (lv : Bool) : Val → Option (Option Int) → Option (Option Int) → Store → R Val
  | .tup xs, some l, some h, st => .ok (.tup (cut xs l h)) st
  | .lst xs, some l, some h, st => mkL lv (cut xs l h) st
  | .scr xs, some l, some h, st => mkL lv (cut xs l h) st
  | _, _, _, _ => .stuck
@[scoped simp] theorem slcR_t (lv : Bool) (xs : List Val) (l h : Option Int) (st : Store) : slcR lv (.tup xs) (some l) (some h) st = .ok (.tup (cut xs l h)) st := Eq.trans rfl rfl
@[scoped simp] theorem slcR_l (lv : Bool) (xs : List Val) (l h : Option Int) (st : Store) : slcR lv (.lst xs) (some l) (some h) st = mkL lv (cut xs l h) st := Eq.trans rfl rfl
@[scoped simp] theorem slcR_s (lv : Bool) (xs : List Val) (l h : Option Int) (st : Store) : slcR lv (.scr xs) (some l) (some h) st = mkL lv (cut xs l h) st := Eq.trans rfl rfl
def kSlc3 (lv : Bool) (lo hi : Ex) (x y : Val) (r : R Val) : R Val := r.bind fun z st3 => slcR lv (dr st3 x) (partE lo y) (partE hi z) st3
def kSlc2 (cf : CF) (lv : Bool) (lo hi : Ex) (env : Ev) (x : Val) (r : R Val) : R Val := r.bind fun y st2 => kSlc3 lv lo hi x y (evalE cf hi env st2)
def kSlc (cf : CF) (lv : Bool) (lo hi : Ex) (env : Ev) (r : R Val) : R Val := r.bind fun x st1 => kSlc2 cf lv lo hi env x (evalE cf lo env st1)
@[scoped simp] theorem ev_slc (lv : Bool) (a lo hi : Ex) (env : Ev) (st : Store) : evalE cf (.slc lv a lo hi) env st = kSlc cf lv lo hi env (evalE cf a env st) := by
  simp only [evalE, kSlc, kSlc2, kSlc3]
  congr
  funext x st1
  congr
  funext y st2
  congr
  funext z st3
  cases partE lo y <;> cases partE hi z <;> cases dr st3 x <;> rfl
@[scoped simp] theorem kSlc_ok (lv : Bool) (lo hi : Ex) (env : Ev) (x : Val) (st : Store) : kSlc cf lv lo hi env (.ok x st) = kSlc2 cf lv lo hi env x (evalE cf lo env st) := Eq.trans rfl rfl
@[scoped simp] theorem kSlc2_ok (lv : Bool) (lo hi : Ex) (env : Ev) (x y : Val) (st : Store) : kSlc2 cf lv lo hi env x (.ok y st) = kSlc3 lv lo hi x y (evalE cf hi env st) := Eq.trans rfl rfl
@[scoped simp] theorem kSlc3_ok (lv : Bool) (lo hi : Ex) (x y z : Val) (st : Store) : kSlc3 lv lo hi x y (.ok z st) = slcR lv (dr st x) (partE lo y) (partE hi z) st := Eq.trans rfl rfl
/-- a comprehension's turn -/
def turnP (cf : CF) (elt : Ex) (tg : Tg) (cnd : Ex) (env : Ev) (own : List Nat) : Val → Store → R (Option Val) := fun x st2 => match bindT tg x (wipe env own) with
      | some env2 => (evalE cf cnd env2 st2).bind fun b st3 => (match tru b with
        | some true => (evalE cf elt env2 st3).bind fun v st4 => .ok (some v) st4
        | some false => .ok none st3
        | none => .stuck)
      | none => .stuck
def kEl (r : R Val) : R (Option Val) := r.bind fun v st4 => .ok (some v) st4
@[scoped simp] theorem kEl_ok (v : Val) (st : Store) : kEl (.ok v st) = .ok (some v) st := Eq.trans rfl rfl
def kCnd (cf : CF) (elt : Ex) (env : Ev) (r : R Val) : R (Option Val) := r.bind fun b st3 => (match tru b with
        | some true => kEl (evalE cf elt env st3)
        | some false => .ok none st3
        | none => .stuck)
@[scoped simp] theorem kCnd_ok (elt : Ex) (env : Ev) (c : Bool) (st : Store) : kCnd cf elt env (.ok (.bl c) st) = if c = true then kEl (evalE cf elt env st) else .ok none st := by cases c <;> rfl
theorem turnP_eq {elt : Ex} {tg : Tg} {cnd : Ex} {env env2 : Ev} {own : List Nat} {x : Val} {st : Store} (h : bindT tg x (wipe env own) = some env2) : turnP cf elt tg cnd env own x st = kCnd cf elt env2 (evalE cf cnd env2 st) := by
  simp only [turnP, h]; rfl
def kLc (lv : Bool) (f : Val → Store → R (Option Val)) (r : R (List Val)) : R Val := r.bind fun xs st1 => if LIM < xs.length then .stuck else kLst lv (compL f xs st1)
@[scoped simp] theorem ev_lc (lv : Bool) (elt : Ex) (tg : Tg) (it : Ic) (cnd : Ex) (own : List Nat) (env : Ev) (st : Store) : evalE cf (.lc lv elt tg it cnd own) env st = kLc lv (turnP cf elt tg cnd env own) (evalI cf it env st) := Eq.trans rfl rfl
@[scoped simp] theorem kLc_ok (lv : Bool) (f : Val → Store → R (Option Val)) (xs : List Val) (st : Store) : kLc lv f (.ok xs st) = if LIM < xs.length then .stuck else kLst lv (compL f xs st) := Eq.trans rfl rfl
def kSset (lv : Bool) (r : R Val) : R Val := r.bind fun x st1 => biv .sset lv [x] st1
@[scoped simp] theorem ev_sset (lv : Bool) (a : Ex) (env : Ev) (st : Store) : evalE cf (.sset lv a) env st = kSset lv (evalE cf a env st) := Eq.trans rfl rfl
@[scoped simp] theorem kSset_ok (lv : Bool) (x : Val) (st : Store) : kSset lv (.ok x st) = biv .sset lv [x] st := Eq.trans rfl rfl
def kRgl (tp lv : Bool) (r : R (List Val)) : R Val := r.bind fun xs st1 => if tp then .ok (.tup xs) st1 else mkL lv xs st1
@[scoped simp] theorem ev_rgl (tp lv : Bool) (it : Ic) (env : Ev) (st : Store) : evalE cf (.rgl tp lv it) env st = kRgl tp lv (evalI cf it env st) := Eq.trans rfl rfl
@[scoped simp] theorem kRgl_t (lv : Bool) (xs : List Val) (st : Store) : kRgl true lv (.ok xs st) = .ok (.tup xs) st := Eq.trans rfl rfl
@[scoped simp] theorem kRgl_f (lv : Bool) (xs : List Val) (st : Store) : kRgl false lv (.ok xs st) = mkL lv xs st := Eq.trans rfl rfl
def frzR : Option (Val × Store) → R Val
  | some (v, st2) => .ok v st2
  | none => .stuck
@[scoped simp] theorem frzR_ok (v : Val) (st : Store) : frzR (some (v, st)) = .ok v st := Eq.trans rfl rfl
def kFrz (r : R Val) : R Val := r.bind fun x st1 => frzR (frzV 3 x st1)
@[scoped simp] theorem ev_frz (a : Ex) (env : Ev) (st : Store) : evalE cf (.frz a) env st = kFrz (evalE cf a env st) := by
  show (evalE cf a env st).bind _ = (evalE cf a env st).bind _
  refine congrArg _ (funext fun x => funext fun st1 => ?_)
  cases frzV 3 x st1 with
  | none => rfl
  | some q => rfl
@[scoped simp] theorem kFrz_ok (x : Val) (st : Store) : kFrz (.ok x st) = frzR (frzV 3 x st) := Eq.trans rfl rfl
def kCons2 (x : Val) (r : R (List Val)) : R (List Val) := r.bind fun xs st2 => .ok (x :: xs) st2
def kCons (cf : CF) (es : Exs) (env : Ev) (r : R Val) : R (List Val) := r.bind fun x st1 => kCons2 x (evalEs cf es env st1)
@[scoped simp] theorem evs_nil (env : Ev) (st : Store) : evalEs cf .nil env st = .ok [] st := Eq.trans rfl rfl
@[scoped simp] theorem evs_cons (e : Ex) (es : Exs) (env : Ev) (st : Store) : evalEs cf (.cons e es) env st = kCons cf es env (evalE cf e env st) := Eq.trans rfl rfl
@[scoped simp] theorem kCons_ok (es : Exs) (env : Ev) (x : Val) (st : Store) : kCons cf es env (.ok x st) = kCons2 x (evalEs cf es env st) := Eq.trans rfl rfl
@[scoped simp] theorem kCons2_ok (x : Val) (xs : List Val) (st : Store) : kCons2 x (.ok xs st) = .ok (x :: xs) st := Eq.trans rfl rfl
def kSeq (r : R Val) : R (List Val) := r.bind fun x st1 => match x with
    | .tup xs | .lst xs => .ok xs st1
    | _ => .stuck
@[scoped simp] theorem ei_seq (e : Ex) (env : Ev) (st : Store) : evalI cf (.seq e) env st = kSeq (evalE cf e env st) := Eq.trans rfl rfl
@[scoped simp] theorem kSeq_t (xs : List Val) (st : Store) : kSeq (.ok (.tup xs) st) = .ok xs st := Eq.trans rfl rfl
@[scoped simp] theorem kSeq_l (xs : List Val) (st : Store) : kSeq (.ok (.lst xs) st) = .ok xs st := Eq.trans rfl rfl
def kRng1 (r : R Val) : R (List Val) := r.bind fun x st1 => match x with
    | .int n => if -1000000 ≤ n ∧ n ≤ 1000000 then .ok (rngV 0 n.toNat) st1 else .stuck
    | _ => .stuck
@[scoped simp] theorem ei_rng1 (e : Ex) (env : Ev) (st : Store) : evalI cf (.rng1 e) env st = kRng1 (evalE cf e env st) := Eq.trans rfl rfl
@[scoped simp] theorem kRng1_ok (n : Int) (st : Store) : kRng1 (.ok (.int n) st) = if -1000000 ≤ n ∧ n ≤ 1000000 then .ok (rngV 0 n.toNat) st else .stuck := Eq.trans rfl rfl
def kRng3 (x : Val) (r : R Val) : R (List Val) := r.bind fun y st2 => match x, y with
    | .int i, .int j => if -1000000 ≤ i ∧ i ≤ 1000000 ∧ -1000000 ≤ j ∧ j ≤ 1000000 then .ok (rngV i (j - i).toNat) st2 else .stuck
    | _, _ => .stuck
def kRng2 (cf : CF) (b : Ex) (env : Ev) (r : R Val) : R (List Val) := r.bind fun x st1 => kRng3 x (evalE cf b env st1)
@[scoped simp] theorem ei_rng2 (a b : Ex) (env : Ev) (st : Store) : evalI cf (.rng2 a b) env st = kRng2 cf b env (evalE cf a env st) := Eq.trans rfl rfl
@[scoped simp] theorem kRng2_ok (b : Ex) (env : Ev) (x : Val) (st : Store) : kRng2 cf b env (.ok x st) = kRng3 x (evalE cf b env st) := Eq.trans rfl rfl
@[scoped simp] theorem kRng3_ok (i j : Int) (st : Store) : kRng3 (.int i) (.ok (.int j) st) = if -1000000 ≤ i ∧ i ≤ 1000000 ∧ -1000000 ≤ j ∧ j ≤ 1000000 then .ok (rngV i (j - i).toNat) st else .stuck := Eq.trans rfl rfl
def kEnm (r : R Val) : R (List Val) := r.bind fun x st1 => match x with
    | .tup xs | .lst xs => .ok (enumV 0 xs) st1
    | _ => .stuck
@[scoped simp] theorem ei_enm (e : Ex) (env : Ev) (st : Store) : evalI cf (.enm e) env st = kEnm (evalE cf e env st) := Eq.trans rfl rfl
@[scoped simp] theorem kEnm_t (xs : List Val) (st : Store) : kEnm (.ok (.tup xs) st) = .ok (enumV 0 xs) st := Eq.trans rfl rfl
@[scoped simp] theorem kEnm_l (xs : List Val) (st : Store) : kEnm (.ok (.lst xs) st) = .ok (enumV 0 xs) st := Eq.trans rfl rfl
/-! statements -/
def setR : Option Ev → Store → RS
  | some env, st => .nx env st
  | none, _ => .stuck
@[scoped simp] theorem setR_ok (env : Ev) (st : Store) : setR (some env) st = .nx env st := Eq.trans rfl rfl
def kAsg (tg : Tg) (env : Ev) (r : R Val) : RS := r.toS fun v st1 => setR (bindT tg v env) st1
@[scoped simp] theorem ex_asg (tg : Tg) (e : Ex) (env : Ev) (st : Store) : execS cf (.asg tg e) env st = kAsg tg env (evalE cf e env st) := by
  simp only [execS, kAsg]
  refine congrArg _ (funext fun v => funext fun st1 => ?_)
  cases bindT tg v env <;> rfl
@[scoped simp] theorem kAsg_ok (tg : Tg) (env : Ev) (v : Val) (st : Store) : kAsg tg env (.ok v st) = setR (bindT tg v env) st := Eq.trans rfl rfl
def kPar (is : List Nat) (env : Ev) (r : R (List Val)) : RS := r.toS fun vs st1 => setR (setAll is vs env) st1
@[scoped simp] theorem ex_par (is : List Nat) (es : Exs) (env : Ev) (st : Store) : execS cf (.par is es) env st = kPar is env (evalEs cf es env st) := by
  simp only [execS, kPar]
  refine congrArg _ (funext fun v => funext fun st1 => ?_)
  cases setAll is v env <;> rfl
@[scoped simp] theorem kPar_ok (is : List Nat) (env : Ev) (vs : List Val) (st : Store) : kPar is env (.ok vs st) = setR (setAll is vs env) st := Eq.trans rfl rfl
def nxR (env : Ev) (r : R Unit) : RS := r.toS fun _ st => .nx env st
@[scoped simp] theorem nxR_ok (env : Ev) (st : Store) : nxR env (.ok () st) = .nx env st := Eq.trans rfl rfl
def kSt3 (env : Ev) (v x : Val) (r : R Val) : RS := r.toS fun y st3 => nxR env (setv x y v st3)
def kSt2 (cf : CF) (i : Ex) (env : Ev) (v : Val) (r : R Val) : RS := r.toS fun x st2 => kSt3 env v x (evalE cf i env st2)
def kSt (cf : CF) (o i : Ex) (env : Ev) (r : R Val) : RS := r.toS fun v st1 => kSt2 cf i env v (evalE cf o env st1)
@[scoped simp] theorem ex_seti (o i e : Ex) (env : Ev) (st : Store) : execS cf (.seti o i e) env st = kSt cf o i env (evalE cf e env st) := Eq.trans rfl rfl
@[scoped simp] theorem kSt_ok (o i : Ex) (env : Ev) (v : Val) (st : Store) : kSt cf o i env (.ok v st) = kSt2 cf i env v (evalE cf o env st) := Eq.trans rfl rfl
@[scoped simp] theorem kSt2_ok (i : Ex) (env : Ev) (v x : Val) (st : Store) : kSt2 cf i env v (.ok x st) = kSt3 env v x (evalE cf i env st) := Eq.trans rfl rfl
@[scoped simp] theorem kSt3_ok (env : Ev) (v x y : Val) (st : Store) : kSt3 env v x (.ok y st) = nxR env (setv x y v st) := Eq.trans rfl rfl
def kEx (env : Ev) (r : R Val) : RS := r.toS fun _ st1 => .nx env st1
@[scoped simp] theorem ex_ex (e : Ex) (env : Ev) (st : Store) : execS cf (.ex e) env st = kEx env (evalE cf e env st) := Eq.trans rfl rfl
@[scoped simp] theorem kEx_ok (env : Ev) (v : Val) (st : Store) : kEx env (.ok v st) = .nx env st := Eq.trans rfl rfl
def kRet (r : R Val) : RS := r.toS fun v st1 => .ret v st1
@[scoped simp] theorem ex_ret (e : Ex) (env : Ev) (st : Store) : execS cf (.ret e) env st = kRet (evalE cf e env st) := Eq.trans rfl rfl
@[scoped simp] theorem kRet_ok (v : Val) (st : Store) : kRet (.ok v st) = .ret v st := Eq.trans rfl rfl
def kIf (cf : CF) (a b : Sxs) (env : Ev) (r : R Val) : RS := r.toS fun x st1 => match tru x with
    | some true => execSs cf a env st1
    | some false => execSs cf b env st1
    | none => .stuck
@[scoped simp] theorem ex_iff (c : Ex) (a b : Sxs) (env : Ev) (st : Store) : execS cf (.iff c a b) env st = kIf cf a b env (evalE cf c env st) := Eq.trans rfl rfl
@[scoped simp] theorem kIf_ok (a b : Sxs) (env : Ev) (c : Bool) (st : Store) : kIf cf a b env (.ok (.bl c) st) = if c = true then execSs cf a env st else execSs cf b env st := by cases c <;> rfl
/-- a loop's turn -/
def bodyF (cf : CF) (tg : Tg) (body : Sxs) : Val → Ev → Store → RS := fun x env' st' => match bindT tg x env' with
    | some env2 => execSs cf body env2 st'
    | none => .stuck
theorem bodyF_eq {tg : Tg} {body : Sxs} {x : Val} {env env2 : Ev} {st : Store} (h : bindT tg x env = some env2) : bodyF cf tg body x env st = execSs cf body env2 st := by
  simp only [bodyF, h]
def kFor (cf : CF) (tg : Tg) (body : Sxs) (clr : List Nat) (env : Ev) (r : R (List Val)) : RS := r.toS fun xs st1 => forL (bodyF cf tg body) clr xs env st1
@[scoped simp] theorem ex_fr (tg : Tg) (it : Ic) (body : Sxs) (clr : List Nat) (env : Ev) (st : Store) : execS cf (.fr tg it body clr) env st = kFor cf tg body clr env (evalI cf it env st) := Eq.trans rfl rfl
@[scoped simp] theorem kFor_ok (tg : Tg) (body : Sxs) (clr : List Nat) (env : Ev) (xs : List Val) (st : Store) : kFor cf tg body clr env (.ok xs st) = forL (bodyF cf tg body) clr xs env st := Eq.trans rfl rfl
@[scoped simp] theorem ex_brk (env : Ev) (st : Store) : execS cf .brk env st = .bk env st := Eq.trans rfl rfl
@[scoped simp] theorem ex_cont (env : Ev) (st : Store) : execS cf .cont env st = .ct env st := Eq.trans rfl rfl
@[scoped simp] theorem ex_pass (env : Ev) (st : Store) : execS cf .pass env st = .nx env st := Eq.trans rfl rfl
@[scoped simp] theorem ex_clr (is : List Nat) (env : Ev) (st : Store) : execS cf (.clr is) env st = .nx (wipe env is) st := Eq.trans rfl rfl
def frzS (i : Nat) (env : Ev) : Option (Val × Store) → RS
  | some (v', st') => .nx (env.set i (some v')) st'
  | none => .stuck
@[scoped simp] theorem frzS_ok (i : Nat) (env : Ev) (v : Val) (st : Store) : frzS i env (some (v, st)) = .nx (env.set i (some v)) st := Eq.trans rfl rfl
def kFz (i : Nat) (env : Ev) (st : Store) : Option (Option Val) → RS
  | some (some v) => frzS i env (frzV 3 v st)
  | _ => .stuck
@[scoped simp] theorem kFz_ok (i : Nat) (env : Ev) (st : Store) (v : Val) : kFz i env st (some (some v)) = frzS i env (frzV 3 v st) := Eq.trans rfl rfl
@[scoped simp] theorem ex_frz (i : Nat) (env : Ev) (st : Store) : execS cf (.frz i) env st = kFz i env st env[i]? := by
  simp only [execS, kFz]
  cases env[i]? with
  | none => rfl
  | some o =>
    cases o with
    | none => rfl
    | some v =>
      have h : ∀ q : Option (Val × Store), (match q with
        | some (v', st') => RS.nx (env.set i (some v')) st'
        | none => RS.stuck) = frzS i env q := by
        intro q
        cases q <;> rfl
      exact h _
def kSq (cf : CF) (r : Sxs) (x : RS) : RS := x.bind fun env' st' => execSs cf r env' st'
@[scoped simp] theorem exs_nil (env : Ev) (st : Store) : execSs cf .nil env st = .nx env st := Eq.trans rfl rfl
@[scoped simp] theorem exs_cons (s : Sx) (r : Sxs) (env : Ev) (st : Store) : execSs cf (.cons s r) env st = kSq cf r (execS cf s env st) := Eq.trans rfl rfl
@[scoped simp] theorem kSq_nx (r : Sxs) (env : Ev) (st : Store) : kSq cf r (.nx env st) = execSs cf r env st := Eq.trans rfl rfl
@[scoped simp] theorem kSq_ret (r : Sxs) (v : Val) (st : Store) : kSq cf r (.ret v st) = .ret v st := Eq.trans rfl rfl
@[scoped simp] theorem kSq_bk (r : Sxs) (env : Ev) (st : Store) : kSq cf r (.bk env st) = .bk env st := Eq.trans rfl rfl
@[scoped simp] theorem kSq_ct (r : Sxs) (env : Ev) (st : Store) : kSq cf r (.ct env st) = .ct env st := Eq.trans rfl rfl
@[scoped simp] theorem kSq_nil (x : RS) : kSq cf .nil x = x := by cases x <;> rfl
@[scoped simp] theorem kSq_ite_ret (r : Sxs) (P : Prop) [Decidable P] (v : Val) (s : Store) (x : RS) : kSq cf r (if P then .ret v s else x) = if P then .ret v s else kSq cf r x := by split <;> rfl
@[scoped simp] theorem kSq_ite_ct (r : Sxs) (P : Prop) [Decidable P] (e : Ev) (s : Store) (x : RS) : kSq cf r (if P then .ct e s else x) = if P then .ct e s else kSq cf r x := by split <;> rfl
@[scoped simp] theorem fin_ite_ret (n : Nat) (P : Prop) [Decidable P] (v : Val) (s : Store) (x : RS) : fin n (if P then .ret v s else x) = if P then .ok v (trunc n v s) else fin n x := by split <;> rfl
@[scoped simp] theorem fin_ret (n : Nat) (v : Val) (st : Store) : fin n (.ret v st) = .ok v (trunc n v st) := Eq.trans rfl rfl
@[scoped simp] theorem fin_nx (n : Nat) (env : Ev) (st : Store) : fin n (.nx env st) = .ok .non (trunc n .non st) := Eq.trans rfl rfl
@[scoped simp] theorem ite_ok (P : Prop) [Decidable P] (a b : Val) (st : Store) : (if P then R.ok a st else R.ok b st) = R.ok (if P then a else b) st := by split <;> rfl
@[scoped simp] theorem ite_int (P : Prop) [Decidable P] (a b : Int) : (if P then Val.int a else Val.int b) = Val.int (if P then a else b) := by split <;> rfl
@[scoped simp] theorem dr_int (st : Store) (i : Int) : dr st (.int i) = .int i := Eq.trans rfl rfl
@[scoped simp] theorem dr_bl (st : Store) (i : Bool) : dr st (.bl i) = .bl i := Eq.trans rfl rfl
@[scoped simp] theorem dr_non (st : Store) : dr st .non = .non := Eq.trans rfl rfl
@[scoped simp] theorem dr_str (st : Store) (i : Str) : dr st (.str i) = .str i := Eq.trans rfl rfl
@[scoped simp] theorem dr_tup (st : Store) (i : List Val) : dr st (.tup i) = .tup i := Eq.trans rfl rfl
@[scoped simp] theorem dr_lst (st : Store) (i : List Val) : dr st (.lst i) = .lst i := Eq.trans rfl rfl
@[scoped simp] theorem dr_scr (st : Store) (i : List Val) : dr st (.scr i) = .scr i := Eq.trans rfl rfl
@[scoped simp] theorem dr_dct (st : Store) (ks : List L2.Key) (i : List Val) : dr st (.dct ks i) = .dct ks i := Eq.trans rfl rfl
@[scoped simp] theorem bindT_nm (i : Nat) (v : Val) (env : Ev) : bindT (.nm i) v env = some (env.set i (some v)) := Eq.trans rfl rfl
@[scoped simp] theorem bindT_tup (is : List Nat) (xs : List Val) (env : Ev) : bindT (.tp is) (.tup xs) env = setAll is xs env := Eq.trans rfl rfl
@[scoped simp] theorem bindT_lst (is : List Nat) (xs : List Val) (env : Ev) : bindT (.tp is) (.lst xs) env = setAll is xs env := Eq.trans rfl rfl
@[scoped simp] theorem setAll_nil (env : Ev) : setAll [] [] env = some env := Eq.trans rfl rfl
@[scoped simp] theorem setAll_cons (i : Nat) (is : List Nat) (v : Val) (vs : List Val) (env : Ev) : setAll (i :: is) (v :: vs) env = setAll is vs (env.set i (some v)) := Eq.trans rfl rfl
@[scoped simp] theorem wipe_nil (env : Ev) : wipe env [] = env := Eq.trans rfl rfl
@[scoped simp] theorem wipe_cons (env : Ev) (v : Nat) (vs : List Nat) : wipe env (v :: vs) = (wipe env vs).set v none := Eq.trans rfl rfl
@[scoped simp] theorem cmp_lt (i j : Int) : cmpv .lt (.int i) (.int j) = some (decide (i < j)) := Eq.trans rfl rfl
@[scoped simp] theorem cmp_le (i j : Int) : cmpv .le (.int i) (.int j) = some (decide (i ≤ j)) := Eq.trans rfl rfl
@[scoped simp] theorem cmp_gt (i j : Int) : cmpv .gt (.int i) (.int j) = some (decide (j < i)) := Eq.trans rfl rfl
@[scoped simp] theorem cmp_ge (i j : Int) : cmpv .ge (.int i) (.int j) = some (decide (j ≤ i)) := Eq.trans rfl rfl
@[scoped simp] theorem partE_non (y : Val) : partE (.cst .non) y = some none := Eq.trans rfl rfl
@[scoped simp] theorem partE_int (i : Int) (y : Int) : partE (.cst (.int i)) (.int y) = some (some y) := Eq.trans rfl rfl
@[scoped simp] theorem partE_bin (op : Bop) (lv : Bool) (a b : Ex) (y : Int) : partE (.bin op lv a b) (.int y) = some (some y) := Eq.trans rfl rfl
@[scoped simp] theorem partE_var (i : Nat) (y : Int) : partE (.var i) (.int y) = some (some y) := Eq.trans rfl rfl
@[scoped simp] theorem bin_int (op : Bop) (lv : Bool) (i j : Int) (st : Store) : bin op lv (.int i) (.int j) st = valR ((binI op i j).map .int) st := by
  simp only [bin]
  cases binI op i j <;> rfl
@[scoped simp] theorem binI_add (i j : Int) : binI .add i j = some (i + j) := Eq.trans rfl rfl
@[scoped simp] theorem binI_sub (i j : Int) : binI .sub i j = some (i - j) := Eq.trans rfl rfl
@[scoped simp] theorem biv_min (lv : Bool) (i j : Int) (st : Store) : biv .min2 lv [.int i, .int j] st = .ok (.int (if j < i then j else i)) st := Eq.trans rfl rfl
@[scoped simp] theorem biv_int (lv : Bool) (i : Int) (st : Store) : biv .int lv [.int i] st = .ok (.int i) st := Eq.trans rfl rfl
@[scoped simp] theorem biv_intb (lv : Bool) (k : Bool) (st : Store) : biv .int lv [.bl k] st = .ok (.int (if k then 1 else 0)) st := Eq.trans rfl rfl
@[scoped simp] theorem idx_tup (xs : List Val) (k : Int) : idx (.tup xs) (.int k) = L2.atI xs k := Eq.trans rfl rfl
@[scoped simp] theorem idx_lst (xs : List Val) (k : Int) : idx (.lst xs) (.int k) = L2.atI xs k := Eq.trans rfl rfl
def lenR : Val → Store → R Val
  | .tup xs, st => .ok (.int xs.length) st
  | .lst xs, st => .ok (.int xs.length) st
  | .scr xs, st => .ok (.int xs.length) st
  | .dct ks _, st => .ok (.int ks.length) st
  | .str x, st => if x.length ≤ LIM then .ok (.int x.length) st else .stuck
  | _, _ => .stuck
@[scoped simp] theorem biv_len (lv : Bool) (v : Val) (st : Store) : biv .len lv [v] st = lenR (dr st v) st := by
  simp only [biv]
  cases dr st v <;> rfl
@[scoped simp] theorem lenR_t (xs : List Val) (st : Store) : lenR (.tup xs) st = .ok (.int xs.length) st := Eq.trans rfl rfl
@[scoped simp] theorem lenR_l (xs : List Val) (st : Store) : lenR (.lst xs) st = .ok (.int xs.length) st := Eq.trans rfl rfl
@[scoped simp] theorem lenR_s (xs : List Val) (st : Store) : lenR (.scr xs) st = .ok (.int xs.length) st := Eq.trans rfl rfl
@[scoped simp] theorem pick2 (a b : Val) : pick [0, 1] [a, b] = some [a, b] := Eq.trans rfl rfl
@[scoped simp] theorem pick1 (a : Val) : pick [0] [a] = some [a] := Eq.trans rfl rfl
@[scoped simp] theorem pick3 (a b c : Val) : pick [0, 1, 2] [a, b, c] = some [a, b, c] := Eq.trans rfl rfl
@[scoped simp] theorem pick4 (a b c d : Val) : pick [0, 1, 2, 3] [a, b, c, d] = some [a, b, c, d] := Eq.trans rfl rfl
@[scoped simp] theorem pick2' (a b : Val) : pick [1, 0] [a, b] = some [b, a] := Eq.trans rfl rfl
theorem dr_ref {st : Store} {i : Nat} {xs : List Val} (h : st[i]? = some (.lst xs)) : dr st (.ref i) = .lst xs := by simp only [dr, h]
end
theorem runF_eq {F : Nat → Option FD} {n f : Nat} {d : FD} {args : List Val} {st : Store} (h : F f = some d) (hl : args.length = d.np) : runF F (n + 1) f args st = fin st.length (execSs (runF F n) d.body (args.map some ++ List.replicate (d.ns - d.np) none) st) := by
  simp only [runF, h, hl, if_true]
@[scoped simp] theorem trunc_same (v : Val) (st : Store) : trunc st.length v st = st := by simp [trunc]
theorem trunc_eq {n : Nat} {v : Val} {st : Store} (h : st.length = n) : trunc n v st = st := by simp [trunc, h]
/-- the cells behind the n-th go -/
theorem trunc_cut {v : Val} {st rest : Store} (hv : below st.length v = true) (hb : st.all (Cell.below st.length) = true) : trunc st.length v (st ++ rest) = st := by
  unfold trunc
  split
  · rename_i h
    have : rest = [] := by
      have : st.length + rest.length = st.length := by simpa using h
      exact List.eq_nil_of_length_eq_zero (by omega)
    subst this
    simp
  · rw [List.take_left, hv, hb]
    simp
/-! ### comprehensions -/
theorem compL_map {f : Val → Store → R (Option Val)} {I : Store → Prop} {Q : Val → Val → Prop} : ∀ (xs : List Val), (∀ x ∈ xs, ∀ st, I st → ∃ v st', f x st = .ok (some v) st' ∧ I st' ∧ Q x v) → ∀ st, I st →
    ∃ vs st', compL f xs st = .ok vs st' ∧ I st' ∧ vs.length = xs.length ∧ ∀ (i : Nat) (x v : Val), xs[i]? = some x → vs[i]? = some v → Q x v
  | [], _, st, h => ⟨[], st, rfl, h, rfl, fun i x v h1 => by simp at h1⟩
  | x :: xs, hf, st, h => by
    obtain ⟨v, st1, e1, i1, q1⟩ := hf x (by simp) st h
    obtain ⟨vs, st2, e2, i2, l2, q2⟩ := compL_map xs (fun y hy => hf y (by simp [hy])) st1 i1
    refine ⟨v :: vs, st2, by simp only [compL, e1, e2, R.bind_ok], i2, by simp [l2], fun i a b ha hb => ?_⟩
    cases i with
    | zero =>
      simp only [List.getElem?_cons_zero, Option.some.injEq] at ha hb
      subst ha; subst hb; exact q1
    | succ i => exact q2 i a b (by simpa using ha) (by simpa using hb)
/-- without a change of the store -/
theorem compL_pure {f : Val → Store → R (Option Val)} {g : Val → Option Val} {st : Store} : ∀ (xs : List Val), (∀ x ∈ xs, f x st = .ok (g x) st) → compL f xs st = .ok (xs.filterMap g) st
  | [], _ => rfl
  | x :: xs, h => by
    have ih := compL_pure xs fun y hy => h y (by simp [hy])
    simp only [compL, h x (by simp), ih, R.bind_ok, List.filterMap_cons]
    cases g x <;> rfl
/-! ### for -/
theorem forL_inv {f : Val → Ev → Store → RS} {clr : List Nat} {I : Nat → Ev → Store → Prop} : ∀ (xs : List Val) (k : Nat), (∀ (i : Nat) (x : Val), xs[i]? = some x → ∀ env st, I (k + i) env st → ∃ env' st', f x env st = .nx env' st' ∧ I (k + i + 1) (wipe env' clr) st') → ∀ env st, I k env st →
    ∃ env' st', forL f clr xs env st = .nx env' st' ∧ I (k + xs.length) env' st'
  | [], k, _, env, st, h => ⟨env, st, rfl, h⟩
  | x :: xs, k, hf, env, st, h => by
    obtain ⟨env1, st1, e1, i1⟩ := hf 0 x rfl env st h
    obtain ⟨env2, st2, e2, i2⟩ := forL_inv xs (k + 1) (fun i y hy env st hi => by
      have := hf (i + 1) y (by simpa using hy) env st (by rw [show k + (i + 1) = k + 1 + i by omega]; exact hi)
      rwa [show k + (i + 1) = k + 1 + i by omega] at this) _ st1 i1
    refine ⟨env2, st2, by simp only [forL, e1, e2], ?_⟩
    rwa [List.length_cons, show k + (xs.length + 1) = k + 1 + xs.length by omega]
/-- with returns (and continue) -/
theorem forL_ret {f : Val → Ev → Store → RS} {clr : List Nat} {I : Nat → Ev → Store → Prop} {P : Val → Store → Prop} : ∀ (xs : List Val) (k : Nat), (∀ (i : Nat) (x : Val), xs[i]? = some x → ∀ env st, I (k + i) env st →
      (∃ env' st', (f x env st = .nx env' st' ∨ f x env st = .ct env' st') ∧ I (k + i + 1) (wipe env' clr) st') ∨ ∃ v st', f x env st = .ret v st' ∧ P v st') → ∀ env st, I k env st →
    (∃ env' st', forL f clr xs env st = .nx env' st' ∧ I (k + xs.length) env' st') ∨ ∃ v st', forL f clr xs env st = .ret v st' ∧ P v st'
  | [], k, _, env, st, h => .inl ⟨env, st, rfl, h⟩
  | x :: xs, k, hf, env, st, h => by
    rcases hf 0 x rfl env st h with ⟨env1, st1, e1, i1⟩ | ⟨v, st1, e1, p1⟩
    · have e3 : forL f clr (x :: xs) env st = forL f clr xs (wipe env1 clr) st1 := by
        rcases e1 with e1 | e1 <;> simp only [forL, e1]
      rcases forL_ret (I := I) (P := P) xs (k + 1) (fun i y hy env st hi => by
        have := hf (i + 1) y (by simpa using hy) env st (by rw [show k + (i + 1) = k + 1 + i by omega]; exact hi)
        rwa [show k + (i + 1) = k + 1 + i by omega] at this) _ st1 i1 with ⟨env2, st2, e2, i2⟩ | ⟨v, st2, e2, p2⟩
      · refine .inl ⟨env2, st2, e3.trans e2, ?_⟩
        rwa [List.length_cons, show k + (xs.length + 1) = k + 1 + xs.length by omega]
      · exact .inr ⟨v, st2, e3.trans e2, p2⟩
    · exact .inr ⟨v, st1, by simp only [forL, e1], p1⟩
/-- the store stays -/
theorem forL_pure {f : Val → Ev → Store → RS} {clr : List Nat} {I : Nat → Ev → Prop} {P : Val → Prop} {st : Store} (xs : List Val) (h : ∀ (i : Nat) (x : Val), xs[i]? = some x → ∀ env, I i env →
      (∃ env', (f x env st = .nx env' st ∨ f x env st = .ct env' st) ∧ I (i + 1) (wipe env' clr)) ∨ ∃ v, f x env st = .ret v st ∧ P v) (env : Ev) (h0 : I 0 env) :
    (∃ env', forL f clr xs env st = .nx env' st ∧ I xs.length env') ∨ ∃ v, forL f clr xs env st = .ret v st ∧ P v := by
  rcases forL_ret (I := fun i env s => I i env ∧ s = st) (P := fun v s => P v ∧ s = st) xs 0 (fun i x hx env s hi => by
    obtain ⟨hi, rfl⟩ := hi
    rw [Nat.zero_add] at hi ⊢
    rcases h i x hx env hi with ⟨env', e, i'⟩ | ⟨v, e, p⟩
    · exact .inl ⟨env', s, e, i', rfl⟩
    · exact .inr ⟨v, s, e, p, rfl⟩) env st ⟨h0, rfl⟩ with ⟨env', st', e, i, rfl⟩ | ⟨v, st', e, p, rfl⟩
  · exact .inl ⟨env', e, by simpa using i⟩
  · exact .inr ⟨v, e, p⟩
/-! ### ranges -/
theorem rngV_get {lo : Int} {n i : Nat} {x : Val} (h : (rngV lo n)[i]? = some x) : i < n ∧ x = .int (lo + i) := by
  unfold rngV at h
  have hi : i < n := by
    have := (List.getElem?_eq_some_iff.mp h).1
    simpa using this
  rw [List.getElem?_map, List.getElem?_range hi] at h
  cases h
  exact ⟨hi, rfl⟩
theorem rngV_len (lo : Int) (n : Nat) : (rngV lo n).length = n := by simp [rngV]
theorem rngV_mem {lo : Int} {n : Nat} {x : Val} (h : x ∈ rngV lo n) : ∃ i : Nat, i < n ∧ x = .int (lo + i) := by
  obtain ⟨i, hi⟩ := List.mem_iff_getElem?.mp h
  exact ⟨i, rngV_get hi⟩
/-! ### subscripts -/
theorem atI_nat' {α : Type} {xs : List α} {i : Nat} (h : i < xs.length) : L2.atI xs (i : Int) = some xs[i] := by
  unfold L2.atI L2.ixN
  simp [h]
end Cp

set_option Elab.async false
set_option linter.all false
set_option maxRecDepth 100000
set_option maxHeartbeats 4000000
/-! CoA0: the drawing helpers of the family A, as core terms. -/
namespace Cp
open Co
open PySem
/-- _law_pool(_law_script); slots 0:_law_script 1:_law_cells 2:_law_far 3:_law_cell -/
def a_pool : FD := ⟨1, 4,
    (.cons (.asg (.nm 1) (.lc false (.ite (.cmp .ge (.var 3) (.cst (.int 0))) (.bin .mul false (.cst (.int 2)) (.var 3)) (.bin .sub false (.bin .mul false (.neg (.cst (.int 2))) (.var 3)) (.cst (.int 1)))) (.nm 3) (.seq (.slc false (.var 0) (.cst .non) (.cst (.int 63)))) (.cst (.bl true)) [3]))
    (.cons (.asg (.nm 2) (.lc true (.var 3) (.nm 3) (.seq (.var 1)) (.cmp .ge (.var 3) (.bin .pow false (.cst (.int 10)) (.cst (.int 18)))) [3]))
    (.cons (.ret (.dct true [.inr "far", .inr "cells", .inr "sum", .inr "turn"] (.cons (.var 2) (.cons (.bin .add false (.var 1) (.lst false (.cons (.bin .add false (.bi .len false (.cons (.var 1) .nil)) (.cst (.int 6007))) .nil))) (.cons (.bi .sum false (.cons (.var 1) .nil)) (.cons (.cst (.int 0)) .nil))))))
    .nil)))⟩
/-- _law_draw(_law_pool_here, _law_size); slots 0:_law_pool_here 1:_law_size 2:_law_far 3:_law_own 4:_law_mixed_here 5:_law_rest 6:_law_turn 7:_law_cells -/
def a_draw : FD := ⟨2, 8,
    (.cons (.iff (.cmp .lt (.var 1) (.cst (.int 2))) (.cons (.ret (.cst (.int 0)))
    .nil) .nil)
    (.cons (.asg (.nm 2) (.idx (.var 0) (.cst (.str "far"))))
    (.cons (.iff (.cmp .ne (.var 2) (.lst false .nil)) (.cons (.asg (.nm 5) (.mth .pop false (.var 2) .nil))
    (.cons (.iff (.cmp .ge (.var 5) (.var 1)) (.cons (.ex (.mth .append false (.var 2) (.cons (.bin .fdiv false (.var 5) (.var 1)) .nil)))
    .nil) .nil)
    (.cons (.ret (.bin .mod false (.bi .int false (.cons (.var 5) .nil)) (.var 1)))
    .nil))) .nil)
    (.cons (.seti (.var 0) (.cst (.str "turn")) (.bin .add false (.idx (.var 0) (.cst (.str "turn"))) (.cst (.int 1))))
    (.cons (.par [6, 7] (.cons (.idx (.var 0) (.cst (.str "turn"))) (.cons (.idx (.var 0) (.cst (.str "cells"))) .nil)))
    (.cons (.asg (.nm 3) (.idx (.var 7) (.bin .mod false (.bi .int false (.cons (.var 6) .nil)) (.bi .len false (.cons (.var 7) .nil)))))
    (.cons (.asg (.nm 4) (.bin .mod false (.bi .int false (.cons (.bin .add false (.bin .add false (.bin .mul false (.var 3) (.cst (.int 4294967311))) (.bin .mul false (.idx (.var 0) (.cst (.str "sum"))) (.cst (.int 1099511627791)))) (.bin .mul false (.var 6) (.cst (.int 68719476767)))) .nil)) (.cst (.int 2305843009213693951))))
    (.cons (.asg (.nm 4) (.bin .mod false (.bi .int false (.cons (.bin .add false (.bin .add false (.bin .mul false (.var 4) (.var 4)) (.bin .mul false (.var 6) (.cst (.int 2147483659)))) (.cst (.int 41))) .nil)) (.cst (.int 618970019642690137449562111))))
    (.cons (.asg (.nm 4) (.bin .mod false (.bi .int false (.cons (.bin .add false (.bin .mul false (.var 4) (.var 4)) (.bin .mul false (.cst (.int 3)) (.var 4))) .nil)) (.cst (.int 2305843009213693951))))
    (.cons (.ret (.bin .mod false (.bi .int false (.cons (.bin .fdiv false (.var 4) (.cst (.int 16777259))) .nil)) (.var 1)))
    .nil))))))))))⟩
/-- _law_any(_law_pool_here, _law_items); slots 0:_law_pool_here 1:_law_items -/
def a_any (f_draw : Nat) : FD := ⟨2, 2,
    (.cons (.ret (.idx (.var 1) (.call f_draw [0, 1] (.cons (.var 0) (.cons (.bi .len false (.cons (.var 1) .nil)) .nil)) .nil)))
    .nil)⟩
/-- _law_mixed(_law_pool_here, _law_items); slots 0:_law_pool_here 1:_law_items 2:_law_turn 3:_law_rest 4:_law_found -/
def a_mixed (f_draw : Nat) : FD := ⟨2, 5,
    (.cons (.par [3, 4] (.cons (.bi .list true (.cons (.var 1) .nil)) (.cons (.lst true .nil) .nil)))
    (.cons (.fr (.nm 2) (.rng1 (.bi .len false (.cons (.var 1) .nil))) (.cons (.ex (.mth .append false (.var 4) (.cons (.mth .popAt false (.var 3) (.cons (.call f_draw [0, 1] (.cons (.var 0) (.cons (.bi .len false (.cons (.var 3) .nil)) .nil)) .nil) .nil)) .nil)))
    .nil) [])
    (.cons (.frz 4)
    (.cons (.frz 3)
    (.cons (.ret (.frz (.var 4)))
    .nil)))))⟩
/-- _law_table(_law_rows); slots 0:_law_rows 1:_law_row -/
def a_table : FD := ⟨1, 2,
    (.cons (.ret (.tup (.cons (.bi .len false (.cons (.var 0) .nil)) (.cons (.bi .tuple false (.cons (.lc false (.bi .tuple false (.cons (.var 1) .nil)) (.nm 1) (.seq (.var 0)) (.cst (.bl true)) [1]) .nil)) .nil))))
    .nil)⟩
/-- _law_shade(_law_pool_here); slots 0:_law_pool_here 1:_law_a 2:_law_b -/
def a_shade (f_draw f_any : Nat) : FD := ⟨1, 3,
    (.cons (.par [1, 2] (.cons (.call f_draw [0, 1] (.cons (.var 0) (.cons (.cst (.int 100)) .nil)) .nil) (.cons (.call f_draw [0, 1] (.cons (.var 0) (.cons (.cst (.int 100)) .nil)) .nil) .nil)))
    (.cons (.ret (.call f_any [0, 1] (.cons (.var 0) (.cons (.lst false (.cons (.lst false (.cons (.cst (.int 0)) (.cons (.cst (.int 1)) .nil))) (.cons (.lst false (.cons (.cst (.int 0)) (.cons (.cst (.int 1)) .nil))) (.cons (.lst false (.cons (.cst (.int 0)) (.cons (.cst (.int 1)) (.cons (.cst (.int 2)) .nil)))) (.cons (.lst false (.cons (.cst (.int 0)) (.cons (.cst (.int 99)) .nil))) (.cons (.lst false (.cons (.var 1) (.cons (.var 2) .nil))) (.cons (.lst false (.cons (.var 1) (.cons (.var 2) (.cons (.cst (.int 0)) (.cons (.cst (.int 99)) .nil))))) (.cons (.rgl false false (.rng1 (.cst (.int 100)))) .nil)))))))) .nil)) .nil))
    .nil))⟩
/-- _law_chance(_law_pool_here, _law_size, _law_shade_here, _law_is_same); slots 0:_law_pool_here 1:_law_size 2:_law_shade_here 3:_law_is_same 4:_law_rows 5:_law_x 6:_law_y 7:_law_one 8:_law_other -/
def a_chance (f_any : Nat) : FD := ⟨4, 9,
    (.cons (.asg (.nm 4) (.lc true (.bin .mul true (.lst false (.cons (.cst (.int 0)) .nil)) (.var 1)) (.nm 5) (.rng1 (.var 1)) (.cst (.bl true)) [5]))
    (.cons (.fr (.nm 5) (.rng1 (.var 1)) (.cons (.fr (.nm 6) (.rng1 (.var 5)) (.cons (.par [7, 8] (.cons (.call f_any [0, 1] (.cons (.var 0) (.cons (.var 2) .nil)) .nil) (.cons (.call f_any [0, 1] (.cons (.var 0) (.cons (.var 2) .nil)) .nil) .nil)))
    (.cons (.seti (.idx (.var 4) (.var 6)) (.var 5) (.var 7))
    (.cons (.seti (.idx (.var 4) (.var 5)) (.var 6) (.ite (.var 3) (.var 7) (.var 8)))
    .nil))) [])
    .nil) [])
    (.cons (.frz 4)
    (.cons (.ret (.frz (.var 4)))
    .nil))))⟩
/-- _law_small(_law_pool_here, _law_many, _law_shade_here, _law_is_same); slots 0:_law_pool_here 1:_law_many 2:_law_shade_here 3:_law_is_same 4:_law_rows 5:_law_x 6:_law_way 7:_law_a 8:_law_b 9:_law_y 10:_law_one 11:_law_other -/
def a_small (f_draw f_any f_chance : Nat) : FD := ⟨4, 12,
    (.cons (.par [6, 7, 8] (.cons (.call f_draw [0, 1] (.cons (.var 0) (.cons (.cst (.int 4)) .nil)) .nil) (.cons (.call f_any [0, 1] (.cons (.var 0) (.cons (.var 2) .nil)) .nil) (.cons (.call f_any [0, 1] (.cons (.var 0) (.cons (.var 2) .nil)) .nil) .nil))))
    (.cons (.iff (.cmp .eq (.var 6) (.cst (.int 3))) (.cons (.ret (.call f_chance [0, 1, 2, 3] (.cons (.var 0) (.cons (.var 1) (.cons (.var 2) (.cons (.var 3) .nil)))) .nil))
    .nil) .nil)
    (.cons (.asg (.nm 4) (.lc true (.bin .mul true (.lst false (.cons (.cst (.int 0)) .nil)) (.var 1)) (.nm 5) (.rng1 (.var 1)) (.cst (.bl true)) [5]))
    (.cons (.fr (.nm 5) (.rng1 (.var 1)) (.cons (.fr (.nm 9) (.rng1 (.var 5)) (.cons (.par [10, 11] (.cons (.var 7) (.cons (.var 7) .nil)))
    (.cons (.iff (.and_ (.cmp .eq (.var 6) (.cst (.int 1))) (.not_ (.var 3))) (.cons (.asg (.nm 11) (.var 8))
    .nil) .nil)
    (.cons (.iff (.cmp .eq (.var 6) (.cst (.int 2))) (.cons (.asg (.nm 10) (.ite (.cmp .eq (.bin .sub false (.var 5) (.var 9)) (.cst (.int 1))) (.var 7) (.var 8)))
    (.cons (.asg (.nm 11) (.ite (.cmp .eq (.bin .sub false (.var 5) (.var 9)) (.bin .sub false (.var 1) (.cst (.int 1)))) (.var 7) (.var 8)))
    .nil)) .nil)
    (.cons (.seti (.idx (.var 4) (.var 9)) (.var 5) (.var 10))
    (.cons (.seti (.idx (.var 4) (.var 5)) (.var 9) (.ite (.var 3) (.var 10) (.var 11)))
    .nil))))) [])
    .nil) [])
    (.cons (.frz 4)
    (.cons (.ret (.frz (.var 4)))
    .nil))))))⟩
/-- _law_put(_law_rows, _law_at, _law_more); slots 0:_law_rows 1:_law_at 2:_law_more 3:_law_own 4:_law_found 5:_law_x 6:_law_deep 7:_law_k 8:_law_y 9:_law_low -/
def a_put : FD := ⟨3, 10,
    (.cons (.asg (.nm 3) (.bin .add false (.lc false (.lst false (.cons (.var 7) (.cons (.neg (.cst (.int 1))) .nil))) (.nm 7) (.rng1 (.var 1)) (.cst (.bl true)) [7]) (.lc false (.lst false (.cons (.var 1) (.cons (.var 7) .nil))) (.nm 7) (.rng1 (.bi .len false (.cons (.var 2) .nil))) (.cst (.bl true)) [7])))
    (.cons (.asg (.nm 3) (.bin .add false (.var 3) (.lc false (.lst false (.cons (.var 7) (.cons (.neg (.cst (.int 1))) .nil))) (.nm 7) (.rng2 (.bin .add false (.var 1) (.cst (.int 1))) (.bi .len false (.cons (.var 0) .nil))) (.cst (.bl true)) [7])))
    (.cons (.asg (.nm 4) (.lst true .nil))
    (.cons (.fr (.tp [5, 6]) (.seq (.var 3)) (.cons (.ex (.mth .append false (.var 4) (.cons (.lc false (.ite (.and_ (.cmp .eq (.var 5) (.var 1)) (.cmp .eq (.var 8) (.var 1))) (.idx (.idx (.var 2) (.var 6)) (.var 9)) (.idx (.idx (.var 0) (.var 5)) (.var 8))) (.tp [8, 9]) (.seq (.var 3)) (.cst (.bl true)) [8, 9]) .nil)))
    .nil) [])
    (.cons (.frz 4)
    (.cons (.ret (.frz (.var 4)))
    .nil))))))⟩
/-- _law_renamed(_law_rows, _law_names); slots 0:_law_rows 1:_law_names 2:_law_found 3:_law_x 4:_law_y -/
def a_renamed : FD := ⟨2, 5,
    (.cons (.asg (.nm 2) (.lc true (.bin .mul true (.lst false (.cons (.cst (.int 0)) .nil)) (.bi .len false (.cons (.var 0) .nil))) (.nm 3) (.seq (.var 0)) (.cst (.bl true)) [3]))
    (.cons (.fr (.nm 3) (.rng1 (.bi .len false (.cons (.var 0) .nil))) (.cons (.fr (.nm 4) (.rng1 (.bi .len false (.cons (.var 0) .nil))) (.cons (.seti (.idx (.var 2) (.idx (.var 1) (.var 3))) (.idx (.var 1) (.var 4)) (.idx (.idx (.var 0) (.var 3)) (.var 4)))
    .nil) [])
    .nil) [])
    (.cons (.ret (.var 2))
    .nil)))⟩
/-- _law_grown(_law_pool_here, _law_size, _law_shade_here, _law_is_same); slots 0:_law_pool_here 1:_law_size 2:_law_shade_here 3:_law_is_same 4:_law_rows 5:_law_turn 6:_law_rest 7:_law_many -/
def a_grown (f_draw f_put f_small f_renamed f_mixed : Nat) : FD := ⟨4, 8,
    (.cons (.asg (.nm 4) (.ite (.cmp .gt (.var 1) (.cst (.int 0))) (.lst false (.cons (.lst false (.cons (.cst (.int 0)) .nil)) .nil)) (.lst false .nil)))
    (.cons (.fr (.nm 5) (.rng1 (.var 1)) (.cons (.asg (.nm 6) (.bin .sub false (.var 1) (.bi .len false (.cons (.var 4) .nil))))
    (.cons (.iff (.cmp .gt (.var 6) (.cst (.int 0))) (.cons (.asg (.nm 7) (.bin .add false (.cst (.int 2)) (.call f_draw [0, 1] (.cons (.var 0) (.cons (.bi .min2 false (.cons (.var 6) (.cons (.cst (.int 3)) .nil))) .nil)) .nil)))
    (.cons (.asg (.nm 4) (.call f_put [0, 1, 2] (.cons (.var 4) (.cons (.call f_draw [0, 1] (.cons (.var 0) (.cons (.bi .len false (.cons (.var 4) .nil)) .nil)) .nil) (.cons (.call f_small [0, 1, 2, 3] (.cons (.var 0) (.cons (.var 7) (.cons (.var 2) (.cons (.var 3) .nil)))) .nil) .nil))) .nil))
    .nil)) .nil)
    .nil)) [])
    (.cons (.ret (.call f_renamed [0, 1] (.cons (.var 4) (.cons (.call f_mixed [0, 1] (.cons (.var 0) (.cons (.rgl false false (.rng1 (.var 1))) .nil)) .nil) .nil)) .nil))
    .nil)))⟩
/-- _law_world(_law_pool_here, _law_most, _law_is_same); slots 0:_law_pool_here 1:_law_most 2:_law_is_same 3:_law_rows 4:_law_size 5:_law_shade_here 6:_law_y 7:_law_x 8:_law_look -/
def a_world (f_any f_draw f_shade f_chance f_grown : Nat) : FD := ⟨3, 9,
    (.cons (.par [4, 5] (.cons (.call f_any [0, 1] (.cons (.var 0) (.cons (.lst false (.cons (.var 1) (.cons (.var 1) (.cons (.call f_draw [0, 1] (.cons (.var 0) (.cons (.bin .add false (.var 1) (.cst (.int 1))) .nil)) .nil) .nil)))) .nil)) .nil) (.cons (.call f_shade [0] (.cons (.var 0) .nil) .nil) .nil)))
    (.cons (.iff (.cmp .eq (.call f_draw [0, 1] (.cons (.var 0) (.cons (.cst (.int 5)) .nil)) .nil) (.cst (.int 0))) (.cons (.ret (.call f_chance [0, 1, 2, 3] (.cons (.var 0) (.cons (.var 4) (.cons (.var 5) (.cons (.var 2) .nil)))) .nil))
    .nil) .nil)
    (.cons (.asg (.nm 3) (.call f_grown [0, 1, 2, 3] (.cons (.var 0) (.cons (.var 4) (.cons (.var 5) (.cons (.var 2) .nil)))) .nil))
    (.cons (.iff (.and_ (.cmp .gt (.var 4) (.cst (.int 1))) (.cmp .eq (.call f_draw [0, 1] (.cons (.var 0) (.cons (.cst (.int 4)) .nil)) .nil) (.cst (.int 0)))) (.cons (.par [7, 8] (.cons (.call f_draw [0, 1] (.cons (.var 0) (.cons (.var 4) .nil)) .nil) (.cons (.call f_any [0, 1] (.cons (.var 0) (.cons (.var 5) .nil)) .nil) .nil)))
    (.cons (.asg (.nm 6) (.bin .mod false (.bi .int false (.cons (.bin .add false (.bin .add false (.var 7) (.cst (.int 1))) (.call f_draw [0, 1] (.cons (.var 0) (.cons (.bin .sub false (.var 4) (.cst (.int 1))) .nil)) .nil)) .nil)) (.var 4)))
    (.cons (.seti (.idx (.var 3) (.var 7)) (.var 6) (.var 8))
    (.cons (.iff (.var 2) (.cons (.seti (.idx (.var 3) (.var 6)) (.var 7) (.var 8))
    .nil) .nil)
    .nil)))) .nil)
    (.cons (.frz 3)
    (.cons (.ret (.frz (.var 3)))
    .nil))))))⟩
/-- _law_order(_law_pool_here, _law_size); slots 0:_law_pool_here 1:_law_size 2:_law_share 3:_law_x 4:_law_y 5:_law_rows 6:_law_names 7:_law_z -/
def a_order (f_mixed f_any f_draw : Nat) : FD := ⟨2, 8,
    (.cons (.par [5, 6] (.cons (.lc true (.bin .mul true (.lst false (.cons (.cst (.int 0)) .nil)) (.var 1)) (.nm 3) (.rng1 (.var 1)) (.cst (.bl true)) [3]) (.cons (.call f_mixed [0, 1] (.cons (.var 0) (.cons (.rgl false false (.rng1 (.var 1))) .nil)) .nil) .nil)))
    (.cons (.asg (.nm 2) (.call f_any [0, 1] (.cons (.var 0) (.cons (.lst false (.cons (.cst (.int 1)) (.cons (.cst (.int 2)) (.cons (.cst (.int 4)) .nil)))) .nil)) .nil))
    (.cons (.fr (.nm 3) (.rng1 (.var 1)) (.cons (.fr (.nm 4) (.rng1 (.var 3)) (.cons (.iff (.cmp .lt (.call f_draw [0, 1] (.cons (.var 0) (.cons (.cst (.int 5)) .nil)) .nil) (.var 2)) (.cons (.seti (.idx (.var 5) (.idx (.var 6) (.var 4))) (.idx (.var 6) (.var 3)) (.cst (.int 1)))
    .nil) .nil)
    .nil) [])
    .nil) [])
    (.cons (.fr (.nm 4) (.rng1 (.var 1)) (.cons (.fr (.nm 3) (.rng1 (.var 1)) (.cons (.fr (.nm 7) (.rng1 (.var 1)) (.cons (.iff (.and_ (.cmp .eq (.idx (.idx (.var 5) (.var 3)) (.var 4)) (.cst (.int 1))) (.cmp .eq (.idx (.idx (.var 5) (.var 4)) (.var 7)) (.cst (.int 1)))) (.cons (.seti (.idx (.var 5) (.var 3)) (.var 7) (.cst (.int 1)))
    .nil) .nil)
    .nil) [])
    .nil) [])
    .nil) [])
    (.cons (.frz 5)
    (.cons (.ret (.frz (.var 5)))
    .nil))))))⟩
/-- _law_course(_law_pool_here, _law_size); slots 0:_law_pool_here 1:_law_size 2:_law_share 3:_law_x 4:_law_rows 5:_law_names 6:_law_y 7:_law_one -/
def a_course (f_mixed f_any f_draw : Nat) : FD := ⟨2, 8,
    (.cons (.par [4, 5] (.cons (.lc true (.bin .mul true (.lst false (.cons (.cst (.int 0)) .nil)) (.var 1)) (.nm 3) (.rng1 (.var 1)) (.cst (.bl true)) [3]) (.cons (.call f_mixed [0, 1] (.cons (.var 0) (.cons (.rgl false false (.rng1 (.var 1))) .nil)) .nil) .nil)))
    (.cons (.asg (.nm 2) (.call f_any [0, 1] (.cons (.var 0) (.cons (.lst false (.cons (.cst (.int 0)) (.cons (.cst (.int 1)) (.cons (.cst (.int 4)) .nil)))) .nil)) .nil))
    (.cons (.fr (.nm 3) (.rng1 (.var 1)) (.cons (.fr (.nm 6) (.rng1 (.var 3)) (.cons (.asg (.nm 7) (.bi .int false (.cons (.cmp .lt (.call f_draw [0, 1] (.cons (.var 0) (.cons (.cst (.int 8)) .nil)) .nil) (.var 2)) .nil)))
    (.cons (.seti (.idx (.var 4) (.idx (.var 5) (.var 3))) (.idx (.var 5) (.var 6)) (.var 7))
    (.cons (.seti (.idx (.var 4) (.idx (.var 5) (.var 6))) (.idx (.var 5) (.var 3)) (.bin .sub false (.cst (.int 1)) (.var 7)))
    .nil))) [])
    .nil) [])
    (.cons (.frz 4)
    (.cons (.ret (.frz (.var 4)))
    .nil)))))⟩

end Cp

set_option Elab.async false
set_option linter.all false
set_option maxRecDepth 100000
set_option maxHeartbeats 4000000
/-! CoPk: defs of the package as core terms (printed by pr.py part). -/
namespace Cp
open Co
open PySem
/-- parts_two(rows, outer, thing, other); slots 0:rows 1:outer 2:thing 3:other -/
def p_parts_two : FD := ⟨4, 4,
    (.cons (.ret (.or_ (.cmp .ne (.idx (.idx (.var 0) (.var 1)) (.var 2)) (.idx (.idx (.var 0) (.var 1)) (.var 3))) (.cmp .ne (.idx (.idx (.var 0) (.var 2)) (.var 1)) (.idx (.idx (.var 0) (.var 3)) (.var 1)))))
    .nil)⟩
/-- telling(table, lot); slots 0:table 1:lot 2:outer 3:size 4:rows 5:place 6:thing 7:other -/
def p_telling (q_parts_two : Nat) : FD := ⟨2, 8,
    (.cons (.asg (.tp [3, 4]) (.var 0))
    (.cons (.fr (.nm 2) (.rng1 (.var 3)) (.cons (.iff (.cmp .isin (.var 2) (.var 1)) (.cons .cont
    .nil) .nil)
    (.cons (.fr (.tp [5, 6]) (.enm (.var 1)) (.cons (.fr (.nm 7) (.seq (.slc false (.var 1) (.bin .add false (.var 5) (.cst (.int 1))) (.cst .non))) (.cons (.iff (.call q_parts_two [0, 1, 2, 3] (.cons (.var 4) (.cons (.var 2) (.cons (.var 6) (.cons (.var 7) .nil)))) .nil) (.cons (.ret (.tup (.cons (.var 2) (.cons (.var 6) (.cons (.var 7) .nil)))))
    .nil) .nil)
    .nil) [])
    .nil) [])
    .nil)) [])
    (.cons (.ret (.cst .non))
    .nil)))⟩
/-- is_piece(table, lot); slots 0:table 1:lot 2:outer 3:size 4:rows 5:other -/
def p_is_piece (q_parts_two : Nat) : FD := ⟨2, 6,
    (.cons (.asg (.tp [3, 4]) (.var 0))
    (.cons (.fr (.nm 2) (.rng1 (.var 3)) (.cons (.iff (.and_ (.cmp .notin (.var 2) (.var 1)) (.bi .any false (.cons (.lc false (.call q_parts_two [0, 1, 2, 3] (.cons (.var 4) (.cons (.var 2) (.cons (.idx (.var 1) (.cst (.int 0))) (.cons (.var 5) .nil)))) .nil) (.nm 5) (.seq (.slc false (.var 1) (.cst (.int 1)) (.cst .non))) (.cst (.bl true)) [5]) .nil))) (.cons (.ret (.cst (.bl false)))
    .nil) .nil)
    .nil) [])
    (.cons (.ret (.cst (.bl true)))
    .nil)))⟩
/-- turned(table); slots 0:table 1:size 2:rows 3:thing 4:other -/
def p_turned : FD := ⟨1, 5,
    (.cons (.asg (.tp [1, 2]) (.var 0))
    (.cons (.ret (.tup (.cons (.var 1) (.cons (.bi .tuple false (.cons (.lc false (.bi .tuple false (.cons (.lc false (.idx (.idx (.var 2) (.var 4)) (.var 3)) (.nm 4) (.rng1 (.var 1)) (.cst (.bl true)) [4]) .nil)) (.nm 3) (.rng1 (.var 1)) (.cst (.bl true)) [3]) .nil)) .nil))))
    .nil))⟩

end Cp

set_option Elab.async false
set_option linter.all false
set_option maxRecDepth 100000
set_option maxHeartbeats 4000000
/-! CoF6: defs of law k06 as core terms (printed by pr.py part). -/
namespace Cp
open Co
open PySem
/-- _law_lot(_law_mark); slots 0:_law_mark 1:_law_x -/
def a_lot : FD := ⟨1, 2,
    (.cons (.ret (.bi .tuple false (.cons (.lc false (.var 1) (.nm 1) (.rng1 (.cst (.int 8))) (.cmp .eq (.bin .band false (.bin .shr false (.var 0) (.var 1)) (.cst (.int 1))) (.cst (.int 1))) [1]) .nil)))
    .nil)⟩
/-- _law_some(_law_pool_here, _law_size); slots 0:_law_pool_here 1:_law_size 2:_law_mark -/
def a_some (f_draw f_lot : Nat) : FD := ⟨2, 3,
    (.cons (.asg (.nm 2) (.call f_draw [0, 1] (.cons (.var 0) (.cons (.bin .shl false (.cst (.int 1)) (.var 1)) .nil)) .nil))
    (.cons (.iff (.cmp .eq (.call f_draw [0, 1] (.cons (.var 0) (.cons (.cst (.int 3)) .nil)) .nil) (.cst (.int 0))) (.cons (.asg (.nm 2) (.bin .band false (.var 2) (.call f_draw [0, 1] (.cons (.var 0) (.cons (.bin .shl false (.cst (.int 1)) (.var 1)) .nil)) .nil)))
    .nil) .nil)
    (.cons (.ret (.call f_lot [0] (.cons (.var 2) .nil) .nil))
    .nil)))⟩
/-- _law_telling(_law_rows, _law_lot_here); slots 0:_law_rows 1:_law_lot_here 2:_law_z 3:_law_x 4:_law_y -/
def a_telling : FD := ⟨2, 5,
    (.cons (.fr (.nm 2) (.rng1 (.bi .len false (.cons (.var 0) .nil))) (.cons (.fr (.nm 3) (.seq (.var 1)) (.cons (.fr (.nm 4) (.seq (.var 1)) (.cons (.iff (.and_ (.cmp .notin (.var 2) (.var 1)) (.and_ (.cmp .lt (.var 3) (.var 4)) (.or_ (.cmp .ne (.idx (.idx (.var 0) (.var 2)) (.var 3)) (.idx (.idx (.var 0) (.var 2)) (.var 4))) (.cmp .ne (.idx (.idx (.var 0) (.var 3)) (.var 2)) (.idx (.idx (.var 0) (.var 4)) (.var 2)))))) (.cons (.ret (.tup (.cons (.var 2) (.cons (.var 3) (.cons (.var 4) .nil)))))
    .nil) .nil)
    .nil) [])
    .nil) [])
    .nil) [])
    (.cons (.ret (.cst .non))
    .nil))⟩
/-- _law_least(_law_rows, _law_lot_here); slots 0:_law_rows 1:_law_lot_here 2:_law_turn 3:_law_paper -/
def a_least (f_telling : Nat) : FD := ⟨2, 4,
    (.cons (.fr (.nm 2) (.rng1 (.bi .len false (.cons (.var 0) .nil))) (.cons (.asg (.nm 3) (.call f_telling [0, 1] (.cons (.var 0) (.cons (.var 1) .nil)) .nil))
    (.cons (.iff (.cmp .isn (.var 3) (.cst .non)) (.cons (.ret (.var 1))
    .nil) .nil)
    (.cons (.asg (.nm 1) (.bi .tuple false (.cons (.bi .sorted false (.cons (.bin .add false (.var 1) (.tup (.cons (.idx (.var 3) (.cst (.int 0))) .nil))) .nil)) .nil)))
    .nil))) [])
    (.cons (.ret (.var 1))
    .nil))⟩
/-- _law_is_told(_law_rows, _law_lots_here); slots 0:_law_rows 1:_law_lots_here 2:_law_about 3:_law_lot_here 4:_law_table_here 5:_law_known 6:_law_due 7:_law_found -/
def a_is_told (f_table q_turned f_telling q_is_piece q_telling : Nat) : FD := ⟨2, 8,
    (.cons (.par [4, 5] (.cons (.call f_table [0] (.cons (.var 0) .nil) .nil) (.cons (.bi .repr false (.cons (.lst false (.cons (.var 0) (.cons (.var 1) .nil))) .nil)) .nil)))
    (.cons (.asg (.nm 2) (.call q_turned [0] (.cons (.var 4) .nil) .nil))
    (.cons (.fr (.nm 3) (.seq (.var 1)) (.cons (.asg (.nm 6) (.call f_telling [0, 1] (.cons (.var 0) (.cons (.var 3) .nil)) .nil))
    (.cons (.asg (.nm 7) (.lst false (.cons (.call q_is_piece [0, 1] (.cons (.var 4) (.cons (.var 3) .nil)) .nil) (.cons (.call q_is_piece [1, 0] .nil (.cons (.var 3) (.cons (.var 4) .nil))) (.cons (.call q_is_piece [0, 1] (.cons (.var 2) (.cons (.var 3) .nil)) .nil) (.cons (.call q_is_piece [0, 1] (.cons (.var 4) (.cons (.var 3) .nil)) .nil) .nil))))))
    (.cons (.iff (.cmp .ne (.bi .repr false (.cons (.var 7) .nil)) (.bi .repr false (.cons (.bin .mul false (.lst false (.cons (.cmp .isn (.var 6) (.cst .non)) .nil)) (.cst (.int 4))) .nil))) (.cons (.ret (.cst (.bl false)))
    .nil) .nil)
    (.cons (.iff (.cmp .ne (.bi .repr false (.cons (.lst false (.cons (.call q_telling [0, 1] (.cons (.var 4) (.cons (.var 3) .nil)) .nil) (.cons (.call q_telling [1, 0] .nil (.cons (.var 3) (.cons (.var 4) .nil))) (.cons (.call q_telling [0, 1] (.cons (.var 2) (.cons (.var 3) .nil)) .nil) .nil)))) .nil)) (.bi .repr false (.cons (.bin .mul false (.lst false (.cons (.var 6) .nil)) (.cst (.int 3))) .nil))) (.cons (.ret (.cst (.bl false)))
    .nil) .nil)
    .nil)))) [])
    (.cons (.ret (.and_ (.cmp .eq (.bi .repr false (.cons (.lst false (.cons (.var 0) (.cons (.var 1) .nil))) .nil)) (.var 5)) (.cmp .eq (.bi .repr false (.cons (.var 4) .nil)) (.bi .repr false (.cons (.call f_table [0] (.cons (.var 0) .nil) .nil) .nil)))))
    .nil))))⟩
/-- _law_drawn(_law_pool_here, _law_most); slots 0:_law_pool_here 1:_law_most 2:_law_way -/
def a_drawn (f_draw f_order f_course f_world : Nat) : FD := ⟨2, 3,
    (.cons (.asg (.nm 2) (.call f_draw [0, 1] (.cons (.var 0) (.cons (.cst (.int 7)) .nil)) .nil))
    (.cons (.iff (.cmp .eq (.var 2) (.cst (.int 0))) (.cons (.ret (.call f_order [0, 1] (.cons (.var 0) (.cons (.call f_draw [0, 1] (.cons (.var 0) (.cons (.bin .add false (.var 1) (.cst (.int 1))) .nil)) .nil) .nil)) .nil))
    .nil) .nil)
    (.cons (.iff (.cmp .eq (.var 2) (.cst (.int 1))) (.cons (.ret (.call f_course [0, 1] (.cons (.var 0) (.cons (.call f_draw [0, 1] (.cons (.var 0) (.cons (.bin .add false (.var 1) (.cst (.int 1))) .nil)) .nil) .nil)) .nil))
    .nil) .nil)
    (.cons (.ret (.call f_world [0, 1, 2] (.cons (.var 0) (.cons (.var 1) (.cons (.cmp .eq (.var 2) (.cst (.int 2))) .nil))) .nil))
    .nil))))⟩

def b_lots_1 (f_some f_least f_draw : Nat) : Sxs := (.cons (.asg (.nm 5) (.call f_some [0, 1] (.cons (.var 0) (.cons (.var 3) .nil)) .nil))
    (.cons (.asg (.nm 6) (.call f_least [0, 1] (.cons (.var 1) (.cons (.var 5) .nil)) .nil))
    (.cons (.asg (.nm 4) (.bin .add true (.var 4) (.lst false (.cons (.var 5) (.cons (.var 6) .nil)))))
    (.cons (.iff (.cmp .gt (.var 3) (.cst (.int 0))) (.cons (.asg (.nm 7) (.call f_draw [0, 1] (.cons (.var 0) (.cons (.var 3) .nil)) .nil))
    (.cons (.asg (.nm 4) (.bin .add true (.var 4) (.lst false (.cons (.tup (.cons (.var 7) .nil)) (.cons (.bi .tuple false (.cons (.bi .sorted false (.cons (.bin .add false (.lc false (.var 8) (.nm 8) (.seq (.var 6)) (.cmp .ne (.var 8) (.var 7)) [8]) (.ite (.cmp .isin (.var 7) (.var 6)) (.lst false .nil) (.lst false (.cons (.var 7) .nil)))) .nil)) .nil)) .nil)))))
    (.cons (.ex (.mth .append false (.var 4) (.cons (.call f_least [0, 1] (.cons (.var 1) (.cons (.bi .tuple false (.cons (.sset false (.lst false (.cons (.var 7) (.cons (.call f_draw [0, 1] (.cons (.var 0) (.cons (.var 3) .nil)) .nil) .nil)))) .nil)) .nil)) .nil) .nil)))
    .nil))) .nil)
    .nil))))
/-- _law_lots(_law_pool_here, _law_rows); slots 0:_law_pool_here 1:_law_rows 2:_law_turn 3:_law_size 4:_law_found 5:_law_lot_here 6:_law_own 7:_law_x 8:_law_y -/
def a_lots (f_some f_least f_draw : Nat) : FD := ⟨2, 9,
    (.cons (.par [3, 4] (.cons (.bi .len false (.cons (.var 1) .nil)) (.cons (.lst true (.cons (.tup .nil) (.cons (.rgl true false (.rng1 (.bi .len false (.cons (.var 1) .nil)))) .nil))) .nil)))
    (.cons (.fr (.nm 2) (.rng1 (.cst (.int 4))) (b_lots_1 f_some f_least f_draw) [])
    (.cons (.frz 4)
    (.cons (.ret (.frz (.var 4)))
    .nil))))⟩
def b_law6_1 (f_drawn f_is_told f_lots : Nat) : Sxs := (.cons (.asg (.nm 5) (.call f_drawn [0, 1] (.cons (.var 1) (.cons (.cst (.int 8)) .nil)) .nil))
    (.cons (.iff (.not_ (.call f_is_told [0, 1] (.cons (.var 5) (.cons (.call f_lots [0, 1] (.cons (.var 1) (.cons (.var 5) .nil)) .nil) .nil)) .nil)) (.cons (.ret (.cst (.bl false)))
    .nil) .nil)
    .nil))
def c_law6_1 (f_lot : Nat) : Ex := (.call f_lot [0] (.cons (.var 8) .nil) .nil)
def b_law6_2 (f_drawn f_is_told f_lot : Nat) : Sxs := (.cons (.asg (.nm 5) (.call f_drawn [0, 1] (.cons (.var 1) (.cons (.cst (.int 5)) .nil)) .nil))
    (.cons (.iff (.not_ (.call f_is_told [0, 1] (.cons (.var 5) (.cons (.lc false (c_law6_1 f_lot) (.nm 8) (.rng1 (.bin .shl false (.cst (.int 1)) (.bi .len false (.cons (.var 5) .nil)))) (.cst (.bl true)) [8]) .nil)) .nil)) (.cons (.ret (.cst (.bl false)))
    .nil) .nil)
    .nil))
/-- law(_law_script); slots 0:_law_script 1:_law_pool_here 2:_law_turn 3:_law_fan 4:_law_found 5:_law_rows 6:_law_line 7:_law_ring 8:_law_mark -/
def a_law6 (f_pool f_drawn f_is_told f_lots f_lot q_telling q_is_piece : Nat) : FD := ⟨1, 9,
    (.cons (.asg (.nm 1) (.call f_pool [0] (.cons (.var 0) .nil) .nil))
    (.cons (.fr (.nm 2) (.rng1 (.cst (.int 2))) (b_law6_1 f_drawn f_is_told f_lots) [])
    (.cons (.fr (.nm 2) (.rng1 (.cst (.int 2))) (b_law6_2 f_drawn f_is_told f_lot) [])
    (.cons (.asg (.nm 3) (.tup (.cons (.cst (.int 3)) (.cons (.tup (.cons (.tup (.cons (.cst (.int 0)) (.cons (.cst (.int 0)) (.cons (.cst (.int 1)) .nil)))) (.cons (.tup (.cons (.cst (.int 0)) (.cons (.cst (.int 0)) (.cons (.cst (.int 1)) .nil)))) (.cons (.tup (.cons (.cst (.int 1)) (.cons (.cst (.int 1)) (.cons (.cst (.int 0)) .nil)))) .nil)))) .nil))))
    (.cons (.asg (.tp [6, 7]) (.tup (.cons (.tup (.cons (.cst (.int 3)) (.cons (.tup (.cons (.tup (.cons (.cst (.int 0)) (.cons (.cst (.int 1)) (.cons (.cst (.int 1)) .nil)))) (.cons (.tup (.cons (.cst (.int 0)) (.cons (.cst (.int 0)) (.cons (.cst (.int 1)) .nil)))) (.cons (.tup (.cons (.cst (.int 0)) (.cons (.cst (.int 0)) (.cons (.cst (.int 0)) .nil)))) .nil)))) .nil))) (.cons (.tup (.cons (.cst (.int 3)) (.cons (.tup (.cons (.tup (.cons (.cst (.int 0)) (.cons (.cst (.int 1)) (.cons (.cst (.int 0)) .nil)))) (.cons (.tup (.cons (.cst (.int 0)) (.cons (.cst (.int 0)) (.cons (.cst (.int 1)) .nil)))) (.cons (.tup (.cons (.cst (.int 1)) (.cons (.cst (.int 0)) (.cons (.cst (.int 0)) .nil)))) .nil)))) .nil))) .nil))))
    (.cons (.asg (.nm 4) (.lst false (.cons (.call q_telling [0, 1] (.cons (.var 3) (.cons (.tup (.cons (.cst (.int 0)) (.cons (.cst (.int 2)) .nil))) .nil)) .nil) (.cons (.call q_telling [0, 1] (.cons (.var 3) (.cons (.tup (.cons (.cst (.int 0)) (.cons (.cst (.int 1)) .nil))) .nil)) .nil) (.cons (.call q_telling [0, 1] (.cons (.var 7) (.cons (.tup (.cons (.cst (.int 0)) (.cons (.cst (.int 1)) .nil))) .nil)) .nil) (.cons (.call q_is_piece [0, 1] (.cons (.var 6) (.cons (.tup (.cons (.cst (.int 0)) (.cons (.cst (.int 2)) .nil))) .nil)) .nil) .nil))))))
    (.cons (.ret (.cmp .eq (.bi .repr false (.cons (.var 4) .nil)) (.bi .repr false (.cons (.lst false (.cons (.tup (.cons (.cst (.int 1)) (.cons (.cst (.int 0)) (.cons (.cst (.int 2)) .nil)))) (.cons (.cst .non) (.cons (.tup (.cons (.cst (.int 2)) (.cons (.cst (.int 0)) (.cons (.cst (.int 1)) .nil)))) (.cons (.cst (.bl false)) .nil))))) .nil))))
    .nil)))))))⟩

end Cp

set_option Elab.async false
set_option linter.all false
set_option maxRecDepth 100000
set_option maxHeartbeats 16000000
/-! CoPl: defs of looks as core terms (printed by pr.py partn). -/
namespace Cp
open Co
open PySem
def c_pis_even_1 : Ex := (.cmp .eq (.idx (.idx (.var 2) (.var 3)) (.var 4)) (.idx (.idx (.var 2) (.var 4)) (.var 3)))
/-- is_even(table); slots 0:table 1:size 2:rows 3:thing 4:other -/
def p_is_even (q_two_things : Nat) : FD := ⟨1, 5,
    (.cons (.asg (.tp [1, 2]) (.var 0))
    (.cons (.ret (.bi .all false (.cons (.lc false c_pis_even_1 (.tp [3, 4]) (.seq (.call q_two_things [0] (.cons (.var 1) .nil) .nil)) (.cst (.bl true)) [3, 4]) .nil)))
    .nil))⟩
def c_pis_plain_1 : Ex := (.cmp .le (.bi .max1 false (.cons (.var 1) .nil)) (.cst (.int 1)))
/-- is_plain(table); slots 0:table 1:row -/
def p_is_plain : FD := ⟨1, 2,
    (.cons (.ret (.bi .all false (.cons (.lc false c_pis_plain_1 (.nm 1) (.seq (.idx (.var 0) (.cst (.int 1)))) (.cst (.bl true)) [1]) .nil)))
    .nil)⟩
/-- is_web(table); slots 0:table -/
def p_is_web (q_is_even q_is_plain : Nat) : FD := ⟨1, 1,
    (.cons (.ret (.and_ (.call q_is_even [0] (.cons (.var 0) .nil) .nil) (.call q_is_plain [0] (.cons (.var 0) .nil) .nil)))
    .nil)⟩
def c_pis_order_1 : Ex := (.and_ (.cmp .eq (.idx (.idx (.var 3) (.var 5)) (.var 6)) (.cst (.int 1))) (.cmp .eq (.idx (.idx (.var 3) (.var 6)) (.var 5)) (.cst (.int 1))))
def c_pis_order_2 : Ex := (.and_ (.cmp .eq (.idx (.idx (.var 3) (.var 4)) (.var 7)) (.cst (.int 1))) (.cmp .eq (.idx (.var 1) (.var 7)) (.cst (.int 0))))
def b_pis_order_1 : Sxs := (.cons (.iff (.and_ (.cmp .eq (.idx (.var 1) (.var 4)) (.cst (.int 1))) (.bi .any false (.cons (.lc false c_pis_order_2 (.nm 7) (.rng1 (.var 2)) (.cst (.bl true)) [7]) .nil))) (.cons (.ret (.cst (.bl false)))
    .nil) .nil)
    .nil)
def b_pis_order_2 : Sxs := (.cons (.fr (.nm 4) (.rng1 (.var 2)) b_pis_order_1 [])
    .nil)
/-- is_order(table); slots 0:table 1:row 2:size 3:rows 4:middle 5:thing 6:other 7:last -/
def p_is_order (q_is_plain q_two_things : Nat) : FD := ⟨1, 8,
    (.cons (.asg (.tp [2, 3]) (.var 0))
    (.cons (.iff (.not_ (.call q_is_plain [0] (.cons (.var 0) .nil) .nil)) (.cons (.ret (.cst (.bl false)))
    .nil) .nil)
    (.cons (.iff (.bi .any false (.cons (.lc false c_pis_order_1 (.tp [5, 6]) (.seq (.call q_two_things [0] (.cons (.var 2) .nil) .nil)) (.cst (.bl true)) [5, 6]) .nil)) (.cons (.ret (.cst (.bl false)))
    .nil) .nil)
    (.cons (.fr (.nm 1) (.seq (.var 3)) b_pis_order_2 [])
    (.cons (.ret (.cst (.bl true)))
    .nil)))))⟩
def c_pis_course_1 : Ex := (.cmp .eq (.bin .add false (.idx (.idx (.var 2) (.var 3)) (.var 4)) (.idx (.idx (.var 2) (.var 4)) (.var 3))) (.cst (.int 1)))
/-- is_course(table); slots 0:table 1:size 2:rows 3:thing 4:other -/
def p_is_course (q_is_plain q_two_things : Nat) : FD := ⟨1, 5,
    (.cons (.asg (.tp [1, 2]) (.var 0))
    (.cons (.ret (.and_ (.call q_is_plain [0] (.cons (.var 0) .nil) .nil) (.bi .all false (.cons (.lc false c_pis_course_1 (.tp [3, 4]) (.seq (.call q_two_things [0] (.cons (.var 1) .nil) .nil)) (.cst (.bl true)) [3, 4]) .nil))))
    .nil))⟩
def c_ptwo_things_1 : Ex := (.tup (.cons (.var 2) (.cons (.var 3) .nil)))
def b_ptwo_things_1 : Sxs := (.cons (.ex (.mth .extend false (.var 1) (.cons (.lc false c_ptwo_things_1 (.nm 3) (.rng2 (.bin .add false (.var 2) (.cst (.int 1))) (.var 0)) (.cst (.bl true)) [3]) .nil)))
    .nil)
/-- two_things(size); slots 0:size 1:found 2:thing 3:other -/
def p_two_things : FD := ⟨1, 4,
    (.cons (.asg (.nm 1) (.lst true .nil))
    (.cons (.fr (.nm 2) (.rng1 (.var 0)) b_ptwo_things_1 [])
    (.cons (.frz 1)
    (.cons (.ret (.frz (.var 1)))
    .nil))))⟩

end Cp

set_option Elab.async false
set_option linter.all false
set_option maxRecDepth 100000
set_option maxHeartbeats 16000000
/-! CoF1: defs of law k01 as core terms (printed by pr.py partn). -/
namespace Cp
open Co
open PySem
def c_part_1 : Ex := (.idx (.idx (.var 0) (.var 2)) (.var 3))
def c_part_2 : Ex := (.lc false c_part_1 (.nm 3) (.seq (.var 1)) (.cst (.bl true)) [3])
/-- _law_part(_law_rows, _law_lot_here); slots 0:_law_rows 1:_law_lot_here 2:_law_x 3:_law_y -/
def a_part : FD := ⟨2, 4,
    (.cons (.ret (.lc false c_part_2 (.nm 2) (.seq (.var 1)) (.cst (.bl true)) [2]))
    .nil)⟩
def c_turned_1 : Ex := (.idx (.idx (.var 0) (.var 2)) (.var 1))
def c_turned_2 : Ex := (.lc false c_turned_1 (.nm 2) (.rng1 (.bi .len false (.cons (.var 0) .nil))) (.cst (.bl true)) [2])
/-- _law_turned(_law_rows); slots 0:_law_rows 1:_law_x 2:_law_y -/
def a_turned : FD := ⟨1, 3,
    (.cons (.ret (.lc false c_turned_2 (.nm 1) (.rng1 (.bi .len false (.cons (.var 0) .nil))) (.cst (.bl true)) [1]))
    .nil)⟩
def c_judged_1 : Ex := (.tup (.cons (.idx (.idx (.var 0) (.var 1)) (.var 8)) (.cons (.idx (.idx (.var 0) (.var 8)) (.var 1)) .nil)))
def b_judged_1 : Sxs := (.cons (.asg (.nm 5) (.bin .add false (.var 5) (.lc false c_judged_1 (.nm 8) (.rng1 (.var 1)) (.cst (.bl true)) [8])))
    .nil)
def b_judged_2 : Sxs := (.cons (.iff (.and_ (.cmp .eq (.idx (.idx (.var 0) (.var 1)) (.var 8)) (.cst (.int 1))) (.and_ (.cmp .eq (.idx (.idx (.var 0) (.var 8)) (.var 9)) (.cst (.int 1))) (.cmp .ne (.idx (.idx (.var 0) (.var 1)) (.var 9)) (.cst (.int 1))))) (.cons (.asg (.nm 6) (.cst (.bl false)))
    .nil) .nil)
    .nil)
def b_judged_3 : Sxs := (.cons (.fr (.nm 9) (.rng1 (.var 4)) b_judged_2 [])
    .nil)
def b_judged_4 : Sxs := (.cons (.fr (.nm 8) (.rng1 (.var 4)) b_judged_3 [])
    .nil)
/-- _law_judged(_law_rows); slots 0:_law_rows 1:_law_x 2:_law_is_plain 3:_law_is_alike 4:_law_size 5:_law_pairs 6:_law_is_ahead 7:_law_is_run 8:_law_y 9:_law_z 10:_law_one 11:_law_other -/
def a_judged : FD := ⟨1, 12,
    (.cons (.par [4, 5] (.cons (.bi .len false (.cons (.var 0) .nil)) (.cons (.lst false .nil) .nil)))
    (.cons (.fr (.nm 1) (.rng1 (.var 4)) b_judged_1 [])
    (.cons (.asg (.nm 2) (.cmp .eq (.lc false (.cst (.int 1)) (.tp [10, 11]) (.seq (.var 5)) (.or_ (.cmp .gt (.var 10) (.cst (.int 1))) (.cmp .gt (.var 11) (.cst (.int 1)))) [10, 11]) (.lst false .nil)))
    (.cons (.asg (.nm 3) (.cmp .eq (.lc false (.cst (.int 1)) (.tp [10, 11]) (.seq (.var 5)) (.cmp .ne (.var 10) (.var 11)) [10, 11]) (.lst false .nil)))
    (.cons (.par [6, 7] (.cons (.var 2) (.cons (.and_ (.var 2) (.cmp .eq (.lc false (.cst (.int 1)) (.tp [10, 11]) (.seq (.var 5)) (.cmp .ne (.bin .add false (.var 10) (.var 11)) (.cst (.int 1))) [10, 11]) (.lst false .nil))) .nil)))
    (.cons (.fr (.nm 1) (.rng1 (.var 4)) b_judged_4 [])
    (.cons (.ret (.lst false (.cons (.var 3) (.cons (.and_ (.var 3) (.var 2)) (.cons (.var 6) (.cons (.var 7) .nil))))))
    .nil)))))))⟩
def c_spoilt_1 : Ex := (.bi .list true (.cons (.var 6) .nil))
/-- _law_spoilt(_law_pool_here, _law_rows); slots 0:_law_pool_here 1:_law_rows 2:_law_y 3:_law_found 4:_law_size 5:_law_x 6:_law_row -/
def a_spoilt (f_draw f_any : Nat) : FD := ⟨2, 7,
    (.cons (.par [3, 4] (.cons (.lc true c_spoilt_1 (.nm 6) (.seq (.var 1)) (.cst (.bl true)) [6]) (.cons (.bi .len false (.cons (.var 1) .nil)) .nil)))
    (.cons (.par [5, 2] (.cons (.call f_draw [0, 1] (.cons (.var 0) (.cons (.var 4) .nil)) .nil) (.cons (.call f_draw [0, 1] (.cons (.var 0) (.cons (.bin .sub false (.var 4) (.cst (.int 1))) .nil)) .nil) .nil)))
    (.cons (.asg (.nm 2) (.bin .add false (.var 2) (.bi .int false (.cons (.cmp .ge (.var 2) (.var 5)) .nil))))
    (.cons (.seti (.idx (.var 3) (.var 5)) (.var 2) (.call f_any [0, 1] (.cons (.var 0) (.cons (.lst false (.cons (.cst (.int 0)) (.cons (.cst (.int 1)) (.cons (.bin .sub false (.cst (.int 1)) (.bi .int false (.cons (.cmp .eq (.idx (.idx (.var 1) (.var 5)) (.var 2)) (.cst (.int 1))) .nil))) (.cons (.cst (.int 2)) (.cons (.cst (.int 99)) .nil)))))) .nil)) .nil))
    (.cons (.iff (.cmp .eq (.call f_draw [0, 1] (.cons (.var 0) (.cons (.cst (.int 2)) .nil)) .nil) (.cst (.int 0))) (.cons (.seti (.idx (.var 3) (.var 2)) (.var 5) (.call f_any [0, 1] (.cons (.var 0) (.cons (.lst false (.cons (.idx (.idx (.var 3) (.var 5)) (.var 2)) (.cons (.cst (.int 0)) (.cons (.cst (.int 1)) (.cons (.cst (.int 2)) .nil))))) .nil)) .nil))
    .nil) .nil)
    (.cons (.frz 3)
    (.cons (.ret (.frz (.var 3)))
    .nil)))))))⟩
/-- _law_asked(_law_table_here); slots 0:_law_table_here 1:_law_known 2:_law_found 3:_law_again -/
def a_asked1 (q_is_even q_is_web q_is_order q_is_course : Nat) : FD := ⟨1, 4,
    (.cons (.asg (.nm 1) (.bi .repr false (.cons (.var 0) .nil)))
    (.cons (.asg (.nm 2) (.lst false (.cons (.call q_is_even [0] (.cons (.var 0) .nil) .nil) (.cons (.call q_is_web [0] (.cons (.var 0) .nil) .nil) (.cons (.call q_is_order [0] (.cons (.var 0) .nil) .nil) (.cons (.call q_is_course [0] (.cons (.var 0) .nil) .nil) .nil))))))
    (.cons (.asg (.nm 3) (.lst false (.cons (.call q_is_even [0] .nil (.cons (.var 0) .nil)) (.cons (.call q_is_web [0] .nil (.cons (.var 0) .nil)) (.cons (.call q_is_order [0] .nil (.cons (.var 0) .nil)) (.cons (.call q_is_course [0] .nil (.cons (.var 0) .nil)) .nil))))))
    (.cons (.iff (.or_ (.cmp .ne (.bi .repr false (.cons (.var 2) .nil)) (.bi .repr false (.cons (.var 3) .nil))) (.cmp .ne (.bi .repr false (.cons (.var 0) .nil)) (.var 1))) (.cons (.ret (.lst false .nil))
    .nil) .nil)
    (.cons (.ret (.var 2))
    .nil)))))⟩
/-- _law_drawn(_law_pool_here); slots 0:_law_pool_here 1:_law_size 2:_law_way -/
def a_drawn1 (f_any f_draw f_world f_chance f_grown f_order f_course : Nat) : FD := ⟨1, 3,
    (.cons (.par [1, 2] (.cons (.call f_any [0, 1] (.cons (.var 0) (.cons (.lst false (.cons (.cst (.int 8)) (.cons (.cst (.int 3)) (.cons (.call f_draw [0, 1] (.cons (.var 0) (.cons (.cst (.int 9)) .nil)) .nil) (.cons (.call f_draw [0, 1] (.cons (.var 0) (.cons (.cst (.int 5)) .nil)) .nil) .nil))))) .nil)) .nil) (.cons (.call f_draw [0, 1] (.cons (.var 0) (.cons (.cst (.int 7)) .nil)) .nil) .nil)))
    (.cons (.iff (.cmp .lt (.var 2) (.cst (.int 2))) (.cons (.ret (.call f_world [0, 1, 2] (.cons (.var 0) (.cons (.var 1) (.cons (.cmp .eq (.var 2) (.cst (.int 0))) .nil))) .nil))
    .nil) .nil)
    (.cons (.iff (.cmp .eq (.var 2) (.cst (.int 2))) (.cons (.ret (.call f_chance [0, 1, 2, 3] (.cons (.var 0) (.cons (.var 1) (.cons (.lst false (.cons (.cst (.int 0)) (.cons (.cst (.int 1)) .nil))) (.cons (.cst (.bl true)) .nil)))) .nil))
    .nil) .nil)
    (.cons (.iff (.cmp .eq (.var 2) (.cst (.int 3))) (.cons (.ret (.call f_chance [0, 1, 2, 3] (.cons (.var 0) (.cons (.var 1) (.cons (.lst false (.cons (.cst (.int 0)) (.cons (.cst (.int 1)) .nil))) (.cons (.cst (.bl false)) .nil)))) .nil))
    .nil) .nil)
    (.cons (.iff (.cmp .eq (.var 2) (.cst (.int 4))) (.cons (.ret (.frz (.call f_grown [0, 1, 2, 3] (.cons (.var 0) (.cons (.var 1) (.cons (.lst false (.cons (.cst (.int 0)) (.cons (.cst (.int 1)) .nil))) (.cons (.cmp .eq (.call f_draw [0, 1] (.cons (.var 0) (.cons (.cst (.int 2)) .nil)) .nil) (.cst (.int 0))) .nil)))) .nil)))
    .nil) .nil)
    (.cons (.ret (.ite (.cmp .eq (.var 2) (.cst (.int 5))) (.call f_order [0, 1] (.cons (.var 0) (.cons (.var 1) .nil)) .nil) (.call f_course [0, 1] (.cons (.var 0) (.cons (.var 1) .nil)) .nil)))
    .nil))))))⟩
def b_law1_1 (f_asked f_table : Nat) : Sxs := (.cons (.iff (.cmp .ne (.bi .repr false (.cons (.call f_asked [0] (.cons (.call f_table [0] (.cons (.var 9) .nil) .nil) .nil) .nil) .nil)) (.bi .repr false (.cons (.var 7) .nil))) (.cons (.ret (.cst (.bl false)))
    .nil) .nil)
    .nil)
def b_law1_2 (f_drawn f_draw f_spoilt f_judged f_mixed f_turned f_renamed f_asked f_table f_part f_lot : Nat) : Sxs := (.cons (.asg (.nm 6) (.call f_drawn [0] (.cons (.var 1) .nil) .nil))
    (.cons (.iff (.and_ (.cmp .gt (.bi .len false (.cons (.var 6) .nil)) (.cst (.int 1))) (.cmp .eq (.call f_draw [0, 1] (.cons (.var 1) (.cons (.cst (.int 2)) .nil)) .nil) (.cst (.int 0)))) (.cons (.asg (.nm 6) (.call f_spoilt [0, 1] (.cons (.var 1) (.cons (.var 6) .nil)) .nil))
    .nil) .nil)
    (.cons (.asg (.nm 7) (.call f_judged [0] (.cons (.var 6) .nil) .nil))
    (.cons (.asg (.nm 8) (.call f_mixed [0, 1] (.cons (.var 1) (.cons (.rgl false false (.rng1 (.bi .len false (.cons (.var 6) .nil)))) .nil)) .nil))
    (.cons (.fr (.nm 9) (.seq (.lst false (.cons (.var 6) (.cons (.call f_turned [0] (.cons (.var 6) .nil) .nil) (.cons (.frz (.call f_renamed [0, 1] (.cons (.var 6) (.cons (.var 8) .nil)) .nil)) (.cons (.var 6) .nil)))))) (b_law1_1 f_asked f_table) [])
    (.cons (.asg (.nm 10) (.call f_part [0, 1] (.cons (.var 6) (.cons (.lc false (.var 11) (.nm 11) (.seq (.call f_lot [0] (.cons (.call f_draw [0, 1] (.cons (.var 1) (.cons (.cst (.int 256)) .nil)) .nil) .nil) .nil)) (.cmp .lt (.var 11) (.bi .len false (.cons (.var 6) .nil))) [11]) .nil)) .nil))
    (.cons (.iff (.cmp .ne (.bi .repr false (.cons (.call f_asked [0] (.cons (.call f_table [0] (.cons (.var 10) .nil) .nil) .nil) .nil) .nil)) (.bi .repr false (.cons (.call f_judged [0] (.cons (.var 10) .nil) .nil) .nil))) (.cons (.ret (.cst (.bl false)))
    .nil) .nil)
    .nil)))))))
/-- law(_law_script); slots 0:_law_script 1:_law_pool_here 2:_law_turn 3:_law_line 4:_law_ring 5:_law_found 6:_law_rows 7:_law_due 8:_law_names 9:_law_same 10:_law_less 11:_law_x -/
def a_law1 (f_pool f_drawn f_draw f_spoilt f_judged f_mixed f_turned f_renamed f_asked f_table f_part f_lot : Nat) : FD := ⟨1, 12,
    (.cons (.asg (.nm 1) (.call f_pool [0] (.cons (.var 0) .nil) .nil))
    (.cons (.fr (.nm 2) (.rng1 (.cst (.int 5))) (b_law1_2 f_drawn f_draw f_spoilt f_judged f_mixed f_turned f_renamed f_asked f_table f_part f_lot) [])
    (.cons (.asg (.nm 3) (.tup (.cons (.cst (.int 3)) (.cons (.tup (.cons (.tup (.cons (.cst (.int 0)) (.cons (.cst (.int 1)) (.cons (.cst (.int 1)) .nil)))) (.cons (.tup (.cons (.cst (.int 0)) (.cons (.cst (.int 0)) (.cons (.cst (.int 1)) .nil)))) (.cons (.tup (.cons (.cst (.int 0)) (.cons (.cst (.int 0)) (.cons (.cst (.int 0)) .nil)))) .nil)))) .nil))))
    (.cons (.asg (.nm 4) (.tup (.cons (.cst (.int 3)) (.cons (.tup (.cons (.tup (.cons (.cst (.int 0)) (.cons (.cst (.int 1)) (.cons (.cst (.int 0)) .nil)))) (.cons (.tup (.cons (.cst (.int 0)) (.cons (.cst (.int 0)) (.cons (.cst (.int 1)) .nil)))) (.cons (.tup (.cons (.cst (.int 1)) (.cons (.cst (.int 0)) (.cons (.cst (.int 0)) .nil)))) .nil)))) .nil))))
    (.cons (.asg (.nm 5) (.lst false (.cons (.call f_asked [0] (.cons (.var 3) .nil) .nil) (.cons (.call f_asked [0] (.cons (.var 4) .nil) .nil) (.cons (.call f_asked [0] (.cons (.tup (.cons (.cst (.int 0)) (.cons (.tup .nil) .nil))) .nil) .nil) (.cons (.call f_asked [0] (.cons (.tup (.cons (.cst (.int 1)) (.cons (.tup (.cons (.tup (.cons (.cst (.int 0)) .nil)) .nil)) .nil))) .nil) .nil) .nil))))))
    (.cons (.ret (.cmp .eq (.bi .repr false (.cons (.var 5) .nil)) (.bi .repr false (.cons (.lst false (.cons (.lst false (.cons (.cst (.bl false)) (.cons (.cst (.bl false)) (.cons (.cst (.bl true)) (.cons (.cst (.bl true)) .nil))))) (.cons (.lst false (.cons (.cst (.bl false)) (.cons (.cst (.bl false)) (.cons (.cst (.bl false)) (.cons (.cst (.bl true)) .nil))))) (.cons (.bin .mul false (.lst false (.cons (.cst (.bl true)) .nil)) (.cst (.int 4))) (.cons (.bin .mul false (.lst false (.cons (.cst (.bl true)) .nil)) (.cst (.int 4))) .nil))))) .nil))))
    .nil))))))⟩

end Cp

set_option Elab.async false
set_option linter.all false
set_option maxRecDepth 100000
set_option maxHeartbeats 16000000
/-! CoPg: growing, least_piece of the package as core terms (printed by pr.py partn). -/
namespace Cp
open Co
open PySem
/-- growing(table, lot); slots 0:table 1:lot 2:triple 3:held 4:triples -/
def p_growing (q_telling : Nat) : FD := ⟨2, 5,
    (.cons (.par [3, 4] (.cons (.var 1) (.cons (.lst true .nil) .nil)))
    (.cons (.asg (.nm 2) (.call q_telling [0, 1] (.cons (.var 0) (.cons (.var 3) .nil)) .nil))
    (.cons (.whl (.cmp .notn (.var 2) (.cst .non)) (.cons (.ex (.mth .append false (.var 4) (.cons (.var 2) .nil)))
    (.cons (.asg (.nm 3) (.bi .tuple false (.cons (.bi .sorted false (.cons (.bin .add false (.var 3) (.tup (.cons (.idx (.var 2) (.cst (.int 0))) .nil))) .nil)) .nil)))
    (.cons (.asg (.nm 2) (.call q_telling [0, 1] (.cons (.var 0) (.cons (.var 3) .nil)) .nil))
    .nil))) [])
    (.cons (.frz 4)
    (.cons (.ret (.bi .tuple false (.cons (.var 4) .nil)))
    .nil)))))⟩
def c_pleast_piece_1 : Ex := (.idx (.var 2) (.cst (.int 0)))
/-- least_piece(table, lot); slots 0:table 1:lot 2:triple -/
def p_least_piece (q_growing : Nat) : FD := ⟨2, 3,
    (.cons (.ret (.bi .tuple false (.cons (.bi .sorted false (.cons (.bin .add false (.var 1) (.bi .tuple false (.cons (.lc false c_pleast_piece_1 (.nm 2) (.seq (.call q_growing [0, 1] (.cons (.var 0) (.cons (.var 1) .nil)) .nil)) (.cst (.bl true)) [2]) .nil))) .nil)) .nil)))
    .nil)⟩

end Cp

set_option Elab.async false
set_option linter.all false
set_option maxRecDepth 100000
set_option maxHeartbeats 16000000
/-! CoF8: defs of law k08 as core terms (printed by pr.py partn). -/
namespace Cp
open Co
open PySem
def b_walk_1 (f_telling : Nat) : Sxs := (.cons (.asg (.nm 4) (.call f_telling [0, 1] (.cons (.var 0) (.cons (.var 1) .nil)) .nil))
    (.cons (.iff (.cmp .isn (.var 4) (.cst .non)) (.cons (.ret (.lst false (.cons (.bi .tuple false (.cons (.var 2) .nil)) (.cons (.var 1) .nil))))
    .nil) .nil)
    (.cons (.ex (.mth .append false (.var 2) (.cons (.var 4) .nil)))
    (.cons (.asg (.nm 1) (.bi .tuple false (.cons (.bi .sorted false (.cons (.bin .add false (.var 1) (.tup (.cons (.idx (.var 4) (.cst (.int 0))) .nil))) .nil)) .nil)))
    .nil))))
/-- _law_walk(_law_rows, _law_lot_here); slots 0:_law_rows 1:_law_lot_here 2:_law_papers 3:_law_turn 4:_law_paper -/
def a_walk (f_telling : Nat) : FD := ⟨2, 5,
    (.cons (.asg (.nm 2) (.lst true .nil))
    (.cons (.fr (.nm 3) (.rng1 (.bin .add false (.bi .len false (.cons (.var 0) .nil)) (.cst (.int 1)))) (b_walk_1 f_telling) [])
    (.cons (.frz 2)
    (.cons (.ret (.lst false (.cons (.bi .tuple false (.cons (.var 2) .nil)) (.cons (.var 1) .nil))))
    .nil))))⟩
/-- _law_is_grown(_law_rows, _law_lot_here); slots 0:_law_rows 1:_law_lot_here 2:_law_due 3:_law_found 4:_law_table_here 5:_law_known 6:_law_about 7:_law_last -/
def a_is_grown (f_table f_walk q_growing q_least_piece q_turned q_is_piece : Nat) : FD := ⟨2, 8,
    (.cons (.par [4, 5] (.cons (.call f_table [0] (.cons (.var 0) .nil) .nil) (.cons (.bi .repr false (.cons (.lst false (.cons (.var 0) (.cons (.var 1) .nil))) .nil)) .nil)))
    (.cons (.asg (.nm 2) (.call f_walk [0, 1] (.cons (.var 0) (.cons (.var 1) .nil)) .nil))
    (.cons (.asg (.nm 3) (.lst true (.cons (.lst false (.cons (.call q_growing [0, 1] (.cons (.var 4) (.cons (.var 1) .nil)) .nil) (.cons (.call q_least_piece [0, 1] (.cons (.var 4) (.cons (.var 1) .nil)) .nil) .nil))) .nil)))
    (.cons (.ex (.mth .append false (.var 3) (.cons (.lst false (.cons (.call q_growing [1, 0] .nil (.cons (.var 1) (.cons (.var 4) .nil))) (.cons (.call q_least_piece [1, 0] .nil (.cons (.var 1) (.cons (.var 4) .nil))) .nil))) .nil)))
    (.cons (.frz 3)
    (.cons (.iff (.cmp .ne (.bi .repr false (.cons (.var 3) .nil)) (.bi .repr false (.cons (.lst false (.cons (.var 2) (.cons (.var 2) .nil))) .nil))) (.cons (.ret (.cst (.bl false)))
    .nil) .nil)
    (.cons (.par [6, 7] (.cons (.call q_turned [0] (.cons (.var 4) .nil) .nil) (.cons (.idx (.var 2) (.cst (.int 1))) .nil)))
    (.cons (.iff (.or_ (.cmp .ne (.bi .repr false (.cons (.lst false (.cons (.call q_growing [0, 1] (.cons (.var 6) (.cons (.var 1) .nil)) .nil) (.cons (.call q_least_piece [0, 1] (.cons (.var 6) (.cons (.var 1) .nil)) .nil) .nil))) .nil)) (.bi .repr false (.cons (.var 2) .nil))) (.cmp .notn (.call q_is_piece [0, 1] (.cons (.var 4) (.cons (.var 7) .nil)) .nil) (.cst (.bl true)))) (.cons (.ret (.cst (.bl false)))
    .nil) .nil)
    (.cons (.iff (.cmp .ne (.bi .repr false (.cons (.lst false (.cons (.call q_growing [0, 1] (.cons (.var 4) (.cons (.var 7) .nil)) .nil) (.cons (.call q_least_piece [0, 1] (.cons (.var 4) (.cons (.var 7) .nil)) .nil) .nil))) .nil)) (.bi .repr false (.cons (.lst false (.cons (.tup .nil) (.cons (.var 7) .nil))) .nil))) (.cons (.ret (.cst (.bl false)))
    .nil) .nil)
    (.cons (.ret (.and_ (.cmp .eq (.bi .repr false (.cons (.lst false (.cons (.var 0) (.cons (.var 1) .nil))) .nil)) (.var 5)) (.cmp .eq (.bi .repr false (.cons (.var 4) .nil)) (.bi .repr false (.cons (.call f_table [0] (.cons (.var 0) .nil) .nil) .nil)))))
    .nil))))))))))⟩
/-- _law_by_two(_law_pool_here, _law_rows); slots 0:_law_pool_here 1:_law_rows 2:_law_table_here 3:_law_one 4:_law_two 5:_law_both 6:_law_within 7:_law_first 8:_law_second 9:_law_whole 10:_law_x -/
def a_by_two (f_table f_some q_least_piece f_is_grown : Nat) : FD := ⟨2, 11,
    (.cons (.asg (.tp [2, 3, 4]) (.tup (.cons (.call f_table [0] (.cons (.var 1) .nil) .nil) (.cons (.call f_some [0, 1] (.cons (.var 0) (.cons (.bi .len false (.cons (.var 1) .nil)) .nil)) .nil) (.cons (.call f_some [0, 1] (.cons (.var 0) (.cons (.bi .len false (.cons (.var 1) .nil)) .nil)) .nil) .nil)))))
    (.cons (.par [5, 6] (.cons (.bi .tuple false (.cons (.sset false (.bin .add false (.var 3) (.var 4))) .nil)) (.cons (.bi .tuple false (.cons (.lc false (.var 10) (.nm 10) (.seq (.var 3)) (.cmp .isin (.var 10) (.var 4)) [10]) .nil)) .nil)))
    (.cons (.asg (.tp [7, 8, 9]) (.tup (.cons (.call q_least_piece [0, 1] (.cons (.var 2) (.cons (.var 3) .nil)) .nil) (.cons (.call q_least_piece [0, 1] (.cons (.var 2) (.cons (.var 4) .nil)) .nil) (.cons (.call q_least_piece [0, 1] (.cons (.var 2) (.cons (.var 5) .nil)) .nil) .nil)))))
    (.cons (.iff (.cmp .ne (.lc false (.var 10) (.nm 10) (.seq (.bin .add false (.var 7) (.var 8))) (.cmp .notin (.var 10) (.var 9)) [10]) (.lst false .nil)) (.cons (.ret (.cst (.bl false)))
    .nil) .nil)
    (.cons (.iff (.cmp .ne (.lc false (.var 10) (.nm 10) (.seq (.call q_least_piece [0, 1] (.cons (.var 2) (.cons (.var 6) .nil)) .nil)) (.or_ (.cmp .notin (.var 10) (.var 7)) (.cmp .notin (.var 10) (.var 8))) [10]) (.lst false .nil)) (.cons (.ret (.cst (.bl false)))
    .nil) .nil)
    (.cons (.iff (.cmp .ne (.bi .repr false (.cons (.call q_least_piece [0, 1] (.cons (.var 2) (.cons (.bi .tuple false (.cons (.sset false (.bin .add false (.var 7) (.var 8))) .nil)) .nil)) .nil) .nil)) (.bi .repr false (.cons (.var 9) .nil))) (.cons (.ret (.cst (.bl false)))
    .nil) .nil)
    (.cons (.ret (.and_ (.call f_is_grown [0, 1] (.cons (.var 1) (.cons (.var 3) .nil)) .nil) (.call f_is_grown [0, 1] (.cons (.var 1) (.cons (.var 5) .nil)) .nil)))
    .nil)))))))⟩
def b_by_meet_1 (f_lot f_telling : Nat) : Sxs := (.cons (.asg (.nm 5) (.call f_lot [0] (.cons (.var 2) .nil) .nil))
    (.cons (.iff (.and_ (.cmp .eq (.lc false (.var 6) (.nm 6) (.seq (.var 1)) (.cmp .notin (.var 6) (.var 5)) [6]) (.lst false .nil)) (.cmp .isn (.call f_telling [0, 1] (.cons (.var 0) (.cons (.var 5) .nil)) .nil) (.cst .non))) (.cons (.asg (.nm 4) (.lc false (.var 6) (.nm 6) (.seq (.var 4)) (.cmp .isin (.var 6) (.var 5)) [6]))
    .nil) .nil)
    .nil))
/-- _law_by_meet(_law_rows, _law_lot_here); slots 0:_law_rows 1:_law_lot_here 2:_law_mark 3:_law_table_here 4:_law_found 5:_law_own 6:_law_x -/
def a_by_meet (f_table f_lot f_telling q_least_piece : Nat) : FD := ⟨2, 7,
    (.cons (.par [3, 4] (.cons (.call f_table [0] (.cons (.var 0) .nil) .nil) (.cons (.rgl false false (.rng1 (.bi .len false (.cons (.var 0) .nil)))) .nil)))
    (.cons (.fr (.nm 2) (.rng1 (.bin .shl false (.cst (.int 1)) (.bi .len false (.cons (.var 0) .nil)))) (b_by_meet_1 f_lot f_telling) [])
    (.cons (.ret (.cmp .eq (.bi .repr false (.cons (.call q_least_piece [0, 1] (.cons (.var 3) (.cons (.var 1) .nil)) .nil) .nil)) (.bi .repr false (.cons (.bi .tuple false (.cons (.var 4) .nil)) .nil))))
    .nil)))⟩
def b_law8_1 (f_drawn f_by_two : Nat) : Sxs := (.cons (.asg (.nm 3) (.call f_drawn [0, 1] (.cons (.var 1) (.cons (.cst (.int 8)) .nil)) .nil))
    (.cons (.iff (.or_ (.not_ (.call f_by_two [0, 1] (.cons (.var 1) (.cons (.var 3) .nil)) .nil)) (.not_ (.call f_by_two [0, 1] (.cons (.var 1) (.cons (.var 3) .nil)) .nil))) (.cons (.ret (.cst (.bl false)))
    .nil) .nil)
    .nil))
def b_law8_2 (f_is_grown : Nat) : Sxs := (.cons (.iff (.not_ (.call f_is_grown [0, 1] (.cons (.var 3) (.cons (.tup (.cons (.var 6) (.cons (.var 4) .nil))) .nil)) .nil)) (.cons (.ret (.cst (.bl false)))
    .nil) .nil)
    .nil)
def b_law8_3 (f_is_grown : Nat) : Sxs := (.cons (.fr (.nm 6) (.rng1 (.var 4)) (b_law8_2 f_is_grown) [])
    .nil)
def b_law8_4 (f_by_meet f_some : Nat) : Sxs := (.cons (.iff (.not_ (.call f_by_meet [0, 1] (.cons (.var 3) (.cons (.call f_some [0, 1] (.cons (.var 1) (.cons (.bi .len false (.cons (.var 3) .nil)) .nil)) .nil) .nil)) .nil)) (.cons (.ret (.cst (.bl false)))
    .nil) .nil)
    .nil)
/-- law(_law_script); slots 0:_law_script 1:_law_pool_here 2:_law_turn 3:_law_rows 4:_law_x 5:_law_found 6:_law_y 7:_law_fan 8:_law_line -/
def a_law8 (f_pool f_drawn f_by_two f_is_grown f_by_meet f_some q_growing q_least_piece : Nat) : FD := ⟨1, 9,
    (.cons (.asg (.nm 1) (.call f_pool [0] (.cons (.var 0) .nil) .nil))
    (.cons (.fr (.nm 2) (.rng1 (.cst (.int 3))) (b_law8_1 f_drawn f_by_two) [])
    (.cons (.asg (.nm 3) (.call f_drawn [0, 1] (.cons (.var 1) (.cons (.cst (.int 5)) .nil)) .nil))
    (.cons (.fr (.nm 4) (.rng1 (.bi .len false (.cons (.var 3) .nil))) (b_law8_3 f_is_grown) [])
    (.cons (.fr (.nm 2) (.rng1 (.cst (.int 3))) (b_law8_4 f_by_meet f_some) [])
    (.cons (.asg (.tp [7, 8]) (.tup (.cons (.tup (.cons (.cst (.int 3)) (.cons (.tup (.cons (.tup (.cons (.cst (.int 0)) (.cons (.cst (.int 0)) (.cons (.cst (.int 1)) .nil)))) (.cons (.tup (.cons (.cst (.int 0)) (.cons (.cst (.int 0)) (.cons (.cst (.int 1)) .nil)))) (.cons (.tup (.cons (.cst (.int 1)) (.cons (.cst (.int 1)) (.cons (.cst (.int 0)) .nil)))) .nil)))) .nil))) (.cons (.tup (.cons (.cst (.int 3)) (.cons (.tup (.cons (.tup (.cons (.cst (.int 0)) (.cons (.cst (.int 1)) (.cons (.cst (.int 1)) .nil)))) (.cons (.tup (.cons (.cst (.int 0)) (.cons (.cst (.int 0)) (.cons (.cst (.int 1)) .nil)))) (.cons (.tup (.cons (.cst (.int 0)) (.cons (.cst (.int 0)) (.cons (.cst (.int 0)) .nil)))) .nil)))) .nil))) .nil))))
    (.cons (.asg (.nm 5) (.lst false (.cons (.call q_growing [0, 1] (.cons (.var 8) (.cons (.tup (.cons (.cst (.int 0)) (.cons (.cst (.int 2)) .nil))) .nil)) .nil) (.cons (.call q_least_piece [0, 1] (.cons (.var 8) (.cons (.tup (.cons (.cst (.int 0)) (.cons (.cst (.int 2)) .nil))) .nil)) .nil) (.cons (.call q_growing [0, 1] (.cons (.var 7) (.cons (.tup (.cons (.cst (.int 1)) (.cons (.cst (.int 2)) .nil))) .nil)) .nil) (.cons (.call q_least_piece [0, 1] (.cons (.var 7) (.cons (.tup .nil) .nil)) .nil) .nil))))))
    (.cons (.ret (.cmp .eq (.bi .repr false (.cons (.var 5) .nil)) (.bi .repr false (.cons (.lst false (.cons (.tup (.cons (.tup (.cons (.cst (.int 1)) (.cons (.cst (.int 0)) (.cons (.cst (.int 2)) .nil)))) .nil)) (.cons (.tup (.cons (.cst (.int 0)) (.cons (.cst (.int 1)) (.cons (.cst (.int 2)) .nil)))) (.cons (.tup (.cons (.tup (.cons (.cst (.int 0)) (.cons (.cst (.int 1)) (.cons (.cst (.int 2)) .nil)))) .nil)) (.cons (.tup .nil) .nil))))) .nil))))
    .nil))))))))⟩

end Cp

set_option Elab.async false
set_option linter.all false
set_option maxRecDepth 100000
set_option maxHeartbeats 8000000
/-! CoA1: the pool of the family A, what draw gives. -/
namespace Cp
open Co
open PySem

def KS : List L2.Key := [.inr "far", .inr "cells", .inr "sum", .inr "turn"]
theorem look_far (a b c d : Val) : look (.inr "far") KS [a, b, c, d] = some a := rfl
theorem look_cells (a b c d : Val) : look (.inr "cells") KS [a, b, c, d] = some b := by rfl
theorem look_sum (a b c d : Val) : look (.inr "sum") KS [a, b, c, d] = some c := by rfl
theorem look_turn (a b c d : Val) : look (.inr "turn") KS [a, b, c, d] = some d := by rfl
theorem KS_len : KS.length = 4 := rfl
theorem put_turn (a b c d v : Val) : putVs (.inr "turn") v KS [a, b, c, d] = [a, b, c, v] := by rfl
theorem putK_turn : putKs (.inr "turn") KS = KS := by rfl
def pl (fars cells : List Int) (sum turn : Int) (rest : Store) : Store := .lst (fars.map .int) :: .dct KS [.ref 0, .lst (cells.map .int), .int sum, .int turn] :: rest
def Pool (st rest : Store) : Prop := ∃ fars cells sum turn, st = pl fars cells sum turn rest ∧ cells ≠ [] ∧ fars.length ≤ 63
def PoolS (st : Store) : Prop := ∃ rest, Pool st rest
theorem map_atI {xs : List Int} {i : Nat} (h : i < xs.length) : L2.atI (xs.map Val.int) (i : Int) = some (.int xs[i]) := by
  rw [atI_nat' (by simpa using h), List.getElem_map]
theorem small_mul {a b : Int} (h : a.natAbs < 2 ^ 64) : mulOk a b = true := by simp [mulOk, h]
theorem small_mul' {a b : Int} (h : b.natAbs < 2 ^ 64) : mulOk a b = true := by simp [mulOk, h]
theorem small_mul2 {a b : Int} (h : a.natAbs < 2 ^ 2000) (h2 : b.natAbs < 2 ^ 2000) : mulOk a b = true := by simp [mulOk, h, h2]
theorem veq_nil : veq (.lst []) (.lst []) = true := (veq_ints [] []).trans rfl
theorem eqOk_nil : eqOk (.lst []) = true := eqOk_ints []
theorem draw_ok {F : Nat → Option FD} {f : Nat} (hf : F f = some a_draw) (n : Nat) (size : Int) (hs : size < 1073741824) {st rest : Store} (p : Pool st rest) :
    ∃ k st', runF F (n + 1) f [.ref 1, .int size] st = .ok (.int k) st' ∧ Pool st' rest ∧ (size < 2 → k = 0) ∧ (2 ≤ size → 0 ≤ k ∧ k < size) := by
  obtain ⟨fars, cells, sum, turn, rfl, hc, hfl⟩ := p
  rw [runF_eq hf rfl]
  by_cases h2 : size < 2
  · refine ⟨0, pl fars cells sum turn rest, ?_, ⟨fars, cells, sum, turn, rfl, hc, hfl⟩, fun _ => rfl, fun h => absurd h (by omega)⟩
    simp [a_draw, cmpv, tru, dr, h2, trunc]
  · have h3 : 2 ≤ size := by omega
    have hmod : ∀ z : Int, binI .mod z size = some (z % size) := fun z => by simp [binI]; omega
    have hdiv : ∀ z : Int, binI .fdiv z size = some (z / size) := fun z => by simp [binI]; omega
    have q1 := eqOk_ints fars
    have q2 := veq_ints fars []
    simp only [List.map_nil] at q2
    by_cases hfar : fars = []
    · subst hfar
      have hix : (turn + 1) % (cells.length : Int) = (((turn + 1) % (cells.length : Int)).toNat : Int) ∧ ((turn + 1) % (cells.length : Int)).toNat < cells.length := by
        have : cells.length ≠ 0 := fun e => hc (List.eq_nil_of_length_eq_zero e)
        have h1 := Int.emod_nonneg (turn + 1) (b := (cells.length : Int)) (by omega)
        have h2 := Int.emod_lt_of_pos (turn + 1) (b := (cells.length : Int)) (by omega)
        omega
      have hlen : binI .mod (turn + 1) (cells.length : Int) = some ((turn + 1) % (cells.length : Int)) := by
        have : cells.length ≠ 0 := fun e => hc (List.eq_nil_of_length_eq_zero e)
        simp [binI]; omega
      obtain ⟨own, ha⟩ : ∃ own, L2.atI (cells.map Val.int) ((turn + 1) % (cells.length : Int)) = some (.int own) := ⟨_, (congrArg (L2.atI _) hix.1).trans (map_atI hix.2)⟩
      have hm1 : ∀ z : Int, binI .mod z 2305843009213693951 = some (z % 2305843009213693951) := fun z => by simp [binI]
      have hm2 : ∀ z : Int, binI .mod z 618970019642690137449562111 = some (z % 618970019642690137449562111) := fun z => by simp [binI]
      have hd : ∀ z : Int, binI .fdiv z 16777259 = some (z / 16777259) := fun z => by simp [binI]
      have hc1 : ∀ z : Int, binI .mul z 4294967311 = some (z * 4294967311) := fun z => by simp [binI, mulOk]
      have hc2 : ∀ z : Int, binI .mul z 1099511627791 = some (z * 1099511627791) := fun z => by simp [binI, mulOk]
      have hc3 : ∀ z : Int, binI .mul z 68719476767 = some (z * 68719476767) := fun z => by simp [binI, mulOk]
      have hc4 : ∀ z : Int, binI .mul z 2147483659 = some (z * 2147483659) := fun z => by simp [binI, mulOk]
      have hc5 : ∀ z : Int, binI .mul 3 z = some (3 * z) := fun z => by simp [binI, mulOk]
      have hadd : ∀ y z : Int, binI .add y z = some (y + z) := fun _ _ => rfl
      have hs1 : ∀ z : Int, binI .mul (z % 2305843009213693951) (z % 2305843009213693951) = some ((z % 2305843009213693951) * (z % 2305843009213693951)) := fun z => by
        have h1 := Int.emod_nonneg z (b := 2305843009213693951) (by omega)
        have h2 := Int.emod_lt_of_pos z (b := 2305843009213693951) (by omega)
        simp only [binI]
        rw [if_pos (small_mul (by omega))]
      have hs2 : ∀ z : Int, binI .mul (z % 618970019642690137449562111) (z % 618970019642690137449562111) = some ((z % 618970019642690137449562111) * (z % 618970019642690137449562111)) := fun z => by
        have h1 := Int.emod_nonneg z (b := 618970019642690137449562111) (by omega)
        have h2 := Int.emod_lt_of_pos z (b := 618970019642690137449562111) (by omega)
        have h3 : (z % 618970019642690137449562111).natAbs < 2 ^ 2000 := Nat.lt_trans (m := 2 ^ 100) (by omega) (Nat.pow_lt_pow_right (by decide) (by decide))
        simp only [binI]
        rw [if_pos (small_mul2 h3 h3)]
      simp only [decide_true] at q2
      have key : ∃ z, fin (pl [] cells sum turn rest).length (execSs (runF F n) a_draw.body ([Val.ref 1, Val.int size].map some ++ List.replicate (a_draw.ns - a_draw.np) none) (pl [] cells sum turn rest)) = .ok (.int (z % size)) (pl [] cells sum (turn + 1) rest) := by
        simp [a_draw, cmpv, tru, dr, h2, bindT, setAll, idx, keyOf, look_far, look_turn, look_cells, look_sum, put_turn, putK_turn, mkL, q2, eqOk_nil, setv, bin, hdiv, hmod, biv, pl, trunc, hlen, ha, hm1, hm2, hd, hc1, hc2, hc3, hc4, hc5, hadd, hs1, hs2, KS_len, veq_nil]
        exact ⟨_, rfl⟩
      obtain ⟨z, key⟩ := key
      exact ⟨_, _, key, ⟨_, cells, sum, _, rfl, hc, by simp⟩, fun h => absurd h (by omega), fun _ => ⟨Int.emod_nonneg _ (by omega), Int.emod_lt_of_pos _ (by omega)⟩⟩
    · obtain ⟨fs, z, rfl⟩ : ∃ fs z, fars = fs ++ [z] := ⟨fars.dropLast, fars.getLast hfar, (List.dropLast_concat_getLast hfar).symm⟩
      rw [decide_eq_false hfar] at q2
      have q3 : ((fs ++ [z]).map Val.int).getLast? = some (.int z) := by simp
      have q4 : ((fs ++ [z]).map Val.int).dropLast = fs.map .int := by simp
      have q6 : fs.length < LIM := by simp at hfl; simp only [LIM]; omega
      have q5 : fs.map Val.int ++ [.int (z / size)] = (fs ++ [z / size]).map .int := by simp
      unfold pl
      generalize (fs ++ [z]).map Val.int = FV at q1 q2 q3 q4
      refine ⟨z % size, if size ≤ z then pl (fs ++ [z / size]) cells sum turn rest else pl fs cells sum turn rest, ?_, ?_, fun h => absurd h (by omega), fun _ => ⟨Int.emod_nonneg _ (by omega), Int.emod_lt_of_pos _ (by omega)⟩⟩
      · by_cases hz : size ≤ z
        · rw [if_pos hz]
          simp [a_draw, cmpv, tru, dr, h2, bindT, idx, keyOf, look_far, mkL, q1, q2, q3, q4, eqOk_nil, mthOk, mtv, hz, bin, hdiv, hmod, biv, pl, q6, trunc]
        · rw [if_neg hz]
          simp [a_draw, cmpv, tru, dr, h2, bindT, idx, keyOf, look_far, mkL, q1, q2, q3, q4, eqOk_nil, mthOk, mtv, hz, bin, hdiv, hmod, biv, pl, q6, trunc]
      · split
        · exact ⟨_, cells, sum, turn, rfl, hc, by simpa using hfl⟩
        · exact ⟨_, cells, sum, turn, rfl, hc, by simp at hfl; omega⟩
end Cp

set_option Elab.async false
set_option linter.all false
set_option maxRecDepth 100000
set_option maxHeartbeats 8000000
/-! CoA2: the pool is made; any, mixed. -/
namespace Cp
open Co
open PySem

/-- a list of ints as values -/
def vI (ns : List Int) : List Val := ns.map .int
@[scoped simp] theorem vI_len (ns : List Int) : (vI ns).length = ns.length := by simp [vI]
@[scoped simp] theorem vI_ints (ns : List Int) : ints? (vI ns) = some ns := by
  induction ns with
  | nil => rfl
  | cons n ns ih => 
    show (ints? (vI ns)).map (n :: ·) = _
    rw [ih]; rfl
theorem vI_app (a b : List Int) : vI a ++ vI b = vI (a ++ b) := by simp [vI]
theorem vI_snoc (a : List Int) (b : Int) : vI a ++ [.int b] = vI (a ++ [b]) := by simp [vI]
theorem vI_mem {ns : List Int} {x : Val} (h : x ∈ vI ns) : ∃ n ∈ ns, x = .int n := by
  obtain ⟨n, hn, rfl⟩ := List.mem_map.mp h
  exact ⟨n, hn, rfl⟩
theorem vI_get {ns : List Int} {i : Nat} {x : Val} (h : (vI ns)[i]? = some x) : ∃ n, ns[i]? = some n ∧ x = .int n := by
  unfold vI at h
  rw [List.getElem?_map] at h
  cases e : ns[i]? with
  | none => rw [e] at h; cases h
  | some n => rw [e] at h; cases h; exact ⟨n, rfl, rfl⟩
theorem vI_atI {xs : List Int} {i : Nat} (h : i < xs.length) : L2.atI (vI xs) (i : Int) = some (.int xs[i]) := map_atI h
theorem compL_ints {f : Val → Store → R (Option Val)} (g : Int → Option Int) {st : Store} (ns : List Int) (h : ∀ c ∈ ns, f (.int c) st = .ok ((g c).map .int) st) : compL f (vI ns) st = .ok (vI (ns.filterMap g)) st := by
  unfold vI
  rw [compL_pure (g := fun v => match v with | .int c => (g c).map .int | _ => none) (ns.map .int) fun x hx => by
    obtain ⟨c, hc, rfl⟩ := List.mem_map.mp hx
    exact h c hc]
  congr 1
  clear h
  induction ns with
  | nil => rfl
  | cons c ns ih =>
    simp only [List.map_cons, List.filterMap_cons]
    cases g c with
    | none => exact ih
    | some k => simp only [Option.map_some, List.map_cons, ih]
def cellOf (c : Int) : Int := if 0 ≤ c then 2 * c else -2 * c - 1
theorem cut_all (xs : List Val) (h : xs.length ≤ 63) : cut xs none (some 63) = xs := by
  unfold cut
  rw [HT.sIx_none, show (63 : Int) = ((63 : Nat) : Int) from rfl, HT.sIx_nat, List.drop_zero, Nat.sub_zero]
  exact List.take_of_length_le (by omega)
theorem pool_ok {F : Nat → Option FD} {f : Nat} (hf : F f = some a_pool) (n : Nat) (ns : List Int) (hl : ns.length ≤ 63) : ∃ st, runF F (n + 1) f [.scr (vI ns)] [] = .ok (.ref 1) st ∧ Pool st [] := by
  rw [runF_eq hf rfl]
  have hc := cut_all (vI ns) (by simpa using hl)
  have l1 : ¬ LIM < ns.length := by simp [LIM]; omega
  simp [a_pool, partE, isNon, hc, l1]
  rw [compL_ints (fun c => some (cellOf c)) ns]
  rotate_left
  · intro c _
    rw [turnP_eq rfl]
    by_cases h : 0 ≤ c
    · simp [wipe, cmpv, bin, binI, mulOk, h, cellOf]
    · simp [wipe, cmpv, bin, binI, mulOk, h, cellOf]
  have hl2 : (ns.filterMap fun c => some (cellOf c)).length ≤ 63 := by simpa using hl
  generalize (ns.filterMap fun c => some (cellOf c)) = cs at hl2
  have l2 : ¬ LIM < cs.length := by simp [LIM]; omega
  simp [bindT, l2]
  rw [compL_ints (fun c => if 10 ^ 18 ≤ c then some c else none)]
  rotate_left
  · intro c _
    rw [turnP_eq rfl]
    by_cases h : 10 ^ 18 ≤ c
    · have h' : (1000000000000000000 : Int) ≤ c := h
      simp [wipe, cmpv, bin, binI, h']
    · have h' : ¬ (1000000000000000000 : Int) ≤ c := h
      simp [wipe, cmpv, bin, binI, h']
  have hl3 : (cs.filterMap fun c => if 10 ^ 18 ≤ c then some c else none).length ≤ 63 := Nat.le_trans (List.length_filterMap_le _ _) hl2
  generalize (cs.filterMap fun c => if 10 ^ 18 ≤ c then some c else none) = fs at hl3
  have l3 : cs.length + 1 ≤ LIM := by simp only [LIM]; omega
  simp [biv, bin, vI_snoc, l3, trunc, below]
  exact ⟨fs, cs ++ [(cs.length : Int) + 6007], cs.sum, 0, rfl, by simp, hl3⟩
/-- any: one of the items -/
theorem any_ok {F : Nat → Option FD} {f g : Nat} (hf : F f = some (a_any g)) (hg : F g = some a_draw) (n : Nat) (xs : List Val) (h0 : xs ≠ []) (hl : xs.length ≤ 1000000) (v : Val) (hv : v = .tup xs ∨ v = .lst xs) {st rest : Store} (p : Pool st rest) :
    ∃ x st', runF F (n + 2) f [.ref 1, v] st = .ok x st' ∧ Pool st' rest ∧ x ∈ xs := by
  have hpos : 0 < xs.length := List.length_pos_iff.mpr h0
  obtain ⟨k, st', e, p', h1, h2⟩ := draw_ok hg n (xs.length : Int) (by omega) p
  have hk : k = (k.toNat : Int) ∧ k.toNat < xs.length := by
    by_cases h : (xs.length : Int) < 2
    · have := h1 h; omega
    · have := h2 (by omega); omega
  have ha : L2.atI xs k = some (xs[k.toNat]'hk.2) := (congrArg (L2.atI xs) hk.1).trans (atI_nat' hk.2)
  have hlen : st'.length = st.length := by
    obtain ⟨_, _, _, _, rfl, _⟩ := p
    obtain ⟨_, _, _, _, rfl, _⟩ := p'
    rfl
  refine ⟨_, st', ?_, p', List.getElem_mem hk.2⟩
  rw [runF_eq hf rfl]
  rcases hv with rfl | rfl <;> simp [a_any, e, ha, trunc, hlen]
end Cp

set_option Elab.async false
set_option linter.all false
set_option maxRecDepth 100000
set_option maxHeartbeats 8000000
/-! CoA3: the pool with cells behind it; mixed. -/
namespace Cp
open Co
open PySem

theorem Pool.len {st rest : Store} (p : Pool st rest) : st.length = rest.length + 2 := by
  obtain ⟨_, _, _, _, rfl, _⟩ := p
  rfl
theorem Pool.get {st rest : Store} (p : Pool st rest) (i : Nat) : st[i + 2]? = rest[i]? := by
  obtain ⟨_, _, _, _, rfl, _⟩ := p
  rfl
theorem Pool.set {st rest : Store} (p : Pool st rest) (i : Nat) (c : Cell) : Pool (st.set (i + 2) c) (rest.set i c) := by
  obtain ⟨a, b, s, t, rfl, h⟩ := p
  exact ⟨a, b, s, t, rfl, h⟩
theorem Pool.app {st rest : Store} (p : Pool st rest) (cs : Store) : Pool (st ++ cs) (rest ++ cs) := by
  obtain ⟨a, b, s, t, rfl, h⟩ := p
  exact ⟨a, b, s, t, rfl, h⟩
theorem Pool.take {st rest cs : Store} (p : Pool st (rest ++ cs)) : Pool (st.take (rest.length + 2)) rest := by
  obtain ⟨a, b, s, t, rfl, h⟩ := p
  refine ⟨a, b, s, t, ?_, h⟩
  simp [pl]
theorem belows_vI (n : Nat) (ns : List Int) : belows n (vI ns) = true := by
  induction ns with
  | nil => rfl
  | cons k ns ih => exact ih
/-- the store's old cells hold nothing newer -/
def Old (rest : Store) : Prop := rest.all (Cell.below (rest.length + 2)) = true
theorem Pool.cut {st rest cs : Store} {v : Val} (p : Pool st (rest ++ cs)) (ho : Old rest) (hv : below (rest.length + 2) v = true) : trunc (rest.length + 2) v st = st.take (rest.length + 2) := by
  obtain ⟨a, b, s, t, rfl, h⟩ := p
  unfold trunc
  split
  · rename_i hl
    rw [List.take_of_length_le (by omega)]
  · have e : List.take (rest.length + 2) (pl a b s t (rest ++ cs)) = pl a b s t rest := by simp [pl]
    have hb : (pl a b s t rest).all (Cell.below (rest.length + 2)) = true := by
      simp only [pl, List.all_cons, Cell.below, belows, below]
      rw [show belows (rest.length + 2) (a.map Val.int) = true from belows_vI _ a, show belows (rest.length + 2) (b.map Val.int) = true from belows_vI _ b, ho]
      simp
    rw [e, hv, hb]
    rfl
/-! methods on cells -/
theorem mth_ref {m : Mt} {i : Nat} {st : Store} {xs : List Val} (h : st[i]? = some (.lst xs)) (hm : m = .append ∨ m = .pop ∨ m = .popAt ∨ m = .extend) : mthOk m (.ref i) st = true := by
  rcases hm with rfl | rfl | rfl | rfl <;> simp only [mthOk, h]
theorem app_ref {lv : Bool} {i : Nat} {st : Store} {xs : List Val} {v : Val} (h : st[i]? = some (.lst xs)) (hl : xs.length < LIM) : mtv .append lv (.ref i) [v] st = .ok .non (st.set i (.lst (xs ++ [v]))) := by
  simp only [mtv, h, hl, if_true]
theorem popAt_ref {lv : Bool} {i : Nat} {st : Store} {xs : List Val} {k : Int} {v : Val} (h : st[i]? = some (.lst xs)) (h0 : 0 ≤ k) (h1 : k < xs.length) (hl : xs.length ≤ LIM) (hv : xs[k.toNat]? = some v) : mtv .popAt lv (.ref i) [.int k] st = .ok v (st.set i (.lst (xs.eraseIdx k.toNat))) := by
  simp only [mtv, h, hv, if_pos (And.intro h0 (And.intro h1 hl))]
theorem vI_erase (ns : List Int) (k : Nat) : (vI ns).eraseIdx k = vI (ns.eraseIdx k) := by
  unfold vI
  induction ns generalizing k with
  | nil => rfl
  | cons n ns ih => cases k with
    | zero => rfl
    | succ k => simp [ih]
theorem frz_vI {n : Nat} {i : Nat} {st : Store} {ns : List Int} (h : st[i]? = some (.lst (vI ns))) : frzV (n + 1) (.ref i) st = some (.lst (vI ns), st.set i .dead) := by
  have : ∀ (ns : List Int) (s : Store), frzL (frzV n) (vI ns) s = some (vI ns, s) := by
    intro ns s
    induction ns with
    | nil => rfl
    | cons k ns ih =>
      have e : frzV n (.int k) s = some (.int k, s) := by cases n <;> rfl
      show (match frzV n (.int k) s with
        | some (y, st') => (match frzL (frzV n) (vI ns) st' with
          | some (ys, st'') => some (y :: ys, st'')
          | none => none)
        | none => none) = _
      rw [e]
      simp only [ih]
      rfl
  simp only [frzV, h, this]
@[scoped simp] theorem frz_lst (xs : List Val) (st : Store) : frzV 3 (.lst xs) st = some (.lst xs, st) := rfl
@[scoped simp] theorem frz_tup (xs : List Val) (st : Store) : frzV 3 (.tup xs) st = some (.tup xs, st) := rfl
theorem erase_perm : ∀ (r : List Int) (k : Nat) (h : k < r.length), (r[k] :: r.eraseIdx k).Perm r
  | x :: r, 0, _ => .refl _
  | x :: r, k + 1, h => by
    have ih := erase_perm r k (by simpa using h)
    simp only [List.getElem_cons_succ, List.eraseIdx_cons_succ]
    exact (List.Perm.swap _ _ _).trans (ih.cons x)
theorem mixed_ok {F : Nat → Option FD} {f g : Nat} (hf : F f = some (a_mixed g)) (hg : F g = some a_draw) (n : Nat) (ns : List Int) (hl : ns.length ≤ 1000) {st rest : Store} (p : Pool st rest) (ho : Old rest) :
    ∃ ms st', runF F (n + 2) f [.ref 1, .lst (vI ns)] st = .ok (.lst (vI ms)) st' ∧ Pool st' rest ∧ ms.Perm ns := by
  rw [runF_eq hf rfl]
  have hlen := p.len
  have c1 : (-1000000 : Int) ≤ (ns.length : Int) ∧ (ns.length : Int) ≤ 1000000 := by omega
  simp [a_mixed, biv, c1]
  -- the loop
  let I : Nat → Ev → Store → Prop := fun i env s => ∃ t r q, env = [some (.ref 1), some (.lst (vI ns)), t, some (.ref (rest.length + 2)), some (.ref (rest.length + 3))] ∧ Pool s (rest ++ [.lst (vI r), .lst (vI q)]) ∧ (q ++ r).Perm ns ∧ r.length + i = ns.length
  have step : ∀ (i : Nat) (x : Val), (rngV 0 ns.length)[i]? = some x → ∀ env s, I (0 + i) env s → ∃ env' s', bodyF (runF F (n + 1)) (Tg.nm 2) (Sxs.cons (Sx.ex (Ex.mth Mt.append false (Ex.var 4) (Exs.cons (Ex.mth Mt.popAt false (Ex.var 3) (Exs.cons (Ex.call g [0, 1] (Exs.cons (Ex.var 0)
      (Exs.cons (Ex.bi Bi.len false (Exs.cons (Ex.var 3) Exs.nil)) Exs.nil)) Exs.nil) Exs.nil)) Exs.nil))) Sxs.nil) x env s = .nx env' s' ∧ I (0 + i + 1) (wipe env' []) s' := by
    rintro i x hx env s ⟨t, r, q, rfl, ps, hp, hr⟩
    obtain ⟨hi, rfl⟩ := rngV_get hx
    have hr0 : 0 < r.length := by omega
    have g1 : s[rest.length + 2]? = some (.lst (vI r)) := by rw [ps.get]; simp
    have g2 : s[rest.length + 3]? = some (.lst (vI q)) := by
      have := ps.get (rest.length + 1)
      rw [show rest.length + 1 + 2 = rest.length + 3 by omega] at this
      rw [this]; simp
    obtain ⟨k, s1, e, p1, k1, k2⟩ := draw_ok hg n (r.length : Int) (by omega) ps
    have hk : 0 ≤ k ∧ k < r.length := by
      by_cases h : (r.length : Int) < 2
      · have := k1 h; omega
      · exact k2 (by omega)
    have g3 : s1[rest.length + 2]? = some (.lst (vI r)) := by rw [p1.get]; simp
    have hv : (vI r)[k.toNat]? = some (.int (r[k.toNat]'(by omega))) := by
      unfold vI
      rw [List.getElem?_map, List.getElem?_eq_getElem (by omega)]; rfl
    have p2 := p1.set rest.length (.lst (vI (r.eraseIdx k.toNat)))
    have e2 : (rest ++ [Cell.lst (vI r), .lst (vI q)]).set rest.length (.lst (vI (r.eraseIdx k.toNat))) = rest ++ [.lst (vI (r.eraseIdx k.toNat)), .lst (vI q)] := by simp
    rw [e2] at p2
    have g4 : (s1.set (rest.length + 2) (.lst (vI (r.eraseIdx k.toNat))))[rest.length + 3]? = some (.lst (vI q)) := by
      have := p2.get (rest.length + 1)
      rw [show rest.length + 1 + 2 = rest.length + 3 by omega] at this
      rw [this]; simp
    have hq : q.length ≤ ns.length := by
      have := hp.length_eq
      rw [List.length_append] at this; omega
    have p3 := p2.set (rest.length + 1) (.lst (vI (q ++ [r[k.toNat]'(by omega)])))
    have e3 : (rest ++ [Cell.lst (vI (r.eraseIdx k.toNat)), .lst (vI q)]).set (rest.length + 1) (.lst (vI (q ++ [r[k.toNat]'(by omega)]))) = rest ++ [.lst (vI (r.eraseIdx k.toNat)), .lst (vI (q ++ [r[k.toNat]'(by omega)]))] := by simp
    rw [e3, show rest.length + 1 + 2 = rest.length + 3 by omega] at p3
    have lr : (vI r).length ≤ LIM := by
      have := hp.length_eq
      rw [List.length_append] at this
      simp [LIM]; omega
    have lq : (vI q).length < LIM := by simp [LIM]; omega
    refine ⟨[some (.ref 1), some (.lst (vI ns)), some (.int (0 + (i : Int))), some (.ref (rest.length + 2)), some (.ref (rest.length + 3))], (s1.set (rest.length + 2) (.lst (vI (r.eraseIdx k.toNat)))).set (rest.length + 3) (.lst (vI (q ++ [r[k.toNat]'(by omega)]))), ?_, _, r.eraseIdx k.toNat, q ++ [r[k.toNat]'(by omega)], rfl, p3, ?_, ?_⟩
    · rw [bodyF_eq rfl]
      simp [mth_ref g2 (.inl rfl), mth_ref g1 (.inr (.inr (.inl rfl))), dr_ref g1, e, popAt_ref g3 hk.1 (by simpa using hk.2) lr hv, vI_erase, app_ref g4 lq, vI_snoc]
    · have h1 : (r[k.toNat]'(by omega) :: r.eraseIdx k.toNat).Perm r := erase_perm r k.toNat (by omega)
      have h2 : (q ++ [r[k.toNat]'(by omega)] ++ r.eraseIdx k.toNat).Perm (q ++ r) := by
        rw [List.append_assoc]
        exact h1.append_left q
      exact h2.trans hp
    · rw [List.length_eraseIdx_of_lt (by omega)]; omega
  have p0 := p.app [Cell.lst (vI ns), .lst (vI [])]
  obtain ⟨env', s', ef, t, r, q, rfl, ps, hp, hr⟩ := forL_inv (I := I) (rngV 0 ns.length) 0 step [some (.ref 1), some (.lst (vI ns)), none, some (.ref (rest.length + 2)), some (.ref (rest.length + 3))] (st ++ [.lst (vI ns), .lst []]) ⟨none, ns, [], rfl, p0, by simp, by simp⟩
  rw [rngV_len] at hr
  have hr0 : r = [] := List.eq_nil_of_length_eq_zero (by omega)
  subst hr0
  rw [List.append_nil] at hp
  rw [hlen, ef]
  have g1 : s'[rest.length + 2]? = some (.lst (vI [])) := by rw [ps.get]; simp
  have g2 : s'[rest.length + 3]? = some (.lst (vI q)) := by
    have := ps.get (rest.length + 1)
    rw [show rest.length + 1 + 2 = rest.length + 3 by omega] at this
    rw [this]; simp
  have g3 : (s'.set (rest.length + 3) .dead)[rest.length + 2]? = some (.lst (vI [])) := by
    rw [List.getElem?_set_ne (by omega)]; exact g1
  have p1 := (ps.set (rest.length + 1) .dead).set rest.length .dead
  have e4 : ((rest ++ [Cell.lst (vI []), .lst (vI q)]).set (rest.length + 1) .dead).set rest.length .dead = rest ++ [.dead, .dead] := by simp
  rw [e4, show rest.length + 1 + 2 = rest.length + 3 by omega] at p1
  refine ⟨q, _, ?_, p1.take, hp⟩
  simp [frz_vI (n := 2) g2, frz_vI (n := 2) g3, Pool.cut p1 ho (v := .lst (vI q)) (by simpa only [below] using belows_vI _ q)]
end Cp

set_option Elab.async false
set_option linter.all false
set_option maxRecDepth 100000
set_option maxHeartbeats 8000000
/-! CoA4: a table that stands in the store, row by row. -/
namespace Cp
open Co
open PySem

def Sq (n : Nat) (rows : List (List Int)) : Prop := rows.length = n ∧ ∀ r ∈ rows, r.length = n ∧ ∀ x ∈ r, 0 ≤ x ∧ x < 100
def vM (rows : List (List Int)) : List Val := rows.map fun r => .lst (vI r)
def mats (rows : List (List Int)) : List Cell := rows.map fun r => .lst (vI r)
def refs (m k : Nat) : List Val := (List.range k).map fun i => .ref (m + i)
@[scoped simp] theorem refs_len (m k : Nat) : (refs m k).length = k := by simp [refs]
@[scoped simp] theorem mats_len (rows : List (List Int)) : (mats rows).length = rows.length := by simp [mats]
@[scoped simp] theorem vM_len (rows : List (List Int)) : (vM rows).length = rows.length := by simp [vM]
theorem refs_atI {m k y : Nat} (h : y < k) : L2.atI (refs m k) (y : Int) = some (.ref (m + y)) := by
  rw [atI_nat' (by simpa using h)]
  simp [refs]
theorem compL_new {f : Val → Store → R (Option Val)} {c : Cell} : ∀ (xs : List Val) (s : Store), (∀ x ∈ xs, ∀ s, f x s = .ok (some (.ref s.length)) (s ++ [c])) → compL f xs s = .ok (refs s.length xs.length) (s ++ List.replicate xs.length c)
  | [], s, _ => by simp [compL, refs]
  | x :: xs, s, h => by
    simp only [compL, h x (by simp) s, R.bind_ok, compL_new xs (s ++ [c]) fun y hy => h y (by simp [hy])]
    congr 1
    · unfold refs
      rw [List.length_cons, List.range_succ_eq_map, List.map_cons, List.map_map]
      congr 1
      refine List.map_congr_left fun i _ => ?_
      simp only [Function.comp_apply, List.length_append, List.length_cons, List.length_nil]
      congr 1
      omega
    · simp [List.replicate_succ]
theorem rep_zero (n : Nat) : rep (n : Int) [.int 0] = vI (List.replicate n 0) := by
  unfold rep vI
  rw [Int.toNat_natCast, List.map_replicate]
  induction n with
  | zero => rfl
  | succ n ih => rw [List.replicate_succ, List.flatten_cons, ih]; rfl
def rowAt (rows : List (List Int)) (x : Nat) : List Int := rows.getD x []
def cel (rows : List (List Int)) (x y : Nat) : Int := (rowAt rows x).getD y 0
/-- no thing looks on itself -/
def Zd (n : Nat) (rows : List (List Int)) : Prop := ∀ x, x < n → cel rows x x = 0
theorem cel_get {rows : List (List Int)} {x y : Nat} {r : List Int} {v : Int} (h1 : rows[x]? = some r) (h2 : r[y]? = some v) : cel rows x y = v := by
  simp [cel, rowAt, List.getD, h1, h2]
theorem cel_set {rows : List (List Int)} {r : List Int} {y x a b : Nat} {v : Int} (hr : rows[y]? = some r) (hx : x < r.length) : cel (rows.set y (r.set x v)) a b = if a = y ∧ b = x then v else cel rows a b := by
  have hy : y < rows.length := (List.getElem?_eq_some_iff.mp hr).1
  have hr' := (List.getElem?_eq_some_iff.mp hr).2
  by_cases ha : a = y
  · subst ha
    by_cases hb : b = x
    · subst hb
      simp [cel, rowAt, List.getD, hy, hx]
    · have : ¬ x = b := fun e => hb e.symm
      simp [cel, rowAt, List.getD, hy, hb, this, hr']
  · have : ¬ y = a := fun e => ha e.symm
    simp [cel, rowAt, List.getD, ha, this]
theorem Zd.put {n y x : Nat} {rows : List (List Int)} {r : List Int} {v : Int} (h : Zd n rows) (hr : rows[y]? = some r) (hx : x < r.length) (hv : y = x → v = 0) : Zd n (rows.set y (r.set x v)) := by
  intro a ha
  rw [cel_set hr hx]
  split
  · rename_i e
    exact hv (e.1.symm.trans e.2)
  · exact h a ha
theorem zd_zero (n : Nat) : Zd n (List.replicate n (List.replicate n 0)) := by
  intro x hx
  simp [cel, rowAt, List.getD, hx]
/-- a table: square, its looks from 0 to 99, 0 on itself -/
structure Tb (n : Nat) (rows : List (List Int)) : Prop where
  sq : Sq n rows
  zd : Zd n rows
/-- the table: a cell a row, then the list of them -/
structure MatAt (s rest : Store) (rows : List (List Int)) (n : Nat) : Prop where
  pool : Pool s (rest ++ mats rows ++ [.lst (refs (rest.length + 2) n)])
  sq : Sq n rows
  zd : Zd n rows
theorem MatAt.tb {s rest : Store} {rows : List (List Int)} {n : Nat} (h : MatAt s rest rows n) : Tb n rows := ⟨h.sq, h.zd⟩
theorem MatAt.all {s rest : Store} {rows : List (List Int)} {n : Nat} (h : MatAt s rest rows n) : s[rest.length + 2 + n]? = some (.lst (refs (rest.length + 2) n)) := by
  have := h.pool.get (rest.length + n)
  rw [show rest.length + n + 2 = rest.length + 2 + n by omega] at this
  rw [this]
  have e : (rest ++ mats rows).length = rest.length + n := by simp [h.sq.1]
  rw [← e, List.getElem?_append_right (Nat.le_refl _)]
  simp
theorem MatAt.row {s rest : Store} {rows : List (List Int)} {n y : Nat} (h : MatAt s rest rows n) (hy : y < n) : ∃ r, rows[y]? = some r ∧ r.length = n ∧ s[rest.length + 2 + y]? = some (.lst (vI r)) := by
  have hy' : y < rows.length := by rw [h.sq.1]; exact hy
  refine ⟨rows[y], by simp [hy'], (h.sq.2 _ (List.getElem_mem hy')).1, ?_⟩
  have := h.pool.get (rest.length + y)
  rw [show rest.length + y + 2 = rest.length + 2 + y by omega] at this
  rw [this, List.append_assoc, List.getElem?_append_right (by omega), Nat.add_sub_cancel_left, List.getElem?_append_left (by simpa using hy')]
  simp [mats, hy']
theorem Sq.put {n y x : Nat} {rows : List (List Int)} {r : List Int} {v : Int} (h : Sq n rows) (hr : rows[y]? = some r) (hv : 0 ≤ v ∧ v < 100) : Sq n (rows.set y (r.set x v)) := by
  refine ⟨by simp [h.1], fun q hq => ?_⟩
  rcases List.mem_or_eq_of_mem_set hq with hq | rfl
  · exact h.2 q hq
  · obtain ⟨a, b⟩ := h.2 r (List.mem_of_getElem? hr)
    refine ⟨by simp [a], fun z hz => ?_⟩
    rcases List.mem_or_eq_of_mem_set hz with hz | rfl
    · exact b z hz
    · exact hv
theorem ixN_nat {n x : Nat} (h : x < n) : L2.ixN n (x : Int) = some x := by
  unfold L2.ixN
  rw [if_pos (by omega), if_pos (by omega)]
  simp
/-- rows[y][x] = v -/
theorem MatAt.put {s rest : Store} {rows : List (List Int)} {n y x : Nat} (h : MatAt s rest rows n) (hy : y < n) (hx : x < n) {v : Int} (hv : 0 ≤ v ∧ v < 100) (hd : y = x → v = 0) :
    ∃ r s', rows[y]? = some r ∧ setv (.ref (rest.length + 2 + y)) (.int x) (.int v) s = .ok () s' ∧ MatAt s' rest (rows.set y (r.set x v)) n := by
  obtain ⟨r, h1, h2, h3⟩ := h.row hy
  refine ⟨r, s.set (rest.length + 2 + y) (.lst (vI (r.set x v))), h1, ?_, ?_, h.sq.put h1 hv, h.zd.put h1 (by omega) hd⟩
  · have e : (vI r).set x (.int v) = vI (r.set x v) := by unfold vI; rw [List.map_set]
    simp only [setv, h3, vI_len, h2, ixN_nat hx, e]
  · have := h.pool.set (rest.length + y) (.lst (vI (r.set x v)))
    rw [show rest.length + y + 2 = rest.length + 2 + y by omega] at this
    have e : (rest ++ mats rows ++ [Cell.lst (refs (rest.length + 2) n)]).set (rest.length + y) (.lst (vI (r.set x v))) = rest ++ mats (rows.set y (r.set x v)) ++ [.lst (refs (rest.length + 2) n)] := by
      have hl : (mats rows).length = n := by simp [h.sq.1]
      rw [List.append_assoc, List.set_append_right _ _ (by omega), Nat.add_sub_cancel_left, List.set_append_left _ _ (by omega), ← List.append_assoc]
      congr 2
      unfold mats
      rw [List.map_set]
    rw [e] at this
    exact this
/-- the table is frozen -/
theorem frzL_rows {k : Nat} {rest tail : Store} : ∀ (rows : List (List Int)) (j : Nat) (s : Store), Pool s (rest ++ List.replicate j .dead ++ mats rows ++ tail) →
    ∃ s', frzL (frzV (k + 1)) ((List.range rows.length).map fun i => Val.ref (rest.length + 2 + j + i)) s = some (vM rows, s') ∧ Pool s' (rest ++ List.replicate (j + rows.length) .dead ++ tail)
  | [], j, s, p => ⟨s, rfl, by simpa [mats] using p⟩
  | r :: rows, j, s, p => by
    have g : s[rest.length + 2 + j]? = some (.lst (vI r)) := by
      have := p.get (rest.length + j)
      rw [show rest.length + j + 2 = rest.length + 2 + j by omega] at this
      rw [this, List.append_assoc, List.getElem?_append_right (by simp)]
      simp [mats]
    have p1 := p.set (rest.length + j) .dead
    have e : (rest ++ List.replicate j Cell.dead ++ mats (r :: rows) ++ tail).set (rest.length + j) .dead = rest ++ List.replicate (j + 1) .dead ++ mats rows ++ tail := by
      rw [List.append_assoc, List.set_append_right _ _ (by simp)]
      simp [mats, List.replicate_succ']
    rw [e, show rest.length + j + 2 = rest.length + 2 + j by omega] at p1
    obtain ⟨s', e1, p2⟩ := frzL_rows (k := k) rows (j + 1) _ p1
    refine ⟨s', ?_, by simpa [Nat.add_assoc, Nat.add_comm, Nat.add_left_comm] using p2⟩
    rw [List.length_cons, List.range_succ_eq_map, List.map_cons, List.map_map]
    simp only [frzL, Nat.add_zero, frz_vI (n := k) g]
    have e2 : ((List.range rows.length).map ((fun i => Val.ref (rest.length + 2 + j + i)) ∘ Nat.succ)) = (List.range rows.length).map fun i => Val.ref (rest.length + 2 + (j + 1) + i) := by
      refine List.map_congr_left fun i _ => ?_
      simp only [Function.comp_apply]
      congr 1
      omega
    rw [e2, e1]
    rfl
theorem MatAt.frz {s rest : Store} {rows : List (List Int)} {n : Nat} (h : MatAt s rest rows n) : ∃ s', frzV 3 (.ref (rest.length + 2 + n)) s = some (.lst (vM rows), s') ∧ Pool s' (rest ++ List.replicate (n + 1) .dead) := by
  have p1 := h.pool.set (rest.length + n) .dead
  have e : (rest ++ mats rows ++ [Cell.lst (refs (rest.length + 2) n)]).set (rest.length + n) .dead = rest ++ List.replicate 0 .dead ++ mats rows ++ [.dead] := by
    rw [List.append_assoc, List.set_append_right _ _ (by omega), Nat.add_sub_cancel_left, List.set_append_right _ _ (by simp [h.sq.1])]
    simp [h.sq.1]
  rw [e, show rest.length + n + 2 = rest.length + 2 + n by omega] at p1
  obtain ⟨s', e1, p2⟩ := frzL_rows (k := 1) rows 0 _ p1
  refine ⟨s', ?_, ?_⟩
  · have e3 : refs (rest.length + 2) n = (List.range rows.length).map fun i => Val.ref (rest.length + 2 + 0 + i) := by rw [h.sq.1]; rfl
    simp only [frzV.eq_2, h.all, e3]
    rw [show frzV 2 = frzV (1 + 1) from rfl, e1]
  · rw [h.sq.1, Nat.zero_add] at p2
    rw [List.append_assoc] at p2
    have : List.replicate n Cell.dead ++ [.dead] = List.replicate (n + 1) .dead := by rw [List.replicate_succ']
    rwa [this] at p2
end Cp

set_option Elab.async false
set_option linter.all false
set_option maxRecDepth 100000
set_option maxHeartbeats 8000000
/-! CoA5: shades; tables by chance. -/
namespace Cp
open Co
open PySem

def ShOk (sh : List Int) : Prop := sh ≠ [] ∧ sh.length ≤ 1000 ∧ ∀ x ∈ sh, 0 ≤ x ∧ x < 100
theorem shade_ok {F : Nat → Option FD} {f g a : Nat} (hf : F f = some (a_shade g a)) (ha : F a = some (a_any g)) (hg : F g = some a_draw) (n : Nat) {st rest : Store} (p : Pool st rest) :
    ∃ sh st', runF F (n + 3) f [.ref 1] st = .ok (.lst (vI sh)) st' ∧ Pool st' rest ∧ ShOk sh := by
  obtain ⟨k1, s1, e1, p1, _, b1⟩ := draw_ok hg (n + 1) 100 (by omega) p
  obtain ⟨k2, s2, e2, p2, _, b2⟩ := draw_ok hg (n + 1) 100 (by omega) p1
  have b1 := b1 (by omega)
  have b2 := b2 (by omega)
  obtain ⟨x, s3, e3, p3, hx⟩ := any_ok ha hg n [.lst (vI [0, 1]), .lst (vI [0, 1]), .lst (vI [0, 1, 2]), .lst (vI [0, 99]), .lst (vI [k1, k2]), .lst (vI [k1, k2, 0, 99]), .lst (vI ((List.range 100).map fun (i : Nat) => (0 : Int) + (i : Int)))] (by simp) (by simp) _ (.inr rfl) p2
  have hs : ∃ sh, x = .lst (vI sh) ∧ ShOk sh := by
    simp only [List.mem_cons, List.not_mem_nil, or_false] at hx
    rcases hx with rfl | rfl | rfl | rfl | rfl | rfl | rfl
    · exact ⟨_, rfl, by simp, by simp, by intro x hx; simp at hx; omega⟩
    · exact ⟨_, rfl, by simp, by simp, by intro x hx; simp at hx; omega⟩
    · exact ⟨_, rfl, by simp, by simp, by intro x hx; simp at hx; omega⟩
    · exact ⟨_, rfl, by simp, by simp, by intro x hx; simp at hx; omega⟩
    · exact ⟨_, rfl, by simp, by simp, by intro x hx; simp at hx; omega⟩
    · exact ⟨_, rfl, by simp, by simp, by intro x hx; simp at hx; omega⟩
    · refine ⟨_, rfl, by simp, by simp, ?_⟩
      intro x hx
      obtain ⟨i, hi, rfl⟩ := List.mem_map.mp hx
      have := List.mem_range.mp hi
      omega
  obtain ⟨sh, rfl, hsh⟩ := hs
  refine ⟨sh, s3, ?_, p3, hsh⟩
  have er : rngV 0 100 = vI ((List.range 100).map fun (i : Nat) => (0 : Int) + (i : Int)) := by simp [rngV, vI]
  have l0 : s3.length = st.length := by rw [p3.len, p.len]
  generalize vI ((List.range 100).map fun (i : Nat) => (0 : Int) + (i : Int)) = RG at e3 er
  rw [runF_eq hf rfl]
  simp only [vI, List.map_cons, List.map_nil] at e3 ⊢
  simp [a_shade, e1, e2, er, e3, trunc, l0]
/-- [[0] * n for x in range(n)] -/
theorem zeros_ok {cf : CF} {j : Nat} {own : List Nat} {env : Ev} {tg : Nat} (n : Nat) (hn : n ≤ 1000) {st rest : Store} (p : Pool st rest) (hj : ((wipe env own).set tg (some (Val.int 0)))[j]? = some (some (.int n)) ∧ tg ≠ j) :
    kLst true (compL (turnP cf (.bin .mul true (.lst false (.cons (.cst (.int 0)) .nil)) (.var j)) (.nm tg) (.cst (.bl true)) env own) (rngV 0 n) st) = .ok (.ref (rest.length + 2 + n)) (st ++ mats (List.replicate n (List.replicate n 0)) ++ [.lst (refs (rest.length + 2) n)]) ∧
      MatAt (st ++ mats (List.replicate n (List.replicate n 0)) ++ [.lst (refs (rest.length + 2) n)]) rest (List.replicate n (List.replicate n 0)) n := by
  have e : compL (turnP cf (.bin .mul true (.lst false (.cons (.cst (.int 0)) .nil)) (.var j)) (.nm tg) (.cst (.bl true)) env own) (rngV 0 n) st = .ok (refs st.length (rngV 0 n).length) (st ++ List.replicate (rngV 0 n).length (.lst (vI (List.replicate n 0)))) := by
    refine compL_new _ _ fun x hx s => ?_
    rw [turnP_eq rfl]
    have h1 : ((wipe env own).set tg (some x))[j]? = some (some (.int n)) := by
      rw [List.getElem?_set_ne hj.2]
      have := hj.1
      rwa [List.getElem?_set_ne hj.2] at this
    have h2 : (n : Int) ≤ 1000 ∧ (-1000 : Int) ≤ n := by omega
    simp [h1, bin, h2, rep_zero]
  have em : List.replicate n (Cell.lst (vI (List.replicate n 0))) = mats (List.replicate n (List.replicate n 0)) := by simp [mats]
  rw [e, rngV_len, em, p.len]
  refine ⟨?_, ?_, ?_, zd_zero n⟩
  · simp [p.len]
  · have := p.app (mats (List.replicate n (List.replicate n 0)) ++ [.lst (refs (rest.length + 2) n)])
    rwa [← List.append_assoc, ← List.append_assoc] at this
  · refine ⟨by simp, fun r hr => ?_⟩
    have := List.eq_of_mem_replicate hr
    subst this
    refine ⟨by simp, fun x hx => ?_⟩
    have := List.eq_of_mem_replicate hx
    omega
end Cp

set_option Elab.async false
set_option linter.all false
set_option maxRecDepth 100000
set_option maxHeartbeats 16000000
/-! CoA6: chance. -/
namespace Cp
open Co
open PySem

theorem any_sh {F : Nat → Option FD} {f g : Nat} (hf : F f = some (a_any g)) (hg : F g = some a_draw) (n : Nat) {sh : List Int} (h : ShOk sh) {st rest : Store} (p : Pool st rest) :
    ∃ k st', runF F (n + 2) f [.ref 1, .lst (vI sh)] st = .ok (.int k) st' ∧ Pool st' rest ∧ 0 ≤ k ∧ k < 100 := by
  obtain ⟨x, s, e, p', hx⟩ := any_ok hf hg n (vI sh) (by intro z; exact h.1 (by simpa [vI] using z)) (by have := h.2.1; simp; omega) _ (.inr rfl) p
  obtain ⟨k, hk, rfl⟩ := vI_mem hx
  exact ⟨k, s, e, p', h.2.2 k hk⟩
theorem MatAt.pool' {s rest : Store} {rows : List (List Int)} {n : Nat} (h : MatAt s rest rows n) {s' : Store} (p : Pool s' (rest ++ mats rows ++ [.lst (refs (rest.length + 2) n)])) : MatAt s' rest rows n := ⟨p, h.sq, h.zd⟩
theorem chance_ok {F : Nat → Option FD} {f g a : Nat} (hf : F f = some (a_chance a)) (ha : F a = some (a_any g)) (hg : F g = some a_draw) (n k : Nat) (hk : k ≤ 1000) {sh : List Int} (hs : ShOk sh) (same : Bool) {st rest : Store} (p : Pool st rest) (ho : Old rest) :
    ∃ rows st', runF F (n + 3) f [.ref 1, .int k, .lst (vI sh), .bl same] st = .ok (.lst (vM rows)) st' ∧ Pool st' rest ∧ Tb k rows := by
  rw [runF_eq hf rfl]
  have c1 : (-1000000 : Int) ≤ (k : Int) ∧ (k : Int) ≤ 1000000 := by omega
  obtain ⟨z1, z2⟩ := zeros_ok (cf := runF F (n + 2)) (j := 1) (own := [5]) (env := [some (.ref 1), some (.int k), some (.lst (vI sh)), some (.bl same), none, none, none, none, none]) (tg := 5) k hk p (by simp)
  have l1 : ¬ LIM < (rngV 0 k).length := by rw [rngV_len]; simp only [LIM]; omega
  simp [a_chance, c1, l1, z1]
  let E : Option Val → Option Val → Option Val → Option Val → Ev := fun x y u v => [some (.ref 1), some (.int k), some (.lst (vI sh)), some (.bl same), some (.ref (rest.length + 2 + k)), x, y, u, v]
  let I : Nat → Ev → Store → Prop := fun i env s => ∃ x y u v rows, env = E x y u v ∧ MatAt s rest rows k
  let Ix : Nat → Nat → Ev → Store → Prop := fun x i env s => ∃ y u v rows, env = E (some (.int x)) y u v ∧ MatAt s rest rows k
  have inner : ∀ (x : Nat), x < k → ∀ (i : Nat) (w : Val), (rngV 0 x)[i]? = some w → ∀ env s, Ix x (0 + i) env s → ∃ env' s', bodyF (runF F (n + 2)) (.nm 6) (.cons (.par [7, 8] (.cons (.call a [0, 1] (.cons (.var 0) (.cons (.var 2) .nil)) .nil) (.cons (.call a [0, 1] (.cons (.var 0) (.cons (.var 2) .nil)) .nil) .nil)))
    (.cons (.seti (.idx (.var 4) (.var 6)) (.var 5) (.var 7))
    (.cons (.seti (.idx (.var 4) (.var 5)) (.var 6) (.ite (.var 3) (.var 7) (.var 8)))
    .nil))) w env s = .nx env' s' ∧ Ix x (0 + i + 1) (wipe env' []) s' := by
    rintro x hx i w hw env s ⟨y, u, v, rows, rfl, hm⟩
    obtain ⟨hi, rfl⟩ := rngV_get hw
    obtain ⟨k1, s1, e1, p1, b1⟩ := any_sh ha hg n hs hm.pool
    obtain ⟨k2, s2, e2, p2, b2⟩ := any_sh ha hg n hs p1
    have m2 := hm.pool' p2
    obtain ⟨r1, s3, _, q1, m3⟩ := m2.put (y := i) (x := x) (by omega) hx b1 (by omega)
    obtain ⟨r2, s4, _, q2, m4⟩ := m3.put (y := x) (x := i) (v := if same then k1 else k2) hx (by omega) (by split <;> assumption) (by omega)
    refine ⟨E (some (.int x)) (some (.int i)) (some (.int k1)) (some (.int k2)), s4, ?_, _, _, _, _, rfl, m4⟩
    rw [bodyF_eq rfl]
    have a2 := m2.all
    have a3 := m3.all
    cases same with
    | true =>
      simp only [if_true] at q2
      simp [E, e1, e2, dr_ref a2, dr_ref a3, refs_atI (m := rest.length + 2) (show i < k by omega), refs_atI (m := rest.length + 2) hx, q1, q2]
    | false =>
      simp only [Bool.false_eq_true, if_false] at q2
      simp [E, e1, e2, dr_ref a2, dr_ref a3, refs_atI (m := rest.length + 2) (show i < k by omega), refs_atI (m := rest.length + 2) hx, q1, q2]
  have outer := forL_inv (f := bodyF (runF F (n + 2)) (.nm 5) (.cons (.fr (.nm 6) (.rng1 (.var 5)) (.cons (.par [7, 8] (.cons (.call a [0, 1] (.cons (.var 0) (.cons (.var 2) .nil)) .nil) (.cons (.call a [0, 1] (.cons (.var 0) (.cons (.var 2) .nil)) .nil) .nil)))
    (.cons (.seti (.idx (.var 4) (.var 6)) (.var 5) (.var 7))
    (.cons (.seti (.idx (.var 4) (.var 5)) (.var 6) (.ite (.var 3) (.var 7) (.var 8)))
    .nil))) []) .nil)) (clr := []) (I := I) (rngV 0 k) 0 (by
    rintro i w hw env s ⟨x, y, u, v, rows, rfl, hm⟩
    obtain ⟨hi, rfl⟩ := rngV_get hw
    obtain ⟨env', s', e, y', u', v', rows', rfl, hm'⟩ := forL_inv (I := Ix i) (rngV 0 i) 0 (inner i hi) (E (some (.int i)) y u v) s ⟨y, u, v, rows, rfl, hm⟩
    refine ⟨E (some (.int i)) y' u' v', s', ?_, _, _, _, _, _, rfl, hm'⟩
    rw [bodyF_eq rfl]
    have c2 : (-1000000 : Int) ≤ (i : Int) ∧ (i : Int) ≤ 1000000 := by omega
    simp only [E] at e ⊢
    simp [c2, e]) (E none none none none) (st ++ mats (List.replicate k (List.replicate k 0)) ++ [.lst (refs (rest.length + 2) k)]) ⟨none, none, none, none, _, rfl, z2⟩
  obtain ⟨env', s', e, x, y, u, v, rows, rfl, hm⟩ := outer
  obtain ⟨s2, e2, p2⟩ := hm.frz
  simp only [E, List.append_assoc] at e
  refine ⟨rows, _, ?_, p2.take, hm.tb⟩
  have hb : below (rest.length + 2) (.lst (vM rows)) = true := by
    simp only [below]
    clear hm e e2
    induction rows with
    | nil => rfl
    | cons r rows ih =>
      show (below _ (.lst (vI r)) && belows _ (vM rows)) = true
      rw [ih]
      simp only [below, belows_vI, Bool.and_self]
  simp [e, e2, p.len, Pool.cut p2 ho hb]
end Cp

set_option Elab.async false
set_option linter.all false
set_option maxRecDepth 100000
set_option maxHeartbeats 16000000
/-! CoA7: small. -/
namespace Cp
open Co
open PySem

theorem eqOk_int (i : Int) : eqOk (.int i) = true := rfl
@[scoped simp] theorem cmp_eqi (i j : Int) : cmpv .eq (.int i) (.int j) = some (decide (i = j)) := by
  simp only [cmpv, eqOk_int, Bool.and_self, if_true, veq, toPy, PyData.eqv]
  congr 1
@[scoped simp] theorem cmp_nei (i j : Int) : cmpv .ne (.int i) (.int j) = some (!decide (i = j)) := by
  simp only [cmpv, eqOk_int, Bool.and_self, if_true, veq, toPy, PyData.eqv]
  congr 1
theorem below_vM (n : Nat) (rows : List (List Int)) : below n (.lst (vM rows)) = true := by
  simp only [below]
  induction rows with
  | nil => rfl
  | cons r rows ih =>
    show (below _ (.lst (vI r)) && belows _ (vM rows)) = true
    rw [ih]
    simp only [below, belows_vI, Bool.and_self]
def smB : Sxs := .cons (.par [10, 11] (.cons (.var 7) (.cons (.var 7) .nil)))
    (.cons (.iff (.and_ (.cmp .eq (.var 6) (.cst (.int 1))) (.not_ (.var 3))) (.cons (.asg (.nm 11) (.var 8))
    .nil) .nil)
    (.cons (.iff (.cmp .eq (.var 6) (.cst (.int 2))) (.cons (.asg (.nm 10) (.ite (.cmp .eq (.bin .sub false (.var 5) (.var 9)) (.cst (.int 1))) (.var 7) (.var 8)))
    (.cons (.asg (.nm 11) (.ite (.cmp .eq (.bin .sub false (.var 5) (.var 9)) (.bin .sub false (.var 1) (.cst (.int 1)))) (.var 7) (.var 8)))
    .nil)) .nil)
    (.cons (.seti (.idx (.var 4) (.var 9)) (.var 5) (.var 10))
    (.cons (.seti (.idx (.var 4) (.var 5)) (.var 9) (.ite (.var 3) (.var 10) (.var 11)))
    .nil))))
theorem small_ok {F : Nat → Option FD} {f g a h : Nat} (hf : F f = some (a_small g a h)) (hh : F h = some (a_chance a)) (ha : F a = some (a_any g)) (hg : F g = some a_draw) (n k : Nat) (hk : k ≤ 1000) {sh : List Int} (hs : ShOk sh) (same : Bool) {st rest : Store} (p : Pool st rest) (ho : Old rest) :
    ∃ rows st', runF F (n + 4) f [.ref 1, .int k, .lst (vI sh), .bl same] st = .ok (.lst (vM rows)) st' ∧ Pool st' rest ∧ Tb k rows := by
  obtain ⟨way, s1, e1, p1, _, _⟩ := draw_ok hg (n + 2) 4 (by omega) p
  obtain ⟨va, s2, e2, p2, b2⟩ := any_sh ha hg (n + 1) hs p1
  obtain ⟨vb, s3, e3, p3, b3⟩ := any_sh ha hg (n + 1) hs p2
  rw [runF_eq hf rfl]
  by_cases h3 : way = 3
  · subst h3
    obtain ⟨rows, s4, e4, p4, sq⟩ := chance_ok hh ha hg n k hk hs same p3 ho
    refine ⟨rows, s4, ?_, p4, sq⟩
    simp [a_small, e1, e2, e3, e4, trunc, p.len, p4.len]
  have c1 : (-1000000 : Int) ≤ (k : Int) ∧ (k : Int) ≤ 1000000 := by omega
  obtain ⟨z1, z2⟩ := zeros_ok (cf := runF F (n + 3)) (j := 1) (own := [5]) (env := [some (.ref 1), some (.int k), some (.lst (vI sh)), some (.bl same), none, none, some (.int way), some (.int va), some (.int vb), none, none, none]) (tg := 5) k hk p3 (by simp)
  have l1 : ¬ LIM < (rngV 0 k).length := by rw [rngV_len]; simp only [LIM]; omega
  simp [a_small, e1, e2, e3, h3, c1, l1, z1]
  let E : Option Val → Option Val → Option Val → Option Val → Ev := fun x y u v => [some (.ref 1), some (.int k), some (.lst (vI sh)), some (.bl same), some (.ref (rest.length + 2 + k)), x, some (.int way), some (.int va), some (.int vb), y, u, v]
  let I : Nat → Ev → Store → Prop := fun i env s => ∃ x y u v rows, env = E x y u v ∧ MatAt s rest rows k
  let Ix : Nat → Nat → Ev → Store → Prop := fun x i env s => ∃ y u v rows, env = E (some (.int x)) y u v ∧ MatAt s rest rows k
  have inner : ∀ (x : Nat), x < k → ∀ (i : Nat) (w : Val), (rngV 0 x)[i]? = some w → ∀ env s, Ix x (0 + i) env s → ∃ env' s', bodyF (runF F (n + 3)) (.nm 9) smB w env s = .nx env' s' ∧ Ix x (0 + i + 1) (wipe env' []) s' := by
    rintro x hx i w hw env s ⟨y, u, v, rows, rfl, hm⟩
    obtain ⟨hi, rfl⟩ := rngV_get hw
    have go : ∀ v1 v2 : Int, (0 ≤ v1 ∧ v1 < 100) → (0 ≤ v2 ∧ v2 < 100) → (v1 = if way = 2 then (if (x : Int) - i = 1 then va else vb) else va) → (v2 = if way = 2 then (if (x : Int) - i = k - 1 then va else vb) else if way = 1 ∧ same = false then vb else va) →
        ∃ env' s', bodyF (runF F (n + 3)) (.nm 9) smB (.int (0 + (i : Int))) (E (some (.int x)) y u v) s = .nx env' s' ∧ Ix x (0 + i + 1) (wipe env' []) s' := fun v1 v2 c1 c2 d1 d2 => by
      obtain ⟨r1, s3, _, q1, m3⟩ := hm.put (y := i) (x := x) (by omega) hx c1 (by omega)
      obtain ⟨r2, s4, _, q2, m4⟩ := m3.put (y := x) (x := i) (v := if same then v1 else v2) hx (by omega) (by split <;> assumption) (by omega)
      refine ⟨E (some (.int x)) (some (.int i)) (some (.int v1)) (some (.int v2)), s4, ?_, _, _, _, _, rfl, m4⟩
      rw [bodyF_eq rfl]
      have a2 := hm.all
      have a3 := m3.all
      have t1 := refs_atI (m := rest.length + 2) (show i < k by omega)
      have t2 := refs_atI (m := rest.length + 2) hx
      have f1 : execSs (runF F (n + 3)) smB ((E (some (.int x)) y u v).set 9 (some (.int (0 + (i : Int))))) s = execSs (runF F (n + 3)) (.cons (.seti (.idx (.var 4) (.var 9)) (.var 5) (.var 10)) (.cons (.seti (.idx (.var 4) (.var 5)) (.var 9) (.ite (.var 3) (.var 10) (.var 11))) .nil)) (E (some (.int x)) (some (.int i)) (some (.int v1)) (some (.int v2))) s := by
        clear q1 q2 m3 m4 a3
        rw [d1, d2]
        by_cases w2 : way = 2
        · subst w2
          by_cases x1 : (x : Int) - i = 1
          · by_cases x2 : (x : Int) - i = k - 1
            · simp [smB, E, eq_true x1, eq_true x2]
            · simp [smB, E, eq_true x1, eq_false x2]
          · by_cases x2 : (x : Int) - i = k - 1
            · simp [smB, E, eq_false x1, eq_true x2]
            · simp [smB, E, eq_false x1, eq_false x2]
        · by_cases w1 : way = 1
          · subst w1
            cases same <;> simp [smB, E]
          · simp [smB, E, w1, w2]
      rw [show ((E (some (.int x)) y u v).set 9 (some (.int (0 + (i : Int))))) = _ from rfl] at f1
      rw [f1]
      cases same with
      | true =>
        simp only [if_true] at q2
        simp [E, dr_ref a2, dr_ref a3, t1, t2, q1, q2]
      | false =>
        simp only [Bool.false_eq_true, if_false] at q2
        simp [E, dr_ref a2, dr_ref a3, t1, t2, q1, q2]
    refine go _ _ ?_ ?_ rfl rfl
    · split
      · split <;> assumption
      · assumption
    · split
      · split <;> assumption
      · split <;> assumption
  have outer := forL_inv (f := bodyF (runF F (n + 3)) (.nm 5) (.cons (.fr (.nm 9) (.rng1 (.var 5)) smB []) .nil)) (clr := []) (I := I) (rngV 0 k) 0 (by
    rintro i w hw env s ⟨x, y, u, v, rows, rfl, hm⟩
    obtain ⟨hi, rfl⟩ := rngV_get hw
    obtain ⟨env', s', e, y', u', v', rows', rfl, hm'⟩ := forL_inv (I := Ix i) (rngV 0 i) 0 (inner i hi) (E (some (.int i)) y u v) s ⟨y, u, v, rows, rfl, hm⟩
    refine ⟨E (some (.int i)) y' u' v', s', ?_, _, _, _, _, _, rfl, hm'⟩
    rw [bodyF_eq rfl]
    have c2 : (-1000000 : Int) ≤ (i : Int) ∧ (i : Int) ≤ 1000000 := by omega
    simp only [E] at e ⊢
    simp [c2, e]) (E none none none none) (s3 ++ mats (List.replicate k (List.replicate k 0)) ++ [.lst (refs (rest.length + 2) k)]) ⟨none, none, none, none, _, rfl, z2⟩
  obtain ⟨env', s', e, x, y, u, v, rows, rfl, hm⟩ := outer
  obtain ⟨s2, e2, p2⟩ := hm.frz
  simp only [E, List.append_assoc, smB] at e
  refine ⟨rows, _, ?_, p2.take, hm.tb⟩
  simp [e, e2, p.len, Pool.cut p2 ho (below_vM _ rows)]
end Cp

set_option Elab.async false
set_option linter.all false
set_option maxRecDepth 100000
set_option maxHeartbeats 16000000
/-! CoA8: put. -/
namespace Cp
open Co
open PySem

/-- pairs of ints as lists of two -/
def vP (ps : List (Int × Int)) : List Val := ps.map fun p => .lst [.int p.1, .int p.2]
@[scoped simp] theorem vP_len (ps : List (Int × Int)) : (vP ps).length = ps.length := by simp [vP]
theorem vP_app (a b : List (Int × Int)) : vP a ++ vP b = vP (a ++ b) := by simp [vP]
theorem compL_to {α : Type} {f : Val → Store → R (Option Val)} {st : Store} (e : α → Val) (g : α → Val) (xs : List α) (h : ∀ x ∈ xs, f (e x) st = .ok (some (g x)) st) : compL f (xs.map e) st = .ok (xs.map g) st := by
  induction xs with
  | nil => rfl
  | cons x xs ih =>
    have ih := ih fun y hy => h y (by simp [hy])
    simp only [List.map_cons, compL, h x (by simp), ih, R.bind_ok]
def ownP' (n at' k : Nat) : List (Int × Int) := ((List.range at').map fun (i : Nat) => (((i : Int), (-1 : Int)) : Int × Int)) ++ ((List.range k).map fun (j : Nat) => (((at' : Int), (j : Int)) : Int × Int)) ++ ((List.range (n - (at' + 1))).map fun (i : Nat) => ((((at' + 1 + i : Nat) : Int), (-1 : Int)) : Int × Int))
theorem ownP_len {n at' k : Nat} (h : at' < n) : (ownP' n at' k).length = n + k - 1 := by
  simp [ownP']; omega
theorem ownP_mem {n at' k : Nat} (h : at' < n) {p : Int × Int} (hp : p ∈ ownP' n at' k) : ∃ x : Nat, x < n ∧ p.1 = x ∧ (p.1 = (at' : Int) → ∃ d : Nat, d < k ∧ p.2 = d) := by
  simp only [ownP', List.mem_append, List.mem_map, List.mem_range] at hp
  rcases hp with (⟨i, hi, rfl⟩ | ⟨j, hj, rfl⟩) | ⟨i, hi, rfl⟩
  · exact ⟨i, by omega, rfl, fun e => by simp at e; omega⟩
  · exact ⟨at', h, rfl, fun _ => ⟨j, hj, rfl⟩⟩
  · exact ⟨at' + 1 + i, by omega, rfl, fun e => by simp at e; omega⟩
theorem Sq.at_ {n : Nat} {rows : List (List Int)} (h : Sq n rows) {x y : Nat} (hx : x < n) (hy : y < n) : ∃ r v, L2.atI (vM rows) (x : Int) = some (.lst (vI r)) ∧ L2.atI (vI r) (y : Int) = some (.int v) ∧ 0 ≤ v ∧ v < 100 ∧ rows[x]? = some r ∧ r[y]? = some v := by
  have h1 : x < rows.length := by rw [h.1]; exact hx
  obtain ⟨h2, h3⟩ := h.2 _ (List.getElem_mem h1)
  refine ⟨rows[x], (rows[x])[y]'(by omega), ?_, vI_atI (by omega), (h3 _ (List.getElem_mem _)).1, (h3 _ (List.getElem_mem _)).2, by simp [h1], by simp [h2, hy]⟩
  rw [atI_nat' (by simpa using h1)]
  simp [vM]
theorem compL_some {f : Val → Store → R (Option Val)} {st : Store} {P : Int → Prop} : ∀ (xs : List Val), (∀ x ∈ xs, ∃ v : Int, P v ∧ f x st = .ok (some (.int v)) st) → ∃ r : List Int, compL f xs st = .ok (vI r) st ∧ r.length = xs.length ∧ ∀ x ∈ r, P x
  | [], _ => ⟨[], rfl, rfl, fun _ h => nomatch h⟩
  | x :: xs, h => by
    obtain ⟨v, pv, e⟩ := h x (by simp)
    obtain ⟨r, e2, l2, p2⟩ := compL_some xs fun y hy => h y (by simp [hy])
    refine ⟨v :: r, by simp only [compL, e, e2, R.bind_ok]; rfl, by simp [l2], fun z hz => ?_⟩
    rcases List.mem_cons.mp hz with hz | hz
    · rw [hz]; exact pv
    · exact p2 z hz
theorem compL_rng {f : Val → Store → R (Option Val)} {st : Store} {lo : Int} {n : Nat} (g : Nat → Val) (h : ∀ i < n, f (.int (lo + (i : Int))) st = .ok (some (g i)) st) : compL f (rngV lo n) st = .ok ((List.range n).map g) st :=
  compL_to (fun (k : Nat) => Val.int (lo + (k : Int))) g (List.range n) fun i hi => h i (List.mem_range.mp hi)
theorem add_lst {lv : Bool} {xs ys : List Val} {st : Store} (h : xs.length + ys.length ≤ LIM) : bin .add lv (.lst xs) (.lst ys) st = mkL lv (xs ++ ys) st := by simp only [bin, h, if_true]
theorem LIM_1000 : 1000 ≤ LIM := by decide
theorem add_lst' {lv : Bool} {xs ys : List Val} {st : Store} (h : xs.length + ys.length ≤ 1000) : bin .add lv (.lst xs) (.lst ys) st = mkL lv (xs ++ ys) st := add_lst (Nat.le_trans h LIM_1000)
theorem kRng3_n {i j : Int} {st : Store} (h : -1000000 ≤ i ∧ i ≤ 1000000 ∧ -1000000 ≤ j ∧ j ≤ 1000000) : kRng3 (.int i) (.ok (.int j) st) = .ok (rngV i (j - i).toNat) st := if_pos h
theorem frz_id {m : Nat} {v : Val} {st : Store} (h : ∀ i, v ≠ .ref i) : frzV m v st = some (v, st) := by
  cases m with
  | zero => rfl
  | succ m => cases v <;> first | rfl | exact absurd rfl (h _)
theorem frz_vM {m i : Nat} {st : Store} {rows : List (List Int)} (h : st[i]? = some (.lst (vM rows))) : frzV (m + 1) (.ref i) st = some (.lst (vM rows), st.set i .dead) := by
  have : ∀ (rows : List (List Int)) (s : Store), frzL (frzV m) (vM rows) s = some (vM rows, s) := by
    intro rows s
    induction rows with
    | nil => rfl
    | cons r rows ih =>
      show (match frzV m (.lst (vI r)) s with
        | some (y, st') => (match frzL (frzV m) (vM rows) st' with
          | some (ys, st'') => some (y :: ys, st'')
          | none => none)
        | none => none) = _
      rw [frz_id (v := .lst (vI r)) (fun i e => by cases e)]
      simp only [ih]
      rfl
  simp only [frzV, h, this]
theorem Pool.allb {st rest : Store} (p : Pool st rest) (ho : Old rest) : st.all (Cell.below st.length) = true := by
  have hl := p.len
  obtain ⟨a, b, s, t, rfl, h⟩ := p
  rw [hl]
  simp only [pl, List.all_cons, Cell.below, belows, below]
  rw [show belows (rest.length + 2) (a.map Val.int) = true from belows_vI _ a, show belows (rest.length + 2) (b.map Val.int) = true from belows_vI _ b, ho]
  simp
theorem put_ok {F : Nat → Option FD} {f : Nat} (hf : F f = some a_put) (n at' k j : Nat) (ha : at' < n) (hn : n ≤ 100) (hk : k ≤ 100) {rows more : List (List Int)} (hrt : Tb n rows) (hmt : Tb k more) {st rest : Store} (p : Pool st rest) (ho : Old rest) :
    ∃ rows', runF F (j + 1) f [.lst (vM rows), .int at', .lst (vM more)] st = .ok (.lst (vM rows')) st ∧ Tb (n + k - 1) rows' := by
  have hr := hrt.sq
  have hm := hmt.sq
  rw [runF_eq hf rfl]
  have c1 : (-1000000 : Int) ≤ (at' : Int) ∧ (at' : Int) ≤ 1000000 := by omega
  have c2 : (-1000000 : Int) ≤ (k : Int) ∧ (k : Int) ≤ 1000000 := by omega
  have c3 : (-1000000 : Int) ≤ (at' : Int) + 1 ∧ (at' : Int) + 1 ≤ 1000000 ∧ (-1000000 : Int) ≤ (n : Int) ∧ (n : Int) ≤ 1000000 := by omega
  have l1 : ¬ LIM < (rngV 0 at').length := by rw [rngV_len]; simp only [LIM]; omega
  have l2 : ¬ LIM < (rngV 0 k).length := by rw [rngV_len]; simp only [LIM]; omega
  have l3 : ¬ LIM < (rngV ((at' : Int) + 1) ((n : Int) - (at' + 1)).toNat).length := by rw [rngV_len]; simp only [LIM]; omega
  simp [a_put, c1, l1]
  rw [compL_rng fun i => .lst [.int i, .int (-1)]]
  rotate_left
  · intro i _
    rw [turnP_eq rfl]
    simp
  simp [hm.1, c2, l2]
  rw [compL_rng fun i => .lst [.int at', .int i]]
  rotate_left
  · intro i _
    rw [turnP_eq rfl]
    simp
  have l4 : at' + k ≤ 1000 := by omega
  simp [-kRng3_ok, add_lst', l4, hr.1, kRng3_n c3, l3]
  rw [compL_rng fun i => .lst [.int ((at' + 1 + i : Nat) : Int), .int (-1)]]
  rotate_left
  · intro i _
    rw [turnP_eq rfl]
    simp
  have e3 : ((n : Int) - (at' + 1)).toNat = n - (at' + 1) := by omega
  have l5 : at' + k + (n - (at' + 1)) ≤ 1000 := by omega
  rw [e3]
  simp [add_lst', l5]
  have eO : (List.range at').map (fun (i : Nat) => Val.lst [.int i, .int (-1)]) ++ ((List.range k).map (fun (i : Nat) => Val.lst [.int at', .int i]) ++ (List.range (n - (at' + 1))).map (fun (i : Nat) => Val.lst [.int ((at' : Int) + 1 + i), .int (-1)])) = vP (ownP' n at' k) := by
    simp [vP, ownP', Function.comp_def]
  rw [eO]
  have hol := ownP_len (k := k) ha
  have hom := fun {q} => ownP_mem (k := k) ha (p := q)
  generalize ownP' n at' k = own at hol hom
  have lo : ¬ LIM < own.length := by simp only [LIM]; omega
  -- one row
  let pv : Int × Int → Int × Int → Int := fun q u => if q.1 = (at' : Int) ∧ u.1 = (at' : Int) then cel more q.2.toNat u.2.toNat else cel rows q.1.toNat u.1.toNat
  have pvb : ∀ q ∈ own, ∀ u ∈ own, 0 ≤ pv q u ∧ pv q u < 100 := by
    intro q hq u hu
    obtain ⟨x, hx, ex, dx⟩ := hom hq
    obtain ⟨y, hy, ey, dy⟩ := hom hu
    by_cases h1 : q.1 = (at' : Int) ∧ u.1 = (at' : Int)
    · obtain ⟨d, hd, ed⟩ := dx h1.1
      obtain ⟨d2, hd2, ed2⟩ := dy h1.2
      obtain ⟨r, v, a1, a2, b1, b2, g1, g2⟩ := hm.at_ hd hd2
      simp only [pv, if_pos h1, ed, ed2, Int.toNat_natCast, cel_get g1 g2]
      exact ⟨b1, b2⟩
    · obtain ⟨r, v, a1, a2, b1, b2, g1, g2⟩ := hr.at_ hx hy
      simp only [pv, if_neg h1, ex, ey, Int.toNat_natCast, cel_get g1 g2]
      exact ⟨b1, b2⟩
  have pvd : ∀ q ∈ own, pv q q = 0 := by
    intro q hq
    obtain ⟨x, hx, ex, dx⟩ := hom hq
    by_cases h1 : q.1 = (at' : Int)
    · obtain ⟨d, hd, ed⟩ := dx h1
      simp only [pv, if_pos (And.intro h1 h1), ed, Int.toNat_natCast]
      exact hmt.zd d hd
    · simp only [pv, if_neg (fun (h : q.1 = (at' : Int) ∧ q.1 = (at' : Int)) => h1 h.1), ex, Int.toNat_natCast]
      exact hrt.zd x hx
  have turn : ∀ q ∈ own, ∀ (e5 e6 e7 : Option Val) (fo : Option Val) (s : Store), compL (turnP (runF F j) (.ite (.and_ (.cmp .eq (.var 5) (.var 1)) (.cmp .eq (.var 8) (.var 1))) (.idx (.idx (.var 2) (.var 6)) (.var 9)) (.idx (.idx (.var 0) (.var 5)) (.var 8))) (.tp [8, 9]) (.cst (.bl true))
      [some (.lst (vM rows)), some (.int at'), some (.lst (vM more)), some (.lst (vP own)), fo, some (.int q.1), some (.int q.2), e5, e6, e7] [8, 9]) (vP own) s = .ok (vI (own.map (pv q))) s := by
    intro q hq e5 e6 e7 fo s
    obtain ⟨x, hx, ex, dx⟩ := hom hq
    unfold vI
    rw [List.map_map]
    refine compL_to (fun (p : Int × Int) => Val.lst [.int p.1, .int p.2]) _ own fun u hu => ?_
    obtain ⟨y, hy, ey, dy⟩ := hom hu
    rw [turnP_eq rfl]
    by_cases h1 : q.1 = (at' : Int) ∧ u.1 = (at' : Int)
    · obtain ⟨d, hd, ed⟩ := dx h1.1
      obtain ⟨d2, hd2, ed2⟩ := dy h1.2
      obtain ⟨r, v, a1, a2, b1, b2, g1, g2⟩ := hm.at_ hd hd2
      simp [pv, h1.1, h1.2, ed, ed2, a1, a2, cel_get g1 g2]
    · obtain ⟨r, v, a1, a2, b1, b2, g1, g2⟩ := hr.at_ hx hy
      by_cases h2 : q.1 = (at' : Int)
      · have h3 : ¬ u.1 = (at' : Int) := fun e => h1 ⟨h2, e⟩
        rw [ex] at h2; rw [ey] at h3
        simp [pv, ex, ey, eq_true h2, eq_false h3, a1, a2, cel_get g1 g2]
      · rw [ex] at h2
        simp [pv, ex, ey, eq_false h2, a1, a2, cel_get g1 g2]
  let I : Nat → Ev → Store → Prop := fun i env s => ∃ x y u v w rows', env = [some (.lst (vM rows)), some (.int at'), some (.lst (vM more)), some (.lst (vP own)), some (.ref st.length), x, y, u, v, w] ∧ s = st ++ [.lst (vM rows')] ∧ rows' = (own.take i).map fun q => own.map (pv q)
  obtain ⟨env', s', e, x, y, u, v, w, rows', rfl, rfl, h'⟩ := forL_inv (f := bodyF (runF F j) (.tp [5, 6]) (.cons (.ex (.mth .append false (.var 4) (.cons (.lc false (.ite (.and_ (.cmp .eq (.var 5) (.var 1)) (.cmp .eq (.var 8) (.var 1))) (.idx (.idx (.var 2) (.var 6)) (.var 9)) (.idx (.idx (.var 0) (.var 5)) (.var 8))) (.tp [8, 9]) (.seq (.var 3)) (.cst (.bl true)) [8, 9]) .nil))) .nil))
    (clr := []) (I := I) (vP own) 0 (by
      rintro i z hz env s ⟨x, y, u, v, w, rows', rfl, rfl, h'⟩
      obtain ⟨q, hqi, rfl⟩ : ∃ q, own[i]? = some q ∧ z = .lst [.int q.1, .int q.2] := by
        unfold vP at hz
        rw [List.getElem?_map] at hz
        cases e : own[i]? with
        | none => rw [e] at hz; cases hz
        | some q => rw [e] at hz; cases hz; exact ⟨q, rfl, rfl⟩
      have hq := List.mem_of_getElem? hqi
      rw [Nat.zero_add] at h' ⊢
      have t1 := turn q hq u v w (some (.ref st.length)) (st ++ [.lst (vM rows')])
      have g : (st ++ [Cell.lst (vM rows')])[st.length]? = some (.lst (vM rows')) := by simp
      have hi : i < own.length := by
        exact (List.getElem?_eq_some_iff.mp hqi).1
      have lr : rows'.length ≤ i := by rw [h']; simp; omega
      have lq : (vM rows').length < LIM := by simp only [vM_len, LIM]; omega
      generalize hrr : own.map (pv q) = r at t1
      refine ⟨[some (.lst (vM rows)), some (.int at'), some (.lst (vM more)), some (.lst (vP own)), some (.ref st.length), some (.int q.1), some (.int q.2), u, v, w], st ++ [.lst (vM (rows' ++ [r]))], ?_, some (.int q.1), some (.int q.2), u, v, w, rows' ++ [r], rfl, rfl, ?_⟩
      · rw [bodyF_eq rfl]
        simp [mth_ref g (.inl rfl), lo, t1, app_ref g lq]
        simp [vM]
      · rw [List.take_add_one, hqi, List.map_append, ← h', ← hrr]
        rfl) [some (.lst (vM rows)), some (.int at'), some (.lst (vM more)), some (.lst (vP own)), some (.ref st.length), none, none, none, none, none] (st ++ [.lst []]) ⟨none, none, none, none, none, [], rfl, rfl, by simp⟩
  have h' : rows' = own.map fun q => own.map (pv q) := by simpa using h'
  refine ⟨rows', ?_, ⟨by rw [h']; simp; omega, fun r hr => ?_⟩, fun x hx => ?_⟩
  rotate_left
  · rw [h'] at hr
    obtain ⟨q, hq, rfl⟩ := List.mem_map.mp hr
    refine ⟨by simp; omega, fun v hv => ?_⟩
    obtain ⟨u, hu, rfl⟩ := List.mem_map.mp hv
    exact pvb q hq u hu
  · have hx' : x < own.length := by omega
    have := pvd _ (List.getElem_mem hx')
    rw [h', cel_get (r := own.map (pv own[x])) (v := pv own[x] own[x]) (by simp [hx']) (by simp [hx'])]
    exact this
  have g : (st ++ [Cell.lst (vM rows')])[st.length]? = some (.lst (vM rows')) := by simp
  simp [e, frz_vM (m := 2) g]
  exact trunc_cut (below_vM _ rows') (p.allb ho)
end Cp

set_option Elab.async false
set_option linter.all false
set_option maxRecDepth 100000
set_option maxHeartbeats 16000000
/-! CoA9: renamed (the table stays live). -/
namespace Cp
open Co
open PySem

theorem zeros2_ok {cf : CF} {env : Ev} {own : List Nat} {tg j : Nat} (n : Nat) (hn : n ≤ 1000) {xs : List Val} (hx : xs.length = n) {st rest : Store} (p : Pool st rest) (hj : ∀ x, ((wipe env own).set tg (some x))[j]? = some (some (.lst xs))) :
    kLst true (compL (turnP cf (.bin .mul true (.lst false (.cons (.cst (.int 0)) .nil)) (.bi .len false (.cons (.var j) .nil))) (.nm tg) (.cst (.bl true)) env own) xs st) = .ok (.ref (rest.length + 2 + n)) (st ++ mats (List.replicate n (List.replicate n 0)) ++ [.lst (refs (rest.length + 2) n)]) ∧
      MatAt (st ++ mats (List.replicate n (List.replicate n 0)) ++ [.lst (refs (rest.length + 2) n)]) rest (List.replicate n (List.replicate n 0)) n := by
  have e : compL (turnP cf (.bin .mul true (.lst false (.cons (.cst (.int 0)) .nil)) (.bi .len false (.cons (.var j) .nil))) (.nm tg) (.cst (.bl true)) env own) xs st = .ok (refs st.length xs.length) (st ++ List.replicate xs.length (.lst (vI (List.replicate n 0)))) := by
    refine compL_new _ _ fun x hx' s => ?_
    rw [turnP_eq rfl]
    have h2 : (n : Int) ≤ 1000 ∧ (-1000 : Int) ≤ n := by omega
    simp [hj, bin, h2, rep_zero, hx]
  have em : List.replicate n (Cell.lst (vI (List.replicate n 0))) = mats (List.replicate n (List.replicate n 0)) := by simp [mats]
  rw [e, hx, em, p.len]
  refine ⟨?_, ?_, ?_, zd_zero n⟩
  · simp [p.len]
  · have := p.app (mats (List.replicate n (List.replicate n 0)) ++ [.lst (refs (rest.length + 2) n)])
    rwa [← List.append_assoc, ← List.append_assoc] at this
  · refine ⟨by simp, fun r hr => ?_⟩
    have := List.eq_of_mem_replicate hr
    subst this
    refine ⟨by simp, fun x hx => ?_⟩
    have := List.eq_of_mem_replicate hx
    omega
/-- names: a place for each -/
def Names (n : Nat) (names : List Int) : Prop := names.length = n ∧ (∀ x ∈ names, 0 ≤ x ∧ x < n) ∧ names.Nodup ∧ ∀ a : Nat, a < n → (a : Int) ∈ names
def nmAt (names : List Int) (x : Nat) : Nat := (names.getD x 0).toNat
theorem Names.get {n : Nat} {names : List Int} (h : Names n names) {i : Nat} (hi : i < n) : nmAt names i < n ∧ names[i]? = some (nmAt names i : Int) := by
  have h1 : i < names.length := by rw [h.1]; exact hi
  have h2 := h.2.1 _ (List.getElem_mem h1)
  have e : nmAt names i = (names[i]).toNat := by simp [nmAt, List.getD, h1]
  refine ⟨by omega, ?_⟩
  rw [List.getElem?_eq_getElem h1]
  congr 1
  omega
theorem Names.at_ {n : Nat} {names : List Int} (h : Names n names) {i : Nat} (hi : i < n) : nmAt names i < n ∧ L2.atI (vI names) (i : Int) = some (.int (nmAt names i)) := by
  obtain ⟨a, b⟩ := h.get hi
  have h1 : i < names.length := by rw [h.1]; exact hi
  refine ⟨a, ?_⟩
  rw [vI_atI h1]
  rw [List.getElem?_eq_getElem h1] at b
  rw [Option.some.inj b]
theorem Names.inj {n : Nat} {names : List Int} (h : Names n names) {i j : Nat} (hi : i < n) (hj : j < n) (e : nmAt names i = nmAt names j) : i = j := by
  obtain ⟨_, b⟩ := h.get hi
  obtain ⟨_, c⟩ := h.get hj
  rw [← e, ← b] at c
  exact ((List.getElem?_inj (by rw [h.1]; exact hj) h.2.2.1).mp c).symm
theorem Names.surj {n : Nat} {names : List Int} (h : Names n names) {a : Nat} (ha : a < n) : ∃ x, x < n ∧ nmAt names x = a := by
  obtain ⟨i, hi, e⟩ := List.mem_iff_getElem.mp (h.2.2.2 a ha)
  refine ⟨i, by rw [← h.1]; exact hi, ?_⟩
  simp [nmAt, List.getD, hi, e]
/-- rows under other names -/
def Ren (n : Nat) (names : List Int) (rows rows' : List (List Int)) : Prop := ∀ x y, x < n → y < n → cel rows' (nmAt names x) (nmAt names y) = cel rows x y
theorem renamed_ok {F : Nat → Option FD} {f : Nat} (hf : F f = some a_renamed) (n j : Nat) (hn : n ≤ 1000) {rows : List (List Int)} (ht : Tb n rows) {names : List Int} (hnm : Names n names) {st rest : Store} (p : Pool st rest) :
    ∃ rows' st', runF F (j + 1) f [.lst (vM rows), .lst (vI names)] st = .ok (.ref (rest.length + 2 + n)) st' ∧ MatAt st' rest rows' n ∧ Ren n names rows rows' := by
  have hr := ht.sq
  rw [runF_eq hf rfl]
  have c1 : (-1000000 : Int) ≤ (n : Int) ∧ (n : Int) ≤ 1000000 := by omega
  obtain ⟨z1, z2⟩ := zeros2_ok (cf := runF F j) (j := 0) (own := [3]) (env := [some (.lst (vM rows)), some (.lst (vI names)), none, none, none]) (tg := 3) n hn (xs := vM rows) (by simp [hr.1]) p (fun x => by simp)
  have l1 : ¬ LIM < n := by simp only [LIM]; omega
  simp [a_renamed, hr.1, c1, l1, z1]
  let E : Option Val → Option Val → Ev := fun x y => [some (.lst (vM rows)), some (.lst (vI names)), some (.ref (rest.length + 2 + n)), x, y]
  let I : Nat → Ev → Store → Prop := fun i env s => ∃ x y rows', env = E x y ∧ MatAt s rest rows' n ∧ ∀ x y, x < i → y < n → cel rows' (nmAt names x) (nmAt names y) = cel rows x y
  let Ix : Nat → Nat → Ev → Store → Prop := fun x i env s => ∃ y rows', env = E (some (.int x)) y ∧ MatAt s rest rows' n ∧ (∀ x' y, x' < x → y < n → cel rows' (nmAt names x') (nmAt names y) = cel rows x' y) ∧ ∀ y, y < i → cel rows' (nmAt names x) (nmAt names y) = cel rows x y
  have inner : ∀ (x : Nat), x < n → ∀ (i : Nat) (w : Val), (rngV 0 n)[i]? = some w → ∀ env s, Ix x (0 + i) env s → ∃ env' s', bodyF (runF F j) (.nm 4) (.cons (.seti (.idx (.var 2) (.idx (.var 1) (.var 3))) (.idx (.var 1) (.var 4)) (.idx (.idx (.var 0) (.var 3)) (.var 4))) .nil) w env s = .nx env' s' ∧ Ix x (0 + i + 1) (wipe env' []) s' := by
    rintro x hx i w hw env s ⟨y, rows', rfl, hm, q1, q2⟩
    obtain ⟨hi, rfl⟩ := rngV_get hw
    rw [Nat.zero_add] at q2
    obtain ⟨b1, a1⟩ := hnm.at_ hx
    obtain ⟨b2, a2⟩ := hnm.at_ hi
    obtain ⟨r, v, d1, d2, v1, v2, g1, g2⟩ := hr.at_ hx hi
    have ev : v = cel rows x i := (cel_get g1 g2).symm
    obtain ⟨r1, s3, h1, e1, m3⟩ := hm.put b1 b2 ⟨v1, v2⟩ (fun e => by rw [ev, hnm.inj hx hi e]; exact ht.zd i hi)
    have lr1 : nmAt names i < r1.length := by
      rw [(hm.sq.2 r1 (List.mem_of_getElem? h1)).1]; exact b2
    refine ⟨E (some (.int x)) (some (.int i)), s3, ?_, _, _, rfl, m3, fun x' y hx' hy => ?_, fun y hy => ?_⟩
    · rw [bodyF_eq rfl]
      simp [E, a1, a2, d1, d2, dr_ref hm.all, refs_atI (m := rest.length + 2) b1, e1]
    · rw [cel_set h1 lr1, if_neg, q1 x' y hx' hy]
      rintro ⟨e, _⟩
      have := hnm.inj (show x' < n by omega) hx e
      omega
    · rw [cel_set h1 lr1]
      by_cases hyi : y = i
      · subst hyi
        rw [if_pos ⟨rfl, rfl⟩, ev]
      · rw [if_neg, q2 y (by omega)]
        rintro ⟨_, e⟩
        exact hyi (hnm.inj (show y < n by omega) hi e)
  obtain ⟨env', s', e, x, y, rows', rfl, hm, hq⟩ := forL_inv (f := bodyF (runF F j) (.nm 3) (.cons (.fr (.nm 4) (.rng1 (.bi .len false (.cons (.var 0) .nil))) (.cons (.seti (.idx (.var 2) (.idx (.var 1) (.var 3))) (.idx (.var 1) (.var 4)) (.idx (.idx (.var 0) (.var 3)) (.var 4))) .nil) []) .nil)) (clr := []) (I := I) (rngV 0 n) 0 (by
    rintro i w hw env s ⟨x, y, rows', rfl, hm, hq⟩
    obtain ⟨hi, rfl⟩ := rngV_get hw
    rw [Nat.zero_add] at hq
    obtain ⟨env', s', e, y', rows', rfl, hm', q1, q2⟩ := forL_inv (I := Ix i) (rngV 0 n) 0 (inner i hi) (E (some (.int i)) y) s ⟨y, rows', rfl, hm, hq, fun y hy => absurd hy (by omega)⟩
    rw [rngV_len, Nat.zero_add] at q2
    refine ⟨E (some (.int i)) y', s', ?_, _, _, _, rfl, hm', fun x' y hx' hy => ?_⟩
    · rw [bodyF_eq rfl]
      simp only [E] at e ⊢
      simp [hr.1, c1, e]
    · by_cases h : x' = i
      · subst h
        exact q2 y hy
      · exact q1 x' y (by omega) hy) (E none none) (st ++ mats (List.replicate n (List.replicate n 0)) ++ [.lst (refs (rest.length + 2) n)]) ⟨none, none, _, rfl, z2, fun x y hx => absurd hx (by omega)⟩
  rw [rngV_len, Nat.zero_add] at hq
  simp only [E, List.append_assoc] at e
  have hb : below st.length (.ref (rest.length + 2 + n)) = false := by simp only [below, decide_eq_false_iff_not, p.len]; omega
  refine ⟨rows', s', ?_, hm, hq⟩
  simp [e, trunc, hb]
end Cp

set_option Elab.async false
set_option linter.all false
set_option maxRecDepth 100000
set_option maxHeartbeats 16000000
/-! CoA10: grown. -/
namespace Cp
open Co
open PySem

theorem rng_vI (k : Nat) : rngV 0 k = vI ((List.range k).map fun (i : Nat) => (i : Int)) := by
  simp [rngV, vI, Function.comp_def]
theorem names_of {k : Nat} {ms : List Int} (h : ms.Perm ((List.range k).map fun (i : Nat) => (i : Int))) : Names k ms := by
  refine ⟨by rw [h.length_eq]; simp, fun x hx => ?_, ?_, fun a ha => h.mem_iff.mpr (List.mem_map.mpr ⟨a, List.mem_range.mpr ha, rfl⟩)⟩
  · obtain ⟨i, hi, rfl⟩ := List.mem_map.mp (h.mem_iff.mp hx)
    have := List.mem_range.mp hi
    omega
  · rw [h.nodup_iff]
    exact List.Pairwise.map _ (fun a b (hab : a ≠ b) => by omega) List.nodup_range
theorem sq_one : Tb 1 [[0]] := ⟨⟨rfl, fun r hr => by
  have := List.mem_singleton.mp hr
  subst this
  exact ⟨rfl, fun x hx => by
    have := List.mem_singleton.mp hx
    omega⟩⟩, fun x hx => by have : x = 0 := by omega
                            subst this; rfl⟩
theorem sq_nil : Tb 0 [] := ⟨⟨rfl, fun _ h => nomatch h⟩, fun x hx => absurd hx (by omega)⟩
def grB (f_draw f_put f_small : Nat) : Sxs := (.cons (.asg (.nm 6) (.bin .sub false (.var 1) (.bi .len false (.cons (.var 4) .nil))))
    (.cons (.iff (.cmp .gt (.var 6) (.cst (.int 0))) (.cons (.asg (.nm 7) (.bin .add false (.cst (.int 2)) (.call f_draw [0, 1] (.cons (.var 0) (.cons (.bi .min2 false (.cons (.var 6) (.cons (.cst (.int 3)) .nil))) .nil)) .nil)))
    (.cons (.asg (.nm 4) (.call f_put [0, 1, 2] (.cons (.var 4) (.cons (.call f_draw [0, 1] (.cons (.var 0) (.cons (.bi .len false (.cons (.var 4) .nil)) .nil)) .nil) (.cons (.call f_small [0, 1, 2, 3] (.cons (.var 0) (.cons (.var 7) (.cons (.var 2) (.cons (.var 3) .nil)))) .nil) .nil))) .nil))
    .nil)) .nil)
    .nil))
theorem grown_ok {F : Nat → Option FD} {f g a h u s r m : Nat} (hf : F f = some (a_grown g u s r m)) (hu : F u = some a_put) (hs' : F s = some (a_small g a h)) (hr' : F r = some a_renamed) (hm' : F m = some (a_mixed g)) (hh : F h = some (a_chance a)) (ha : F a = some (a_any g)) (hg : F g = some a_draw)
    (n k : Nat) (hk : k ≤ 50) {sh : List Int} (hsh : ShOk sh) (same : Bool) {st rest : Store} (p : Pool st rest) (ho : Old rest) :
    ∃ rows st', runF F (n + 6) f [.ref 1, .int k, .lst (vI sh), .bl same] st = .ok (.ref (rest.length + 2 + k)) st' ∧ MatAt st' rest rows k := by
  rw [runF_eq hf rfl]
  have c1 : (-1000000 : Int) ≤ (k : Int) ∧ (k : Int) ≤ 1000000 := by omega
  let E : Val → Option Val → Option Val → Option Val → Ev := fun t x y z => [some (.ref 1), some (.int k), some (.lst (vI sh)), some (.bl same), some t, x, y, z]
  let I : Nat → Ev → Store → Prop := fun i env s => ∃ x y z q rows, env = E (.lst (vM rows)) x y z ∧ Tb q rows ∧ q ≤ k ∧ (0 < k → 0 < q) ∧ (i + 1 ≤ q ∨ k ≤ q) ∧ Pool s rest
  have hb : bodyF (runF F (n + 5)) (.nm 5) = bodyF (runF F (n + 5)) (.nm 5) := rfl
  have loop := fun (B : Sxs) (hB : ∀ (i : Nat) (w : Val), (rngV 0 k)[i]? = some w → ∀ env s, I (0 + i) env s → ∃ env' s', bodyF (runF F (n + 5)) (.nm 5) B w env s = .nx env' s' ∧ I (0 + i + 1) (wipe env' []) s') (env : Ev) (s : Store) (h0 : I 0 env s) => forL_inv (f := bodyF (runF F (n + 5)) (.nm 5) B) (clr := []) (I := I) (rngV 0 k) 0 hB env s h0
  have start : ∃ rows q, Tb q rows ∧ q ≤ k ∧ (0 < k → 0 < q) ∧ (1 ≤ q ∨ k ≤ q) ∧ (rows = if 0 < k then [[0]] else []) := by
    by_cases h : 0 < k
    · exact ⟨[[0]], 1, sq_one, by omega, fun _ => by omega, .inl (by omega), by rw [if_pos h]⟩
    · exact ⟨[], 0, sq_nil, by omega, fun e => absurd e h, .inr (by omega), by rw [if_neg h]⟩
  obtain ⟨rows0, q0, t1, t2, t3, t4, t5⟩ := start
  obtain ⟨env', s', e, x, y, z, q, rows, rfl, hq, hqk, _, hfin, ps⟩ := loop (grB g u s) (by
    rintro i w hw env s ⟨x, y, z, q, rows, rfl, hq, hqk, hpos, hprog, ps⟩
    obtain ⟨hi, rfl⟩ := rngV_get hw
    by_cases hlt : q < k
    · obtain ⟨d, s1, e1, p1, d1, d2⟩ := draw_ok hg (n + 4) (if (3 : Int) < (k : Int) - q then 3 else (k : Int) - q) (by split <;> omega) ps
      have hd : 0 ≤ d ∧ d < 3 ∧ d ≤ (k : Int) - q - 1 := by
        split at d1 <;> split at d2 <;> first
          | (by_cases h2 : (k : Int) - q < 2
             · have := d1 h2; omega
             · have := d2 (by omega); omega)
          | (have := d2 (by omega); omega)
          | omega
      obtain ⟨at', s2, e2, p2, b1, b2⟩ := draw_ok hg (n + 4) (q : Int) (by omega) p1
      have hat : 0 ≤ at' ∧ at' < q := by
        have := hpos (by omega)
        by_cases h2 : (q : Int) < 2
        · have := b1 h2; omega
        · exact b2 (by omega)
      obtain ⟨more, s3, e3, p3, sqm⟩ := small_ok hs' hh ha hg (n + 1) (2 + d).toNat (by omega) hsh same p2 ho
      have ed : ((2 + d).toNat : Int) = 2 + d := by omega
      rw [ed] at e3
      obtain ⟨rows', e4, sq4⟩ := put_ok hu q at'.toNat (2 + d).toNat (n + 4) (by omega) (by omega) (by omega) hq sqm p3 ho
      have ea : (at'.toNat : Int) = at' := by omega
      rw [ea] at e4
      refine ⟨E (.lst (vM rows')) (some (.int i)) (some (.int ((k : Int) - q))) (some (.int (2 + d))), s3, ?_, some (.int i), some (.int ((k : Int) - q)), some (.int (2 + d)), q + (2 + d).toNat - 1, rows', rfl, sq4, by omega, fun _ => by omega, by omega, p3⟩
      rw [bodyF_eq rfl]
      have hlt' : (q : Int) < k := by omega
      simp [grB, E, hq.sq.1, hlt', e1, e2, e3, e4]
    · have hlt' : ¬ (q : Int) < k := by omega
      refine ⟨E (.lst (vM rows)) (some (.int i)) (some (.int ((k : Int) - q))) z, s, ?_, some (.int i), some (.int ((k : Int) - q)), z, q, rows, rfl, hq, hqk, hpos, .inr (by omega), ps⟩
      rw [bodyF_eq rfl]
      simp [grB, E, hq.sq.1, hlt']) (E (.lst (vM rows0)) none none none) st ⟨none, none, none, q0, rows0, rfl, t1, t2, t3, t4, p⟩
  rw [rngV_len] at hfin
  have hqk' : q = k := by omega
  subst hqk'
  obtain ⟨ms, s1, e1, p1, hp⟩ := mixed_ok hm' hg (n + 3) ((List.range q).map fun (i : Nat) => (i : Int)) (by simp; omega) ps ho
  obtain ⟨rows', s2, e2, m2, _⟩ := renamed_ok hr' q (n + 4) (by omega) hq (names_of hp) p1
  refine ⟨rows', s2, ?_, m2⟩
  simp only [E, grB] at e
  have hb2 : below st.length (.ref (rest.length + 2 + q)) = false := by simp only [below, decide_eq_false_iff_not, p.len]; omega
  rw [← rng_vI] at e1
  have l0 : s2.length = s2.length := rfl
  by_cases h0 : 0 < q
  · rw [if_pos h0] at t5
    subst t5
    have ev0 : vM [[0]] = [.lst [.int 0]] := rfl
    rw [ev0] at e
    have h0' : (0 : Int) < q := by omega
    simp [a_grown, c1, h0, h0', e, e1, e2, trunc, hb2]
  · rw [if_neg h0] at t5
    subst t5
    have ev0 : vM [] = [] := rfl
    rw [ev0] at e
    have h0' : ¬ (0 : Int) < q := by omega
    have hq0 : q = 0 := by omega
    subst hq0
    simp at e e1 e2
    simp [a_grown, c1, e, e1, e2, trunc, hb2]
end Cp

set_option Elab.async false
set_option linter.all false
set_option maxRecDepth 100000
set_option maxHeartbeats 16000000
/-! CoA11: world. -/
namespace Cp
open Co
open PySem

theorem draw_nat {F : Nat → Option FD} {f : Nat} (hf : F f = some a_draw) (n : Nat) (sz : Int) (size : Nat) (hz : sz = size) (h0 : 0 < size) (hs : size < 1073741824) {st rest : Store} (p : Pool st rest) :
    ∃ (k : Nat) (st' : Store), runF F (n + 1) f [.ref 1, .int sz] st = .ok (.int k) st' ∧ Pool st' rest ∧ k < size := by
  obtain ⟨k, s, e, p', h1, h2⟩ := draw_ok hf n sz (by omega) p
  have hk : 0 ≤ k ∧ k < size := by
    by_cases h : sz < 2
    · have := h1 h; omega
    · have := h2 (by omega); omega
  refine ⟨k.toNat, s, ?_, p', by omega⟩
  rw [e]
  congr 2
  omega
theorem world_ok {F : Nat → Option FD} {f g a h u s r m c o : Nat} (hf : F f = some (a_world a g c h o)) (ho' : F o = some (a_grown g u s r m)) (hc : F c = some (a_shade g a)) (hu : F u = some a_put) (hs' : F s = some (a_small g a h)) (hr' : F r = some a_renamed) (hm' : F m = some (a_mixed g)) (hh : F h = some (a_chance a)) (ha : F a = some (a_any g)) (hg : F g = some a_draw)
    (n most : Nat) (hk : most ≤ 50) (same : Bool) {st rest : Store} (p : Pool st rest) (ho : Old rest) :
    ∃ k rows st', runF F (n + 7) f [.ref 1, .int most, .bl same] st = .ok (.lst (vM rows)) st' ∧ Pool st' rest ∧ Tb k rows ∧ k ≤ most := by
  rw [runF_eq hf rfl]
  obtain ⟨d, s1, e1, p1, b1⟩ := draw_nat hg (n + 5) ((most : Int) + 1) (most + 1) (by omega) (by omega) (by omega) p
  obtain ⟨x, s2, e2, p2, hx⟩ := any_ok ha hg (n + 4) [.int most, .int most, .int d] (by simp) (by simp) _ (.inr rfl) p1
  have hx' : ∃ k : Nat, k ≤ most ∧ x = .int k := by
    simp only [List.mem_cons, List.not_mem_nil, or_false] at hx
    rcases hx with rfl | rfl | rfl
    · exact ⟨most, by omega, rfl⟩
    · exact ⟨most, by omega, rfl⟩
    · exact ⟨d, by omega, rfl⟩
  obtain ⟨k, hkm, rfl⟩ := hx'
  obtain ⟨sh, s3, e3, p3, hsh⟩ := shade_ok hc ha hg (n + 3) p2
  obtain ⟨w, s4, e4, p4, b4⟩ := draw_nat hg (n + 5) 5 5 rfl (by omega) (by omega) p3
  by_cases hw : w = 0
  · subst hw
    obtain ⟨rows, s5, e5, p5, sq⟩ := chance_ok hh ha hg (n + 3) k (by omega) hsh same p4 ho
    refine ⟨k, rows, s5, ?_, p5, sq, hkm⟩
    simp at e4
    simp [a_world, e1, e2, e3, e4, e5, trunc, p.len, p5.len]
  have hw' : ¬ (w : Int) = 0 := by omega
  obtain ⟨rows, s5, e5, m5⟩ := grown_ok ho' hu hs' hr' hm' hh ha hg n k (by omega) hsh same p4 ho
  by_cases hk1 : 1 < k
  · have hk1' : (1 : Int) < (k : Int) := by omega
    obtain ⟨w2, s6, e6, p6, b6⟩ := draw_nat hg (n + 5) 4 4 rfl (by omega) (by omega) m5.pool
    by_cases hw2 : w2 = 0
    · subst hw2
      obtain ⟨x, s7, e7, p7, b7⟩ := draw_nat hg (n + 5) (k : Int) k rfl (by omega) (by omega) p6
      obtain ⟨l, s8, e8, p8, b8⟩ := any_sh ha hg (n + 4) hsh p7
      obtain ⟨y, s9, e9, p9, b9⟩ := draw_nat hg (n + 5) ((k : Int) - 1) (k - 1) (by omega) (by omega) (by omega) p8
      have hmod : binI .mod ((x : Int) + 1 + y) (k : Int) = some (((x + 1 + y) % k : Nat) : Int) := by
        simp only [binI]
        rw [if_pos (by omega)]
        congr 1
      have hyk : (x + 1 + y) % k < k := Nat.mod_lt _ (by omega)
      have hxy : (x + 1 + y) % k ≠ x := by
        rcases Nat.lt_or_ge (x + 1 + y) k with h | h
        · rw [Nat.mod_eq_of_lt h]; omega
        · rw [Nat.mod_eq_sub_mod h, Nat.mod_eq_of_lt (by omega)]; omega
      generalize (x + 1 + y) % k = y2 at hmod hyk hxy
      have m9 := m5.pool' p9
      obtain ⟨r1, t1, _, q1, m10⟩ := m9.put (y := x) (x := y2) (by omega) hyk b8 (fun e => absurd e.symm hxy)
      have a9 := m9.all
      have a10 := m10.all
      cases same with
      | true =>
        obtain ⟨r2, t2, _, q2, m11⟩ := m10.put (y := y2) (x := x) hyk (by omega) b8 (fun e => absurd e hxy)
        obtain ⟨t3, e3', p3'⟩ := m11.frz
        refine ⟨k, _, _, ?_, p3'.take, m11.tb, hkm⟩
        simp at e6
        simp [a_world, e1, e2, e3, e4, hw, e5, hk1', e6, e7, e8, e9, hmod, dr_ref a9, dr_ref a10, refs_atI (m := rest.length + 2) b7, refs_atI (m := rest.length + 2) hyk, q1, q2, e3', p.len, Pool.cut p3' ho (below_vM _ _)]
      | false =>
        obtain ⟨t3, e3', p3'⟩ := m10.frz
        refine ⟨k, _, _, ?_, p3'.take, m10.tb, hkm⟩
        simp at e6
        simp [a_world, e1, e2, e3, e4, hw, e5, hk1', e6, e7, e8, e9, hmod, dr_ref a9, dr_ref a10, refs_atI (m := rest.length + 2) b7, refs_atI (m := rest.length + 2) hyk, q1, e3', p.len, Pool.cut p3' ho (below_vM _ _)]
    · have hw2' : ¬ (w2 : Int) = 0 := by omega
      have m6 := m5.pool' p6
      obtain ⟨t3, e3', p3'⟩ := m6.frz
      refine ⟨k, _, _, ?_, p3'.take, m6.tb, hkm⟩
      simp [a_world, e1, e2, e3, e4, hw, e5, hk1', e6, hw2, e3', p.len, Pool.cut p3' ho (below_vM _ _)]
  · have hk1' : ¬ (1 : Int) < (k : Int) := by omega
    obtain ⟨t3, e3', p3'⟩ := m5.frz
    refine ⟨k, _, _, ?_, p3'.take, m5.tb, hkm⟩
    simp [a_world, e1, e2, e3, e4, hw, e5, hk1', e3', p.len, Pool.cut p3' ho (below_vM _ _)]
end Cp

set_option Elab.async false
set_option linter.all false
set_option maxRecDepth 100000
set_option maxHeartbeats 16000000
/-! CoA12: order, course. -/
namespace Cp
open Co
open PySem

mutual
theorem below_mono {n m : Nat} (h : n ≤ m) : ∀ v : Val, below n v = true → below m v = true
  | .non, _ => rfl
  | .bl _, _ => rfl
  | .int _, _ => rfl
  | .str _, _ => rfl
  | .tup xs, e => by simp only [below] at e ⊢; exact belows_mono h xs e
  | .lst xs, e => by simp only [below] at e ⊢; exact belows_mono h xs e
  | .scr xs, e => by simp only [below] at e ⊢; exact belows_mono h xs e
  | .dct _ xs, e => by simp only [below] at e ⊢; exact belows_mono h xs e
  | .ref i, e => by simp only [below, decide_eq_true_eq] at e ⊢; omega
theorem belows_mono {n m : Nat} (h : n ≤ m) : ∀ vs : List Val, belows n vs = true → belows m vs = true
  | [], _ => rfl
  | x :: xs, e => by
    simp only [belows, Bool.and_eq_true] at e ⊢
    exact ⟨below_mono h x e.1, belows_mono h xs e.2⟩
end
theorem cell_mono {n m : Nat} (h : n ≤ m) (c : Cell) (e : Cell.below n c = true) : Cell.below m c = true := by
  cases c with
  | lst xs => exact belows_mono h xs e
  | dct ks xs => exact belows_mono h xs e
  | dead => rfl
theorem store_mono {n m : Nat} (h : n ≤ m) {st : Store} (e : st.all (Cell.below n) = true) : st.all (Cell.below m) = true := by
  rw [List.all_eq_true] at e ⊢
  exact fun c hc => cell_mono h c (e c hc)
theorem Old.app {rest cs : Store} (h : Old rest) (hc : cs.all (Cell.below (rest.length + cs.length + 2)) = true) : Old (rest ++ cs) := by
  unfold Old at h ⊢
  rw [List.all_append, List.length_append, hc, store_mono (by omega) h]
  rfl
theorem mats_below (n : Nat) (rows : List (List Int)) : (mats rows).all (Cell.below n) = true := by
  rw [List.all_eq_true]
  intro c hc
  obtain ⟨r, _, rfl⟩ := List.mem_map.mp hc
  exact belows_vI n r
theorem refs_below {m k n : Nat} (h : m + k ≤ n) : belows n (refs m k) = true := by
  have : ∀ l : List Nat, (∀ i ∈ l, m + i < n) → belows n (l.map fun i => Val.ref (m + i)) = true := by
    intro l
    induction l with
    | nil => intro _; rfl
    | cons i l ih =>
      intro hl
      simp only [List.map_cons, belows, below, Bool.and_eq_true, decide_eq_true_eq]
      exact ⟨hl i (by simp), ih fun j hj => hl j (by simp [hj])⟩
  exact this _ fun i hi => by have := List.mem_range.mp hi; omega
theorem MatAt.old {s rest : Store} {rows : List (List Int)} {n : Nat} (h : MatAt s rest rows n) (ho : Old rest) : Old (rest ++ mats rows ++ [.lst (refs (rest.length + 2) n)]) := by
  refine Old.app (Old.app ho (mats_below _ _)) ?_
  have hl : (mats rows).length = n := by simp [h.sq.1]
  simp only [List.all_cons, List.all_nil, Bool.and_true, Cell.below, List.length_append, hl, List.length_cons, List.length_nil]
  exact refs_below (by omega)
theorem MatAt.read {s rest : Store} {rows : List (List Int)} {n y x : Nat} (h : MatAt s rest rows n) (hy : y < n) (hx : x < n) : ∃ r v, s[rest.length + 2 + y]? = some (.lst (vI r)) ∧ L2.atI (vI r) (x : Int) = some (.int v) ∧ 0 ≤ v ∧ v < 100 ∧ rows[y]? = some r ∧ r[x]? = some v := by
  obtain ⟨r, h1, h2, h3⟩ := h.row hy
  have hx' : x < r.length := by omega
  have hb := (h.sq.2 r (List.mem_of_getElem? h1)).2 _ (List.getElem_mem hx')
  exact ⟨r, r[x], h3, vI_atI hx', hb.1, hb.2, h1, by simp [hx']⟩
def orB1 (g : Nat) : Sxs := (.cons (.iff (.cmp .lt (.call g [0, 1] (.cons (.var 0) (.cons (.cst (.int 5)) .nil)) .nil) (.var 2)) (.cons (.seti (.idx (.var 5) (.idx (.var 6) (.var 4))) (.idx (.var 6) (.var 3)) (.cst (.int 1)))
    .nil) .nil)
    .nil)
def orB2 : Sxs := (.cons (.iff (.and_ (.cmp .eq (.idx (.idx (.var 5) (.var 3)) (.var 4)) (.cst (.int 1))) (.cmp .eq (.idx (.idx (.var 5) (.var 4)) (.var 7)) (.cst (.int 1)))) (.cons (.seti (.idx (.var 5) (.var 3)) (.var 7) (.cst (.int 1)))
    .nil) .nil)
    .nil)
theorem order_ok {F : Nat → Option FD} {f m a g : Nat} (hf : F f = some (a_order m a g)) (hm' : F m = some (a_mixed g)) (ha : F a = some (a_any g)) (hg : F g = some a_draw) (n k : Nat) (hk : k ≤ 50) {st rest : Store} (p : Pool st rest) (ho : Old rest) :
    ∃ rows st', runF F (n + 3) f [.ref 1, .int k] st = .ok (.lst (vM rows)) st' ∧ Pool st' rest ∧ Tb k rows := by
  rw [runF_eq hf rfl]
  have c1 : (-1000000 : Int) ≤ (k : Int) ∧ (k : Int) ≤ 1000000 := by omega
  obtain ⟨z1, z2⟩ := zeros_ok (cf := runF F (n + 2)) (j := 1) (own := [3]) (env := [some (.ref 1), some (.int k), none, none, none, none, none, none]) (tg := 3) k (by omega) p (by simp)
  have l1 : ¬ LIM < k := by simp only [LIM]; omega
  generalize hzr : List.replicate k (List.replicate k (0 : Int)) = zr at z1 z2
  generalize hst : st ++ mats zr ++ [Cell.lst (refs (rest.length + 2) k)] = st0 at z1 z2
  obtain ⟨ms, s1, e1, p1, hp⟩ := mixed_ok hm' hg n ((List.range k).map fun (i : Nat) => (i : Int)) (by simp; omega) z2.pool (z2.old ho)
  rw [← rng_vI] at e1
  have hn := names_of hp
  obtain ⟨x, s2, e2, p2, hx⟩ := any_ok ha hg n [.int 1, .int 2, .int 4] (by simp) (by simp) _ (.inr rfl) p1
  have hx' : ∃ k : Int, x = .int k := by
    simp only [List.mem_cons, List.not_mem_nil, or_false] at hx
    rcases hx with rfl | rfl | rfl <;> exact ⟨_, rfl⟩
  obtain ⟨sh, rfl⟩ := hx'
  have m2 := z2.pool' p2
  let E : Option Val → Option Val → Option Val → Ev := fun x y z => [some (.ref 1), some (.int k), some (.int sh), x, y, some (.ref (rest.length + 2 + k)), some (.lst (vI ms)), z]
  -- a thing that is ahead stands earlier among the names
  obtain ⟨ps, hps, hpi⟩ : ∃ ps : Nat → Nat, (∀ i, i < k → ps (nmAt ms i) = i) ∧ ∀ x y, ps x < ps y → x ≠ y := by
    refine ⟨fun y => ((List.range k).findIdx fun i => nmAt ms i == y), fun i hi => ?_, fun x y h e => by subst e; omega⟩
    rw [List.findIdx_eq (by simpa using hi)]
    refine ⟨by simp, fun j hj => ?_⟩
    have hjk : j < k := by omega
    simp only [List.getElem_range, beq_eq_false_iff_ne]
    exact fun e => by have := hn.inj hjk hi e; omega
  let Ac : List (List Int) → Prop := fun rows => ∀ x y, x < k → y < k → cel rows x y ≠ 0 → ps x < ps y
  have AcZ : Ac zr := by
    intro x y hx hy hc
    rw [← hzr] at hc
    simp [cel, rowAt, List.getD, hx, hy] at hc
  have AcP : ∀ {rows : List (List Int)} {r : List Int} {y x : Nat}, Ac rows → rows[y]? = some r → x < r.length → ps y < ps x → Ac (rows.set y (r.set x 1)) := by
    intro rows r y x h hr hx hp a b ha hb hc
    rw [cel_set hr hx] at hc
    split at hc
    · rename_i e
      rw [e.1, e.2]; exact hp
    · exact h a b ha hb hc
  let I : Nat → Ev → Store → Prop := fun i env s => ∃ x y z rows, env = E x y z ∧ MatAt s rest rows k ∧ Ac rows
  let Ix : Nat → Nat → Ev → Store → Prop := fun x i env s => ∃ y z rows, env = E (some (.int x)) y z ∧ MatAt s rest rows k ∧ Ac rows
  let Iy : Nat → Nat → Ev → Store → Prop := fun y i env s => ∃ x z rows, env = E x (some (.int y)) z ∧ MatAt s rest rows k ∧ Ac rows
  let Ixy : Nat → Nat → Nat → Ev → Store → Prop := fun x y i env s => ∃ z rows, env = E (some (.int x)) (some (.int y)) z ∧ MatAt s rest rows k ∧ Ac rows
  obtain ⟨env3, s3, e3, x3, y3, w3, rows3, rfl, m3, ac3⟩ := forL_inv (f := bodyF (runF F (n + 2)) (.nm 3) (.cons (.fr (.nm 4) (.rng1 (.var 3)) (orB1 g) []) .nil)) (clr := []) (I := I) (rngV 0 k) 0 (by
    rintro i w hw env s ⟨x, y, z, rows, rfl, hm, ac⟩
    obtain ⟨hi, rfl⟩ := rngV_get hw
    obtain ⟨env', s', e, y', z', rows', rfl, hm', ac'⟩ := forL_inv (f := bodyF (runF F (n + 2)) (.nm 4) (orB1 g)) (clr := []) (I := Ix i) (rngV 0 i) 0 (by
      rintro j w hw env s ⟨y, z, rows, rfl, hm, ac⟩
      obtain ⟨hj, rfl⟩ := rngV_get hw
      obtain ⟨d, t1, d1, dp, _⟩ := draw_nat hg (n + 1) 5 5 rfl (by omega) (by omega) hm.pool
      have m1 := hm.pool' dp
      obtain ⟨b1, a1⟩ := hn.at_ hi
      obtain ⟨b2, a2⟩ := hn.at_ (show j < k by omega)
      have hne : nmAt ms i ≠ nmAt ms j := fun e => by have := hn.inj hi (show j < k by omega) e; omega
      by_cases hlt : (d : Int) < sh
      · obtain ⟨r1, t2, hr1, q1, m4⟩ := m1.put b2 b1 (v := 1) (by omega) (fun e => absurd e.symm hne)
        refine ⟨E (some (.int i)) (some (.int j)) z, t2, ?_, _, _, _, rfl, m4, AcP ac hr1 (by rw [(m1.sq.2 r1 (List.mem_of_getElem? hr1)).1]; exact b1) (by rw [hps j (by omega), hps i hi]; omega)⟩
        rw [bodyF_eq rfl]
        simp [orB1, E, d1, hlt, a1, a2, dr_ref m1.all, refs_atI (m := rest.length + 2) b2, q1]
      · refine ⟨E (some (.int i)) (some (.int j)) z, t1, ?_, _, _, _, rfl, m1, ac⟩
        rw [bodyF_eq rfl]
        simp [orB1, E, d1, hlt]) (E (some (.int i)) y z) s ⟨y, z, rows, rfl, hm, ac⟩
    refine ⟨E (some (.int i)) y' z', s', ?_, _, _, _, _, rfl, hm', ac'⟩
    rw [bodyF_eq rfl]
    have c2 : (-1000000 : Int) ≤ (i : Int) ∧ (i : Int) ≤ 1000000 := by omega
    simp only [E] at e ⊢
    simp [c2, e]) (E none none none) s2 ⟨none, none, none, _, rfl, m2, AcZ⟩
  obtain ⟨env4, s4, e4, x4, y4, w4, rows4, rfl, m4, ac4⟩ := forL_inv (f := bodyF (runF F (n + 2)) (.nm 4) (.cons (.fr (.nm 3) (.rng1 (.var 1)) (.cons (.fr (.nm 7) (.rng1 (.var 1)) orB2 []) .nil) []) .nil)) (clr := []) (I := I) (rngV 0 k) 0 (by
    rintro y w hw env s ⟨x0, y0, z0, rows, rfl, hm, ac⟩
    obtain ⟨hy, rfl⟩ := rngV_get hw
    obtain ⟨env', s', e, x', z', rows', rfl, hm', ac'⟩ := forL_inv (f := bodyF (runF F (n + 2)) (.nm 3) (.cons (.fr (.nm 7) (.rng1 (.var 1)) orB2 []) .nil)) (clr := []) (I := Iy y) (rngV 0 k) 0 (by
      rintro x w hw env s ⟨x1, z1, rows, rfl, hm, ac⟩
      obtain ⟨hx, rfl⟩ := rngV_get hw
      obtain ⟨env', s', e, z', rows', rfl, hm', ac'⟩ := forL_inv (f := bodyF (runF F (n + 2)) (.nm 7) orB2) (clr := []) (I := Ixy x y) (rngV 0 k) 0 (by
        rintro z w hw env s ⟨z1, rows, rfl, hm, ac⟩
        obtain ⟨hz, rfl⟩ := rngV_get hw
        obtain ⟨r1, v1, f1, f2, _, _, g1, g2⟩ := hm.read hx hy
        obtain ⟨r2, v2, f3, f4, _, _, g3, g4⟩ := hm.read hy hz
        by_cases h1 : v1 = 1
        · by_cases h2 : v2 = 1
          · have o1 := ac x y hx hy (by rw [cel_get g1 g2, h1]; decide)
            have o2 := ac y z hy hz (by rw [cel_get g3 g4, h2]; decide)
            obtain ⟨r3, t2, hr3, q1, m4⟩ := hm.put hx hz (v := 1) (by omega) (fun e => absurd e (hpi x z (by omega)))
            refine ⟨E (some (.int x)) (some (.int y)) (some (.int z)), t2, ?_, _, _, rfl, m4, AcP ac hr3 (by rw [(hm.sq.2 r3 (List.mem_of_getElem? hr3)).1]; exact hz) (by omega)⟩
            rw [bodyF_eq rfl]
            simp [orB2, E, dr_ref hm.all, refs_atI (m := rest.length + 2) hx, refs_atI (m := rest.length + 2) hy, dr_ref f1, dr_ref f3, f2, f4, h1, h2, q1]
          · refine ⟨E (some (.int x)) (some (.int y)) (some (.int z)), s, ?_, _, _, rfl, hm, ac⟩
            rw [bodyF_eq rfl]
            simp [orB2, E, dr_ref hm.all, refs_atI (m := rest.length + 2) hx, refs_atI (m := rest.length + 2) hy, dr_ref f1, dr_ref f3, f2, f4, h1, h2]
        · refine ⟨E (some (.int x)) (some (.int y)) (some (.int z)), s, ?_, _, _, rfl, hm, ac⟩
          rw [bodyF_eq rfl]
          simp [orB2, E, dr_ref hm.all, refs_atI (m := rest.length + 2) hx, refs_atI (m := rest.length + 2) hy, dr_ref f1, dr_ref f3, f2, f4, h1]) (E (some (.int x)) (some (.int y)) z1) s ⟨z1, rows, rfl, hm, ac⟩
      refine ⟨E (some (.int x)) (some (.int y)) z', s', ?_, _, _, _, rfl, hm', ac'⟩
      rw [bodyF_eq rfl]
      simp only [E] at e ⊢
      simp [c1, e]) (E x0 (some (.int y)) z0) s ⟨x0, z0, rows, rfl, hm, ac⟩
    refine ⟨E x' (some (.int y)) z', s', ?_, _, _, _, _, rfl, hm', ac'⟩
    rw [bodyF_eq rfl]
    simp only [E] at e ⊢
    simp [c1, e]) (E x3 y3 w3) s3 ⟨x3, y3, w3, _, rfl, m3, ac3⟩
  obtain ⟨t3, e5, p5⟩ := m4.frz
  refine ⟨rows4, _, ?_, p5.take, m4.tb⟩
  simp only [E, orB1, orB2] at e3 e4
  simp [a_order, c1, l1, rngV_len, z1, e1, e2, e3, e4, e5, p.len, Pool.cut p5 ho (below_vM _ _)]
def coB (g : Nat) : Sxs := (.cons (.asg (.nm 7) (.bi .int false (.cons (.cmp .lt (.call g [0, 1] (.cons (.var 0) (.cons (.cst (.int 8)) .nil)) .nil) (.var 2)) .nil)))
    (.cons (.seti (.idx (.var 4) (.idx (.var 5) (.var 3))) (.idx (.var 5) (.var 6)) (.var 7))
    (.cons (.seti (.idx (.var 4) (.idx (.var 5) (.var 6))) (.idx (.var 5) (.var 3)) (.bin .sub false (.cst (.int 1)) (.var 7)))
    .nil)))
theorem course_ok {F : Nat → Option FD} {f m a g : Nat} (hf : F f = some (a_course m a g)) (hm' : F m = some (a_mixed g)) (ha : F a = some (a_any g)) (hg : F g = some a_draw) (n k : Nat) (hk : k ≤ 50) {st rest : Store} (p : Pool st rest) (ho : Old rest) :
    ∃ rows st', runF F (n + 3) f [.ref 1, .int k] st = .ok (.lst (vM rows)) st' ∧ Pool st' rest ∧ Tb k rows := by
  rw [runF_eq hf rfl]
  have c1 : (-1000000 : Int) ≤ (k : Int) ∧ (k : Int) ≤ 1000000 := by omega
  obtain ⟨z1, z2⟩ := zeros_ok (cf := runF F (n + 2)) (j := 1) (own := [3]) (env := [some (.ref 1), some (.int k), none, none, none, none, none, none]) (tg := 3) k (by omega) p (by simp)
  have l1 : ¬ LIM < k := by simp only [LIM]; omega
  generalize hzr : List.replicate k (List.replicate k (0 : Int)) = zr at z1 z2
  generalize hst : st ++ mats zr ++ [Cell.lst (refs (rest.length + 2) k)] = st0 at z1 z2
  obtain ⟨ms, s1, e1, p1, hp⟩ := mixed_ok hm' hg n ((List.range k).map fun (i : Nat) => (i : Int)) (by simp; omega) z2.pool (z2.old ho)
  rw [← rng_vI] at e1
  have hn := names_of hp
  obtain ⟨x, s2, e2, p2, hx⟩ := any_ok ha hg n [.int 0, .int 1, .int 4] (by simp) (by simp) _ (.inr rfl) p1
  have hx' : ∃ k : Int, x = .int k := by
    simp only [List.mem_cons, List.not_mem_nil, or_false] at hx
    rcases hx with rfl | rfl | rfl <;> exact ⟨_, rfl⟩
  obtain ⟨sh, rfl⟩ := hx'
  have m2 := z2.pool' p2
  let E : Option Val → Option Val → Option Val → Ev := fun x y z => [some (.ref 1), some (.int k), some (.int sh), x, some (.ref (rest.length + 2 + k)), some (.lst (vI ms)), y, z]
  let I : Nat → Ev → Store → Prop := fun i env s => ∃ x y z rows, env = E x y z ∧ MatAt s rest rows k
  let Ix : Nat → Nat → Ev → Store → Prop := fun x i env s => ∃ y z rows, env = E (some (.int x)) y z ∧ MatAt s rest rows k
  obtain ⟨env3, s3, e3, x3, y3, w3, rows3, rfl, m3⟩ := forL_inv (f := bodyF (runF F (n + 2)) (.nm 3) (.cons (.fr (.nm 6) (.rng1 (.var 3)) (coB g) []) .nil)) (clr := []) (I := I) (rngV 0 k) 0 (by
    rintro i w hw env s ⟨x, y, z, rows, rfl, hm⟩
    obtain ⟨hi, rfl⟩ := rngV_get hw
    obtain ⟨env', s', e, y', z', rows', rfl, hm'⟩ := forL_inv (f := bodyF (runF F (n + 2)) (.nm 6) (coB g)) (clr := []) (I := Ix i) (rngV 0 i) 0 (by
      rintro j w hw env s ⟨y, z, rows, rfl, hm⟩
      obtain ⟨hj, rfl⟩ := rngV_get hw
      obtain ⟨d, t1, d1, dp, _⟩ := draw_nat hg (n + 1) 8 8 rfl (by omega) (by omega) hm.pool
      have m1 := hm.pool' dp
      obtain ⟨b1, a1⟩ := hn.at_ hi
      obtain ⟨b2, a2⟩ := hn.at_ (show j < k by omega)
      have hne : nmAt ms i ≠ nmAt ms j := fun e => by have := hn.inj hi (show j < k by omega) e; omega
      by_cases hlt : (d : Int) < sh
      · obtain ⟨r1, t2, _, q1, m4⟩ := m1.put b1 b2 (v := 1) (by omega) (fun e => absurd e hne)
        obtain ⟨r2, t3, _, q2, m5⟩ := m4.put b2 b1 (v := 0) (by omega) (fun e => absurd e.symm hne)
        refine ⟨E (some (.int i)) (some (.int j)) (some (.int 1)), t3, ?_, _, _, _, rfl, m5⟩
        rw [bodyF_eq rfl]
        simp [coB, E, d1, hlt, a1, a2, dr_ref m1.all, dr_ref m4.all, refs_atI (m := rest.length + 2) b1, refs_atI (m := rest.length + 2) b2, q1, q2]
      · obtain ⟨r1, t2, _, q1, m4⟩ := m1.put b1 b2 (v := 0) (by omega) (fun e => absurd e hne)
        obtain ⟨r2, t3, _, q2, m5⟩ := m4.put b2 b1 (v := 1) (by omega) (fun e => absurd e.symm hne)
        refine ⟨E (some (.int i)) (some (.int j)) (some (.int 0)), t3, ?_, _, _, _, rfl, m5⟩
        rw [bodyF_eq rfl]
        simp [coB, E, d1, hlt, a1, a2, dr_ref m1.all, dr_ref m4.all, refs_atI (m := rest.length + 2) b1, refs_atI (m := rest.length + 2) b2, q1, q2]) (E (some (.int i)) y z) s ⟨y, z, rows, rfl, hm⟩
    refine ⟨E (some (.int i)) y' z', s', ?_, _, _, _, _, rfl, hm'⟩
    rw [bodyF_eq rfl]
    have c2 : (-1000000 : Int) ≤ (i : Int) ∧ (i : Int) ≤ 1000000 := by omega
    simp only [E] at e ⊢
    simp [c2, e]) (E none none none) s2 ⟨none, none, none, _, rfl, m2⟩
  obtain ⟨t3, e5, p5⟩ := m3.frz
  refine ⟨rows3, _, ?_, p5.take, m3.tb⟩
  simp only [E, coB] at e3
  simp [a_course, c1, l1, rngV_len, z1, e1, e2, e3, e5, p.len, Pool.cut p5 ho (below_vM _ _)]
end Cp

set_option Elab.async false
set_option linter.all false
set_option maxRecDepth 100000
set_option maxHeartbeats 16000000
/-! CoA13: lots, tables as values, loops that search; general. -/
namespace Cp
open Co
open PySem

def vN (ns : List Nat) : List Val := ns.map fun (i : Nat) => .int (i : Int)
@[scoped simp] theorem vN_len (ns : List Nat) : (vN ns).length = ns.length := by simp [vN]
theorem vN_vI (ns : List Nat) : vN ns = vI (ns.map fun (i : Nat) => (i : Int)) := by simp [vN, vI, Function.comp_def]
def vMt (rows : List (List Int)) : List Val := rows.map fun r => .tup (vI r)
@[scoped simp] theorem vMt_len (rows : List (List Int)) : (vMt rows).length = rows.length := by simp [vMt]
/-- a table of the package -/
def vT (rows : List (List Int)) : Val := .tup [.int rows.length, .tup (vMt rows)]
theorem Sq.row {n : Nat} {rows : List (List Int)} (h : Sq n rows) {x : Nat} (hx : x < n) : L2.atI (vM rows) (x : Int) = some (.lst (vI (rowAt rows x))) := by
  have h1 : x < rows.length := by rw [h.1]; exact hx
  rw [atI_nat' (by simpa using h1)]
  simp [vM, rowAt, List.getD, h1]
theorem Sq.rowt {n : Nat} {rows : List (List Int)} (h : Sq n rows) {x : Nat} (hx : x < n) : L2.atI (vMt rows) (x : Int) = some (.tup (vI (rowAt rows x))) := by
  have h1 : x < rows.length := by rw [h.1]; exact hx
  rw [atI_nat' (by simpa using h1)]
  simp [vMt, rowAt, List.getD, h1]
theorem Sq.rowLen {n : Nat} {rows : List (List Int)} (h : Sq n rows) {x : Nat} (hx : x < n) : (rowAt rows x).length = n := by
  have h1 : x < rows.length := by rw [h.1]; exact hx
  have : rowAt rows x = rows[x] := by simp [rowAt, List.getD, h1]
  rw [this]
  exact (h.2 _ (List.getElem_mem h1)).1
theorem Sq.cel {n : Nat} {rows : List (List Int)} (h : Sq n rows) {x y : Nat} (hx : x < n) (hy : y < n) : L2.atI (vI (rowAt rows x)) (y : Int) = some (.int (cel rows x y)) := by
  have h1 := h.rowLen hx
  rw [vI_atI (by omega)]
  simp [Cp.cel, List.getD, h1, hy]
theorem Sq.bd {n : Nat} {rows : List (List Int)} (h : Sq n rows) {x y : Nat} (hx : x < n) (hy : y < n) : 0 ≤ Cp.cel rows x y ∧ Cp.cel rows x y < 100 := by
  have h1 : x < rows.length := by rw [h.1]; exact hx
  have h2 := h.rowLen hx
  have e : rowAt rows x = rows[x] := by simp [rowAt, List.getD, h1]
  have : Cp.cel rows x y ∈ rows[x] := by
    unfold Cp.cel
    rw [e] at h2 ⊢
    simp [List.getD, h2, hy]
  exact (h.2 _ (List.getElem_mem h1)).2 _ this
theorem vN_atI {ns : List Nat} {i : Nat} (h : i < ns.length) : L2.atI (vN ns) (i : Int) = some (.int (ns[i] : Nat)) := by
  rw [atI_nat' (by simpa using h)]
  simp [vN]
/-- in -/
theorem vN_flat (ns : List Nat) : (vN ns).all flat = true := by
  rw [List.all_eq_true]
  intro x hx
  obtain ⟨i, _, rfl⟩ := List.mem_map.mp hx
  rfl
theorem hasIn_vN (i : Nat) (ns : List Nat) : hasIn (.int i) (vN ns) = decide (i ∈ ns) := by
  unfold hasIn vN
  rw [List.any_map]
  induction ns with
  | nil => rfl
  | cons n ns ih =>
    rw [List.any_cons, ih]
    have : ((fun y => veq y (Val.int (i : Int))) ∘ fun (i : Nat) => Val.int (i : Int)) n = decide (i = n) := by
      simp only [Function.comp_apply, veq, toPy, PyData.eqv]
      by_cases h : i = n
      · subst h; simp
      · have : ¬ ((n : Int) = (i : Int)) := by omega
        simp [h, this]
    rw [this]
    simp [List.mem_cons, Bool.decide_or]
@[scoped simp] theorem in_tN (i : Nat) (ns : List Nat) : cmpv .isin (.int i) (.tup (vN ns)) = some (decide (i ∈ ns)) := by
  simp only [cmpv, vN_flat, hasIn_vN]
  simp [flat]
@[scoped simp] theorem notin_tN (i : Nat) (ns : List Nat) : cmpv .notin (.int i) (.tup (vN ns)) = some (!decide (i ∈ ns)) := by
  simp only [cmpv, vN_flat, hasIn_vN]
  simp [flat]
@[scoped simp] theorem in_lN (i : Nat) (ns : List Nat) : cmpv .isin (.int i) (.lst (vN ns)) = some (decide (i ∈ ns)) := by
  simp only [cmpv, vN_flat, hasIn_vN]
  simp [flat]
@[scoped simp] theorem notin_lN (i : Nat) (ns : List Nat) : cmpv .notin (.int i) (.lst (vN ns)) = some (!decide (i ∈ ns)) := by
  simp only [cmpv, vN_flat, hasIn_vN]
  simp [flat]
def isNonV : Val → Bool
  | .non => true
  | _ => false
@[scoped simp] theorem isn_non (v : Val) : cmpv .isn v .non = some (isNonV v) := by cases v <;> rfl
@[scoped simp] theorem notn_non (v : Val) : cmpv .notn v .non = some (!isNonV v) := by cases v <;> rfl
@[scoped simp] theorem isNonV_non : isNonV .non = true := Eq.trans rfl rfl
@[scoped simp] theorem isNonV_tup (xs : List Val) : isNonV (.tup xs) = false := Eq.trans rfl rfl
@[scoped simp] theorem isNonV_lst (xs : List Val) : isNonV (.lst xs) = false := Eq.trans rfl rfl
@[scoped simp] theorem isNonV_int (i : Int) : isNonV (.int i) = false := Eq.trans rfl rfl
@[scoped simp] theorem isNonV_bl (i : Bool) : isNonV (.bl i) = false := Eq.trans rfl rfl
@[scoped simp] theorem isNonV_str (i : Str) : isNonV (.str i) = false := Eq.trans rfl rfl
/-- slices -/
theorem cut_tail (xs : List Val) (k : Nat) : cut xs (some (k : Int)) none = xs.drop k := by
  unfold cut
  rw [HT.sIx_none, HT.sIx_nat]
  by_cases h : k ≤ xs.length
  · rw [Nat.min_eq_left h]
    exact List.take_of_length_le (by simp)
  · rw [Nat.min_eq_right (by omega), Nat.sub_self, List.take_zero, List.drop_of_length_le (by omega)]
theorem cut_head (xs : List Val) (k : Nat) : cut xs none (some (k : Int)) = xs.take k := by
  unfold cut
  rw [HT.sIx_none, HT.sIx_nat, List.drop_zero, Nat.sub_zero]
  by_cases h : k ≤ xs.length
  · rw [Nat.min_eq_left h]
  · rw [Nat.min_eq_right (by omega), List.take_length, List.take_of_length_le (by omega)]
theorem vN_drop (ns : List Nat) (k : Nat) : (vN ns).drop k = vN (ns.drop k) := by simp [vN, List.map_drop]
theorem vN_take (ns : List Nat) (k : Nat) : (vN ns).take k = vN (ns.take k) := by simp [vN, List.map_take]
theorem enumV_map {α : Type} (e : α → Val) : ∀ (xs : List α) (k : Nat), enumV k (xs.map e) = (xs.zipIdx k).map fun (p : α × Nat) => Val.tup [.int (p.2 : Nat), e p.1]
  | [], _ => rfl
  | x :: xs, k => by
    rw [List.map_cons, enumV, enumV_map e xs (k + 1), List.zipIdx_cons, List.map_cons]
/-- a loop that searches; the store stays -/
theorem forL_find {α : Type} {f : Val → Ev → Store → RS} {clr : List Nat} {I : Ev → Prop} {st : Store} (e : α → Val) (g : α → Option Val) : ∀ (xs : List α), (∀ x ∈ xs, ∀ env, I env → (∃ v, g x = some v ∧ f (e x) env st = .ret v st) ∨ (g x = none ∧ ∃ env', (f (e x) env st = .nx env' st ∨ f (e x) env st = .ct env' st) ∧ I (wipe env' clr))) → ∀ env, I env →
    (∃ v, xs.findSome? g = some v ∧ forL f clr (xs.map e) env st = .ret v st) ∨ (xs.findSome? g = none ∧ ∃ env', forL f clr (xs.map e) env st = .nx env' st ∧ I env')
  | [], _, env, h => .inr ⟨rfl, env, rfl, h⟩
  | x :: xs, hf, env, h => by
    rcases hf x (by simp) env h with ⟨v, g1, e1⟩ | ⟨g1, env1, e1, i1⟩
    · exact .inl ⟨v, by simp [List.findSome?_cons, g1], by simp only [List.map_cons, forL, e1]⟩
    · have e3 : forL f clr ((x :: xs).map e) env st = forL f clr (xs.map e) (wipe env1 clr) st := by
        rcases e1 with e1 | e1 <;> simp only [List.map_cons, forL, e1]
      rcases forL_find e g xs (fun y hy => hf y (by simp [hy])) _ i1 with ⟨v, g2, e2⟩ | ⟨g2, env2, e2, i2⟩
      · exact .inl ⟨v, by simp [List.findSome?_cons, g1, g2], e3.trans e2⟩
      · exact .inr ⟨by simp [List.findSome?_cons, g1, g2], env2, e3.trans e2, i2⟩
theorem forL_foldI {α β : Type} {f : Val → Ev → Store → RS} {clr : List Nat} {I : β → Ev → Prop} {st : Store} (e : α → Val) (g : β → α → β) : ∀ (xs : List α), (∀ x ∈ xs, ∀ b env, I b env → ∃ env', f (e x) env st = .nx env' st ∧ I (g b x) (wipe env' clr)) → ∀ b env, I b env →
    ∃ env', forL f clr (xs.map e) env st = .nx env' st ∧ I (xs.foldl g b) env'
  | [], _, b, env, h => ⟨env, rfl, h⟩
  | x :: xs, hf, b, env, h => by
    obtain ⟨env1, e1, i1⟩ := hf x (by simp) b env h
    obtain ⟨env2, e2, i2⟩ := forL_foldI e g xs (fun y hy => hf y (by simp [hy])) _ _ i1
    exact ⟨env2, by simp only [List.map_cons, forL, e1, e2], i2⟩
theorem rngV_map (n : Nat) : rngV 0 n = (List.range n).map fun (i : Nat) => Val.int (i : Int) := by simp [rngV]
/-- comprehensions over what is mapped -/
theorem compL_via {α : Type} {f : Val → Store → R (Option Val)} {st : Store} (e : α → Val) (g : α → Option Val) (xs : List α) (h : ∀ x ∈ xs, f (e x) st = .ok (g x) st) : compL f (xs.map e) st = .ok (xs.filterMap g) st := by
  induction xs with
  | nil => rfl
  | cons x xs ih =>
    have ih := ih fun y hy => h y (by simp [hy])
    simp only [List.map_cons, compL, h x (by simp), ih, R.bind_ok, List.filterMap_cons]
    cases g x <;> rfl
theorem bls_map (bs : List Bool) : bls? (bs.map .bl) = some bs := by
  induction bs with
  | nil => rfl
  | cons b bs ih => simp only [List.map_cons, bls?, ih, Option.map_some]
@[scoped simp] theorem biv_any {α : Type} (p : α → Bool) (xs : List α) (lv : Bool) (st : Store) : biv .any lv [.lst (xs.map fun x => .bl (p x))] st = .ok (.bl (xs.any p)) st := by
  have := bls_map (xs.map p)
  rw [List.map_map] at this
  simp only [biv, dr, Function.comp_def] at this ⊢
  rw [this]
  simp [List.any_map, Function.comp_def]
@[scoped simp] theorem biv_all {α : Type} (p : α → Bool) (xs : List α) (lv : Bool) (st : Store) : biv .all lv [.lst (xs.map fun x => .bl (p x))] st = .ok (.bl (xs.all p)) st := by
  have := bls_map (xs.map p)
  rw [List.map_map] at this
  simp only [biv, dr, Function.comp_def] at this ⊢
  rw [this]
  simp [List.all_map, Function.comp_def]
@[scoped simp] theorem biv_tupl (lv : Bool) (xs : List Val) (st : Store) : biv .tuple lv [.lst xs] st = .ok (.tup xs) st := Eq.trans rfl rfl
@[scoped simp] theorem biv_tupt (lv : Bool) (xs : List Val) (st : Store) : biv .tuple lv [.tup xs] st = .ok (.tup xs) st := Eq.trans rfl rfl
end Cp

set_option Elab.async false
set_option linter.all false
set_option maxRecDepth 100000
set_option maxHeartbeats 16000000
/-! CoA14: pieces and what tells apart. -/
namespace Cp
open Co
open PySem

def apartB (rows : List (List Int)) (z x y : Nat) : Bool := (!decide (cel rows z x = cel rows z y)) || (!decide (cel rows x z = cel rows y z))
theorem parts_two_ok {F : Nat → Option FD} {f : Nat} (hf : F f = some p_parts_two) {n : Nat} {rows : List (List Int)} (h : Sq n rows) {z x y : Nat} (hz : z < n) (hx : x < n) (hy : y < n) (j : Nat) (st : Store) :
    runF F (j + 1) f [.tup (vMt rows), .int z, .int x, .int y] st = .ok (.bl (apartB rows z x y)) st := by
  rw [runF_eq hf rfl]
  simp [p_parts_two, h.rowt hz, h.rowt hx, h.rowt hy, h.cel hz hx, h.cel hz hy, h.cel hx hz, h.cel hy hz, apartB]
/-- a lot: things of a size, ascending -/
def Lot (n : Nat) (l : List Nat) : Prop := l.Pairwise (· < ·) ∧ ∀ x ∈ l, x < n
def vTr : Nat × Nat × Nat → Val := fun t => .tup [.int (t.1 : Nat), .int (t.2.1 : Nat), .int (t.2.2 : Nat)]
def vTro : Option (Nat × Nat × Nat) → Val
  | none => .non
  | some t => vTr t
def tellL (n : Nat) (rows : List (List Int)) (lot : List Nat) : Option (Nat × Nat × Nat) :=
  (List.range n).findSome? fun z => lot.findSome? fun x => lot.findSome? fun y => if z ∉ lot ∧ x < y ∧ apartB rows z x y = true then some (z, x, y) else none
theorem findSome_map {α β γ : Type} (xs : List α) (g : α → Option β) (e : β → γ) : xs.findSome? (fun x => (g x).map e) = (xs.findSome? g).map e := by
  induction xs with
  | nil => rfl
  | cons x xs ih =>
    rw [List.findSome?_cons, List.findSome?_cons]
    cases g x with
    | none => exact ih
    | some b => rfl
theorem law_telling_ok {F : Nat → Option FD} {f : Nat} (hf : F f = some a_telling) {n : Nat} {rows : List (List Int)} (h : Sq n rows) (hn : n ≤ 1000) {lot : List Nat} (hl : ∀ x ∈ lot, x < n) (j : Nat) (st : Store) :
    runF F (j + 1) f [.lst (vM rows), .tup (vN lot)] st = .ok (vTro (tellL n rows lot)) st := by
  rw [runF_eq hf rfl]
  have c1 : (-1000000 : Int) ≤ (n : Int) ∧ (n : Int) ≤ 1000000 := by omega
  let E : Option Val → Option Val → Option Val → Ev := fun x y z => [some (.lst (vM rows)), some (.tup (vN lot)), x, y, z]
  let B : Sxs := (.cons (.iff (.and_ (.cmp .notin (.var 2) (.var 1)) (.and_ (.cmp .lt (.var 3) (.var 4)) (.or_ (.cmp .ne (.idx (.idx (.var 0) (.var 2)) (.var 3)) (.idx (.idx (.var 0) (.var 2)) (.var 4))) (.cmp .ne (.idx (.idx (.var 0) (.var 3)) (.var 2)) (.idx (.idx (.var 0) (.var 4)) (.var 2)))))) (.cons (.ret (.tup (.cons (.var 2) (.cons (.var 3) (.cons (.var 4) .nil)))))
    .nil) .nil)
    .nil)
  have main := forL_find (f := bodyF (runF F j) (.nm 2) (.cons (.fr (.nm 3) (.seq (.var 1)) (.cons (.fr (.nm 4) (.seq (.var 1)) B []) .nil) []) .nil)) (clr := []) (I := fun env => ∃ x y z, env = E x y z) (st := st) (fun (i : Nat) => Val.int (i : Int))
    (fun z => lot.findSome? fun x => lot.findSome? fun y => (if z ∉ lot ∧ x < y ∧ apartB rows z x y = true then some (z, x, y) else none).map vTr) (List.range n) (by
      rintro z hz env ⟨x0, y0, z0, rfl⟩
      have hz : z < n := List.mem_range.mp hz
      have lx := forL_find (f := bodyF (runF F j) (.nm 3) (.cons (.fr (.nm 4) (.seq (.var 1)) B []) .nil)) (clr := []) (I := fun env => ∃ y z', env = E (some (.int z)) y z') (st := st) (fun (i : Nat) => Val.int (i : Int))
        (fun x => lot.findSome? fun y => (if z ∉ lot ∧ x < y ∧ apartB rows z x y = true then some (z, x, y) else none).map vTr) lot (by
          rintro x hx env ⟨y0, z0, rfl⟩
          have hx' := hl x hx
          have ly := forL_find (f := bodyF (runF F j) (.nm 4) B) (clr := []) (I := fun env => ∃ z', env = E (some (.int z)) (some (.int x)) z') (st := st) (fun (i : Nat) => Val.int (i : Int))
            (fun y => (if z ∉ lot ∧ x < y ∧ apartB rows z x y = true then some (z, x, y) else none).map vTr) lot (by
              rintro y hy env ⟨z0, rfl⟩
              have hy' := hl y hy
              rw [bodyF_eq rfl]
              have hb : execSs (runF F j) B ((E (some (.int z)) (some (.int x)) z0).set 4 (some (.int y))) st = if ((!decide (z ∈ lot)) && (decide (x < y) && apartB rows z x y)) = true then .ret (vTr (z, x, y)) st else .nx (E (some (.int z)) (some (.int x)) (some (.int y))) st := by
                simp [B, E, h.row hz, h.row hx', h.row hy', h.cel hz hx', h.cel hz hy', h.cel hx' hz, h.cel hy' hz, apartB, vTr]
              rw [hb]
              by_cases hc : ((!decide (z ∈ lot)) && (decide (x < y) && apartB rows z x y)) = true
              · exact .inl ⟨vTr (z, x, y), by simp at hc; simp [hc], if_pos hc⟩
              · exact .inr ⟨by simp at hc; simpa using hc, _, .inl (if_neg hc), _, rfl⟩) (E (some (.int z)) (some (.int x)) z0) ⟨z0, rfl⟩
          rw [bodyF_eq rfl]
          rcases ly with ⟨v, g1, e1⟩ | ⟨g1, env1, e1, z1, rfl⟩
          · refine .inl ⟨v, g1, ?_⟩
            simp only [E, vN] at e1 ⊢
            simp [e1]
          · refine .inr ⟨g1, _, ?_, some (.int x), z1, rfl⟩
            simp only [E, vN] at e1 ⊢
            simp [e1]) (E (some (.int z)) y0 z0) ⟨y0, z0, rfl⟩
      rw [bodyF_eq rfl]
      rcases lx with ⟨v, g1, e1⟩ | ⟨g1, env1, e1, y1, z1, rfl⟩
      · refine .inl ⟨v, g1, ?_⟩
        simp only [E, vN] at e1 ⊢
        simp [e1]
      · refine .inr ⟨g1, _, ?_, some (.int z), y1, z1, rfl⟩
        simp only [E, vN] at e1 ⊢
        simp [e1]) (E none none none) ⟨none, none, none, rfl⟩
  simp only [findSome_map] at main
  rcases main with ⟨v, g1, e1⟩ | ⟨g1, env1, e1, x1, y1, z1, rfl⟩
  · have : vTro (tellL n rows lot) = v := by
      unfold tellL
      cases q : (List.range n).findSome? fun z => lot.findSome? fun x => lot.findSome? fun y => if z ∉ lot ∧ x < y ∧ apartB rows z x y = true then some (z, x, y) else none with
      | none => rw [q] at g1; cases g1
      | some t => rw [q] at g1; cases g1; rfl
    rw [this]
    simp only [E, B] at e1
    simp [a_telling, h.1, c1, rngV_map, e1]
  · have : tellL n rows lot = none := by
      unfold tellL
      simpa using g1
    rw [this]
    simp only [E, B] at e1
    simp [a_telling, h.1, c1, rngV_map, e1, vTro]
end Cp

set_option Elab.async false
set_option linter.all false
set_option maxRecDepth 100000
set_option maxHeartbeats 16000000
/-! CoA15: tables, turned ones, telling and is_piece of the package. -/
namespace Cp
open Co
open PySem

theorem compL_mapv {α : Type} {f : Val → Store → R (Option Val)} {st : Store} (e : α → Val) (g : α → Val) (xs : List α) (h : ∀ x ∈ xs, f (e x) st = .ok (some (g x)) st) : compL f (xs.map e) st = .ok (xs.map g) st := compL_to e g xs h
theorem law_table_ok {F : Nat → Option FD} {f : Nat} (hf : F f = some a_table) {rows : List (List Int)} (hn : rows.length ≤ 1000) (j : Nat) (st : Store) :
    runF F (j + 1) f [.lst (vM rows)] st = .ok (vT rows) st := by
  rw [runF_eq hf rfl]
  have l1 : ¬ LIM < rows.length := by simp only [LIM]; omega
  have e : ∀ env, compL (turnP (runF F j) (.bi .tuple false (.cons (.var 1) .nil)) (.nm 1) (.cst (.bl true)) [some (.lst (vM rows)), env] [1]) (vM rows) st = .ok (vMt rows) st := fun env => by
    refine compL_mapv (fun r => Val.lst (vI r)) (fun r => Val.tup (vI r)) rows fun r _ => ?_
    rw [turnP_eq rfl]
    simp
  simp [a_table, l1, e, vT]
def turnR (n : Nat) (rows : List (List Int)) : List (List Int) := (List.range n).map fun x => (List.range n).map fun y => cel rows y x
theorem turned_ok {F : Nat → Option FD} {f : Nat} (hf : F f = some p_turned) {n : Nat} {rows : List (List Int)} (h : Sq n rows) (hn : n ≤ 1000) (j : Nat) (st : Store) :
    runF F (j + 1) f [vT rows] st = .ok (vT (turnR n rows)) st := by
  rw [runF_eq hf rfl]
  have c1 : (-1000000 : Int) ≤ (n : Int) ∧ (n : Int) ≤ 1000000 := by omega
  have l1 : ¬ LIM < n := by simp only [LIM]; omega
  have inner : ∀ (x : Nat) (w : Option Val), x < n → compL (turnP (runF F j) (.idx (.idx (.var 2) (.var 4)) (.var 3)) (.nm 4) (.cst (.bl true)) [some (vT rows), some (.int n), some (.tup (vMt rows)), some (.int x), w] [4]) (rngV 0 n) st = .ok ((List.range n).map fun y => Val.int (cel rows y x)) st := fun x w hx => by
    refine compL_rng (fun y => Val.int (cel rows y x)) fun y hy => ?_
    rw [turnP_eq rfl]
    simp [h.rowt hy, h.cel hy hx]
  have outer : compL (turnP (runF F j) (.bi .tuple false (.cons (.lc false (.idx (.idx (.var 2) (.var 4)) (.var 3)) (.nm 4) (.rng1 (.var 1)) (.cst (.bl true)) [4]) .nil)) (.nm 3) (.cst (.bl true)) [some (vT rows), some (.int n), some (.tup (vMt rows)), none, none] [3]) (rngV 0 n) st = .ok ((List.range n).map fun x => Val.tup ((List.range n).map fun y => Val.int (cel rows y x))) st := by
    refine compL_rng (fun x => Val.tup ((List.range n).map fun y => Val.int (cel rows y x))) fun x hx => ?_
    rw [turnP_eq rfl]
    simp [c1, l1, rngV_len, inner x none hx]
  have ev : vT rows = .tup [.int n, .tup (vMt rows)] := by rw [vT, h.1]
  rw [ev] at outer ⊢
  simp [p_turned, c1, l1, rngV_len, outer]
  simp [vT, turnR, vMt, vI, Function.comp_def]
theorem turn_sq {n : Nat} {rows : List (List Int)} (h : Sq n rows) : Sq n (turnR n rows) := by
  refine ⟨by simp [turnR], fun r hr => ?_⟩
  obtain ⟨x, hx, rfl⟩ := List.mem_map.mp hr
  refine ⟨by simp, fun v hv => ?_⟩
  obtain ⟨y, hy, rfl⟩ := List.mem_map.mp hv
  exact h.bd (List.mem_range.mp hy) (List.mem_range.mp hx)
theorem turn_cel {n : Nat} {rows : List (List Int)} {x y : Nat} (hx : x < n) (hy : y < n) : cel (turnR n rows) x y = cel rows y x := by
  simp [turnR, cel, rowAt, List.getD, hx, hy]
def tellP (n : Nat) (rows : List (List Int)) (lot : List Nat) : Option (Nat × Nat × Nat) :=
  (List.range n).findSome? fun z => if z ∈ lot then none else lot.zipIdx.findSome? fun p => (lot.drop (p.2 + 1)).findSome? fun y => if apartB rows z p.1 y = true then some (z, p.1, y) else none
theorem telling_ok {F : Nat → Option FD} {f q : Nat} (hf : F f = some (p_telling q)) (hq : F q = some p_parts_two) {n : Nat} {rows : List (List Int)} (h : Sq n rows) (hn : n ≤ 1000) {lot : List Nat} (hl : ∀ x ∈ lot, x < n) (j : Nat) (st : Store) :
    runF F (j + 2) f [vT rows, .tup (vN lot)] st = .ok (vTro (tellP n rows lot)) st := by
  rw [runF_eq hf rfl]
  have c1 : (-1000000 : Int) ≤ (n : Int) ∧ (n : Int) ≤ 1000000 := by omega
  have ev : vT rows = .tup [.int n, .tup (vMt rows)] := by rw [vT, h.1]
  let E : Option Val → Option Val → Option Val → Option Val → Ev := fun x y z w => [some (vT rows), some (.tup (vN lot)), x, some (.int n), some (.tup (vMt rows)), y, z, w]
  let B : Sxs := (.cons (.iff (.call q [0, 1, 2, 3] (.cons (.var 4) (.cons (.var 2) (.cons (.var 6) (.cons (.var 7) .nil)))) .nil) (.cons (.ret (.tup (.cons (.var 2) (.cons (.var 6) (.cons (.var 7) .nil)))))
    .nil) .nil)
    .nil)
  have main := forL_find (f := bodyF (runF F (j + 1)) (.nm 2) (.cons (.iff (.cmp .isin (.var 2) (.var 1)) (.cons .cont
    .nil) .nil)
    (.cons (.fr (.tp [5, 6]) (.enm (.var 1)) (.cons (.fr (.nm 7) (.seq (.slc false (.var 1) (.bin .add false (.var 5) (.cst (.int 1))) (.cst .non))) B [])
    .nil) [])
    .nil))) (clr := []) (I := fun env => ∃ x y z w, env = E x y z w) (st := st) (fun (i : Nat) => Val.int (i : Int))
    (fun z => if z ∈ lot then none else lot.zipIdx.findSome? fun p => (lot.drop (p.2 + 1)).findSome? fun y => (if apartB rows z p.1 y = true then some (z, p.1, y) else none).map vTr) (List.range n) (by
      rintro z hz env ⟨x0, y0, z0, w0, rfl⟩
      have hz : z < n := List.mem_range.mp hz
      rw [bodyF_eq rfl]
      by_cases hzl : z ∈ lot
      · refine .inr ⟨by simp [hzl], E (some (.int z)) y0 z0 w0, .inr ?_, _, _, _, _, rfl⟩
        simp [E, hzl]
      have lx := forL_find (f := bodyF (runF F (j + 1)) (.tp [5, 6]) (.cons (.fr (.nm 7) (.seq (.slc false (.var 1) (.bin .add false (.var 5) (.cst (.int 1))) (.cst .non))) B [])
    .nil)) (clr := []) (I := fun env => ∃ y z' w, env = E (some (.int z)) y z' w) (st := st) (fun (p : Nat × Nat) => Val.tup [.int (p.2 : Nat), .int (p.1 : Nat)])
        (fun p => (lot.drop (p.2 + 1)).findSome? fun y => (if apartB rows z p.1 y = true then some (z, p.1, y) else none).map vTr) lot.zipIdx (by
          rintro ⟨x, i⟩ hx env ⟨y0, z0, w0, rfl⟩
          have hx' := hl x (List.fst_mem_of_mem_zipIdx hx)
          have ly := forL_find (f := bodyF (runF F (j + 1)) (.nm 7) B) (clr := []) (I := fun env => ∃ w, env = E (some (.int z)) (some (.int i)) (some (.int x)) w) (st := st) (fun (i : Nat) => Val.int (i : Int))
            (fun y => (if apartB rows z x y = true then some (z, x, y) else none).map vTr) (lot.drop (i + 1)) (by
              rintro y hy env ⟨w0, rfl⟩
              have hy' := hl y (List.mem_of_mem_drop hy)
              rw [bodyF_eq rfl]
              have hb : execSs (runF F (j + 1)) B ((E (some (.int z)) (some (.int i)) (some (.int x)) w0).set 7 (some (.int y))) st = if apartB rows z x y = true then .ret (vTr (z, x, y)) st else .nx (E (some (.int z)) (some (.int i)) (some (.int x)) (some (.int y))) st := by
                simp [B, E, parts_two_ok hq h hz hx' hy', vTr]
              rw [hb]
              by_cases hc : apartB rows z x y = true
              · exact .inl ⟨vTr (z, x, y), by simp [hc], if_pos hc⟩
              · exact .inr ⟨by simp [hc], _, .inl (if_neg hc), _, rfl⟩) (E (some (.int z)) (some (.int i)) (some (.int x)) w0) ⟨w0, rfl⟩
          rw [bodyF_eq rfl]
          have ec : cut (vN lot) (some ((i : Int) + 1)) none = vN (lot.drop (i + 1)) := by
            rw [show ((i : Int) + 1) = ((i + 1 : Nat) : Int) by omega, cut_tail, vN_drop]
          rcases ly with ⟨v, g1, e1⟩ | ⟨g1, env1, e1, z1, rfl⟩
          · refine .inl ⟨v, g1, ?_⟩
            rw [← vN] at e1
            simp only [E] at e1 ⊢
            simp [partE, isNon, ec, e1]
          · refine .inr ⟨g1, _, ?_, some (.int i), some (.int x), z1, rfl⟩
            rw [← vN] at e1
            simp only [E] at e1 ⊢
            simp [partE, isNon, ec, e1]) (E (some (.int z)) y0 z0 w0) ⟨y0, z0, w0, rfl⟩
      have ee : enumV 0 (vN lot) = lot.zipIdx.map fun (p : Nat × Nat) => Val.tup [.int (p.2 : Nat), .int (p.1 : Nat)] := enumV_map _ lot 0
      simp only [if_neg hzl]
      rcases lx with ⟨v, g1, e1⟩ | ⟨g1, env1, e1, y1, z1, w1, rfl⟩
      · refine .inl ⟨v, g1, ?_⟩
        simp only [E] at e1 ⊢
        simp [hzl, ee, e1]
      · refine .inr ⟨g1, _, ?_, some (.int z), y1, z1, w1, rfl⟩
        simp only [E] at e1 ⊢
        simp [hzl, ee, e1]) (E none none none none) ⟨none, none, none, none, rfl⟩
  have hg : (List.range n).findSome? (fun z => if z ∈ lot then none else lot.zipIdx.findSome? fun p => (lot.drop (p.2 + 1)).findSome? fun y => (if apartB rows z p.1 y = true then some (z, p.1, y) else none).map vTr) = (tellP n rows lot).map vTr := by
    unfold tellP
    rw [← findSome_map]
    congr 1
    funext z
    split
    · rfl
    · rw [← findSome_map]
      congr 1
      funext p
      exact findSome_map _ _ _
  rw [hg] at main
  rw [ev]
  rcases main with ⟨v, g1, e1⟩ | ⟨g1, env1, e1, x1, y1, z1, w1, rfl⟩
  · have : vTro (tellP n rows lot) = v := by
      cases q : tellP n rows lot with
      | none => rw [q] at g1; cases g1
      | some t => rw [q] at g1; cases g1; rfl
    rw [this]
    simp only [E, B, ev] at e1
    simp [p_telling, c1, rngV_map, e1]
  · have : tellP n rows lot = none := by simpa using g1
    rw [this]
    simp only [E, B, ev] at e1
    simp [p_telling, c1, rngV_map, e1, vTro]
def pieceB (n : Nat) (rows : List (List Int)) (lot : List Nat) : Bool := (List.range n).all fun z => decide (z ∈ lot) || (lot.drop 1).all fun y => !apartB rows z (lot.getD 0 0) y
theorem is_piece_ok {F : Nat → Option FD} {f q : Nat} (hf : F f = some (p_is_piece q)) (hq : F q = some p_parts_two) {n : Nat} {rows : List (List Int)} (h : Sq n rows) (hn : n ≤ 1000) {lot : List Nat} (hl : ∀ x ∈ lot, x < n) (hll : lot.length ≤ 1000) (j : Nat) (st : Store) :
    runF F (j + 2) f [vT rows, .tup (vN lot)] st = .ok (.bl (pieceB n rows lot)) st := by
  rw [runF_eq hf rfl]
  have ec : cut (vN lot) (some 1) none = vN (lot.drop 1) := by
    rw [show (1 : Int) = ((1 : Nat) : Int) from rfl, cut_tail, vN_drop]
  have h00 : ∀ y ∈ lot.drop 1, y < n ∧ L2.atI (vN lot) 0 = some (.int (lot.getD 0 0 : Nat)) ∧ lot.getD 0 0 < n := fun y hy => by
    have h0 : 0 < lot.length := by
      have := List.length_pos_of_mem hy
      simp at this; omega
    have eg : lot.getD 0 0 = lot[0] := by simp [List.getD, h0]
    refine ⟨hl y (List.mem_of_mem_drop hy), ?_, ?_⟩
    · rw [show (0 : Int) = ((0 : Nat) : Int) from rfl, vN_atI h0, eg]
    · rw [eg]; exact hl _ (List.getElem_mem h0)
  unfold pieceB
  have ltl : (lot.drop 1).length ≤ lot.length := by simp
  generalize lot.getD 0 0 = hd at *
  generalize lot.drop 1 = tl at *
  have c1 : (-1000000 : Int) ≤ (n : Int) ∧ (n : Int) ≤ 1000000 := by omega
  have l1 : ¬ LIM < tl.length := by simp only [LIM]; omega
  have ev : vT rows = .tup [.int n, .tup (vMt rows)] := by rw [vT, h.1]
  let E : Option Val → Option Val → Ev := fun x y => [some (vT rows), some (.tup (vN lot)), x, some (.int n), some (.tup (vMt rows)), y]
  let B : Sxs := (.cons (.iff (.and_ (.cmp .notin (.var 2) (.var 1)) (.bi .any false (.cons (.lc false (.call q [0, 1, 2, 3] (.cons (.var 4) (.cons (.var 2) (.cons (.idx (.var 1) (.cst (.int 0))) (.cons (.var 5) .nil)))) .nil) (.nm 5) (.seq (.slc false (.var 1) (.cst (.int 1)) (.cst .non))) (.cst (.bl true)) [5]) .nil))) (.cons (.ret (.cst (.bl false)))
    .nil) .nil)
    .nil)
  have main := forL_find (f := bodyF (runF F (j + 1)) (.nm 2) B) (clr := []) (I := fun env => ∃ x y, env = E x y) (st := st) (fun (i : Nat) => Val.int (i : Int))
    (fun z => if ((!decide (z ∈ lot)) && tl.any fun y => apartB rows z hd y) = true then some (.bl false) else none) (List.range n) (by
      rintro z hz env ⟨x0, y0, rfl⟩
      have hz : z < n := List.mem_range.mp hz
      rw [bodyF_eq rfl]
      have inner : compL (turnP (runF F (j + 1)) (.call q [0, 1, 2, 3] (.cons (.var 4) (.cons (.var 2) (.cons (.idx (.var 1) (.cst (.int 0))) (.cons (.var 5) .nil)))) .nil) (.nm 5) (.cst (.bl true)) (E (some (.int z)) y0) [5]) (vN tl) st = .ok (tl.map fun y => .bl (apartB rows z hd y)) st := by
        refine compL_mapv (fun (i : Nat) => Val.int (i : Int)) _ tl fun y hy => ?_
        rw [turnP_eq rfl]
        obtain ⟨hy', a0, hl0⟩ := h00 y hy
        simp [E, a0, parts_two_ok hq h hz hl0 hy']
      simp only [E] at inner
      have hb : execSs (runF F (j + 1)) B ((E x0 y0).set 2 (some (.int z))) st = if ((!decide (z ∈ lot)) && tl.any fun y => apartB rows z hd y) = true then .ret (.bl false) st else .nx (E (some (.int z)) y0) st := by
        simp [B, E, partE, isNon, ec, l1, inner]
      rw [hb]
      by_cases hc : ((!decide (z ∈ lot)) && tl.any fun y => apartB rows z hd y) = true
      · exact .inl ⟨_, if_pos hc, if_pos hc⟩
      · exact .inr ⟨if_neg hc, _, .inl (if_neg hc), _, _, rfl⟩) (E none none) ⟨none, none, rfl⟩
  rw [ev]
  rcases main with ⟨v, g1, e1⟩ | ⟨g1, env1, e1, x1, y1, rfl⟩
  · obtain ⟨z, hz, g2⟩ := List.exists_of_findSome?_eq_some g1
    split at g2
    · rename_i hc
      cases g2
      have : ((List.range n).all fun z => decide (z ∈ lot) || tl.all fun y => !apartB rows z hd y) = false := by
        rw [List.all_eq_false]
        refine ⟨z, hz, ?_⟩
        simp at hc
        simpa using hc
      rw [this]
      simp only [E, B, ev] at e1
      simp [p_is_piece, c1, rngV_map, e1]
    · cases g2
  · have : ((List.range n).all fun z => decide (z ∈ lot) || tl.all fun y => !apartB rows z hd y) = true := by
      rw [List.all_eq_true]
      intro z hz
      rw [List.findSome?_eq_none_iff] at g1
      have := g1 z hz
      simp at this
      simp
      by_cases hzl : z ∈ lot
      · exact .inl hzl
      · exact .inr (this hzl)
    rw [this]
    simp only [E, B, ev] at e1
    simp [p_is_piece, c1, rngV_map, e1]
end Cp

set_option Elab.async false
set_option linter.all false
set_option maxRecDepth 100000
set_option maxHeartbeats 16000000
/-! CoA16: lots of marks, drawn lots, least pieces of the law. -/
namespace Cp
open Co
open PySem

/-! ### sorting -/
def insN (x : Nat) : List Nat → List Nat
  | [] => [x]
  | y :: r => if x ≤ y then x :: y :: r else y :: insN x r
def sortN : List Nat → List Nat
  | [] => []
  | x :: r => insN x (sortN r)
def cN (l : List Nat) : List Int := l.map fun (i : Nat) => (i : Int)
theorem insI_cast (x : Nat) (l : List Nat) : insI (x : Int) (cN l) = cN (insN x l) := by
  induction l with
  | nil => rfl
  | cons y r ih =>
    unfold cN at ih ⊢
    simp only [List.map_cons, insI, insN]
    by_cases h : x ≤ y
    · rw [if_pos (by omega), if_pos h]; rfl
    · rw [if_neg (by omega), if_neg h, ih]; rfl
theorem sortI_cast (l : List Nat) : sortI (cN l) = cN (sortN l) := by
  induction l with
  | nil => rfl
  | cons x r ih =>
    show insI x (sortI (cN r)) = _
    rw [ih, insI_cast]; rfl
theorem insN_perm (x : Nat) (l : List Nat) : (insN x l).Perm (x :: l) := by
  induction l with
  | nil => exact .refl _
  | cons y r ih =>
    simp only [insN]
    split
    · exact .refl _
    · exact (ih.cons y).trans (.swap _ _ _)
theorem sortN_perm (l : List Nat) : (sortN l).Perm l := by
  induction l with
  | nil => exact .refl _
  | cons x r ih => exact (insN_perm x _).trans (ih.cons x)
theorem insN_sorted (x : Nat) (l : List Nat) (h : l.Pairwise (· ≤ ·)) : (insN x l).Pairwise (· ≤ ·) := by
  induction l with
  | nil => simp [insN]
  | cons y r ih =>
    simp only [insN]
    rw [List.pairwise_cons] at h
    split
    · rename_i hxy
      rw [List.pairwise_cons, List.pairwise_cons]
      refine ⟨fun z hz => ?_, h⟩
      rcases List.mem_cons.mp hz with rfl | hz
      · exact hxy
      · exact Nat.le_trans hxy (h.1 z hz)
    · rename_i hxy
      rw [List.pairwise_cons]
      refine ⟨fun z hz => ?_, ih h.2⟩
      rcases List.mem_cons.mp ((insN_perm x r).mem_iff.mp hz) with rfl | hz
      · omega
      · exact h.1 z hz
theorem sortN_sorted (l : List Nat) : (sortN l).Pairwise (· ≤ ·) := by
  induction l with
  | nil => exact .nil
  | cons x r ih => exact insN_sorted x _ ih
theorem strict_of {l : List Nat} (h : l.Pairwise (· ≤ ·)) (hn : l.Nodup) : l.Pairwise (· < ·) := by
  have := h.and hn
  exact this.imp fun {a b} hab => by have := hab.1; have := hab.2; omega
theorem Lot.nodup {n : Nat} {l : List Nat} (h : Lot n l) : l.Nodup := h.1.imp fun hab => by omega
theorem lot_sort {n : Nat} {l : List Nat} (hn : l.Nodup) (hb : ∀ x ∈ l, x < n) : Lot n (sortN l) :=
  ⟨strict_of (sortN_sorted l) ((sortN_perm l).nodup_iff.mpr hn), fun x hx => hb x ((sortN_perm l).mem_iff.mp hx)⟩
theorem asc_len : ∀ (l : List Nat) (k n : Nat), l.Pairwise (· < ·) → (∀ x ∈ l, k ≤ x ∧ x < n) → l.length ≤ n - k
  | [], _, _, _, _ => Nat.zero_le _
  | x :: r, k, n, h, hb => by
    rw [List.pairwise_cons] at h
    have hx := hb x (by simp)
    have := asc_len r (x + 1) n h.2 fun y hy => ⟨h.1 y hy, (hb y (by simp [hy])).2⟩
    rw [List.length_cons]
    omega
theorem Lot.len {n : Nat} {l : List Nat} (h : Lot n l) : l.length ≤ n := by
  have := asc_len l 0 n h.1 fun x hx => ⟨Nat.zero_le _, h.2 x hx⟩
  omega
theorem Lot.nil (n : Nat) : Lot n [] := ⟨.nil, fun _ h => nomatch h⟩
theorem Lot.all (n : Nat) : Lot n (List.range n) := ⟨List.pairwise_lt_range, fun x hx => List.mem_range.mp hx⟩
theorem Lot.one {n x : Nat} (h : x < n) : Lot n [x] := ⟨List.pairwise_singleton _ _, fun y hy => by simp at hy; omega⟩
theorem biv_sortN (lv : Bool) (l : List Nat) (st : Store) : biv .sorted lv [.tup (vN l)] st = mkL lv (vN (sortN l)) st := by
  have e : ints? (vN l) = some (cN l) := by rw [vN_vI, vI_ints]; rfl
  simp only [biv, dr, e]
  rw [sortI_cast]
  simp [cN, vN, Function.comp_def]
theorem biv_sortNl (lv : Bool) (l : List Nat) (st : Store) : biv .sorted lv [.lst (vN l)] st = mkL lv (vN (sortN l)) st := by
  have e : ints? (vN l) = some (cN l) := by rw [vN_vI, vI_ints]; rfl
  simp only [biv, dr, e]
  rw [sortI_cast]
  simp [cN, vN, Function.comp_def]
def dedN : List Nat → List Nat
  | [] => []
  | x :: r => if x ∈ r then dedN r else x :: dedN r
theorem dedup_cast (l : List Nat) : dedup (cN l) = cN (dedN l) := by
  induction l with
  | nil => rfl
  | cons x r ih =>
    have hm : ((x : Int) ∈ cN r) ↔ x ∈ r := by
      unfold cN
      rw [List.mem_map]
      constructor
      · rintro ⟨a, ha, e⟩
        have : a = x := by omega
        rwa [← this]
      · exact fun h => ⟨x, h, rfl⟩
    show (if (x : Int) ∈ cN r then dedup (cN r) else (x : Int) :: dedup (cN r)) = cN (if x ∈ r then dedN r else x :: dedN r)
    by_cases h : x ∈ r
    · rw [if_pos (hm.mpr h), if_pos h, ih]
    · rw [if_neg (fun e => h (hm.mp e)), if_neg h, ih]; rfl
theorem dedN_mem (l : List Nat) (x : Nat) : x ∈ dedN l ↔ x ∈ l := by
  induction l with
  | nil => rfl
  | cons y r ih =>
    simp only [dedN]
    split
    · rename_i h
      rw [ih, List.mem_cons]
      constructor
      · exact .inr
      · rintro (rfl | h2)
        · exact h
        · exact h2
    · simp [ih]
theorem dedN_nodup (l : List Nat) : (dedN l).Nodup := by
  induction l with
  | nil => exact .nil
  | cons y r ih =>
    simp only [dedN]
    split
    · exact ih
    · rename_i h
      exact List.nodup_cons.mpr ⟨fun e => h ((dedN_mem r y).mp e), ih⟩
theorem biv_setN (lv : Bool) (l : List Nat) (hl : l.length ≤ 63) (st : Store) : biv .sset lv [.lst (vN l)] st = mkL lv (vN (sortN (dedN l))) st := by
  have e : ints? (vN l) = some (cN l) := by rw [vN_vI, vI_ints]; rfl
  have h2 : (cN l).length ≤ 63 := by simpa [cN] using hl
  simp only [biv, dr, e, h2, if_true]
  rw [dedup_cast, sortI_cast]
  simp [cN, vN, Function.comp_def]
/-! ### lots of marks -/
def lotOf (mark : Nat) : List Nat := (List.range 8).filter fun x => decide (mark / 2 ^ x % 2 = 1)
theorem band_nat (a b : Nat) : Builtin.bitAnd (a : Int) (b : Int) = ((a &&& b : Nat) : Int) := by simp [Builtin.bitAnd]
theorem shr_nat (a x : Nat) : binI .shr (a : Int) (x : Int) = some ((a / 2 ^ x : Nat) : Int) := by
  simp only [binI]
  rw [if_pos (by omega)]
  simp
theorem shl_one {x : Nat} (h : x ≤ 1000) : binI .shl 1 (x : Int) = some ((2 ^ x : Nat) : Int) := by
  simp only [binI]
  rw [if_pos ⟨by omega, by omega, by decide⟩]
  simp
@[scoped simp] theorem binI_band (a b : Int) : binI .band a b = some (Builtin.bitAnd a b) := Eq.trans rfl rfl
theorem band_one (a : Nat) : Builtin.bitAnd (a : Int) 1 = ((a % 2 : Nat) : Int) := by
  rw [show (1 : Int) = ((1 : Nat) : Int) from rfl, band_nat, Nat.and_one_is_mod]
theorem filterMap_if {α β : Type} (p : α → Bool) (g : α → β) (xs : List α) : xs.filterMap (fun x => if p x = true then some (g x) else none) = (xs.filter p).map g := by
  induction xs with
  | nil => rfl
  | cons x xs ih =>
    simp only [List.filterMap_cons, List.filter_cons]
    cases p x with
    | true => simp [ih]
    | false => simp [ih]
theorem lot_ok {F : Nat → Option FD} {f : Nat} (hf : F f = some a_lot) (mark : Nat) (j : Nat) (st : Store) :
    runF F (j + 1) f [.int mark] st = .ok (.tup (vN (lotOf mark))) st := by
  rw [runF_eq hf rfl]
  have e : compL (turnP (runF F j) (.var 1) (.nm 1) (.cmp .eq (.bin .band false (.bin .shr false (.var 0) (.var 1)) (.cst (.int 1))) (.cst (.int 1))) [some (.int mark), none] [1]) (rngV 0 8) st = .ok (vN (lotOf mark)) st := by
    rw [rngV_map, compL_via (fun (i : Nat) => Val.int (i : Int)) (fun (x : Nat) => if decide (mark / 2 ^ x % 2 = 1) = true then some (Val.int x) else none) (List.range 8) fun x _ => ?_]
    · rw [filterMap_if]; rfl
    · rw [turnP_eq rfl]
      have h1 : (((mark / 2 ^ x : Nat) : Int) % 2 = 1) = (mark / 2 ^ x % 2 = 1) := by
        apply propext; omega
      have h2 := shr_nat mark x
      generalize mark / 2 ^ x = q at h1 h2
      simp [h2, band_one, h1]
      by_cases hq : q % 2 = 1
      · have : ((q : Int) % 2 = 1) := by omega
        simp [hq, this]
      · have : ¬ ((q : Int) % 2 = 1) := by omega
        simp [hq, this]
  simp [a_lot, rngV_len, LIM, e]
theorem lot_of {n mark : Nat} (h : mark < 2 ^ n) : Lot n (lotOf mark) := by
  refine ⟨List.Pairwise.filter _ List.pairwise_lt_range, fun x hx => ?_⟩
  obtain ⟨_, hx⟩ := List.mem_filter.mp hx
  simp at hx
  apply Classical.byContradiction
  intro hc
  have h2 : 2 ^ n ≤ 2 ^ x := Nat.pow_le_pow_right (by omega) (by omega)
  have : mark / 2 ^ x = 0 := Nat.div_eq_of_lt (by omega)
  rw [this] at hx
  omega
theorem and_lt {a b q : Nat} (h : a < q) : a &&& b < q := Nat.lt_of_le_of_lt Nat.and_le_left h
theorem some_ok {F : Nat → Option FD} {f g l : Nat} (hf : F f = some (a_some g l)) (hl : F l = some a_lot) (hg : F g = some a_draw) (j n : Nat) (hn : n ≤ 20) {st rest : Store} (p : Pool st rest) :
    ∃ lot st', runF F (j + 2) f [.ref 1, .int n] st = .ok (.tup (vN lot)) st' ∧ Pool st' rest ∧ Lot n lot := by
  have hp : 2 ^ n ≤ 2 ^ 20 := Nat.pow_le_pow_right (by omega) hn
  have h0 : 0 < 2 ^ n := Nat.pos_of_ne_zero (by simp)
  have hlo := fun (m : Nat) (h : m < 2 ^ n) => lot_of h
  have hs := shl_one (x := n) (by omega)
  obtain ⟨m, s1, e1, p1, b1⟩ := draw_nat hg j ((2 ^ n : Nat) : Int) (2 ^ n) rfl h0 (by omega) p
  obtain ⟨w, s2, e2, p2, b2⟩ := draw_nat hg j 3 3 rfl (by omega) (by omega) p1
  obtain ⟨m2, s3, e3, p3, b3⟩ := draw_nat hg j ((2 ^ n : Nat) : Int) (2 ^ n) rfl h0 (by omega) p2
  rw [runF_eq hf rfl]
  generalize 2 ^ n = q at *
  by_cases hw : w = 0
  · refine ⟨lotOf (m &&& m2), s3, ?_, p3, ?_⟩
    · subst hw
      simp at e2
      simp [a_some, hs, e1, e2, e3, band_nat, lot_ok hl, trunc, p.len, p3.len]
    · exact hlo _ (and_lt b1)
  · refine ⟨lotOf m, s2, ?_, p2, ?_⟩
    · simp [a_some, hs, e1, e2, hw, lot_ok hl, trunc, p.len, p2.len]
    · exact hlo _ b1
/-! ### the law's least piece -/
def leastL (n : Nat) (rows : List (List Int)) : Nat → List Nat → List Nat
  | 0, lot => lot
  | k + 1, lot => match tellL n rows lot with
    | none => lot
    | some t => leastL n rows k (sortN (lot ++ [t.1]))
theorem tellL_some {n : Nat} {rows : List (List Int)} {lot : List Nat} {t : Nat × Nat × Nat} (h : tellL n rows lot = some t) : t.1 < n ∧ t.1 ∉ lot ∧ t.2.1 ∈ lot ∧ t.2.2 ∈ lot ∧ t.2.1 < t.2.2 ∧ apartB rows t.1 t.2.1 t.2.2 = true := by
  obtain ⟨z, hz, h⟩ := List.exists_of_findSome?_eq_some h
  obtain ⟨x, hx, h⟩ := List.exists_of_findSome?_eq_some h
  obtain ⟨y, hy, h⟩ := List.exists_of_findSome?_eq_some h
  split at h
  · rename_i hc
    cases h
    exact ⟨List.mem_range.mp hz, hc.1, hx, hy, hc.2.1, hc.2.2⟩
  · cases h
theorem Lot.add {n z : Nat} {lot : List Nat} (h : Lot n lot) (hz : z < n) (hl : z ∉ lot) : Lot n (sortN (lot ++ [z])) := by
  refine lot_sort ?_ fun x hx => ?_
  · rw [List.nodup_append]
    exact ⟨h.nodup, by simp, fun a ha b hb => by simp at hb; subst hb; rintro rfl; exact hl ha⟩
  · rcases List.mem_append.mp hx with hx | hx
    · exact h.2 x hx
    · simp at hx; omega
theorem leastL_lot {n : Nat} {rows : List (List Int)} : ∀ (k : Nat) {lot : List Nat}, Lot n lot → Lot n (leastL n rows k lot)
  | 0, lot, h => h
  | k + 1, lot, h => by
    simp only [leastL]
    cases e : tellL n rows lot with
    | none => exact h
    | some t =>
      obtain ⟨a, b, _⟩ := tellL_some e
      exact leastL_lot k (h.add a b)
theorem law_least_ok {F : Nat → Option FD} {f t : Nat} (hf : F f = some (a_least t)) (ht : F t = some a_telling) {n : Nat} {rows : List (List Int)} (h : Sq n rows) (hn : n ≤ 1000) {lot : List Nat} (hl : Lot n lot) (j : Nat) (st : Store) :
    runF F (j + 2) f [.lst (vM rows), .tup (vN lot)] st = .ok (.tup (vN (leastL n rows n lot))) st := by
  rw [runF_eq hf rfl]
  have c1 : (-1000000 : Int) ≤ (n : Int) ∧ (n : Int) ≤ 1000000 := by omega
  let E : List Nat → Option Val → Option Val → Ev := fun l x y => [some (.lst (vM rows)), some (.tup (vN l)), x, y]
  have main := forL_pure (f := bodyF (runF F (j + 1)) (.nm 2) (.cons (.asg (.nm 3) (.call t [0, 1] (.cons (.var 0) (.cons (.var 1) .nil)) .nil))
    (.cons (.iff (.cmp .isn (.var 3) (.cst .non)) (.cons (.ret (.var 1))
    .nil) .nil)
    (.cons (.asg (.nm 1) (.bi .tuple false (.cons (.bi .sorted false (.cons (.bin .add false (.var 1) (.tup (.cons (.idx (.var 3) (.cst (.int 0))) .nil))) .nil)) .nil)))
    .nil)))) (clr := []) (I := fun i env => ∃ l x y, env = E l x y ∧ Lot n l ∧ leastL n rows (n - i) l = leastL n rows n lot) (P := fun v => v = .tup (vN (leastL n rows n lot))) (st := st) (rngV 0 n) (by
      rintro i w hw env ⟨l, x, y, rfl, hll, hinv⟩
      obtain ⟨hi, rfl⟩ := rngV_get hw
      rw [bodyF_eq rfl]
      have et := law_telling_ok ht h hn hll.2 j st
      obtain ⟨k, hk⟩ : ∃ k, n - i = k + 1 := ⟨n - i - 1, by omega⟩
      rw [hk, leastL] at hinv
      cases q : tellL n rows l with
      | none =>
        rw [q] at et hinv
        refine .inr ⟨_, ?_, rfl⟩
        simp only [] at hinv
        rw [← hinv]
        simp [E, et, vTro]
      | some t =>
        rw [q] at et hinv
        obtain ⟨a, b, _⟩ := tellL_some q
        refine .inl ⟨E (sortN (l ++ [t.1])) (some (.int (0 + (i : Int)))) (some (vTr t)), .inl ?_, _, _, _, rfl, hll.add a b, ?_⟩
        · have l1 : l.length + 1 ≤ LIM := by
            have := hll.len
            simp only [LIM]; omega
          have e1 : bin .add false (.tup (vN l)) (.tup [.int (t.1 : Nat)]) st = .ok (.tup (vN (l ++ [t.1]))) st := by
            simp [bin, l1, vN]
          have e2 : L2.atI [Val.int (t.1 : Nat), Val.int (t.2.1 : Nat), Val.int (t.2.2 : Nat)] 0 = some (.int (t.1 : Nat)) := rfl
          simp [E, et, vTro, vTr, e1, e2, biv_sortN]
        · rw [show n - (i + 1) = k by omega]
          exact hinv) (E lot none none) ⟨lot, none, none, rfl, hl, rfl⟩
  simp only [E] at main
  rcases main with ⟨env', e, l, x, y, rfl, hll, hinv⟩ | ⟨v, e, rfl⟩
  · rw [rngV_len, Nat.sub_self, leastL] at hinv
    subst hinv
    simp [a_least, h.1, c1, e]
  · simp [a_least, h.1, c1, e]
end Cp

set_option Elab.async false
set_option linter.all false
set_option maxRecDepth 100000
set_option maxHeartbeats 16000000
/-! CoA17: the plain law of k06: what tells apart; small data. -/
namespace Cp
open Co
open PySem

/-! ### how small data is -/
structure Sm (v : Val) (d w : Nat) : Prop where
  s : small v = true
  d : dep v ≤ d
  w : wt v ≤ w
theorem Sm.mono {v : Val} {d w d' w' : Nat} (h : Sm v d w) (hd : d ≤ d') (hw : w ≤ w') : Sm v d' w' := ⟨h.s, Nat.le_trans h.d hd, Nat.le_trans h.w hw⟩
theorem sm_list {d w : Nat} : ∀ xs : List Val, (∀ x ∈ xs, Sm x d w) → smalls xs = true ∧ deps xs ≤ d ∧ wts xs ≤ xs.length * (w + 2)
  | [], _ => ⟨rfl, Nat.zero_le _, by simp [wts]⟩
  | x :: xs, h => by
    have a := h x (by simp)
    obtain ⟨b1, b2, b3⟩ := sm_list xs fun y hy => h y (by simp [hy])
    refine ⟨by simp only [smalls, a.s, b1, Bool.and_self], ?_, ?_⟩
    · have := a.d
      simp only [deps]; omega
    · have := a.w
      simp only [wts, List.length_cons, Nat.add_mul]; omega
theorem Sm.lst {d w L : Nat} {xs : List Val} (h : ∀ x ∈ xs, Sm x d w) (hl : xs.length ≤ L) : Sm (.lst xs) (d + 1) (3 + L * (w + 2)) := by
  obtain ⟨a, b, c⟩ := sm_list xs h
  have := Nat.mul_le_mul_right (w + 2) hl
  exact ⟨by simpa only [small] using a, by simp only [dep]; omega, by simp only [wt]; omega⟩
theorem Sm.tup {d w L : Nat} {xs : List Val} (h : ∀ x ∈ xs, Sm x d w) (hl : xs.length ≤ L) : Sm (.tup xs) (d + 1) (3 + L * (w + 2)) := by
  obtain ⟨a, b, c⟩ := sm_list xs h
  have := Nat.mul_le_mul_right (w + 2) hl
  exact ⟨by simpa only [small] using a, by simp only [dep]; omega, by simp only [wt]; omega⟩
theorem Sm.int {i : Int} (h : i.natAbs < 2 ^ 64) : Sm (.int i) 0 66 := ⟨by simpa only [small, decide_eq_true_eq] using h, by simp only [dep]; omega, by simp only [wt]; omega⟩
theorem Sm.nat {i : Nat} (h : i < 2 ^ 64) : Sm (.int (i : Int)) 0 66 := .int (by omega)
theorem Sm.bl (b : Bool) : Sm (.bl b) 0 66 := ⟨rfl, by simp only [dep]; omega, by simp only [wt]; omega⟩
theorem Sm.non : Sm .non 0 66 := ⟨rfl, by simp only [dep]; omega, by simp only [wt]; omega⟩
theorem Sm.vN {l : List Nat} {L : Nat} (h : ∀ x ∈ l, x < 2 ^ 64) (hl : l.length ≤ L) : Sm (.tup (vN l)) 1 (3 + L * 68) := by
  refine Sm.tup (d := 0) (w := 66) (fun x hx => ?_) (by simpa using hl)
  obtain ⟨i, hi, rfl⟩ := List.mem_map.mp hx
  exact .nat (h i hi)
theorem Sm.vIl {l : List Int} {L : Nat} (h : ∀ x ∈ l, x.natAbs < 2 ^ 64) (hl : l.length ≤ L) : Sm (.lst (vI l)) 1 (3 + L * 68) := by
  refine Sm.lst (d := 0) (w := 66) (fun x hx => ?_) (by simpa using hl)
  obtain ⟨i, hi, rfl⟩ := List.mem_map.mp hx
  exact .int (h i hi)
theorem Sm.vIt {l : List Int} {L : Nat} (h : ∀ x ∈ l, x.natAbs < 2 ^ 64) (hl : l.length ≤ L) : Sm (.tup (vI l)) 1 (3 + L * 68) := by
  refine Sm.tup (d := 0) (w := 66) (fun x hx => ?_) (by simpa using hl)
  obtain ⟨i, hi, rfl⟩ := List.mem_map.mp hx
  exact .int (h i hi)
theorem Sq.sm {n : Nat} {rows : List (List Int)} (h : Sq n rows) {L : Nat} (hn : n ≤ L) : Sm (.lst (vM rows)) 2 (3 + L * (3 + L * 68 + 2)) := by
  refine Sm.lst (d := 1) (w := 3 + L * 68) (fun x hx => ?_) (by simpa [h.1] using hn)
  obtain ⟨r, hr, rfl⟩ := List.mem_map.mp hx
  obtain ⟨a, b⟩ := h.2 r hr
  exact .vIl (fun x hx => by have := b x hx; omega) (by omega)
theorem Sq.smt {n : Nat} {rows : List (List Int)} (h : Sq n rows) {L : Nat} (hn : n ≤ L) (hL : L ≤ 1000) : Sm (vT rows) 3 (3 + 2 * ((3 + L * (3 + L * 68 + 2)) + 66 + 2)) := by
  refine Sm.tup (d := 2) (w := (3 + L * (3 + L * 68 + 2)) + 66) (fun x hx => ?_) (by simp)
  simp only [List.mem_cons, List.not_mem_nil, or_false] at hx
  rcases hx with rfl | rfl
  · exact (Sm.nat (by have := h.1; omega)).mono (by omega) (by omega)
  · refine (Sm.tup (d := 1) (w := 3 + L * 68) (L := L) (fun x hx => ?_) (by simpa [h.1] using hn)).mono (by omega) (by omega)
    obtain ⟨r, hr, rfl⟩ := List.mem_map.mp hx
    obtain ⟨a, b⟩ := h.2 r hr
    exact .vIt (fun x hx => by have := b x hx; omega) (by omega)
theorem Sm.sh {v : Val} {d w : Nat} (h : Sm v d w) (hd : d ≤ 64) (hw : w ≤ 16000000) : shOk v = true := shOk_small h.s (Nat.le_trans h.d hd) (Nat.le_trans h.w hw)
theorem biv_repr {lv : Bool} {v : Val} {st : Store} (hr : ∀ i, v ≠ .ref i) (h : shOk v = true) : biv .repr lv [v] st = .ok (.str (toPy v).shown) st := by
  have : dr st v = v := by cases v <;> first | rfl | exact absurd rfl (hr _)
  simp only [biv, this, h, if_true]
theorem biv_reprl {lv : Bool} {xs : List Val} {st : Store} (h : shOk (.lst xs) = true) : biv .repr lv [.lst xs] st = .ok (.str (toPy (.lst xs)).shown) st := biv_repr (fun _ e => by cases e) h
theorem biv_reprt {lv : Bool} {xs : List Val} {st : Store} (h : shOk (.tup xs) = true) : biv .repr lv [.tup xs] st = .ok (.str (toPy (.tup xs)).shown) st := biv_repr (fun _ e => by cases e) h
theorem ne_same {v : Val} (h : small v = true) : cmpv .ne (.str (toPy v).shown) (.str (toPy v).shown) = some false := by
  simp only [cmpv, eqOk_text h, veq_str, Bool.and_self, if_true, beq_self_eq_true]
  rfl
theorem eq_same {v : Val} (h : small v = true) : cmpv .eq (.str (toPy v).shown) (.str (toPy v).shown) = some true := by
  simp only [cmpv, eqOk_text h, veq_str, Bool.and_self, if_true, beq_self_eq_true]
/-! ### what tells apart, and pieces -/
theorem findSome_congr {α β : Type} {g g' : α → Option β} : ∀ (xs : List α), (∀ x ∈ xs, g x = g' x) → xs.findSome? g = xs.findSome? g'
  | [], _ => rfl
  | x :: xs, h => by
    rw [List.findSome?_cons, List.findSome?_cons, h x (by simp), findSome_congr xs fun y hy => h y (by simp [hy])]
theorem findSome_drop {α β : Type} {g : α → Option β} (k : Nat) (xs : List α) (h : ∀ y ∈ xs.take k, g y = none) : xs.findSome? g = (xs.drop k).findSome? g := by
  have e := congrArg (List.findSome? g) (List.take_append_drop k xs)
  rw [List.findSome?_append, List.findSome?_eq_none_iff.mpr h, Option.none_or] at e
  exact e.symm
theorem tell_eq {n : Nat} {rows : List (List Int)} {lot : List Nat} (h : Lot n lot) : tellP n rows lot = tellL n rows lot := by
  unfold tellP tellL
  refine findSome_congr _ fun z _ => ?_
  by_cases hz : z ∈ lot
  · rw [if_pos hz]
    symm
    rw [List.findSome?_eq_none_iff]
    intro x _
    rw [List.findSome?_eq_none_iff]
    intro y _
    rw [if_neg]
    exact fun e => e.1 hz
  · rw [if_neg hz]
    have e1 : lot.findSome? (fun x => lot.findSome? fun y => if z ∉ lot ∧ x < y ∧ apartB rows z x y = true then some (z, x, y) else none) = lot.zipIdx.findSome? (fun p => lot.findSome? fun y => if z ∉ lot ∧ p.1 < y ∧ apartB rows z p.1 y = true then some (z, p.1, y) else none) := by
      have := List.findSome?_map (f := Prod.fst) (p := fun x => lot.findSome? fun y => if z ∉ lot ∧ x < y ∧ apartB rows z x y = true then some (z, x, y) else none) (l := lot.zipIdx)
      rw [List.zipIdx_map_fst] at this
      exact this
    rw [e1]
    refine findSome_congr _ ?_
    rintro ⟨x, i⟩ hx
    have hi : lot[i]? = some x := by simpa using List.mem_zipIdx_iff_getElem?.mp hx
    have hlt : i < lot.length := (List.getElem?_eq_some_iff.mp hi).1
    have ex : lot[i] = x := (List.getElem?_eq_some_iff.mp hi).2
    have pw := List.pairwise_iff_getElem.mp h.1
    rw [findSome_drop (i + 1) lot (fun y hy => ?_)]
    · refine findSome_congr _ fun y hy => ?_
      have : x < y := by
        have hy : y ∈ lot.drop (i + 1) := hy
        obtain ⟨k, hk, ek⟩ := List.mem_iff_getElem.mp hy
        rw [List.getElem_drop] at ek
        simp only [List.length_drop] at hk
        have := pw i (i + 1 + k) hlt (by omega) (by omega)
        omega
      simp [hz, this]
    · rw [if_neg]
      rintro ⟨_, hxy, _⟩
      obtain ⟨k, hk, ek⟩ := List.mem_iff_getElem.mp hy
      rw [List.getElem_take] at ek
      simp only [List.length_take] at hk
      rcases Nat.lt_or_ge k i with hki | hki
      · have := pw k i (by omega) hlt hki
        simp only at hxy
        omega
      · have : k = i := by omega
        subst this
        simp only at hxy
        omega
theorem piece_tell {n : Nat} {rows : List (List Int)} {lot : List Nat} (h : Lot n lot) : pieceB n rows lot = (tellL n rows lot).isNone := by
  have key : ∀ z x y, apartB rows z x y = false ↔ (cel rows z x = cel rows z y ∧ cel rows x z = cel rows y z) := by
    intro z x y
    simp [apartB]
  rw [Bool.eq_iff_iff, Option.isNone_iff_eq_none]
  unfold pieceB tellL
  rw [List.all_eq_true]
  simp only [List.findSome?_eq_none_iff]
  constructor
  · intro hp z hz x hx y hy
    rw [if_neg]
    rintro ⟨h1, h2, h3⟩
    have := hp z hz
    simp [h1] at this
    have all : ∀ w ∈ lot, apartB rows z (lot.getD 0 0) w = false := by
      intro w hw
      cases lot with
      | nil => cases hw
      | cons a r =>
        rcases List.mem_cons.mp hw with rfl | hw
        · exact (key _ _ _).mpr ⟨rfl, rfl⟩
        · simpa using this w (by simpa using hw)
    have a1 := (key _ _ _).mp (all x hx)
    have a2 := (key _ _ _).mp (all y hy)
    have : apartB rows z x y = false := (key _ _ _).mpr ⟨a1.1.symm.trans a2.1, a1.2.symm.trans a2.2⟩
    rw [this] at h3
    cases h3
  · intro hn z hz
    by_cases hzl : z ∈ lot
    · simp [hzl]
    · simp only [hzl, decide_false, Bool.false_or, List.all_eq_true]
      intro y hy
      cases lot with
      | nil => simp at hy
      | cons a r =>
        have hy : y ∈ r := by simpa using hy
        have := hn z hz a (by simp) y (by simp [hy])
        have hay := (List.pairwise_cons.mp h.1).1 y hy
        rw [ite_eq_right_iff] at this
        cases e : apartB rows z a y with
        | false => simp [e]
        | true => exact absurd (this ⟨hzl, hay, e⟩) (by simp)
theorem tell_turn {n : Nat} {rows : List (List Int)} {lot : List Nat} (h : ∀ x ∈ lot, x < n) : tellL n (turnR n rows) lot = tellL n rows lot := by
  unfold tellL
  refine findSome_congr _ fun z hz => findSome_congr _ fun x hx => findSome_congr _ fun y hy => ?_
  have hz := List.mem_range.mp hz
  have : apartB (turnR n rows) z x y = apartB rows z x y := by
    simp only [apartB, turn_cel hz (h x hx), turn_cel hz (h y hy), turn_cel (h x hx) hz, turn_cel (h y hy) hz]
    exact Bool.or_comm _ _
  rw [this]
end Cp

set_option Elab.async false
set_option linter.all false
set_option maxRecDepth 100000
set_option maxHeartbeats 16000000
/-! CoA18: the plain law of k06: what is told, drawn lots. -/
namespace Cp
open Co
open PySem

theorem rep_four (v : Val) : rep 4 [v] = [v, v, v, v] := by rfl
theorem rep_three (v : Val) : rep 3 [v] = [v, v, v] := by rfl
theorem bin_rep {lv : Bool} {v : Val} {k : Int} {st : Store} (h : -1000 ≤ k ∧ k ≤ 1000) : bin .mul lv (.lst [v]) (.int k) st = mkL lv (rep k [v]) st := by
  simp [bin, h.1, h.2]
/-- lots as values -/
def vL (ls : List (List Nat)) : List Val := ls.map fun l => .tup (vN l)
@[scoped simp] theorem vL_len (ls : List (List Nat)) : (vL ls).length = ls.length := by simp [vL]
theorem sm_lot {n : Nat} {l : List Nat} (h : Lot n l) (hn : n ≤ 8) : Sm (.tup (vN l)) 1 547 :=
  (Sm.vN (L := 8) (fun x hx => by have := h.2 x hx; omega) (by have := h.len; omega)).mono (by omega) (by omega)
theorem sm_lots {n : Nat} {ls : List (List Nat)} (h : ∀ l ∈ ls, Lot n l) (hn : n ≤ 8) (hl : ls.length ≤ 256) : Sm (.lst (vL ls)) 2 150000 := by
  refine (Sm.lst (d := 1) (w := 547) (L := 256) (fun x hx => ?_) (by simpa using hl)).mono (by omega) (by omega)
  obtain ⟨l, hl, rfl⟩ := List.mem_map.mp hx
  exact sm_lot (h l hl) hn
theorem sm_tro {n : Nat} {o : Option (Nat × Nat × Nat)} (h : ∀ t, o = some t → t.1 < n ∧ t.2.1 < n ∧ t.2.2 < n) (hn : n ≤ 1000) : Sm (vTro o) 1 207 := by
  cases o with
  | none => exact Sm.non.mono (by omega) (by omega)
  | some t =>
    obtain ⟨a, b, c⟩ := h t rfl
    refine (Sm.tup (d := 0) (w := 66) (L := 3) (fun x hx => ?_) (by simp)).mono (by omega) (by omega)
    simp only [List.mem_cons, List.not_mem_nil, or_false] at hx
    rcases hx with rfl | rfl | rfl <;> exact .nat (by omega)
@[scoped simp] theorem vTro_isn (o : Option (Nat × Nat × Nat)) : isNonV (vTro o) = o.isNone := by cases o <;> rfl
@[scoped simp] theorem dr_vTro (st : Store) (o : Option (Nat × Nat × Nat)) : dr st (vTro o) = vTro o := by cases o <;> rfl
theorem is_told_ok {F : Nat → Option FD} {f tb tu te ip tp q : Nat} (hf : F f = some (a_is_told tb tu te ip tp)) (htb : F tb = some a_table) (htu : F tu = some p_turned) (hte : F te = some a_telling) (hip : F ip = some (p_is_piece q)) (htp : F tp = some (p_telling q)) (hq : F q = some p_parts_two)
    {n : Nat} {rows : List (List Int)} (h : Sq n rows) (hn : n ≤ 8) {ls : List (List Nat)} (hl : ∀ l ∈ ls, Lot n l) (hll : ls.length ≤ 256) (j : Nat) (st : Store) :
    runF F (j + 3) f [.lst (vM rows), .lst (vL ls)] st = .ok (.bl true) st := by
  rw [runF_eq hf rfl]
  have s1 : Sm (.lst [.lst (vM rows), .lst (vL ls)]) 3 400000 := by
    refine (Sm.lst (d := 2) (w := 150000) (L := 2) (fun x hx => ?_) (by simp)).mono (by omega) (by omega)
    simp only [List.mem_cons, List.not_mem_nil, or_false] at hx
    rcases hx with rfl | rfl
    · exact (h.sm hn).mono (by omega) (by omega)
    · exact sm_lots hl hn hll
  have s2 := h.smt hn (by omega)
  have r1 := biv_reprl (lv := false) (st := st) (s1.sh (by omega) (by omega))
  have r2 := biv_reprt (lv := false) (st := st) (s2.sh (by omega) (by omega))
  have q1 := eq_same s1.s
  have q2 := eq_same s2.s
  generalize (toPy (.lst [.lst (vM rows), .lst (vL ls)])).shown = known at *
  let E : Option Val → Option Val → Option Val → Ev := fun x y z => [some (.lst (vM rows)), some (.lst (vL ls)), some (vT (turnR n rows)), x, some (vT rows), some (.str known), y, z]
  have main := forL_find (f := bodyF (runF F (j + 2)) (.nm 3) (.cons (.asg (.nm 6) (.call te [0, 1] (.cons (.var 0) (.cons (.var 3) .nil)) .nil))
    (.cons (.asg (.nm 7) (.lst false (.cons (.call ip [0, 1] (.cons (.var 4) (.cons (.var 3) .nil)) .nil) (.cons (.call ip [1, 0] .nil (.cons (.var 3) (.cons (.var 4) .nil))) (.cons (.call ip [0, 1] (.cons (.var 2) (.cons (.var 3) .nil)) .nil) (.cons (.call ip [0, 1] (.cons (.var 4) (.cons (.var 3) .nil)) .nil) .nil))))))
    (.cons (.iff (.cmp .ne (.bi .repr false (.cons (.var 7) .nil)) (.bi .repr false (.cons (.bin .mul false (.lst false (.cons (.cmp .isn (.var 6) (.cst .non)) .nil)) (.cst (.int 4))) .nil))) (.cons (.ret (.cst (.bl false)))
    .nil) .nil)
    (.cons (.iff (.cmp .ne (.bi .repr false (.cons (.lst false (.cons (.call tp [0, 1] (.cons (.var 4) (.cons (.var 3) .nil)) .nil) (.cons (.call tp [1, 0] .nil (.cons (.var 3) (.cons (.var 4) .nil))) (.cons (.call tp [0, 1] (.cons (.var 2) (.cons (.var 3) .nil)) .nil) .nil)))) .nil)) (.bi .repr false (.cons (.bin .mul false (.lst false (.cons (.var 6) .nil)) (.cst (.int 3))) .nil))) (.cons (.ret (.cst (.bl false)))
    .nil) .nil)
    .nil))))) (clr := []) (I := fun env => ∃ x y z, env = E x y z) (st := st) (fun l => Val.tup (vN l)) (fun _ => none) ls (by
      rintro l hl' env ⟨x, y, z, rfl⟩
      have L := hl l hl'
      refine .inr ⟨rfl, E (some (.tup (vN l))) (some (vTro (tellL n rows l))) (some (.lst [.bl (tellL n rows l).isNone, .bl (tellL n rows l).isNone, .bl (tellL n rows l).isNone, .bl (tellL n rows l).isNone])), .inl ?_, _, _, _, rfl⟩
      rw [bodyF_eq rfl]
      have a1 := law_telling_ok hte h (by omega) L.2 (j + 1) st
      have a2 := is_piece_ok hip hq h (by omega) L.2 (by have := L.len; omega) j st
      have a3 := is_piece_ok hip hq (turn_sq h) (by omega) L.2 (by have := L.len; omega) j st
      have a4 := telling_ok htp hq h (by omega) L.2 j st
      have a5 := telling_ok htp hq (turn_sq h) (by omega) L.2 j st
      rw [piece_tell L] at a2 a3
      rw [tell_eq L] at a4 a5
      rw [tell_turn L.2] at a3 a5
      have t0 : ∀ t, tellL n rows l = some t → t.1 < n ∧ t.2.1 < n ∧ t.2.2 < n := fun t ht => by
        obtain ⟨b1, _, b2, b3, _⟩ := tellL_some ht
        exact ⟨b1, L.2 _ b2, L.2 _ b3⟩
      generalize tellL n rows l = o at *
      have u1 : Sm (.lst [.bl o.isNone, .bl o.isNone, .bl o.isNone, .bl o.isNone]) 1 1000 := (Sm.lst (d := 0) (w := 66) (L := 4) (fun x hx => by
        simp only [List.mem_cons, List.not_mem_nil, or_false, or_self] at hx
        subst hx; exact .bl _) (by simp)).mono (by omega) (by omega)
      have u2 : Sm (.lst [vTro o, vTro o, vTro o]) 2 1000 := (Sm.lst (d := 1) (w := 207) (L := 3) (fun x hx => by
        simp only [List.mem_cons, List.not_mem_nil, or_false, or_self] at hx
        subst hx; exact sm_tro t0 (by omega)) (by simp)).mono (by omega) (by omega)
      have v1 := biv_reprl (lv := false) (st := st) (u1.sh (by omega) (by omega))
      have v2 := biv_reprl (lv := false) (st := st) (u2.sh (by omega) (by omega))
      simp [E, a1, a2, a3, a4, a5, vTro_isn, bin_rep, rep_four, rep_three, v1, v2, ne_same u1.s, ne_same u2.s]) (E none none none) ⟨none, none, none, rfl⟩
  have e1 := law_table_ok htb (rows := rows) (by have := h.1; omega) (j + 1) st
  have e2 := turned_ok htu h (by omega) (j + 1) st
  rcases main with ⟨v, g1, e3⟩ | ⟨g1, env1, e3, x, y, z, rfl⟩
  · rw [List.findSome?_eq_none_iff.mpr fun _ _ => rfl] at g1
    cases g1
  · rw [← vL] at e3
    simp only [E] at e3
    have rT : ∀ lv, biv .repr lv [vT rows] st = .ok (.str (toPy (vT rows)).shown) st := fun lv => biv_reprt (s2.sh (by omega) (by omega))
    simp [a_is_told, e1, e2, r1, e3, q1, rT, q2]
theorem drawn_ok {F : Nat → Option FD} {f g w od co a h u s r m c o : Nat} (hf : F f = some (a_drawn g od co w)) (hod : F od = some (a_order m a g)) (hco : F co = some (a_course m a g)) (hw : F w = some (a_world a g c h o)) (ho' : F o = some (a_grown g u s r m)) (hc : F c = some (a_shade g a)) (hu : F u = some a_put) (hs' : F s = some (a_small g a h)) (hr' : F r = some a_renamed) (hm' : F m = some (a_mixed g)) (hh : F h = some (a_chance a)) (ha : F a = some (a_any g)) (hg : F g = some a_draw)
    (n most : Nat) (hk : most ≤ 40) {st rest : Store} (p : Pool st rest) (ho : Old rest) :
    ∃ k rows st', runF F (n + 8) f [.ref 1, .int most] st = .ok (.lst (vM rows)) st' ∧ Pool st' rest ∧ Tb k rows ∧ k ≤ most := by
  rw [runF_eq hf rfl]
  obtain ⟨d, s1, e1, p1, b1⟩ := draw_nat hg (n + 6) 7 7 rfl (by omega) (by omega) p
  by_cases h0 : d = 0
  · subst h0
    obtain ⟨k, s2, e2, p2, b2⟩ := draw_nat hg (n + 6) ((most : Int) + 1) (most + 1) (by omega) (by omega) (by omega) p1
    obtain ⟨rows, s3, e3, p3, sq⟩ := order_ok hod hm' ha hg (n + 4) k (by omega) p2 ho
    refine ⟨k, rows, s3, ?_, p3, sq, by omega⟩
    simp at e1
    simp [a_drawn, e1, e2, e3, trunc, p.len, p3.len]
  by_cases h1 : d = 1
  · subst h1
    obtain ⟨k, s2, e2, p2, b2⟩ := draw_nat hg (n + 6) ((most : Int) + 1) (most + 1) (by omega) (by omega) (by omega) p1
    obtain ⟨rows, s3, e3, p3, sq⟩ := course_ok hco hm' ha hg (n + 4) k (by omega) p2 ho
    refine ⟨k, rows, s3, ?_, p3, sq, by omega⟩
    simp at e1
    simp [a_drawn, e1, e2, e3, trunc, p.len, p3.len]
  · obtain ⟨k, rows, s3, e3, p3, sq, hkm⟩ := world_ok hw ho' hc hu hs' hr' hm' hh ha hg n most (by omega) (decide ((d : Int) = 2)) p1 ho
    refine ⟨k, rows, s3, ?_, p3, sq, hkm⟩
    have h1' : ¬ (d : Int) = 1 := by omega
    simp [a_drawn, e1, h0, h1', e3, trunc, p.len, p3.len]
end Cp

set_option Elab.async false
set_option linter.all false
set_option maxRecDepth 100000
set_option maxHeartbeats 16000000
/-! CoA19: the plain law of k06: drawn lots, the law. -/
namespace Cp
open Co
open PySem

theorem Pool.last {st rest cs : Store} {c : Cell} (p : Pool st (rest ++ cs ++ [c])) : st[rest.length + 2 + cs.length]? = some c := by
  have := p.get (rest.length + cs.length)
  rw [show rest.length + cs.length + 2 = rest.length + 2 + cs.length by omega] at this
  rw [this, ← List.length_append, List.getElem?_append_right (Nat.le_refl _), Nat.sub_self]
  rfl
theorem Pool.setLast {st rest cs : Store} {c : Cell} (p : Pool st (rest ++ cs ++ [c])) (d : Cell) : Pool (st.set (rest.length + 2 + cs.length) d) (rest ++ cs ++ [d]) := by
  have := p.set (rest.length + cs.length) d
  rw [show rest.length + cs.length + 2 = rest.length + 2 + cs.length by omega, ← List.length_append, List.set_append_right _ _ (Nat.le_refl _), Nat.sub_self] at this
  exact this
theorem vL_app (a b : List (List Nat)) : vL a ++ vL b = vL (a ++ b) := by simp [vL]
theorem frzL_vL {m : Nat} : ∀ (ls : List (List Nat)) (s : Store), frzL (frzV m) (vL ls) s = some (vL ls, s) := by
  intro ls s
  induction ls with
  | nil => rfl
  | cons r ls ih =>
    show (match frzV m (.tup (vN r)) s with
      | some (y, st') => (match frzL (frzV m) (vL ls) st' with
        | some (ys, st'') => some (y :: ys, st'')
        | none => none)
      | none => none) = _
    rw [frz_id (v := .tup (vN r)) (fun i e => by cases e)]
    simp only [ih]
    rfl
theorem frz_vL {m i : Nat} {st : Store} {ls : List (List Nat)} (h : st[i]? = some (.lst (vL ls))) : frzV (m + 1) (.ref i) st = some (.lst (vL ls), st.set i .dead) := by
  simp only [frzV, h, frzL_vL]
theorem below_vN (n : Nat) (l : List Nat) : below n (.tup (vN l)) = true := by
  simp only [below]
  rw [vN_vI]
  exact belows_vI n _
theorem below_vL (n : Nat) (ls : List (List Nat)) : below n (.lst (vL ls)) = true := by
  simp only [below]
  induction ls with
  | nil => rfl
  | cons l ls ih =>
    show (below n (.tup (vN l)) && belows n (vL ls)) = true
    rw [ih, below_vN]; rfl
theorem rng_vN (k : Nat) : rngV 0 k = vN (List.range k) := by simp [rngV, vN]
theorem lots_ok {F : Nat → Option FD} {f so le g lo te : Nat} (hf : F f = some (a_lots so le g)) (hso : F so = some (a_some g lo)) (hlo : F lo = some a_lot) (hle : F le = some (a_least te)) (hte : F te = some a_telling) (hg : F g = some a_draw)
    (j n : Nat) {rows : List (List Int)} (h : Sq n rows) (hn : n ≤ 8) {st rest : Store} (p : Pool st rest) (ho : Old rest) :
    ∃ ls st', runF F (j + 3) f [.ref 1, .lst (vM rows)] st = .ok (.lst (vL ls)) st' ∧ Pool st' rest ∧ (∀ l ∈ ls, Lot n l) ∧ ls.length ≤ 256 := by
  rw [runF_eq hf rfl]
  let E : Option Val → Option Val → Option Val → Option Val → Option Val → Nat → Ev := fun x y z w u k => [some (.ref 1), some (.lst (vM rows)), x, some (.int n), some (.ref (rest.length + 2 + k)), y, z, w, u]
  let I : Nat → Ev → Store → Prop := fun i env s => ∃ x y z w u cs ls, env = E x y z w u cs.length ∧ Pool s (rest ++ cs ++ [.lst (vL ls)]) ∧ (∀ l ∈ ls, Lot n l) ∧ ls.length ≤ 2 + 5 * i
  obtain ⟨env', s', e, x, y, z, w, u, cs, ls, rfl, p', hls, hlen⟩ := forL_inv (f := bodyF (runF F (j + 2)) (.nm 2) (b_lots_1 so le g)) (clr := []) (I := I) (rngV 0 4) 0 (by
    rintro i v hv env s ⟨x, y, z, w, u, cs, ls, rfl, ps, hls, hlen⟩
    obtain ⟨hi, rfl⟩ := rngV_get hv
    rw [Nat.zero_add] at hlen ⊢
    obtain ⟨lot, s1, e1, p1, L1⟩ := some_ok hso hlo hg j n (by omega) ps
    have e2 := law_least_ok hle hte h (by omega) L1 j s1
    have L2 := leastL_lot (rows := rows) n L1
    generalize leastL n rows n lot = own at e2 L2
    have g1 := p1.last
    have a1 : bin .add true (.lst (vL ls)) (.lst [.tup (vN lot), .tup (vN own)]) s1 = .ok (.ref s1.length) (s1 ++ [.lst (vL (ls ++ [lot, own]))]) := by
      rw [add_lst' (by simp; omega)]
      simp [vL]
    have p2 := p1.app [.lst (vL (ls ++ [lot, own]))]
    have l1 : s1.length = rest.length + 2 + (cs ++ [Cell.lst (vL ls)]).length := by rw [p1.len]; simp; omega
    by_cases h0 : n = 0
    · subst h0
      refine ⟨E (some (.int i)) (some (.tup (vN lot))) (some (.tup (vN own))) w u (cs ++ [Cell.lst (vL ls)]).length, s1 ++ [.lst (vL (ls ++ [lot, own]))], ?_, _, _, _, _, _, cs ++ [.lst (vL ls)], ls ++ [lot, own], rfl, by simpa using p2, ?_, by simp; omega⟩
      · rw [bodyF_eq rfl]
        simp at e1
        simp [E, b_lots_1, e1, e2, dr_ref g1, a1, l1]
      · intro l hl
        simp only [List.mem_append, List.mem_cons, List.not_mem_nil, or_false] at hl
        rcases hl with hl | rfl | rfl
        · exact hls l hl
        · exact L1
        · exact L2
    · have h0' : (0 : Int) < (n : Int) := by omega
      obtain ⟨x3, s3, e3, p3, b3⟩ := draw_nat hg (j + 1) (n : Int) n rfl (by omega) (by omega) p2
      have c1 : compL (turnP (runF F (j + 2)) (.var 8) (.nm 8) (.cmp .ne (.var 8) (.var 7)) (E (some (.int i)) (some (.tup (vN lot))) (some (.tup (vN own))) (some (.int x3)) u (cs ++ [Cell.lst (vL ls)]).length) [8]) (vN own) s3 = .ok (vN (own.filter fun y => !decide (y = x3))) s3 := by
        refine (compL_via (fun (i : Nat) => Val.int (i : Int)) (fun (y : Nat) => if (!decide (y = x3)) = true then some (Val.int y) else none) own fun y _ => ?_).trans ?_
        rotate_left
        · rw [filterMap_if]; rfl
        · rw [turnP_eq rfl]
          by_cases hy : y = x3
          · simp [E, hy]
          · have hy' : ¬ (y : Int) = (x3 : Int) := by omega
            simp [E, hy, hy']
      have lf : (own.filter fun y => !decide (y = x3)).length ≤ own.length := List.length_filter_le _ _
      have Lf : (own.filter fun y => !decide (y = x3)).Nodup ∧ (∀ y ∈ own.filter fun y => !decide (y = x3), y < n ∧ y ≠ x3) := by
        refine ⟨L2.nodup.filter _, fun y hy => ?_⟩
        obtain ⟨q1, q2⟩ := List.mem_filter.mp hy
        exact ⟨L2.2 y q1, by simpa using q2⟩
      generalize (own.filter fun y => !decide (y = x3)) = fl at c1 lf Lf
      let ex : List Nat := if x3 ∈ own then [] else [x3]
      have Lx : Lot n (sortN (fl ++ ex)) := by
        refine lot_sort ?_ fun y hy => ?_
        · by_cases hx : x3 ∈ own
          · simpa only [ex, if_pos hx, List.append_nil] using Lf.1
          · simp only [ex, if_neg hx]
            rw [List.nodup_append]
            exact ⟨Lf.1, by simp, fun a ha b hb => by simp at hb; subst hb; exact (Lf.2 a ha).2⟩
        · rcases List.mem_append.mp hy with hy | hy
          · exact (Lf.2 y hy).1
          · by_cases hx : x3 ∈ own
            · simp [ex, hx] at hy
            · simp [ex, hx] at hy; omega
      have hol := L2.len
      have a2 : bin .add false (.lst (vN fl)) (.lst (vN ex)) s3 = .ok (.lst (vN (fl ++ ex))) s3 := by
        have : ex.length ≤ 1 := by simp only [ex]; split <;> simp
        rw [add_lst' (by simp; omega)]
        simp [vN]
      have g3 : s3[rest.length + 2 + (cs ++ [Cell.lst (vL ls)]).length]? = some (.lst (vL (ls ++ [lot, own]))) := by
        have := Pool.last (cs := cs ++ [Cell.lst (vL ls)]) (c := .lst (vL (ls ++ [lot, own]))) (by simpa using p3)
        exact this
      generalize hk1 : (cs ++ [Cell.lst (vL ls)]).length = k1 at *
      have a3 : bin .add true (.lst (vL (ls ++ [lot, own]))) (.lst [.tup [.int x3], .tup (vN (sortN (fl ++ ex)))]) s3 = .ok (.ref s3.length) (s3 ++ [.lst (vL (ls ++ [lot, own, [x3], sortN (fl ++ ex)]))]) := by
        rw [add_lst' (by simp; omega)]
        simp [vL, vN]
      have p4 := p3.app [.lst (vL (ls ++ [lot, own, [x3], sortN (fl ++ ex)]))]
      have l3 : s3.length = rest.length + 2 + (k1 + 1) := by rw [p3.len]; simp at hk1 ⊢; omega
      have g4 : (s3 ++ [Cell.lst (vL (ls ++ [lot, own, [x3], sortN (fl ++ ex)]))])[rest.length + 2 + (k1 + 1)]? = some (.lst (vL (ls ++ [lot, own, [x3], sortN (fl ++ ex)]))) := by
        rw [← l3]; simp
      have hpos : 0 < n := by omega
      obtain ⟨x5, s5, e5, p5, b5⟩ := draw_nat hg (j + 1) (n : Int) n rfl (by omega) (by omega) p4
      have L5 : Lot n (sortN (dedN [x3, x5])) := lot_sort (dedN_nodup _) fun y hy => by
        have := (dedN_mem _ _).mp hy
        simp at this; omega
      have e6 := law_least_ok hle hte h (by omega) L5 j s5
      have L6 := leastL_lot (rows := rows) n L5
      generalize leastL n rows n (sortN (dedN [x3, x5])) = own2 at e6 L6
      have sv := biv_setN false [x3, x5] (by simp) s5
      have hv2 : vN [x3, x5] = [.int x3, .int x5] := rfl
      rw [hv2] at sv
      have hcs : (cs ++ [Cell.lst (vL ls), Cell.lst (vL (ls ++ [lot, own]))]).length = k1 + 1 := by simp at hk1 ⊢; omega
      have p5' : Pool s5 (rest ++ (cs ++ [Cell.lst (vL ls), Cell.lst (vL (ls ++ [lot, own]))]) ++ [.lst (vL (ls ++ [lot, own, [x3], sortN (fl ++ ex)]))]) := by simpa using p5
      have g5 := p5'.last
      have p6 := p5'.setLast (.lst (vL (ls ++ [lot, own, [x3], sortN (fl ++ ex)] ++ [own2])))
      rw [hcs] at g5 p6
      have lq : (vL (ls ++ [lot, own, [x3], sortN (fl ++ ex)])).length < LIM := by simp [LIM]; omega
      refine ⟨E (some (.int i)) (some (.tup (vN lot))) (some (.tup (vN own))) (some (.int x3)) u (cs ++ [Cell.lst (vL ls), Cell.lst (vL (ls ++ [lot, own]))]).length, _, ?_, _, _, _, _, _, cs ++ [Cell.lst (vL ls), Cell.lst (vL (ls ++ [lot, own]))], ls ++ [lot, own, [x3], sortN (fl ++ ex)] ++ [own2], rfl, p6, ?_, by simp; omega⟩
      · rw [bodyF_eq rfl]
        have hite : (if x3 ∈ own then Val.lst [] else Val.lst [.int x3]) = Val.lst (vN ex) := by
          by_cases hx : x3 ∈ own <;> simp [hx, ex, vN]
        have lo1 : ¬ LIM < own.length := by simp [LIM]; omega
        simp only [E, hk1] at c1
        rw [hcs]
        have vapp : ∀ a : List (List Nat), vL a ++ [Val.tup (vN own2)] = vL (a ++ [own2]) := fun a => by simp [vL]
        simp [E, b_lots_1, e1, e2, dr_ref g1, a1, l1, h0', e3, lo1, c1, hite, a2, biv_sortNl, dr_ref g3, a3, l3, mth_ref g4 (.inl rfl), hpos, e5, sv, e6, app_ref g5 lq, vapp]
      · intro l hl
        simp only [List.mem_append, List.mem_cons, List.not_mem_nil, or_false] at hl
        rcases hl with (hl | rfl | rfl | rfl | rfl) | rfl
        · exact hls l hl
        · exact L1
        · exact L2
        · exact .one b3
        · exact Lx
        · exact L6) (E none none none none none 0) (st ++ [.lst (vL [[], List.range n])]) ⟨none, none, none, none, none, [], _, rfl, by simpa using p.app [.lst (vL [[], List.range n])], by
      intro l hl
      simp only [List.mem_cons, List.not_mem_nil, or_false] at hl
      rcases hl with rfl | rfl
      · exact .nil n
      · exact .all n, by simp⟩
  have c1 : (-1000000 : Int) ≤ (n : Int) ∧ (n : Int) ≤ 1000000 := by omega
  have g1 := p'.last
  have p2 := p'.setLast .dead
  rw [rngV_len] at hlen
  have p3 : Pool (s'.set (rest.length + 2 + cs.length) .dead) (rest ++ (cs ++ [.dead])) := by simpa using p2
  refine ⟨ls, _, ?_, p3.take, hls, by omega⟩
  have v0 : vL [[], List.range n] = [.tup [], .tup (vN (List.range n))] := rfl
  rw [v0] at e
  simp only [E, Nat.add_zero] at e
  simp [a_lots, h.1, c1, rng_vN, p.len] 
  rw [← rng_vN, e]
  simp [frz_vL (m := 2) g1, Pool.cut p3 ho (below_vL _ _)]
theorem telling_eq {F : Nat → Option FD} {f q : Nat} (hf : F f = some (p_telling q)) (hq : F q = some p_parts_two) {n : Nat} {rows : List (List Int)} (h : Sq n rows) (hn : n ≤ 1000) {lot : List Nat} (hl : Lot n lot) (j : Nat) (st : Store) (o : Option (Nat × Nat × Nat)) (ho : tellL n rows lot = o) :
    runF F (j + 2) f [vT rows, .tup (vN lot)] st = .ok (vTro o) st := by
  rw [telling_ok hf hq h hn hl.2 j st, tell_eq hl, ho]
theorem law6_ok {F : Nat → Option FD} {f pl dr' it ls lo tp ip g w od co a h u s r m c o so le te tb tu q : Nat} (hf : F f = some (a_law6 pl dr' it ls lo tp ip)) (hpl : F pl = some a_pool) (hdr : F dr' = some (a_drawn g od co w)) (hit : F it = some (a_is_told tb tu te ip tp)) (hls : F ls = some (a_lots so le g)) (hso : F so = some (a_some g lo)) (hlo : F lo = some a_lot) (hle : F le = some (a_least te)) (hte : F te = some a_telling)
    (htb : F tb = some a_table) (htu : F tu = some p_turned) (hip : F ip = some (p_is_piece q)) (htp : F tp = some (p_telling q)) (hq : F q = some p_parts_two)
    (hod : F od = some (a_order m a g)) (hco : F co = some (a_course m a g)) (hw : F w = some (a_world a g c h o)) (ho' : F o = some (a_grown g u s r m)) (hc : F c = some (a_shade g a)) (hu : F u = some a_put) (hs' : F s = some (a_small g a h)) (hr' : F r = some a_renamed) (hm' : F m = some (a_mixed g)) (hh : F h = some (a_chance a)) (ha : F a = some (a_any g)) (hg : F g = some a_draw)
    (n : Nat) (ns : List Int) (hl : ns.length ≤ 63) : ∃ st, runF F (n + 9) f [.scr (vI ns)] [] = .ok (.bl true) st := by
  rw [runF_eq hf rfl]
  have old : Old [] := rfl
  obtain ⟨st, e0, p0⟩ := pool_ok hpl (n + 7) ns hl
  let E : Option Val → Option Val → Ev := fun x y => [some (.scr (vI ns)), some (.ref 1), x, none, none, y, none, none, none]
  obtain ⟨env1, s1, e1, x1, y1, rfl, p1⟩ := forL_inv (f := bodyF (runF F (n + 8)) (.nm 2) (b_law6_1 dr' it ls)) (clr := []) (I := fun i env s => ∃ x y, env = E x y ∧ Pool s []) (rngV 0 2) 0 (by
    rintro i v hv env s ⟨x, y, rfl, p⟩
    obtain ⟨hi, rfl⟩ := rngV_get hv
    obtain ⟨k, rows, t1, d1, p1, tb, hk⟩ := drawn_ok hdr hod hco hw ho' hc hu hs' hr' hm' hh ha hg n 8 (by omega) p old
    have sq := tb.sq
    obtain ⟨lts, t2, d2, p2, hlt, hll⟩ := lots_ok hls hso hlo hle hte hg (n + 5) k sq hk p1 old
    have d3 := is_told_ok hit htb htu hte hip htp hq sq hk hlt hll (n + 5) t2
    refine ⟨E (some (.int i)) (some (.lst (vM rows))), t2, ?_, _, _, rfl, p2⟩
    rw [bodyF_eq rfl]
    simp at d1
    simp [E, b_law6_1, d1, d2, d3]) (E none none) st ⟨none, none, rfl, p0⟩
  obtain ⟨env2, s2, e2, x2, y2, rfl, p2⟩ := forL_inv (f := bodyF (runF F (n + 8)) (.nm 2) (b_law6_2 dr' it lo)) (clr := []) (I := fun i env s => ∃ x y, env = E x y ∧ Pool s []) (rngV 0 2) 0 (by
    rintro i v hv env s ⟨x, y, rfl, p⟩
    obtain ⟨hi, rfl⟩ := rngV_get hv
    obtain ⟨k, rows, t1, d1, p1, tb, hk⟩ := drawn_ok hdr hod hco hw ho' hc hu hs' hr' hm' hh ha hg n 5 (by omega) p old
    have sq := tb.sq
    have hp : 2 ^ k ≤ 2 ^ 5 := Nat.pow_le_pow_right (by omega) hk
    have hs := shl_one (x := k) (by omega)
    have hlo2 := fun (m : Nat) (h : m < 2 ^ k) => lot_of h
    generalize 2 ^ k = K at hp hs hlo2
    have c2 : (-1000000 : Int) ≤ (K : Int) ∧ (K : Int) ≤ 1000000 := by omega
    have cl : compL (turnP (runF F (n + 8)) (c_law6_1 lo) (.nm 8) (.cst (.bl true)) (E (some (.int i)) (some (.lst (vM rows)))) [8]) (rngV 0 K) t1 = .ok (vL ((List.range K).map lotOf)) t1 := by
      rw [compL_rng fun m => .tup (vN (lotOf m))]
      · simp [vL, Function.comp_def]
      · intro m hm
        rw [turnP_eq rfl]
        simp [E, c_law6_1, lot_ok hlo]
    have hlt : ∀ l ∈ (List.range K).map lotOf, Lot k l := by
      intro l hl
      obtain ⟨m, hm, rfl⟩ := List.mem_map.mp hl
      exact hlo2 m (List.mem_range.mp hm)
    have l1 : ¬ LIM < (rngV 0 K).length := by rw [rngV_len]; simp only [LIM]; omega
    have d3 := is_told_ok hit htb htu hte hip htp hq sq (by omega) hlt (by simp; omega) (n + 5) t1
    generalize (List.range K).map lotOf = lts at *
    refine ⟨E (some (.int i)) (some (.lst (vM rows))), t1, ?_, _, _, rfl, p1⟩
    rw [bodyF_eq rfl]
    simp at d1
    simp only [E] at cl
    simp [E, b_law6_2, d1, sq.1, hs, c2, l1, cl, d3]) (E x1 y1) s1 ⟨x1, y1, rfl, p1⟩
  have sqF : Sq 3 [[0, 0, 1], [0, 0, 1], [1, 1, 0]] := ⟨rfl, by decide⟩
  have sqL : Sq 3 [[0, 1, 1], [0, 0, 1], [0, 0, 0]] := ⟨rfl, by decide⟩
  have sqR : Sq 3 [[0, 1, 0], [0, 0, 1], [1, 0, 0]] := ⟨rfl, by decide⟩
  have l02 : Lot 3 [0, 2] := ⟨by decide, by decide⟩
  have l01 : Lot 3 [0, 1] := ⟨by decide, by decide⟩
  have k1 := telling_eq htp hq sqF (by omega) l02 (n + 6) s2 _ (by decide : tellL 3 [[0, 0, 1], [0, 0, 1], [1, 1, 0]] [0, 2] = some (1, 0, 2))
  have k2 := telling_eq htp hq sqF (by omega) l01 (n + 6) s2 _ (by decide : tellL 3 [[0, 0, 1], [0, 0, 1], [1, 1, 0]] [0, 1] = none)
  have k3 := telling_eq htp hq sqR (by omega) l01 (n + 6) s2 _ (by decide : tellL 3 [[0, 1, 0], [0, 0, 1], [1, 0, 0]] [0, 1] = some (2, 0, 1))
  have k4 := is_piece_ok hip hq sqL (by omega) l02.2 (by decide) (n + 6) s2
  rw [show pieceB 3 [[0, 1, 1], [0, 0, 1], [0, 0, 0]] [0, 2] = false by decide] at k4
  simp [vT, vMt, vI, vN, vTro, vTr] at k1 k2 k3 k4
  have sm : Sm (.lst [.tup [.int 1, .int 0, .int 2], .non, .tup [.int 2, .int 0, .int 1], .bl false]) 2 10000 := ⟨by decide, by decide, by decide⟩
  have v1 := biv_reprl (lv := false) (st := s2) (sm.sh (by omega) (by omega))
  simp only [E] at e1 e2
  refine ⟨trunc 0 (.bl true) s2, ?_⟩
  simp [a_law6, e0, e1, e2, k1, k2, k3, k4, v1, eq_same sm.s]
end Cp

set_option Elab.async false
set_option linter.all false
set_option maxRecDepth 100000
set_option maxHeartbeats 16000000
/-! CoB1: is_even, is_web, is_order, is_course of the package. -/
namespace Cp
open Co
open PySem

/-- the store holds nothing newer -/
def Fine (st : Store) : Prop := st.all (Cell.below st.length) = true
theorem Pool.fine {st rest : Store} (p : Pool st rest) (ho : Old rest) : Fine st := p.allb ho
theorem Fine.nil : Fine [] := rfl
theorem Fine.cut {st rest : Store} {v : Val} (h : Fine st) (hv : below st.length v = true) : trunc st.length v (st ++ rest) = st := trunc_cut hv h
theorem ext_ref {lv : Bool} {i : Nat} {st : Store} {xs ys : List Val} (h : st[i]? = some (.lst xs)) (hl : xs.length + ys.length ≤ LIM) : mtv .extend lv (.ref i) [.lst ys] st = .ok .non (st.set i (.lst (xs ++ ys))) := by
  simp only [mtv, dr, h, hl, if_true]
def vPr (ps : List (Nat × Nat)) : List Val := ps.map fun p => .tup [.int (p.1 : Nat), .int (p.2 : Nat)]
@[scoped simp] theorem vPr_len (ps : List (Nat × Nat)) : (vPr ps).length = ps.length := by simp [vPr]
def twoTo (n i : Nat) : List (Nat × Nat) := (List.range i).flatMap fun x => (List.range (n - (x + 1))).map fun j => (x, x + 1 + j)
def two (n : Nat) : List (Nat × Nat) := twoTo n n
theorem twoTo_succ (n i : Nat) : twoTo n (i + 1) = twoTo n i ++ (List.range (n - (i + 1))).map fun j => (i, i + 1 + j) := by
  simp [twoTo, List.range_succ, List.flatMap_append]
theorem two_mem {n x y : Nat} : (x, y) ∈ two n ↔ x < y ∧ y < n := by
  simp only [two, twoTo, List.mem_flatMap, List.mem_map, List.mem_range, Prod.mk.injEq]
  constructor
  · rintro ⟨a, ha, b, hb, rfl, rfl⟩
    omega
  · rintro ⟨h1, h2⟩
    exact ⟨x, by omega, y - (x + 1), by omega, rfl, by omega⟩
theorem twoTo_len (n i : Nat) : (twoTo n i).length ≤ i * n := by
  induction i with
  | zero => simp [twoTo]
  | succ i ih =>
    rw [twoTo_succ, List.length_append, List.length_map, List.length_range, Nat.succ_mul]
    omega
theorem frz_plain {m i : Nat} {st : Store} {xs : List Val} (h : st[i]? = some (.lst xs)) (hx : ∀ x ∈ xs, ∀ j, x ≠ .ref j) : frzV (m + 1) (.ref i) st = some (.lst xs, st.set i .dead) := by
  have : ∀ (ys : List Val) (s : Store), (∀ x ∈ ys, ∀ j, x ≠ .ref j) → frzL (frzV m) ys s = some (ys, s) := by
    intro ys s hy
    induction ys with
    | nil => rfl
    | cons y ys ih =>
      show (match frzV m y s with
        | some (y, st') => (match frzL (frzV m) ys st' with
          | some (ys, st'') => some (y :: ys, st'')
          | none => none)
        | none => none) = _
      rw [frz_id (v := y) (hy y (by simp))]
      simp only [ih fun x hx => hy x (by simp [hx])]
  simp only [frzV, h, this _ _ hx]
theorem vPr_plain {ps : List (Nat × Nat)} : ∀ x ∈ vPr ps, ∀ j, x ≠ Val.ref j := by
  intro x hx j
  obtain ⟨p, _, rfl⟩ := List.mem_map.mp hx
  exact fun e => by cases e
theorem below_vPr (n : Nat) (ps : List (Nat × Nat)) : below n (.lst (vPr ps)) = true := by
  simp only [below]
  induction ps with
  | nil => rfl
  | cons p ps ih => 
    show (below n (.tup [.int (p.1 : Nat), .int (p.2 : Nat)]) && belows n (vPr ps)) = true
    rw [ih]; rfl
theorem two_things_ok {F : Nat → Option FD} {f : Nat} (hf : F f = some p_two_things) (n : Nat) (hn : n ≤ 100) (j : Nat) {st : Store} (hs : Fine st) :
    runF F (j + 1) f [.int n] st = .ok (.lst (vPr (two n))) st := by
  rw [runF_eq hf rfl]
  have c1 : (-1000000 : Int) ≤ (n : Int) ∧ (n : Int) ≤ 1000000 := by omega
  let E : Option Val → Ev := fun x => [some (.int n), some (.ref st.length), x, none]
  let I : Nat → Ev → Store → Prop := fun i env s => ∃ x, env = E x ∧ s = st ++ [.lst (vPr (twoTo n i))]
  obtain ⟨env', s', e, x, rfl, rfl⟩ := forL_inv (f := bodyF (runF F j) (.nm 2) b_ptwo_things_1) (clr := []) (I := I) (rngV 0 n) 0 (by
    rintro i w hw env s ⟨x, rfl, rfl⟩
    obtain ⟨hi, rfl⟩ := rngV_get hw
    rw [Nat.zero_add]
    have g : (st ++ [Cell.lst (vPr (twoTo n i))])[st.length]? = some (.lst (vPr (twoTo n i))) := by simp
    have hc : compL (turnP (runF F j) c_ptwo_things_1 (.nm 3) (.cst (.bl true)) (E (some (.int i))) [3]) (rngV ((i : Int) + 1) (n - (i + 1))) (st ++ [Cell.lst (vPr (twoTo n i))]) = .ok (vPr ((List.range (n - (i + 1))).map fun j => (i, i + 1 + j))) (st ++ [Cell.lst (vPr (twoTo n i))]) := by
      rw [compL_rng fun j => .tup [.int (i : Nat), .int ((i + 1 + j : Nat))]]
      · simp [vPr, Function.comp_def]
      · intro k hk
        rw [turnP_eq rfl]
        simp [c_ptwo_things_1, E]
    have hl1 := twoTo_len n i
    have hl2 : i * n ≤ 100 * 100 := Nat.mul_le_mul (by omega) hn
    have hl : (vPr (twoTo n i)).length + (vPr ((List.range (n - (i + 1))).map fun j => (i, i + 1 + j))).length ≤ LIM := by
      simp only [vPr_len, List.length_map, List.length_range, LIM]; omega
    have c3 : (-1000000 : Int) ≤ (i : Int) + 1 ∧ (i : Int) + 1 ≤ 1000000 ∧ (-1000000 : Int) ≤ (n : Int) ∧ (n : Int) ≤ 1000000 := by omega
    have e3 : ((n : Int) - ((i : Int) + 1)).toNat = n - (i + 1) := by omega
    have l1 : ¬ LIM < n - (i + 1) := by simp only [LIM]; omega
    refine ⟨E (some (.int i)), _, ?_, _, rfl, by rw [twoTo_succ]⟩
    rw [bodyF_eq rfl]
    simp only [E] at hc
    simp [-kRng3_ok, b_ptwo_things_1, E, mth_ref g (.inr (.inr (.inr rfl))), kRng3_n c3, e3, rngV_len, l1, hc, ext_ref g hl]
    simp [vPr]) (E none) (st ++ [.lst []]) ⟨_, rfl, rfl⟩
  rw [rngV_len, Nat.zero_add] at e
  have g : (st ++ [Cell.lst (vPr (two n))])[st.length]? = some (.lst (vPr (two n))) := by simp
  simp only [E] at e
  have hc := fun r => hs.cut (rest := r) (v := .lst (vPr (two n))) (below_vPr _ _)
  rw [show twoTo n n = two n from rfl] at e
  simp [p_two_things, c1, e, frz_plain (m := 2) g vPr_plain, hc]
/-! what is told -/
def evenB (n : Nat) (rows : List (List Int)) : Bool := (two n).all fun p => decide (cel rows p.1 p.2 = cel rows p.2 p.1)
def plainB (rows : List (List Int)) : Bool := rows.all fun r => r.all fun v => decide (v ≤ 1)
def orderB (n : Nat) (rows : List (List Int)) : Bool := plainB rows && (!(two n).any fun p => decide (cel rows p.1 p.2 = 1) && decide (cel rows p.2 p.1 = 1)) &&
  (List.range n).all fun x => (List.range n).all fun y => !(decide (cel rows x y = 1) && (List.range n).any fun z => decide (cel rows y z = 1) && decide (cel rows x z = 0))
def courseB (n : Nat) (rows : List (List Int)) : Bool := plainB rows && (two n).all fun p => decide (cel rows p.1 p.2 + cel rows p.2 p.1 = 1)
theorem two_bd {n : Nat} {p : Nat × Nat} (h : p ∈ two n) : p.1 < n ∧ p.2 < n := by
  have := two_mem.mp h
  omega
theorem is_even_ok {F : Nat → Option FD} {f q : Nat} (hf : F f = some (p_is_even q)) (hq : F q = some p_two_things) {n : Nat} {rows : List (List Int)} (h : Sq n rows) (hn : n ≤ 100) (j : Nat) {st : Store} (hs : Fine st) :
    runF F (j + 2) f [vT rows] st = .ok (.bl (evenB n rows)) st := by
  rw [runF_eq hf rfl]
  have ev : vT rows = .tup [.int n, .tup (vMt rows)] := by rw [vT, h.1]
  have e1 := two_things_ok hq n hn j hs
  have lt := twoTo_len n n
  have lt2 : n * n ≤ 100 * 100 := Nat.mul_le_mul hn hn
  have l1 : ¬ LIM < (two n).length := by simp only [LIM, two]; omega
  have hc : compL (turnP (runF F (j + 1)) c_pis_even_1 (.tp [3, 4]) (.cst (.bl true)) [some (vT rows), some (.int n), some (.tup (vMt rows)), none, none] [3, 4]) (vPr (two n)) st = .ok ((two n).map fun p => .bl (decide (cel rows p.1 p.2 = cel rows p.2 p.1))) st := by
    refine compL_mapv (fun (p : Nat × Nat) => Val.tup [.int (p.1 : Nat), .int (p.2 : Nat)]) _ (two n) fun p hp => ?_
    rw [turnP_eq rfl]
    obtain ⟨a, b⟩ := two_bd hp
    simp [c_pis_even_1, h.rowt a, h.rowt b, h.cel a b, h.cel b a]
  rw [ev] at hc ⊢
  simp [p_is_even, e1, l1, hc, evenB]
theorem maxI_le1 (a : Int) (r : List Int) : decide (maxI a r ≤ 1) = (a :: r).all fun v => decide (v ≤ 1) := by
  induction r generalizing a with
  | nil => exact (Bool.and_true _).symm
  | cons x r ih =>
    rw [maxI, ih]
    simp only [List.all_cons]
    by_cases h1 : a < x
    · rw [if_pos h1]
      by_cases h2 : x ≤ 1
      · have : a ≤ 1 := by omega
        simp [h2, this]
      · simp [h2]
    · rw [if_neg h1]
      by_cases h2 : a ≤ 1
      · have : x ≤ 1 := by omega
        simp [h2, this]
      · simp [h2]
theorem is_plain_ok {F : Nat → Option FD} {f : Nat} (hf : F f = some p_is_plain) {n : Nat} {rows : List (List Int)} (h : Sq n rows) (hn : n ≤ 100) (j : Nat) (st : Store) :
    runF F (j + 1) f [vT rows] st = .ok (.bl (plainB rows)) st := by
  rw [runF_eq hf rfl]
  have ev : vT rows = .tup [.int n, .tup (vMt rows)] := by rw [vT, h.1]
  have l1 : ¬ LIM < rows.length := by simp only [LIM, h.1]; omega
  have hc : compL (turnP (runF F j) c_pis_plain_1 (.nm 1) (.cst (.bl true)) [some (vT rows), none] [1]) (vMt rows) st = .ok (rows.map fun r => .bl (r.all fun v => decide (v ≤ 1))) st := by
    refine compL_mapv (fun r => Val.tup (vI r)) _ rows fun r hr => ?_
    rw [turnP_eq rfl]
    have hl := (h.2 r hr).1
    have : 0 < rows.length := List.length_pos_of_mem hr
    have hn0 : 0 < n := by rw [← h.1]; exact this
    cases r with
    | nil => simp at hl; omega
    | cons a r =>
      have e : biv .max1 false [.tup (vI (a :: r))] st = .ok (.int (maxI a r)) st := by
        simp only [biv, dr, vI_ints]
      simp [c_pis_plain_1, e, maxI_le1]
  rw [ev] at hc ⊢
  have a1 : L2.atI [Val.int (n : Int), Val.tup (vMt rows)] 1 = some (.tup (vMt rows)) := rfl
  simp [p_is_plain, a1, l1, hc, plainB]
theorem is_web_ok {F : Nat → Option FD} {f e q p : Nat} (hf : F f = some (p_is_web e p)) (he : F e = some (p_is_even q)) (hp : F p = some p_is_plain) (hq : F q = some p_two_things) {n : Nat} {rows : List (List Int)} (h : Sq n rows) (hn : n ≤ 100) (j : Nat) {st : Store} (hs : Fine st) :
    runF F (j + 3) f [vT rows] st = .ok (.bl (evenB n rows && plainB rows)) st := by
  rw [runF_eq hf rfl]
  simp [p_is_web, is_even_ok he hq h hn j hs, is_plain_ok hp h hn (j + 1) st]
theorem is_course_ok {F : Nat → Option FD} {f q p : Nat} (hf : F f = some (p_is_course p q)) (hp : F p = some p_is_plain) (hq : F q = some p_two_things) {n : Nat} {rows : List (List Int)} (h : Sq n rows) (hn : n ≤ 100) (j : Nat) {st : Store} (hs : Fine st) :
    runF F (j + 2) f [vT rows] st = .ok (.bl (courseB n rows)) st := by
  rw [runF_eq hf rfl]
  have ev : vT rows = .tup [.int n, .tup (vMt rows)] := by rw [vT, h.1]
  have e1 := two_things_ok hq n hn j hs
  have e2 := is_plain_ok hp h hn j st
  have lt := twoTo_len n n
  have lt2 : n * n ≤ 100 * 100 := Nat.mul_le_mul hn hn
  have l1 : ¬ LIM < (two n).length := by simp only [LIM, two]; omega
  have hc : compL (turnP (runF F (j + 1)) c_pis_course_1 (.tp [3, 4]) (.cst (.bl true)) [some (vT rows), some (.int n), some (.tup (vMt rows)), none, none] [3, 4]) (vPr (two n)) st = .ok ((two n).map fun p => .bl (decide (cel rows p.1 p.2 + cel rows p.2 p.1 = 1))) st := by
    refine compL_mapv (fun (p : Nat × Nat) => Val.tup [.int (p.1 : Nat), .int (p.2 : Nat)]) _ (two n) fun p hp => ?_
    rw [turnP_eq rfl]
    obtain ⟨a, b⟩ := two_bd hp
    simp [c_pis_course_1, h.rowt a, h.rowt b, h.cel a b, h.cel b a]
  rw [ev] at hc e2 ⊢
  simp [p_is_course, e1, e2, l1, hc, courseB]
theorem rowAt_mem {n : Nat} {rows : List (List Int)} (h : Sq n rows) : rows = (List.range n).map (rowAt rows) := by
  refine List.ext_getElem (by simp [h.1]) fun i h1 h2 => ?_
  simp [rowAt, List.getD, h1]
theorem is_order_ok {F : Nat → Option FD} {f q p : Nat} (hf : F f = some (p_is_order p q)) (hp : F p = some p_is_plain) (hq : F q = some p_two_things) {n : Nat} {rows : List (List Int)} (h : Sq n rows) (hn : n ≤ 100) (j : Nat) {st : Store} (hs : Fine st) :
    runF F (j + 2) f [vT rows] st = .ok (.bl (orderB n rows)) st := by
  rw [runF_eq hf rfl]
  have ev : vT rows = .tup [.int n, .tup (vMt rows)] := by rw [vT, h.1]
  have c1 : (-1000000 : Int) ≤ (n : Int) ∧ (n : Int) ≤ 1000000 := by omega
  have e1 := two_things_ok hq n hn j hs
  have e2 := is_plain_ok hp h hn j st
  have lt := twoTo_len n n
  have lt2 : n * n ≤ 100 * 100 := Nat.mul_le_mul hn hn
  have l1 : ¬ LIM < (two n).length := by simp only [LIM, two]; omega
  have l2 : ¬ LIM < n := by simp only [LIM]; omega
  by_cases hpl : plainB rows = true
  rotate_left
  · have hpl : plainB rows = false := by simpa using hpl
    rw [hpl] at e2
    rw [ev] at e2 ⊢
    simp [p_is_order, e2, orderB, hpl]
  rw [hpl] at e2
  have hc : compL (turnP (runF F (j + 1)) c_pis_order_1 (.tp [5, 6]) (.cst (.bl true)) [some (vT rows), none, some (.int n), some (.tup (vMt rows)), none, none, none, none] [5, 6]) (vPr (two n)) st = .ok ((two n).map fun p => .bl (decide (cel rows p.1 p.2 = 1) && decide (cel rows p.2 p.1 = 1))) st := by
    refine compL_mapv (fun (p : Nat × Nat) => Val.tup [.int (p.1 : Nat), .int (p.2 : Nat)]) _ (two n) fun p hp => ?_
    rw [turnP_eq rfl]
    obtain ⟨a, b⟩ := two_bd hp
    simp [c_pis_order_1, h.rowt a, h.rowt b, h.cel a b, h.cel b a]
  by_cases han : ((two n).any fun p => decide (cel rows p.1 p.2 = 1) && decide (cel rows p.2 p.1 = 1)) = true
  · have hres : orderB n rows = false := by rw [orderB, hpl, han]; rfl
    rw [hres]
    rw [ev] at hc e2 ⊢
    have hb : biv .any false [.lst ((two n).map fun p => .bl (decide (cel rows p.1 p.2 = 1) && decide (cel rows p.2 p.1 = 1)))] st = .ok (.bl true) st := by rw [biv_any, han]
    simp [-biv_any, p_is_order, e1, e2, l1, hc, hb]
  have han : ((two n).any fun p => decide (cel rows p.1 p.2 = 1) && decide (cel rows p.2 p.1 = 1)) = false := by simpa using han
  have hb : biv .any false [.lst ((two n).map fun p => .bl (decide (cel rows p.1 p.2 = 1) && decide (cel rows p.2 p.1 = 1)))] st = .ok (.bl false) st := by rw [biv_any, han]
  let E : Option Val → Option Val → Ev := fun x y => [some (vT rows), x, some (.int n), some (.tup (vMt rows)), y, none, none, none]
  let P : Nat → Nat → Bool := fun x y => decide (cel rows x y = 1) && (List.range n).any fun z => decide (cel rows y z = 1) && decide (cel rows x z = 0)
  have main := forL_find (f := bodyF (runF F (j + 1)) (.nm 1) b_pis_order_2) (clr := []) (I := fun env => ∃ x y, env = E x y) (st := st) (fun x => Val.tup (vI (rowAt rows x))) (fun x => (List.range n).findSome? fun y => if P x y = true then some (.bl false) else none) (List.range n) (by
    rintro x hx env ⟨a, b, rfl⟩
    have hx : x < n := List.mem_range.mp hx
    have ly := forL_find (f := bodyF (runF F (j + 1)) (.nm 4) b_pis_order_1) (clr := []) (I := fun env => ∃ y, env = E (some (.tup (vI (rowAt rows x)))) y) (st := st) (fun (i : Nat) => Val.int (i : Int)) (fun y => if P x y = true then some (.bl false) else none) (List.range n) (by
      rintro y hy env ⟨b, rfl⟩
      have hy : y < n := List.mem_range.mp hy
      have hc2 : compL (turnP (runF F (j + 1)) c_pis_order_2 (.nm 7) (.cst (.bl true)) (E (some (.tup (vI (rowAt rows x)))) (some (.int y))) [7]) (rngV 0 n) st = .ok ((List.range n).map fun z => .bl (decide (cel rows y z = 1) && decide (cel rows x z = 0))) st := by
        refine compL_rng (fun z => .bl (decide (cel rows y z = 1) && decide (cel rows x z = 0))) fun z hz => ?_
        rw [turnP_eq rfl]
        simp [E, c_pis_order_2, h.rowt hy, h.cel hy hz, h.cel hx hz]
      rw [bodyF_eq rfl]
      have hbb : execSs (runF F (j + 1)) b_pis_order_1 ((E (some (.tup (vI (rowAt rows x)))) b).set 4 (some (.int y))) st = if P x y = true then .ret (.bl false) st else .nx (E (some (.tup (vI (rowAt rows x)))) (some (.int y))) st := by
        simp only [E] at hc2
        simp [P, E, b_pis_order_1, h.cel hx hy, c1, rngV_len, l2, hc2]
      rw [hbb]
      by_cases hcc : P x y = true
      · exact .inl ⟨_, if_pos hcc, if_pos hcc⟩
      · exact .inr ⟨if_neg hcc, _, .inl (if_neg hcc), _, rfl⟩) (E (some (.tup (vI (rowAt rows x)))) b) ⟨b, rfl⟩
    rw [bodyF_eq rfl]
    rw [← rngV_map] at ly
    rcases ly with ⟨v, g1, e3⟩ | ⟨g1, env1, e3, y1, rfl⟩
    · refine .inl ⟨v, g1, ?_⟩
      simp only [E] at e3 ⊢
      simp [b_pis_order_2, c1, e3]
    · refine .inr ⟨g1, E (some (.tup (vI (rowAt rows x)))) y1, .inl ?_, _, y1, rfl⟩
      simp only [E] at e3 ⊢
      simp [b_pis_order_2, c1, e3]) (E none none) ⟨none, none, rfl⟩
  have hrows : vMt rows = (List.range n).map fun x => Val.tup (vI (rowAt rows x)) := by
    conv => lhs; rw [rowAt_mem h]
    simp [vMt, Function.comp_def]
  rw [← hrows] at main
  have horder : orderB n rows = (List.range n).all fun x => (List.range n).all fun y => !P x y := by
    rw [orderB, hpl, han]; rfl
  rcases main with ⟨v, g1, e3⟩ | ⟨g1, env1, e3, x1, y1, rfl⟩
  · obtain ⟨x, hx, g2⟩ := List.exists_of_findSome?_eq_some g1
    obtain ⟨y, hy, g3⟩ := List.exists_of_findSome?_eq_some g2
    split at g3
    · rename_i hP
      cases g3
      have hres : orderB n rows = false := by
        rw [horder, List.all_eq_false]
        refine ⟨x, hx, ?_⟩
        rw [Bool.not_eq_true, List.all_eq_false]
        exact ⟨y, hy, by simp [hP]⟩
      rw [hres]
      simp only [E] at e3
      rw [ev] at hc e2 e3 ⊢
      simp [-biv_any, p_is_order, e1, e2, l1, hc, hb, e3]
    · cases g3
  · have hres : orderB n rows = true := by
      rw [horder, List.all_eq_true]
      intro x hx
      rw [List.all_eq_true]
      intro y hy
      have := (List.findSome?_eq_none_iff.mp ((List.findSome?_eq_none_iff.mp g1) x hx)) y hy
      split at this
      · cases this
      · rename_i hP
        simp [hP]
    rw [hres]
    simp only [E] at e3
    rw [ev] at hc e2 e3 ⊢
    simp [-biv_any, p_is_order, e1, e2, l1, hc, hb, e3]
end Cp

set_option Elab.async false
set_option linter.all false
set_option maxRecDepth 100000
set_option maxHeartbeats 16000000
/-! CoC1: how a lot grows: growing, least_piece of the package; the law's own walk (k08). -/
namespace Cp
open Co
open PySem

/-! ### while -/
def tF (cf : CF) (c : Ex) : Ev → Store → R Val := fun env st => evalE cf c env st
def bF (cf : CF) (b : Sxs) : Ev → Store → RS := fun env st => execSs cf b env st
@[scoped simp] theorem ex_whl (cf : CF) (c : Ex) (body : Sxs) (clr : List Nat) (env : Ev) (st : Store) : execS cf (.whl c body clr) env st = whlL (tF cf c) (bF cf body) clr WF env st := Eq.trans rfl rfl
theorem whlL_run {t : Ev → Store → R Val} {f : Ev → Store → RS} {clr : List Nat} {I : Nat → Ev → Store → Prop} {Q : Ev → Store → Prop}
    (h : ∀ m env st, I m env st → (∃ st1, t env st = .ok (.bl false) st1 ∧ Q (wipe env clr) st1) ∨ ∃ st1 env' st' m', t env st = .ok (.bl true) st1 ∧ f env st1 = .nx env' st' ∧ m' < m ∧ I m' (wipe env' clr) st') :
    ∀ (N m : Nat) (env : Ev) (st : Store), m < N → I m env st → ∃ env' st', whlL t f clr N env st = .nx env' st' ∧ Q env' st'
  | 0, m, _, _, hm, _ => absurd hm (by omega)
  | N + 1, m, env, st, hm, hi => by
    rcases h m env st hi with ⟨st1, e, q⟩ | ⟨st1, env', st', m', e, e2, hlt, i'⟩
    · exact ⟨_, st1, by simp only [whlL, e, R.toS_ok, tru], q⟩
    · obtain ⟨env2, st2, e3, q⟩ := whlL_run h N m' _ st' (by omega) i'
      exact ⟨env2, st2, by simp only [whlL, e, R.toS_ok, tru, e2, e3], q⟩
/-! ### sorting is one -/
theorem insN_comm (x y : Nat) : ∀ l, insN x (insN y l) = insN y (insN x l)
  | [] => by
    simp only [insN]
    by_cases h1 : x ≤ y
    · by_cases h2 : y ≤ x
      · have : x = y := by omega
        subst this; rfl
      · rw [if_pos h1, if_neg h2]
    · rw [if_neg h1, if_pos (by omega)]
  | z :: r => by
    have ih := insN_comm x y r
    simp only [insN]
    by_cases hy : y ≤ z
    · by_cases hx : x ≤ z
      · rw [if_pos hy, if_pos hx]
        simp only [insN]
        by_cases h1 : x ≤ y
        · by_cases h2 : y ≤ x
          · have : x = y := by omega
            subst this; rfl
          · rw [if_pos h1, if_neg h2, if_pos hy]
        · rw [if_neg h1, if_pos hx, if_pos (show y ≤ x by omega)]
      · rw [if_pos hy, if_neg hx]
        simp only [insN]
        rw [if_neg (by omega), if_neg hx, if_pos hy]
    · by_cases hx : x ≤ z
      · rw [if_neg hy, if_pos hx]
        simp only [insN]
        rw [if_pos hx, if_neg (by omega), if_neg hy]
      · rw [if_neg hy, if_neg hx]
        simp only [insN]
        rw [if_neg hx, if_neg hy, ih]
theorem sortN_congr {l l' : List Nat} (h : l.Perm l') : sortN l = sortN l' := by
  induction h with
  | nil => rfl
  | cons x _ ih => simp only [sortN, ih]
  | swap x y l => exact insN_comm _ _ _
  | trans _ _ ih1 ih2 => exact ih1.trans ih2
theorem sortN_id : ∀ {l : List Nat}, l.Pairwise (· < ·) → sortN l = l
  | [], _ => rfl
  | x :: r, h => by
    rw [List.pairwise_cons] at h
    rw [sortN, sortN_id h.2]
    cases r with
    | nil => rfl
    | cons y r =>
      have := h.1 y (by simp)
      rw [insN, if_pos (by omega)]
/-- lots with the same things are one -/
theorem lot_ext {n : Nat} {l l' : List Nat} (h : Lot n l) (h' : Lot n l') (hm : ∀ x, x ∈ l ↔ x ∈ l') : l = l' := by
  have := sortN_congr ((List.perm_ext_iff_of_nodup h.nodup h'.nodup).mpr hm)
  rwa [sortN_id h.1, sortN_id h'.1] at this
/-! ### the walk -/
def walkL (n : Nat) (rows : List (List Int)) : Nat → List Nat → List (Nat × Nat × Nat) × List Nat
  | 0, lot => ([], lot)
  | k + 1, lot => match tellL n rows lot with
    | none => ([], lot)
    | some t => (t :: (walkL n rows k (sortN (lot ++ [t.1]))).1, (walkL n rows k (sortN (lot ++ [t.1]))).2)
theorem walkL_none {n : Nat} {rows : List (List Int)} {lot : List Nat} (h : tellL n rows lot = none) (k : Nat) : walkL n rows k lot = ([], lot) := by
  cases k with
  | zero => rfl
  | succ k => simp only [walkL, h]
theorem walkL_some {n : Nat} {rows : List (List Int)} {lot : List Nat} {t : Nat × Nat × Nat} (h : tellL n rows lot = some t) (k : Nat) : walkL n rows (k + 1) lot = (t :: (walkL n rows k (sortN (lot ++ [t.1]))).1, (walkL n rows k (sortN (lot ++ [t.1]))).2) := by
  simp only [walkL, h]
theorem add_len {lot : List Nat} {z : Nat} : (sortN (lot ++ [z])).length = lot.length + 1 := by
  rw [(sortN_perm _).length_eq]; simp
theorem tellL_lt {n : Nat} {rows : List (List Int)} {lot : List Nat} (hl : Lot n lot) {t : Nat × Nat × Nat} (h : tellL n rows lot = some t) : lot.length < n := by
  obtain ⟨a, b, _⟩ := tellL_some h
  have := (hl.add a b).len
  rw [add_len] at this
  omega
theorem walkL_stop {n : Nat} {rows : List (List Int)} : ∀ (k : Nat) {lot : List Nat}, Lot n lot → n ≤ k + lot.length → tellL n rows (walkL n rows k lot).2 = none ∧ ∀ k', n ≤ k' + lot.length → walkL n rows k' lot = walkL n rows k lot := by
  intro k
  induction k with
  | zero =>
    intro lot hl hk
    have hn : tellL n rows lot = none := by
      cases e : tellL n rows lot with
      | none => rfl
      | some t => have := tellL_lt hl e; omega
    exact ⟨hn, fun k' _ => walkL_none hn k'⟩
  | succ k ih =>
    intro lot hl hk
    cases e : tellL n rows lot with
    | none => exact ⟨by rw [walkL_none e]; exact e, fun k' _ => by rw [walkL_none e, walkL_none e]⟩
    | some t =>
      obtain ⟨a, b, _⟩ := tellL_some e
      have hl2 := hl.add a b
      have hlt := tellL_lt hl e
      obtain ⟨h1, h2⟩ := ih hl2 (by rw [add_len]; omega)
      refine ⟨by rw [walkL_some e]; exact h1, fun k' hk' => ?_⟩
      cases k' with
      | zero => omega
      | succ k' => rw [walkL_some e, walkL_some e, h2 k' (by rw [add_len]; omega)]
theorem walkL_lot {n : Nat} {rows : List (List Int)} : ∀ (k : Nat) {lot : List Nat}, Lot n lot → Lot n (walkL n rows k lot).2 ∧ (∀ x ∈ lot, x ∈ (walkL n rows k lot).2) ∧ (walkL n rows k lot).2 = sortN (lot ++ (walkL n rows k lot).1.map (·.1)) ∧ (walkL n rows k lot).1.length + lot.length ≤ n := by
  intro k
  induction k with
  | zero => intro lot hl; exact ⟨hl, fun _ h => h, by simp [walkL, sortN_id hl.1], by simpa [walkL] using hl.len⟩
  | succ k ih =>
    intro lot hl
    cases e : tellL n rows lot with
    | none =>
      rw [walkL_none e]
      exact ⟨hl, fun _ h => h, by simp [sortN_id hl.1], by simpa using hl.len⟩
    | some t =>
      obtain ⟨a, b, _⟩ := tellL_some e
      obtain ⟨h1, h2, h3, h4⟩ := ih (hl.add a b)
      rw [walkL_some e]
      refine ⟨h1, fun x hx => h2 x ((sortN_perm _).mem_iff.mpr (by simp [hx])), ?_, by rw [add_len] at h4; simp only [List.length_cons]; omega⟩
      refine h3.trans (sortN_congr ?_)
      have := (sortN_perm (lot ++ [t.1])).append_right ((walkL n rows k (sortN (lot ++ [t.1]))).1.map (·.1))
      refine this.trans ?_
      simp
theorem walkL_bd {n : Nat} {rows : List (List Int)} : ∀ (k : Nat) {lot : List Nat}, Lot n lot → ∀ t ∈ (walkL n rows k lot).1, t.1 < n ∧ t.2.1 < n ∧ t.2.2 < n := by
  intro k
  induction k with
  | zero => intro lot _ t ht; simp [walkL] at ht
  | succ k ih =>
    intro lot hl t ht
    cases e : tellL n rows lot with
    | none => rw [walkL_none e] at ht; simp at ht
    | some t' =>
      obtain ⟨a, b, c, d, _⟩ := tellL_some e
      rw [walkL_some e] at ht
      rcases List.mem_cons.mp ht with rfl | ht
      · exact ⟨a, hl.2 _ c, hl.2 _ d⟩
      · exact ih (hl.add a b) t ht
def leastW (n : Nat) (rows : List (List Int)) (lot : List Nat) : List Nat := (walkL n rows n lot).2
def growW (n : Nat) (rows : List (List Int)) (lot : List Nat) : List (Nat × Nat × Nat) := (walkL n rows n lot).1
def vPs (ps : List (Nat × Nat × Nat)) : List Val := ps.map vTr
@[scoped simp] theorem vPs_len (ps : List (Nat × Nat × Nat)) : (vPs ps).length = ps.length := by simp [vPs]
theorem vPs_plain {ps : List (Nat × Nat × Nat)} : ∀ x ∈ vPs ps, ∀ j, x ≠ Val.ref j := by
  intro x hx j
  obtain ⟨p, _, rfl⟩ := List.mem_map.mp hx
  exact fun e => by cases e
theorem belows_vPs (n : Nat) (ps : List (Nat × Nat × Nat)) : belows n (vPs ps) = true := by
  induction ps with
  | nil => rfl
  | cons p ps ih =>
    show (below n (vTr p) && belows n (vPs ps)) = true
    rw [ih]; rfl
theorem growing_ok {F : Nat → Option FD} {f tp q : Nat} (hf : F f = some (p_growing tp)) (htp : F tp = some (p_telling q)) (hq : F q = some p_parts_two) {n : Nat} {rows : List (List Int)} (h : Sq n rows) (hn : n ≤ 100) {lot : List Nat} (hl : Lot n lot) (j : Nat) {st : Store} (hs : Fine st) :
    runF F (j + 3) f [vT rows, .tup (vN lot)] st = .ok (.tup (vPs (growW n rows lot))) st := by
  rw [runF_eq hf rfl]
  have tell : ∀ {l : List Nat} (s : Store), Lot n l → runF F (j + 2) tp [vT rows, .tup (vN l)] s = .ok (vTro (tellL n rows l)) s := fun {l} s hl => by
    rw [telling_ok htp hq h (by omega) hl.2 j s, tell_eq hl]
  let E : Option (Nat × Nat × Nat) → List Nat → Ev := fun o l => [some (vT rows), some (.tup (vN lot)), some (vTro o), some (.tup (vN l)), some (.ref st.length)]
  have hwl := (walkL_lot (rows := rows) n hl).2.2.2
  obtain ⟨env', s', e, ⟨l', rfl⟩, rfl⟩ := whlL_run (t := tF (runF F (j + 2)) (.cmp .notn (.var 2) (.cst .non))) (f := bF (runF F (j + 2)) (.cons (.ex (.mth .append false (.var 4) (.cons (.var 2) .nil)))
    (.cons (.asg (.nm 3) (.bi .tuple false (.cons (.bi .sorted false (.cons (.bin .add false (.var 3) (.tup (.cons (.idx (.var 2) (.cst (.int 0))) .nil))) .nil)) .nil)))
    (.cons (.asg (.nm 2) (.call tp [0, 1] (.cons (.var 0) (.cons (.var 3) .nil)) .nil))
    .nil)))) (clr := []) (I := fun m env s => ∃ l ps, env = E (tellL n rows l) l ∧ s = st ++ [.lst (vPs ps)] ∧ Lot n l ∧ m = n - l.length ∧ ps ++ (walkL n rows m l).1 = growW n rows lot)
    (Q := fun env s => (∃ l, env = E none l) ∧ s = st ++ [.lst (vPs (growW n rows lot))]) (by
      rintro m env s ⟨l, ps, rfl, rfl, hll, rfl, hw⟩
      cases o : tellL n rows l with
      | none =>
        refine .inl ⟨st ++ [.lst (vPs ps)], ?_, ⟨l, rfl⟩, ?_⟩
        · simp [tF, E, vTro]
        · rw [walkL_none o] at hw
          rw [← hw]; simp
      | some t =>
        obtain ⟨a, b, _⟩ := tellL_some o
        have hlt := tellL_lt hll o
        have hl2 := hll.add a b
        obtain ⟨m', hm'⟩ : ∃ m', n - l.length = m' + 1 := ⟨n - l.length - 1, by omega⟩
        rw [hm', walkL_some o] at hw
        have g : (st ++ [Cell.lst (vPs ps)])[st.length]? = some (.lst (vPs ps)) := by simp
        have hpl : (vPs ps).length < LIM := by
          have := congrArg List.length hw
          simp only [List.length_append, List.length_cons, growW] at this
          simp only [vPs_len, LIM]; omega
        have l1 : l.length + 1 ≤ LIM := by simp only [LIM]; omega
        have e1 : ∀ s, bin .add false (.tup (vN l)) (.tup [.int (t.1 : Nat)]) s = .ok (.tup (vN (l ++ [t.1]))) s := fun s => by
          simp [bin, l1, vN]
        have e2 : L2.atI [Val.int (t.1 : Nat), Val.int (t.2.1 : Nat), Val.int (t.2.2 : Nat)] 0 = some (.int (t.1 : Nat)) := rfl
        refine .inr ⟨st ++ [.lst (vPs ps)], E (tellL n rows (sortN (l ++ [t.1]))) (sortN (l ++ [t.1])), st ++ [.lst (vPs (ps ++ [t]))], m', ?_, ?_, by omega, _, _, rfl, rfl, hl2, by rw [add_len]; omega, ?_⟩
        · simp [tF, E, vTro, vTr]
        · have e3 := tell (st ++ [.lst (vPs (ps ++ [t]))]) hl2
          have e4 : vPs (ps ++ [t]) = vPs ps ++ [.tup [.int (t.1 : Nat), .int (t.2.1 : Nat), .int (t.2.2 : Nat)]] := by simp [vPs, vTr]
          rw [e4] at e3 ⊢
          simp [bF, E, vTro, vTr, mth_ref g (.inl rfl), app_ref g hpl, e1, e2, biv_sortN, e3]
        · rw [← hw]; simp) WF (n - lot.length) (E (tellL n rows lot) lot) (st ++ [.lst (vPs [])]) (by simp only [WF]; omega) ⟨lot, [], rfl, rfl, hl, rfl, by
      rw [List.nil_append, growW, (walkL_stop (rows := rows) (n - lot.length) hl (by have := hl.len; omega)).2 n (by omega)]⟩
  have e5 := tell (st ++ [.lst []]) hl
  have g : (st ++ [Cell.lst (vPs (growW n rows lot))])[st.length]? = some (.lst (vPs (growW n rows lot))) := by simp
  have hc := fun r => hs.cut (rest := r) (v := .tup (vPs (growW n rows lot))) (by simpa only [below] using belows_vPs _ _)
  have v0 : vPs [] = [] := rfl
  rw [v0] at e
  simp only [E] at e
  simp [p_growing, e5, e, frz_plain (m := 2) g vPs_plain, hc]
theorem least_piece_ok {F : Nat → Option FD} {f gr tp q : Nat} (hf : F f = some (p_least_piece gr)) (hgr : F gr = some (p_growing tp)) (htp : F tp = some (p_telling q)) (hq : F q = some p_parts_two) {n : Nat} {rows : List (List Int)} (h : Sq n rows) (hn : n ≤ 100) {lot : List Nat} (hl : Lot n lot) (j : Nat) {st : Store} (hs : Fine st) :
    runF F (j + 4) f [vT rows, .tup (vN lot)] st = .ok (.tup (vN (leastW n rows lot))) st := by
  rw [runF_eq hf rfl]
  obtain ⟨_, _, h3, h4⟩ := walkL_lot (rows := rows) n hl
  have e1 := growing_ok hgr htp hq h hn hl j hs
  have hc : compL (turnP (runF F (j + 3)) c_pleast_piece_1 (.nm 2) (.cst (.bl true)) [some (vT rows), some (.tup (vN lot)), none] [2]) (vPs (growW n rows lot)) st = .ok (vN ((growW n rows lot).map (·.1))) st := by
    rw [show vN ((growW n rows lot).map (·.1)) = (growW n rows lot).map fun t => Val.int (t.1 : Nat) by simp [vN, Function.comp_def]]
    refine compL_mapv vTr _ (growW n rows lot) fun t _ => ?_
    rw [turnP_eq rfl]
    have e2 : L2.atI [Val.int (t.1 : Nat), Val.int (t.2.1 : Nat), Val.int (t.2.2 : Nat)] 0 = some (.int (t.1 : Nat)) := rfl
    simp [c_pleast_piece_1, vTr, e2]
  have l1 : ¬ LIM < (growW n rows lot).length := by simp only [LIM, growW]; omega
  have l2 : lot.length + (growW n rows lot).length ≤ LIM := by simp only [LIM, growW]; omega
  have e3 : bin .add false (.tup (vN lot)) (.tup (vN ((growW n rows lot).map (·.1)))) st = .ok (.tup (vN (lot ++ (growW n rows lot).map (·.1)))) st := by
    simp [bin, l2, vN]
  simp [p_least_piece, e1, l1, hc, e3, biv_sortN]
  rw [leastW, h3]; rfl
/-- the law's walk -/
theorem walk_ok {F : Nat → Option FD} {f te : Nat} (hf : F f = some (a_walk te)) (hte : F te = some a_telling) {n : Nat} {rows : List (List Int)} (h : Sq n rows) (hn : n ≤ 100) {lot : List Nat} (hl : Lot n lot) (j : Nat) {st : Store} (hs : Fine st) :
    runF F (j + 2) f [.lst (vM rows), .tup (vN lot)] st = .ok (.lst [.tup (vPs (growW n rows lot)), .tup (vN (leastW n rows lot))]) st := by
  rw [runF_eq hf rfl]
  have c1 : (-1000000 : Int) ≤ (n : Int) + 1 ∧ (n : Int) + 1 ≤ 1000000 := by omega
  have est : walkL n rows (n + 1) lot = walkL n rows n lot := (walkL_stop n hl (by omega)).2 (n + 1) (by omega)
  have hwl := (walkL_lot (rows := rows) n hl).2.2.2
  let E : List Nat → Option Val → Option Val → Ev := fun l x y => [some (.lst (vM rows)), some (.tup (vN l)), some (.ref st.length), x, y]
  have main := forL_ret (f := bodyF (runF F (j + 1)) (.nm 3) (b_walk_1 te)) (clr := []) (I := fun i env s => ∃ l x y ps, env = E l x y ∧ s = st ++ [.lst (vPs ps)] ∧ Lot n l ∧ ps ++ (walkL n rows (n + 1 - i) l).1 = growW n rows lot ∧ (walkL n rows (n + 1 - i) l).2 = leastW n rows lot)
    (P := fun v s => v = .lst [.tup (vPs (growW n rows lot)), .tup (vN (leastW n rows lot))] ∧ s = st ++ [.lst (vPs (growW n rows lot))]) (rngV 0 (n + 1)) 0 (by
      rintro i w hw env s ⟨l, x, y, ps, rfl, rfl, hll, h1, h2⟩
      obtain ⟨hi, rfl⟩ := rngV_get hw
      rw [Nat.zero_add] at h1 h2 ⊢
      rw [bodyF_eq rfl]
      obtain ⟨k, hk⟩ : ∃ k, n + 1 - i = k + 1 := ⟨n - i, by omega⟩
      have g : (st ++ [Cell.lst (vPs ps)])[st.length]? = some (.lst (vPs ps)) := by simp
      have et := law_telling_ok hte h (by omega) hll.2 j (st ++ [.lst (vPs ps)])
      rw [hk] at h1 h2
      cases o : tellL n rows l with
      | none =>
        rw [walkL_none o] at h1 h2
        rw [o] at et
        simp only [List.append_nil] at h1 h2
        refine .inr ⟨_, _, ?_, rfl, rfl⟩
        rw [← h1, ← h2]
        simp [E, b_walk_1, et, vTro, biv, dr_ref g]
      | some t =>
        obtain ⟨a, b, _⟩ := tellL_some o
        have hl2 := hll.add a b
        rw [walkL_some o] at h1 h2
        rw [o] at et
        have hpl : (vPs ps).length < LIM := by
          have := congrArg List.length h1
          simp only [List.length_append, List.length_cons, growW] at this
          simp only [vPs_len, LIM]; omega
        have l1 : l.length + 1 ≤ LIM := by have := hll.len; simp only [LIM]; omega
        have e1 : ∀ s, bin .add false (.tup (vN l)) (.tup [.int (t.1 : Nat)]) s = .ok (.tup (vN (l ++ [t.1]))) s := fun s => by
          simp [bin, l1, vN]
        have e2 : L2.atI [Val.int (t.1 : Nat), Val.int (t.2.1 : Nat), Val.int (t.2.2 : Nat)] 0 = some (.int (t.1 : Nat)) := rfl
        have e4 : vPs (ps ++ [t]) = vPs ps ++ [.tup [.int (t.1 : Nat), .int (t.2.1 : Nat), .int (t.2.2 : Nat)]] := by simp [vPs, vTr]
        refine .inl ⟨E (sortN (l ++ [t.1])) (some (.int (0 + (i : Int)))) (some (vTr t)), st ++ [.lst (vPs (ps ++ [t]))], .inl ?_, _, _, _, ps ++ [t], rfl, rfl, hl2, ?_, ?_⟩
        · rw [e4]
          simp [E, b_walk_1, et, vTro, vTr, mth_ref g (.inl rfl), app_ref g hpl, e1, e2, biv_sortN]
        · rw [show n + 1 - (i + 1) = k by omega, ← h1]; simp
        · rw [show n + 1 - (i + 1) = k by omega]; exact h2) (E lot none none) (st ++ [.lst (vPs [])]) ⟨lot, none, none, [], rfl, rfl, hl, by rw [Nat.sub_zero, est]; rfl, by rw [Nat.sub_zero, est]; rfl⟩
  have hb : below st.length (.lst [.tup (vPs (growW n rows lot)), .tup (vN (leastW n rows lot))]) = true := by
    simp only [below, belows, Bool.and_true, Bool.and_eq_true]
    exact ⟨belows_vPs _ _, by simpa only [below] using below_vN st.length (leastW n rows lot)⟩
  have hc := fun r => hs.cut (rest := r) hb
  have er : ((n : Int) + 1).toNat = n + 1 := by omega
  have v0 : vPs [] = [] := rfl
  rw [v0] at main
  simp only [E] at main
  rcases main with ⟨env', s', e, l, x, y, ps, rfl, rfl, hll, h1, h2⟩ | ⟨v, s', e, rfl, rfl⟩
  · rw [rngV_len, Nat.zero_add, Nat.sub_self] at h1 h2
    simp only [walkL, List.append_nil] at h1 h2
    subst h1; subst h2
    have g : (st ++ [Cell.lst (vPs (growW n rows lot))])[st.length]? = some (.lst (vPs (growW n rows lot))) := by simp
    simp [a_walk, h.1, c1, er, e, frz_plain (m := 2) g vPs_plain, hc]
  · simp [a_walk, h.1, c1, er, e, hc]
end Cp

set_option Elab.async false
set_option linter.all false
set_option maxRecDepth 100000
set_option maxHeartbeats 16000000
/-! CoC2: least pieces: the least closed lot. -/
namespace Cp
open Co
open PySem

/-- a lot that nothing tells apart -/
def Clo (n : Nat) (rows : List (List Int)) (l : List Nat) : Prop := ∀ z x y, z < n → z ∉ l → x ∈ l → y ∈ l → apartB rows z x y = false
theorem apart_key {rows : List (List Int)} {z x y : Nat} : apartB rows z x y = false ↔ (cel rows z x = cel rows z y ∧ cel rows x z = cel rows y z) := by simp [apartB]
theorem clo_iff {n : Nat} {rows : List (List Int)} {l : List Nat} : tellL n rows l = none ↔ Clo n rows l := by
  unfold tellL
  simp only [List.findSome?_eq_none_iff, List.mem_range]
  constructor
  · intro h z x y hz hzl hx hy
    rcases Nat.lt_trichotomy x y with e | e | e
    · have := h z hz x hx y hy
      rw [ite_eq_right_iff] at this
      cases q : apartB rows z x y with
      | false => rfl
      | true => exact absurd (this ⟨hzl, e, q⟩) (by simp)
    · subst e; exact apart_key.mpr ⟨rfl, rfl⟩
    · have := h z hz y hy x hx
      rw [ite_eq_right_iff] at this
      cases q : apartB rows z y x with
      | false =>
        have := apart_key.mp q
        exact apart_key.mpr ⟨this.1.symm, this.2.symm⟩
      | true => exact absurd (this ⟨hzl, e, q⟩) (by simp)
  · intro h z hz x hx y hy
    rw [if_neg]
    rintro ⟨h1, _, h3⟩
    rw [h z x y hz h1 hx hy] at h3
    cases h3
theorem least_clo {n : Nat} {rows : List (List Int)} {l : List Nat} (hl : Lot n l) : Lot n (leastW n rows l) ∧ (∀ x ∈ l, x ∈ leastW n rows l) ∧ Clo n rows (leastW n rows l) := by
  obtain ⟨a, b, _⟩ := walkL_lot (rows := rows) n hl
  exact ⟨a, b, clo_iff.mp (walkL_stop n hl (by omega)).1⟩
theorem walkL_sub {n : Nat} {rows : List (List Int)} {P : List Nat} (hP : Clo n rows P) : ∀ (k : Nat) {l : List Nat}, (∀ x ∈ l, x ∈ P) → ∀ x ∈ (walkL n rows k l).2, x ∈ P := by
  intro k
  induction k with
  | zero => intro l h; exact h
  | succ k ih =>
    intro l h
    cases e : tellL n rows l with
    | none => rw [walkL_none e]; exact h
    | some t =>
      rw [walkL_some e]
      obtain ⟨a, b, c, d, _, f⟩ := tellL_some e
      refine ih fun x hx => ?_
      have hx := (sortN_perm _).mem_iff.mp hx
      rcases List.mem_append.mp hx with hx | hx
      · exact h x hx
      · have : x = t.1 := by simpa using hx
        subst this
        apply Classical.byContradiction
        intro hn
        have := hP t.1 t.2.1 t.2.2 a hn (h _ c) (h _ d)
        rw [this] at f
        cases f
theorem least_sub {n : Nat} {rows : List (List Int)} {P l : List Nat} (hP : Clo n rows P) (h : ∀ x ∈ l, x ∈ P) : ∀ x ∈ leastW n rows l, x ∈ P := walkL_sub hP n h
theorem least_mono {n : Nat} {rows : List (List Int)} {l l' : List Nat} (hl' : Lot n l') (h : ∀ x ∈ l, x ∈ leastW n rows l') : ∀ x ∈ leastW n rows l, x ∈ leastW n rows l' := least_sub (least_clo hl').2.2 h
/-- sorted, each once -/
def setN (l : List Nat) : List Nat := sortN (dedN l)
theorem setN_mem {l : List Nat} {x : Nat} : x ∈ setN l ↔ x ∈ l := by rw [setN, (sortN_perm _).mem_iff, dedN_mem]
theorem setN_lot {n : Nat} {l : List Nat} (h : ∀ x ∈ l, x < n) : Lot n (setN l) := lot_sort (dedN_nodup l) fun x hx => h x ((dedN_mem l x).mp hx)
theorem biv_setT (lv : Bool) (l : List Nat) (hl : l.length ≤ 63) (st : Store) : biv .sset lv [.tup (vN l)] st = mkL lv (vN (setN l)) st := by
  have e : ints? (vN l) = some (cN l) := by rw [vN_vI, vI_ints]; rfl
  have h2 : (cN l).length ≤ 63 := by simpa [cN] using hl
  simp only [biv, dr, e, h2, if_true]
  rw [dedup_cast, sortI_cast]
  simp [cN, vN, Function.comp_def, setN]
/-! ### all lots are lots of marks -/
theorem mark_of : ∀ (n : Nat) (l : List Nat), (∀ x ∈ l, x < n) → ∃ m, m < 2 ^ n ∧ ∀ x, (m / 2 ^ x % 2 = 1 ↔ x ∈ l)
  | 0, l, h => ⟨0, by simp, fun x => by
      simp only [Nat.zero_div, Nat.zero_mod]
      exact ⟨fun e => absurd e (by omega), fun hx => absurd (h x hx) (by omega)⟩⟩
  | n + 1, l, h => by
    obtain ⟨m, h1, h2⟩ := mark_of n (l.filter fun x => decide (x < n)) fun x hx => by simpa using (List.mem_filter.mp hx).2
    by_cases hn : n ∈ l
    · refine ⟨m + 2 ^ n, by rw [Nat.pow_succ]; omega, fun x => ?_⟩
      rcases Nat.lt_trichotomy x n with e | e | e
      · have : (m + 2 ^ n) / 2 ^ x % 2 = m / 2 ^ x % 2 := by
          obtain ⟨d, rfl⟩ : ∃ d, n = x + (d + 1) := ⟨n - x - 1, by omega⟩
          rw [Nat.pow_add, Nat.add_mul_div_left _ _ (Nat.pos_of_ne_zero (by simp)), Nat.pow_succ]
          omega
        rw [this, h2 x]
        simp [e]
      · subst e
        have e1 : m / 2 ^ x = 0 := Nat.div_eq_of_lt h1
        have : (m + 2 ^ x) / 2 ^ x = 1 := by
          rw [Nat.add_div_right _ (Nat.pos_of_ne_zero (by simp)), e1]
        rw [this]
        simp [hn]
      · have : (m + 2 ^ n) / 2 ^ x = 0 := Nat.div_eq_of_lt (by
          have : 2 ^ (n + 1) ≤ 2 ^ x := Nat.pow_le_pow_right (by omega) e
          rw [Nat.pow_succ] at this
          omega)
        rw [this]
        exact ⟨fun e2 => absurd e2 (by omega), fun hx => absurd (h x hx) (by omega)⟩
    · refine ⟨m, by rw [Nat.pow_succ]; omega, fun x => ?_⟩
      rw [h2 x, List.mem_filter]
      constructor
      · exact fun a => a.1
      · intro hx
        have : x ≠ n := fun e => hn (e ▸ hx)
        have := h x hx
        exact ⟨hx, by simp; omega⟩
theorem lotOf_mem {m x : Nat} : x ∈ lotOf m ↔ x < 8 ∧ m / 2 ^ x % 2 = 1 := by
  simp [lotOf]
theorem mark_lot {n : Nat} (hn : n ≤ 8) {l : List Nat} (hl : Lot n l) : ∃ m, m < 2 ^ n ∧ lotOf m = l := by
  obtain ⟨m, h1, h2⟩ := mark_of n l hl.2
  refine ⟨m, h1, lot_ext (lot_of h1) hl fun x => ?_⟩
  rw [lotOf_mem, h2]
  exact ⟨fun a => a.2, fun hx => ⟨by have := hl.2 x hx; omega, hx⟩⟩
theorem growW_turn {n : Nat} {rows : List (List Int)} {l : List Nat} (hl : Lot n l) : growW n (turnR n rows) l = growW n rows l ∧ leastW n (turnR n rows) l = leastW n rows l := by
  have : ∀ (k : Nat) {l : List Nat}, Lot n l → walkL n (turnR n rows) k l = walkL n rows k l := by
    intro k
    induction k with
    | zero => intro l _; rfl
    | succ k ih =>
      intro l hl
      have e := tell_turn (rows := rows) hl.2
      cases q : tellL n rows l with
      | none => rw [walkL_none q, walkL_none (e.trans q)]
      | some t =>
        obtain ⟨a, b, _⟩ := tellL_some q
        rw [walkL_some q, walkL_some (e.trans q), ih (hl.add a b)]
  exact ⟨by rw [growW, growW, this n hl], by rw [leastW, leastW, this n hl]⟩
theorem sm_grow {n : Nat} {rows : List (List Int)} {l : List Nat} (hl : Lot n l) (hn : n ≤ 8) : Sm (.tup (vPs (growW n rows l))) 2 2000 := by
  have h1 := (walkL_lot (rows := rows) n hl).2.2.2
  refine (Sm.tup (d := 1) (w := 207) (L := 8) (fun x hx => ?_) (by simp [growW]; omega)).mono (by omega) (by omega)
  obtain ⟨t, ht, rfl⟩ := List.mem_map.mp hx
  obtain ⟨a, b, c⟩ := walkL_bd n hl t ht
  exact sm_tro (n := n) (o := some t) (fun t' e => by cases e; exact ⟨a, b, c⟩) (by omega)
theorem cmp_notn_tt : cmpv .notn (.bl true) (.bl true) = some false := rfl
theorem is_grown_ok {F : Nat → Option FD} {f tb wk gr le tu ip te tp q : Nat} (hf : F f = some (a_is_grown tb wk gr le tu ip)) (htb : F tb = some a_table) (hwk : F wk = some (a_walk te)) (hte : F te = some a_telling) (hgr : F gr = some (p_growing tp)) (hle : F le = some (p_least_piece gr)) (htu : F tu = some p_turned) (hip : F ip = some (p_is_piece q)) (htp : F tp = some (p_telling q)) (hq : F q = some p_parts_two)
    {n : Nat} {rows : List (List Int)} (ht : Tb n rows) (hn : n ≤ 8) {lot : List Nat} (hl : Lot n lot) (j : Nat) {st : Store} (hs : Fine st) :
    runF F (j + 5) f [.lst (vM rows), .tup (vN lot)] st = .ok (.bl true) st := by
  have h := ht.sq
  rw [runF_eq hf rfl]
  obtain ⟨LL, _, hclo⟩ := least_clo (rows := rows) hl
  have e1 := fun s => law_table_ok htb (rows := rows) (by have := h.1; omega) (j + 3) s
  have e2 := walk_ok hwk hte h (by omega) hl (j + 2) hs
  have g1 := growing_ok hgr htp hq h (by omega) hl (j + 1) hs
  have g2 := least_piece_ok hle hgr htp hq h (by omega) hl j hs
  let due : Val := .lst [.tup (vPs (growW n rows lot)), .tup (vN (leastW n rows lot))]
  have hs1 : Fine (st ++ [.lst [due]]) := by
    unfold Fine at hs ⊢
    rw [List.all_append, List.length_append, store_mono (by omega) hs]
    simp only [List.all_cons, List.all_nil, Cell.below, belows, below, due, Bool.and_true, Bool.true_and, Bool.and_eq_true]
    exact ⟨belows_vPs _ _, by simpa only [below] using below_vN _ (leastW n rows lot)⟩
  have g3 := growing_ok hgr htp hq h (by omega) hl (j + 1) hs1
  have g4 := least_piece_ok hle hgr htp hq h (by omega) hl j hs1
  have hgd : ∀ c : Cell, (st ++ [Cell.lst [due, due]]).set st.length .dead = st ++ [.dead] := fun _ => by simp
  have hs2 : Fine (st ++ [.dead]) := by
    unfold Fine at hs ⊢
    rw [List.all_append, List.length_append, store_mono (by omega) hs]
    rfl
  have t1 := turned_ok htu h (by omega) (j + 3) (st ++ [.dead])
  have hT := turn_sq h
  obtain ⟨w1, w2⟩ := growW_turn (rows := rows) hl
  have g5 := growing_ok hgr htp hq hT (by omega) hl (j + 1) hs2
  have g6 := least_piece_ok hle hgr htp hq hT (by omega) hl j hs2
  rw [w1] at g5
  rw [w2] at g6
  have g7 := is_piece_ok hip hq h (by omega) LL.2 (by have := LL.len; omega) (j + 2) (st ++ [.dead])
  rw [piece_tell LL, clo_iff.mpr hclo] at g7
  have g8 := growing_ok hgr htp hq h (by omega) LL (j + 1) hs2
  have g9 := least_piece_ok hle hgr htp hq h (by omega) LL j hs2
  have wn : walkL n rows n (leastW n rows lot) = ([], leastW n rows lot) := walkL_none (clo_iff.mpr hclo) n
  have wn1 : growW n rows (leastW n rows lot) = [] := by
    show (walkL n rows n (leastW n rows lot)).1 = _
    rw [wn]
  have wn2 : leastW n rows (leastW n rows lot) = leastW n rows lot := by
    show (walkL n rows n (leastW n rows lot)).2 = _
    rw [wn]
  rw [wn1] at g8
  rw [wn2] at g9
  have sg := sm_grow (rows := rows) hl hn
  have sl := sm_lot LL hn
  have s1 : Sm (.lst [.lst (vM rows), .tup (vN lot)]) 3 40000 := by
    refine (Sm.lst (d := 2) (w := 15000) (L := 2) (fun x hx => ?_) (by simp)).mono (by omega) (by omega)
    simp only [List.mem_cons, List.not_mem_nil, or_false] at hx
    rcases hx with rfl | rfl
    · exact (h.sm hn).mono (by omega) (by omega)
    · exact (sm_lot hl hn).mono (by omega) (by omega)
  have s2 := h.smt hn (by omega)
  have s3 : Sm due 3 6000 := by
    refine (Sm.lst (d := 2) (w := 2000) (L := 2) (fun x hx => ?_) (by simp)).mono (by omega) (by omega)
    simp only [List.mem_cons, List.not_mem_nil, or_false] at hx
    rcases hx with rfl | rfl
    · exact sg
    · exact sl.mono (by omega) (by omega)
  have s4 : Sm (.lst [due, due]) 4 13000 := by
    refine (Sm.lst (d := 3) (w := 6000) (L := 2) (fun x hx => ?_) (by simp)).mono (by omega) (by omega)
    simp only [List.mem_cons, List.not_mem_nil, or_false, or_self] at hx
    subst hx; exact s3
  have s5 : Sm (.lst [.tup [], .tup (vN (leastW n rows lot))]) 3 6000 := by
    refine (Sm.lst (d := 2) (w := 2000) (L := 2) (fun x hx => ?_) (by simp)).mono (by omega) (by omega)
    simp only [List.mem_cons, List.not_mem_nil, or_false] at hx
    rcases hx with rfl | rfl
    · exact ⟨rfl, by decide, by decide⟩
    · exact sl.mono (by omega) (by omega)
  have r1 := fun s => biv_reprl (lv := false) (st := s) (s1.sh (by omega) (by omega))
  have r2 : ∀ s, biv .repr false [vT rows] s = .ok (.str (toPy (vT rows)).shown) s := fun s => biv_reprt (s2.sh (by omega) (by omega))
  have r3 := fun s => biv_reprl (lv := false) (st := s) (s3.sh (by omega) (by omega))
  have r4 := fun s => biv_reprl (lv := false) (st := s) (s4.sh (by omega) (by omega))
  have r5 := fun s => biv_reprl (lv := false) (st := s) (s5.sh (by omega) (by omega))
  have q1 := eq_same s1.s
  have q2 := eq_same s2.s
  have q3 := ne_same s3.s
  have q4 := ne_same s4.s
  have q5 := ne_same s5.s
  have gg : (st ++ [Cell.lst [due]])[st.length]? = some (.lst [due]) := by simp
  have gg2 : (st ++ [Cell.lst [due, due]])[st.length]? = some (.lst [due, due]) := by simp
  have fz := frz_plain (m := 2) gg2 (by intro x hx j; simp only [List.mem_cons, List.not_mem_nil, or_false, or_self] at hx; subst hx; exact fun e => by simp [due] at e)
  have ap := app_ref (lv := false) (v := due) gg (by simp [LIM])
  have ix : L2.atI [Val.tup (vPs (growW n rows lot)), Val.tup (vN (leastW n rows lot))] 1 = some (.tup (vN (leastW n rows lot))) := rfl
  have hc := fun r => hs.cut (rest := r) (v := .bl true) rfl
  have v0 : vPs [] = [] := rfl
  simp only [due] at *
  rw [v0] at g8
  simp at fz ap
  simp [a_is_grown, e1, r1, e2, g1, g2, mth_ref gg (.inl rfl), g3, g4, ap, fz, r4, q4, t1, ix, g5, g6, r3, q3, g7, cmp_notn_tt, g8, g9, r5, q5, q1, r2, q2, hc]
end Cp

set_option Elab.async false
set_option linter.all false
set_option maxRecDepth 100000
set_option maxHeartbeats 16000000
/-! CoC3: the plain law of k08. -/
namespace Cp
open Co
open PySem

theorem add_tN {lv : Bool} {a b : List Nat} {st : Store} (h : a.length + b.length ≤ 1000) : bin .add lv (.tup (vN a)) (.tup (vN b)) st = .ok (.tup (vN (a ++ b))) st := by
  have : a.length + b.length ≤ LIM := Nat.le_trans h LIM_1000
  simp [bin, this, vN]
theorem compL_fil {f : Val → Store → R (Option Val)} {st : Store} (p : Nat → Bool) (l : List Nat) (h : ∀ x ∈ l, f (.int (x : Nat)) st = .ok (if p x = true then some (.int (x : Nat)) else none) st) : compL f (vN l) st = .ok (vN (l.filter p)) st := by
  refine (compL_via (fun (i : Nat) => Val.int (i : Int)) (fun (y : Nat) => if p y = true then some (Val.int y) else none) l h).trans ?_
  rw [filterMap_if]; rfl
theorem eqOk_vN (l : List Nat) : eqOk (.lst (vN l)) = true := by rw [vN_vI]; exact eqOk_ints _
theorem veq_vN (l : List Nat) : veq (.lst (vN l)) (.lst []) = decide (l = []) := by
  have := veq_ints (l.map fun (i : Nat) => (i : Int)) []
  rw [vN_vI, vI]
  simp only [List.map_nil] at this
  rw [this]
  simp
theorem eqOk_nil' : eqOk (.lst []) = true := eqOk_ints []
theorem cmp_eqN (l : List Nat) : cmpv .eq (.lst (vN l)) (.lst []) = some (decide (l = [])) := by
  simp only [cmpv, eqOk_vN, eqOk_nil', veq_vN, Bool.and_self, if_true]
theorem cmp_neN (l : List Nat) : cmpv .ne (.lst (vN l)) (.lst []) = some (!decide (l = [])) := by
  simp only [cmpv, eqOk_vN, eqOk_nil', veq_vN, Bool.and_self, if_true]
theorem by_two_ok {F : Nat → Option FD} {f so lo g tb wk gr le tu ip te tp q ig : Nat} (hf : F f = some (a_by_two tb so le ig)) (hso : F so = some (a_some g lo)) (hlo : F lo = some a_lot) (hg : F g = some a_draw) (hig : F ig = some (a_is_grown tb wk gr le tu ip)) (htb : F tb = some a_table) (hwk : F wk = some (a_walk te)) (hte : F te = some a_telling) (hgr : F gr = some (p_growing tp)) (hle : F le = some (p_least_piece gr)) (htu : F tu = some p_turned) (hip : F ip = some (p_is_piece q)) (htp : F tp = some (p_telling q)) (hq : F q = some p_parts_two)
    {n : Nat} {rows : List (List Int)} (ht : Tb n rows) (hn : n ≤ 8) (j : Nat) {st rest : Store} (p : Pool st rest) (ho : Old rest) :
    ∃ st', runF F (j + 6) f [.ref 1, .lst (vM rows)] st = .ok (.bl true) st' ∧ Pool st' rest := by
  have h := ht.sq
  rw [runF_eq hf rfl]
  have e1 := law_table_ok htb (rows := rows) (by have := h.1; omega) (j + 4) st
  obtain ⟨one, s2, e2, p2, L1⟩ := some_ok hso hlo hg (j + 3) n (by omega) p
  obtain ⟨two', s3, e3, p3, L2'⟩ := some_ok hso hlo hg (j + 3) n (by omega) p2
  have fs := p3.fine ho
  have lp : ∀ {l : List Nat}, Lot n l → runF F (j + 5) le [vT rows, .tup (vN l)] s3 = .ok (.tup (vN (leastW n rows l))) s3 := fun hl => least_piece_ok hle hgr htp hq h (by omega) hl (j + 1) fs
  have gi : ∀ {l : List Nat}, Lot n l → runF F (j + 5) ig [.lst (vM rows), .tup (vN l)] s3 = .ok (.bl true) s3 := fun hl => is_grown_ok hig htb hwk hte hgr hle htu hip htp hq ht hn hl j fs
  have l1 := L1.len
  have l2 := L2'.len
  have Lb : Lot n (setN (one ++ two')) := setN_lot fun x hx => by
    rcases List.mem_append.mp hx with hx | hx
    · exact L1.2 x hx
    · exact L2'.2 x hx
  have Lw : Lot n (one.filter fun x => decide (x ∈ two')) := ⟨L1.1.filter _, fun x hx => L1.2 x (List.mem_filter.mp hx).1⟩
  obtain ⟨c1, c2, c3⟩ := least_clo (rows := rows) L1
  obtain ⟨d1, d2, d3⟩ := least_clo (rows := rows) L2'
  obtain ⟨w1, w2, w3⟩ := least_clo (rows := rows) Lb
  have f1 : ∀ x ∈ leastW n rows one, x ∈ leastW n rows (setN (one ++ two')) := least_sub w3 fun x hx => w2 x (setN_mem.mpr (by simp [hx]))
  have f2 : ∀ x ∈ leastW n rows two', x ∈ leastW n rows (setN (one ++ two')) := least_sub w3 fun x hx => w2 x (setN_mem.mpr (by simp [hx]))
  have f3 : ∀ x ∈ leastW n rows (one.filter fun x => decide (x ∈ two')), x ∈ leastW n rows one ∧ x ∈ leastW n rows two' := fun x hx =>
    ⟨least_sub c3 (fun y hy => c2 y (List.mem_filter.mp hy).1) x hx, least_sub d3 (fun y hy => d2 y (by simpa using (List.mem_filter.mp hy).2)) x hx⟩
  have Lj : Lot n (setN (leastW n rows one ++ leastW n rows two')) := setN_lot fun x hx => by
    rcases List.mem_append.mp hx with hx | hx
    · exact c1.2 x hx
    · exact d1.2 x hx
  obtain ⟨j1, j2, j3⟩ := least_clo (rows := rows) Lj
  have f4 : leastW n rows (setN (leastW n rows one ++ leastW n rows two')) = leastW n rows (setN (one ++ two')) := by
    refine lot_ext j1 w1 fun x => ⟨?_, ?_⟩
    · refine least_sub w3 (fun y hy => ?_) x
      rcases List.mem_append.mp (setN_mem.mp hy) with hy | hy
      · exact f1 y hy
      · exact f2 y hy
    · refine least_sub j3 (fun y hy => ?_) x
      refine j2 y (setN_mem.mpr (List.mem_append.mpr ?_))
      rcases List.mem_append.mp (setN_mem.mp hy) with hy | hy
      · exact .inl (c2 y hy)
      · exact .inr (d2 y hy)
  have a1 := lp L1
  have a2 := lp L2'
  have a3 := lp Lb
  have a4 := lp Lw
  have a5 := lp Lj
  rw [f4] at a5
  have b1 := gi L1
  have b2 := gi Lb
  have m1 := c1.len
  have m2 := d1.len
  have m3 := (least_clo (rows := rows) Lw).1.len
  have sw := sm_lot w1 hn
  have rw1 := biv_reprt (lv := false) (st := s3) (sw.sh (by omega) (by omega))
  have nw := ne_same sw.s
  have t1 := fun (lv : Bool) (s : Store) => add_tN (lv := lv) (a := one) (b := two') (st := s) (by omega)
  have t2 := fun (lv : Bool) (s : Store) => add_tN (lv := lv) (a := leastW n rows one) (b := leastW n rows two') (st := s) (by omega)
  have s1' := fun (lv : Bool) (s : Store) => biv_setT lv (one ++ two') (by simp; omega) s
  have s2' := fun (lv : Bool) (s : Store) => biv_setT lv (leastW n rows one ++ leastW n rows two') (by simp; omega) s
  have hlim : ∀ {l : List Nat} {k : Nat}, l.length ≤ k → k ≤ 1000 → ¬ LIM < l.length := fun {l k} a b => by simp only [LIM]; omega
  have g1 : ∀ x5 : Option Val, compL (turnP (runF F (j + 5)) (.var 10) (.nm 10) (.cmp .isin (.var 10) (.var 4)) [some (.ref 1), some (.lst (vM rows)), some (vT rows), some (.tup (vN one)), some (.tup (vN two')), none, none, none, none, none, none] [10]) (vN one) s3 = .ok (vN (one.filter fun x => decide (x ∈ two'))) s3 := fun _ => by
    refine compL_fil _ one fun x _ => ?_
    rw [turnP_eq rfl]
    simp
    split <;> rfl
  generalize hw : (one.filter fun x => decide (x ∈ two')) = within at *
  generalize hfi : leastW n rows one = first at *
  generalize hse : leastW n rows two' = second at *
  generalize hwh : leastW n rows (setN (one ++ two')) = whole at *
  let E : Ev := [some (.ref 1), some (.lst (vM rows)), some (vT rows), some (.tup (vN one)), some (.tup (vN two')), some (.tup (vN (setN (one ++ two')))), some (.tup (vN within)), some (.tup (vN first)), some (.tup (vN second)), some (.tup (vN whole)), none]
  have g2 : compL (turnP (runF F (j + 5)) (.var 10) (.nm 10) (.cmp .notin (.var 10) (.var 9)) E [10]) (vN (first ++ second)) s3 = .ok (vN []) s3 := by
    have : (first ++ second).filter (fun x => !decide (x ∈ whole)) = [] := by
      rw [List.filter_eq_nil_iff]
      intro x hx
      rcases List.mem_append.mp hx with hx | hx
      · simp [f1 x hx]
      · simp [f2 x hx]
    have hh := compL_fil (f := turnP (runF F (j + 5)) (.var 10) (.nm 10) (.cmp .notin (.var 10) (.var 9)) E [10]) (st := s3) (fun x => !decide (x ∈ whole)) (first ++ second) fun x _ => by
      rw [turnP_eq rfl]
      simp [E]
      split <;> rfl
    rw [this] at hh
    exact hh
  have g3 : compL (turnP (runF F (j + 5)) (.var 10) (.nm 10) (.or_ (.cmp .notin (.var 10) (.var 7)) (.cmp .notin (.var 10) (.var 8))) E [10]) (vN (leastW n rows within)) s3 = .ok (vN []) s3 := by
    have : (leastW n rows within).filter (fun x => !decide (x ∈ first) || !decide (x ∈ second)) = [] := by
      rw [List.filter_eq_nil_iff]
      intro x hx
      simp [f3 x hx]
    have hh := compL_fil (f := turnP (runF F (j + 5)) (.var 10) (.nm 10) (.or_ (.cmp .notin (.var 10) (.var 7)) (.cmp .notin (.var 10) (.var 8))) E [10]) (st := s3) (fun x => !decide (x ∈ first) || !decide (x ∈ second)) (leastW n rows within) fun x _ => by
      rw [turnP_eq rfl]
      simp [E]
      split <;> rfl
    rw [this] at hh
    exact hh
  have v0 : vN [] = [] := rfl
  have cn : cmpv .ne (.lst []) (.lst []) = some false := cmp_neN []
  have hx1 : ¬ LIM < one.length := by simp only [LIM]; omega
  have hx2 : ¬ LIM < first.length + second.length := by simp only [LIM]; omega
  have hx3 : ¬ LIM < (leastW n rows within).length := by simp only [LIM]; omega
  rw [v0] at g2 g3
  have g1 := g1 none
  simp only [E] at g2 g3
  have tl : trunc (rest.length + 2) (.bl true) s3 = s3 := trunc_eq (by rw [p3.len])
  refine ⟨s3, ?_, p3⟩
  rw [p.len]
  simp [a_by_two, e1, h.1, e2, e3, t1, s1', hx1, g1, a1, a2, a3, t2, hx2, g2, cn, a4, hx3, g3, s2', a5, rw1, nw, b1, b2, tl]
theorem foldl_fil (p : Nat → Bool) (q : Nat → Nat → Bool) : ∀ (ms l : List Nat) (x : Nat), x ∈ ms.foldl (fun l m => if p m = true then l.filter (q m) else l) l ↔ x ∈ l ∧ ∀ m ∈ ms, p m = true → q m x = true
  | [], l, x => by simp
  | m :: ms, l, x => by
    rw [List.foldl_cons, foldl_fil p q ms]
    by_cases h : p m = true
    · rw [if_pos h, List.mem_filter]
      constructor
      · rintro ⟨⟨a, b⟩, c⟩
        exact ⟨a, fun k hk hp => by
          rcases List.mem_cons.mp hk with rfl | hk
          · exact b
          · exact c k hk hp⟩
      · rintro ⟨a, b⟩
        exact ⟨⟨a, b m (by simp) h⟩, fun k hk hp => b k (by simp [hk]) hp⟩
    · rw [if_neg h]
      constructor
      · rintro ⟨a, c⟩
        exact ⟨a, fun k hk hp => by
          rcases List.mem_cons.mp hk with rfl | hk
          · exact absurd hp h
          · exact c k hk hp⟩
      · rintro ⟨a, b⟩
        exact ⟨a, fun k hk hp => b k (by simp [hk]) hp⟩
theorem foldl_lot {n : Nat} (p : Nat → Bool) (q : Nat → Nat → Bool) : ∀ (ms l : List Nat), Lot n l → Lot n (ms.foldl (fun l m => if p m = true then l.filter (q m) else l) l)
  | [], l, h => h
  | m :: ms, l, h => by
    rw [List.foldl_cons]
    refine foldl_lot p q ms _ ?_
    split
    · exact ⟨h.1.filter _, fun x hx => h.2 x (List.mem_filter.mp hx).1⟩
    · exact h
theorem by_meet_ok {F : Nat → Option FD} {f lo tb gr le te tp q : Nat} (hf : F f = some (a_by_meet tb lo te le)) (hlo : F lo = some a_lot) (htb : F tb = some a_table) (hte : F te = some a_telling) (hgr : F gr = some (p_growing tp)) (hle : F le = some (p_least_piece gr)) (htp : F tp = some (p_telling q)) (hq : F q = some p_parts_two)
    {n : Nat} {rows : List (List Int)} (ht : Tb n rows) (hn : n ≤ 8) {lot : List Nat} (hl : Lot n lot) (j : Nat) {st : Store} (hs : Fine st) :
    runF F (j + 5) f [.lst (vM rows), .tup (vN lot)] st = .ok (.bl true) st := by
  have h := ht.sq
  rw [runF_eq hf rfl]
  have hp : 2 ^ n ≤ 2 ^ 8 := Nat.pow_le_pow_right (by omega) hn
  have hsh := shl_one (x := n) (by omega)
  have hlo2 := fun (m : Nat) (h : m < 2 ^ n) => lot_of h
  have hmk := fun {l : List Nat} (h : Lot n l) => mark_lot hn h
  generalize 2 ^ n = K at hp hsh hlo2 hmk
  have c1 : (-1000000 : Int) ≤ (n : Int) ∧ (n : Int) ≤ 1000000 := by omega
  have c2 : (-1000000 : Int) ≤ (K : Int) ∧ (K : Int) ≤ 1000000 := by omega
  have e1 := law_table_ok htb (rows := rows) (by have := h.1; omega) (j + 3) st
  have e2 := least_piece_ok hle hgr htp hq h (by omega) hl j hs
  obtain ⟨L1, L2', L3⟩ := least_clo (rows := rows) hl
  let pm : Nat → Bool := fun m => decide (lot.filter (fun x => !decide (x ∈ lotOf m)) = []) && (tellL n rows (lotOf m)).isNone
  let qm : Nat → Nat → Bool := fun m x => decide (x ∈ lotOf m)
  let E : Option Val → List Nat → Option Val → Ev := fun m fo ow => [some (.lst (vM rows)), some (.tup (vN lot)), m, some (vT rows), some (.lst (vN fo)), ow, none]
  obtain ⟨env', e, m', ow', hfl, rfl⟩ := forL_foldI (f := bodyF (runF F (j + 4)) (.nm 2) (b_by_meet_1 lo te)) (clr := []) (I := fun fo env => ∃ m ow, Lot n fo ∧ env = E m fo ow) (st := st) (fun (i : Nat) => Val.int (i : Int)) (fun l m => if pm m = true then l.filter (qm m) else l) (List.range K) (by
    rintro m hm fo env ⟨m0, ow0, hfo, rfl⟩
    have hm := List.mem_range.mp hm
    have Lm := hlo2 m hm
    have d1 := lot_ok hlo m (j + 3) st
    have d2 := law_telling_ok hte h (by omega) Lm.2 (j + 3) st
    have l1 := hl.len
    have l2 := hfo.len
    have k1 : compL (turnP (runF F (j + 4)) (.var 6) (.nm 6) (.cmp .notin (.var 6) (.var 5)) (E (some (.int m)) fo (some (.tup (vN (lotOf m))))) [6]) (vN lot) st = .ok (vN (lot.filter fun x => !decide (x ∈ lotOf m))) st := by
      refine compL_fil _ lot fun x _ => ?_
      rw [turnP_eq rfl]
      simp [E]
      split <;> rfl
    have k2 : compL (turnP (runF F (j + 4)) (.var 6) (.nm 6) (.cmp .isin (.var 6) (.var 5)) (E (some (.int m)) fo (some (.tup (vN (lotOf m))))) [6]) (vN fo) st = .ok (vN (fo.filter (qm m))) st := by
      refine compL_fil _ fo fun x _ => ?_
      rw [turnP_eq rfl]
      simp [E, qm]
      split <;> rfl
    have x1 : ¬ LIM < lot.length := by simp only [LIM]; omega
    have x2 : ¬ LIM < fo.length := by simp only [LIM]; omega
    have ce := cmp_eqN (lot.filter fun x => !decide (x ∈ lotOf m))
    refine ⟨E (some (.int m)) (if pm m = true then fo.filter (qm m) else fo) (some (.tup (vN (lotOf m)))), ?_, _, _, ?_, rfl⟩
    · rw [bodyF_eq rfl]
      simp only [E] at k1 k2
      have pe : (decide (lot.filter (fun x => !decide (x ∈ lotOf m)) = []) && (tellL n rows (lotOf m)).isNone) = pm m := rfl
      generalize decide ((lot.filter fun x => !decide (x ∈ lotOf m)) = []) = A at ce pe
      generalize (lot.filter fun x => !decide (x ∈ lotOf m)) = fl at ce k1
      generalize tellL n rows (lotOf m) = o at d2 pe
      rw [← pe]
      cases A with
      | false => simp [b_by_meet_1, E, d1, x1, k1, ce]
      | true =>
        cases hb : o.isNone with
        | false => simp [b_by_meet_1, E, d1, x1, k1, ce, d2, hb]
        | true => simp [b_by_meet_1, E, d1, x1, k1, ce, d2, hb, x2, k2]
    · split
      · exact ⟨hfo.1.filter _, fun x hx => hfo.2 x (List.mem_filter.mp hx).1⟩
      · exact hfo) (List.range n) (E none (List.range n) none) ⟨none, none, .all n, rfl⟩
  have hres : (List.range K).foldl (fun l m => if pm m = true then l.filter (qm m) else l) (List.range n) = leastW n rows lot := by
    refine lot_ext (foldl_lot pm qm _ _ (.all n)) L1 fun x => ?_
    rw [foldl_fil]
    constructor
    · rintro ⟨hx, hall⟩
      obtain ⟨m, hm, em⟩ := hmk L1
      have := hall m (List.mem_range.mpr hm) (by
        simp only [pm, em, Bool.and_eq_true, decide_eq_true_eq, Option.isNone_iff_eq_none, List.filter_eq_nil_iff]
        exact ⟨fun y hy => by simp [L2' y hy], clo_iff.mpr L3⟩)
      simpa [qm, em] using this
    · intro hx
      refine ⟨List.mem_range.mpr (L1.2 x hx), fun m hm hpm => ?_⟩
      simp only [pm, Bool.and_eq_true, decide_eq_true_eq, Option.isNone_iff_eq_none, List.filter_eq_nil_iff] at hpm
      have := least_sub (clo_iff.mp hpm.2) (fun y hy => by simpa using hpm.1 y hy) x hx
      simpa [qm] using this
  rw [hres, ← rngV_map] at e
  have sw := sm_lot L1 hn
  have rw1 := biv_reprt (lv := false) (st := st) (sw.sh (by omega) (by omega))
  have nw := eq_same sw.s
  simp only [E] at e
  simp [a_by_meet, e1, h.1, c1, hsh, c2, rng_vN]
  rw [← rng_vN, e]
  simp [e2, rw1, nw]
theorem law8_ok {F : Nat → Option FD} {f pl dn b2 ig bm so gr le g w od co a h u s r m c o lo tb wk te tp q tu ip : Nat} (hf : F f = some (a_law8 pl dn b2 ig bm so gr le)) (hpl : F pl = some a_pool) (hdr : F dn = some (a_drawn g od co w)) (hb2 : F b2 = some (a_by_two tb so le ig)) (hig : F ig = some (a_is_grown tb wk gr le tu ip)) (hbm : F bm = some (a_by_meet tb lo te le)) (hso : F so = some (a_some g lo)) (hlo : F lo = some a_lot)
    (htb : F tb = some a_table) (hwk : F wk = some (a_walk te)) (hte : F te = some a_telling) (hgr : F gr = some (p_growing tp)) (hle : F le = some (p_least_piece gr)) (htu : F tu = some p_turned) (hip : F ip = some (p_is_piece q)) (htp : F tp = some (p_telling q)) (hq : F q = some p_parts_two)
    (hod : F od = some (a_order m a g)) (hco : F co = some (a_course m a g)) (hw : F w = some (a_world a g c h o)) (ho' : F o = some (a_grown g u s r m)) (hc : F c = some (a_shade g a)) (hu : F u = some a_put) (hs' : F s = some (a_small g a h)) (hr' : F r = some a_renamed) (hm' : F m = some (a_mixed g)) (hh : F h = some (a_chance a)) (ha : F a = some (a_any g)) (hg : F g = some a_draw)
    (n : Nat) (ns : List Int) (hl : ns.length ≤ 63) : ∃ st, runF F (n + 9) f [.scr (vI ns)] [] = .ok (.bl true) st := by
  rw [runF_eq hf rfl]
  have old : Old [] := rfl
  obtain ⟨st, e0, p0⟩ := pool_ok hpl (n + 7) ns hl
  let E : Option Val → Option Val → Option Val → Option Val → Ev := fun t r x y => [some (.scr (vI ns)), some (.ref 1), t, r, x, none, y, none, none]
  obtain ⟨env1, s1, e1, t1, r1, rfl, p1⟩ := forL_inv (f := bodyF (runF F (n + 8)) (.nm 2) (b_law8_1 dn b2)) (clr := []) (I := fun i env s => ∃ t r, env = E t r none none ∧ Pool s []) (rngV 0 3) 0 (by
    rintro i v hv env s ⟨t, r, rfl, p⟩
    obtain ⟨hi, rfl⟩ := rngV_get hv
    obtain ⟨k, rows, t1, d1, p1, tbb, hk⟩ := drawn_ok hdr hod hco hw ho' hc hu hs' hr' hm' hh ha hg n 8 (by omega) p old
    obtain ⟨t2, d2, p2⟩ := by_two_ok hb2 hso hlo hg hig htb hwk hte hgr hle htu hip htp hq tbb hk (n + 2) p1 old
    obtain ⟨t3, d3, p3⟩ := by_two_ok hb2 hso hlo hg hig htb hwk hte hgr hle htu hip htp hq tbb hk (n + 2) p2 old
    refine ⟨E (some (.int i)) (some (.lst (vM rows))) none none, t3, ?_, _, _, rfl, p3⟩
    rw [bodyF_eq rfl]
    simp at d1
    simp [E, b_law8_1, d1, d2, d3]) (E none none none none) st ⟨none, none, rfl, p0⟩
  obtain ⟨k, rows, s2, d2, p2, tbb, hk⟩ := drawn_ok hdr hod hco hw ho' hc hu hs' hr' hm' hh ha hg n 5 (by omega) p1 old
  have c1 : (-1000000 : Int) ≤ (k : Int) ∧ (k : Int) ≤ 1000000 := by omega
  have fs := p2.fine old
  have fl := forL_find (f := bodyF (runF F (n + 8)) (.nm 4) (b_law8_3 ig)) (clr := []) (I := fun env => ∃ x y, env = E t1 (some (.lst (vM rows))) x y) (st := s2) (fun (i : Nat) => Val.int (i : Int)) (fun _ => none) (List.range k) (by
    rintro x hx env ⟨x0, y0, rfl⟩
    have hx := List.mem_range.mp hx
    have fy := forL_find (f := bodyF (runF F (n + 8)) (.nm 6) (b_law8_2 ig)) (clr := []) (I := fun env => ∃ y, env = E t1 (some (.lst (vM rows))) (some (.int x)) y) (st := s2) (fun (i : Nat) => Val.int (i : Int)) (fun _ => none) (List.range x) (by
      rintro y hy env ⟨y0, rfl⟩
      have hy := List.mem_range.mp hy
      have L : Lot k [y, x] := ⟨by simp; omega, by intro z hz; simp at hz; omega⟩
      have gi := is_grown_ok hig htb hwk hte hgr hle htu hip htp hq tbb (by omega) L (n + 3) fs
      have v2 : vN [y, x] = [.int y, .int x] := rfl
      rw [v2] at gi
      refine .inr ⟨rfl, E t1 (some (.lst (vM rows))) (some (.int x)) (some (.int y)), .inl ?_, _, rfl⟩
      rw [bodyF_eq rfl]
      simp [E, b_law8_2, gi]) (E t1 (some (.lst (vM rows))) (some (.int x)) y0) ⟨y0, rfl⟩
    rcases fy with ⟨v, g1, _⟩ | ⟨_, env1, e2, y1, rfl⟩
    · rw [List.findSome?_eq_none_iff.mpr fun _ _ => rfl] at g1
      cases g1
    refine .inr ⟨rfl, E t1 (some (.lst (vM rows))) (some (.int x)) y1, .inl ?_, _, _, rfl⟩
    rw [bodyF_eq rfl]
    have c2 : (-1000000 : Int) ≤ (x : Int) ∧ (x : Int) ≤ 1000000 := by omega
    rw [← rngV_map] at e2
    simp only [E] at e2 ⊢
    simp [b_law8_3, c2, e2]) (E t1 (some (.lst (vM rows))) none none) ⟨none, none, rfl⟩
  rcases fl with ⟨v, g1, _⟩ | ⟨_, env2, e2, x2, y2, rfl⟩
  · rw [List.findSome?_eq_none_iff.mpr fun _ _ => rfl] at g1
    cases g1
  rw [← rngV_map] at e2
  obtain ⟨env3, s3, e3, t3, rfl, p3⟩ := forL_inv (f := bodyF (runF F (n + 8)) (.nm 2) (b_law8_4 bm so)) (clr := []) (I := fun i env s => ∃ t, env = E t (some (.lst (vM rows))) x2 y2 ∧ Pool s []) (rngV 0 3) 0 (by
    rintro i v hv env s ⟨t, rfl, p⟩
    obtain ⟨hi, rfl⟩ := rngV_get hv
    obtain ⟨lot, t2, d2, p2, L⟩ := some_ok hso hlo hg (n + 6) k (by omega) p
    have d3 := by_meet_ok hbm hlo htb hte hgr hle htp hq tbb (by omega) L (n + 3) (p2.fine old)
    refine ⟨E (some (.int i)) (some (.lst (vM rows))) x2 y2, t2, ?_, _, rfl, p2⟩
    rw [bodyF_eq rfl]
    simp [E, b_law8_4, tbb.sq.1, d2, d3]) (E t1 (some (.lst (vM rows))) x2 y2) s2 ⟨_, rfl, p2⟩
  have sqF : Sq 3 [[0, 0, 1], [0, 0, 1], [1, 1, 0]] := ⟨rfl, by decide⟩
  have sqL : Sq 3 [[0, 1, 1], [0, 0, 1], [0, 0, 0]] := ⟨rfl, by decide⟩
  have l02 : Lot 3 [0, 2] := ⟨by decide, by decide⟩
  have l12 : Lot 3 [1, 2] := ⟨by decide, by decide⟩
  have fs3 := p3.fine old
  have k1 := growing_ok hgr htp hq sqL (by omega) l02 (n + 5) fs3
  have k2 := least_piece_ok hle hgr htp hq sqL (by omega) l02 (n + 4) fs3
  have k3 := growing_ok hgr htp hq sqF (by omega) l12 (n + 5) fs3
  have k4 := least_piece_ok hle hgr htp hq sqF (by omega) (.nil 3) (n + 4) fs3
  rw [show growW 3 [[0, 1, 1], [0, 0, 1], [0, 0, 0]] [0, 2] = [(1, 0, 2)] by decide] at k1
  rw [show leastW 3 [[0, 1, 1], [0, 0, 1], [0, 0, 0]] [0, 2] = [0, 1, 2] by decide] at k2
  rw [show growW 3 [[0, 0, 1], [0, 0, 1], [1, 1, 0]] [1, 2] = [(0, 1, 2)] by decide] at k3
  rw [show leastW 3 [[0, 0, 1], [0, 0, 1], [1, 1, 0]] [] = [] by decide] at k4
  simp [vT, vMt, vI, vN, vPs, vTr] at k1 k2 k3 k4
  have sm : Sm (.lst [.tup [.tup [.int 1, .int 0, .int 2]], .tup [.int 0, .int 1, .int 2], .tup [.tup [.int 0, .int 1, .int 2]], .tup []]) 3 10000 := ⟨by decide, by decide, by decide⟩
  have v1 := biv_reprl (lv := false) (st := s3) (sm.sh (by omega) (by omega))
  simp at d2
  simp only [E] at e1 e2 e3
  refine ⟨trunc 0 (.bl true) s3, ?_⟩
  simp [a_law8, e0, e1, d2, tbb.sq.1, c1, e2, e3, k1, k2, k3, k4, v1, eq_same sm.s]
end Cp

set_option Elab.async false
set_option linter.all false
set_option maxRecDepth 100000
set_option maxHeartbeats 16000000
/-! CoPf: is_firm of the package as core terms (printed by pr.py partn). -/
namespace Cp
open Co
open PySem
/-- _fills(rows, lot, one, other); slots 0:rows 1:lot 2:one 3:other 4:left 5:waiting 6:own 7:told 8:thing 9:z -/
def p_fills : FD := ⟨4, 10,
    (.cons (.asg (.nm 4) (.lc false (.var 8) (.nm 8) (.seq (.var 1)) (.and_ (.cmp .ne (.var 8) (.var 2)) (.cmp .ne (.var 8) (.var 3))) [8]))
    (.cons (.asg (.nm 5) (.lst true (.cons (.var 3) .nil)))
    (.cons (.whl (.and_ (.tst (.var 5)) (.tst (.var 4))) (.cons (.asg (.nm 6) (.mth .pop false (.var 5) .nil))
    (.cons (.asg (.nm 7) (.lc false (.var 9) (.nm 9) (.seq (.var 4)) (.or_ (.cmp .ne (.idx (.idx (.var 0) (.var 9)) (.var 6)) (.idx (.idx (.var 0) (.var 9)) (.var 2))) (.cmp .ne (.idx (.idx (.var 0) (.var 6)) (.var 9)) (.idx (.idx (.var 0) (.var 2)) (.var 9)))) [9]))
    (.cons (.asg (.nm 4) (.lc false (.var 9) (.nm 9) (.seq (.var 4)) (.cmp .notin (.var 9) (.var 7)) [9]))
    (.cons (.ex (.mth .extend false (.var 5) (.cons (.var 7) .nil)))
    .nil)))) [])
    (.cons (.frz 5)
    (.cons (.ret (.cmp .eq (.var 4) (.lst false .nil)))
    .nil)))))⟩
def b_pis_firm_lot_1 (q_fills : Nat) : Sxs := (.cons (.iff (.not_ (.call q_fills [0, 1, 2, 3] (.cons (.var 0) (.cons (.var 1) (.cons (.var 3) (.cons (.var 4) .nil)))) .nil)) (.cons (.ret (.cst (.bl false)))
    .nil) .nil)
    .nil)
def b_pis_firm_lot_2 (q_fills : Nat) : Sxs := (.cons (.fr (.nm 4) (.seq (.slc false (.var 1) (.bin .add false (.var 2) (.cst (.int 1))) (.cst .non))) (b_pis_firm_lot_1 q_fills) [])
    .nil)
/-- _is_firm_lot(rows, lot); slots 0:rows 1:lot 2:at 3:one 4:other -/
def p_is_firm_lot (q_fills : Nat) : FD := ⟨2, 5,
    (.cons (.iff (.cmp .lt (.bi .len false (.cons (.var 1) .nil)) (.cst (.int 3))) (.cons (.ret (.cst (.bl false)))
    .nil) .nil)
    (.cons (.fr (.tp [2, 3]) (.enm (.var 1)) (b_pis_firm_lot_2 q_fills) [])
    (.cons (.ret (.cst (.bl true)))
    .nil)))⟩
/-- is_firm(table); slots 0:table -/
def p_is_firm (q_is_firm_lot : Nat) : FD := ⟨1, 1,
    (.cons (.ret (.call q_is_firm_lot [0, 1] (.cons (.idx (.var 0) (.cst (.int 1))) (.cons (.rgl true false (.rng1 (.idx (.var 0) (.cst (.int 0))))) .nil)) .nil))
    .nil)⟩

end Cp

set_option Elab.async false
set_option linter.all false
set_option maxRecDepth 100000
set_option maxHeartbeats 16000000
/-! CdF: defs of the family C (law k19) as core terms (printed by pr.py partn). -/
namespace Cd
open Co
open PySem
def c_deck_1 : Ex := (.ite (.cmp .ge (.var 4) (.cst (.int 0))) (.bin .mul false (.cst (.int 2)) (.var 4)) (.bin .sub false (.bin .mul false (.neg (.cst (.int 2))) (.var 4)) (.cst (.int 1))))
def b_deck_1 : Sxs := (.cons (.asg (.nm 2) (.bin .mod false (.bi .int false (.cons (.bin .add false (.bin .mul false (.var 2) (.cst (.int 1000033))) (.var 3)) .nil)) (.cst (.int 2305843009213693951))))
    .nil)
/-- _law_deck(_law_script); slots 0:_law_script 1:_law_folds 2:_law_whole 3:_law_fold 4:_law_cell -/
def a_deck : FD := ⟨1, 5,
    (.cons (.asg (.nm 1) (.lc false c_deck_1 (.nm 4) (.seq (.slc false (.var 0) (.cst .non) (.cst (.int 63)))) (.cst (.bl true)) [4]))
    (.cons (.asg (.nm 2) (.bin .add false (.cst (.int 12762)) (.bi .len false (.cons (.var 1) .nil))))
    (.cons (.fr (.nm 3) (.seq (.var 1)) b_deck_1 [])
    (.cons (.ret (.lst true (.cons (.lc true (.var 3) (.nm 3) (.seq (.var 1)) (.cmp .gt (.var 3) (.bin .pow false (.cst (.int 10)) (.cst (.int 18)))) [3]) (.cons (.var 2) (.cons (.cst (.int 0)) .nil)))))
    .nil))))⟩
/-- _law_draw(_law_deck_here, _law_many); slots 0:_law_deck_here 1:_law_many 2:_law_mixed_here 3:_law_rest -/
def a_draw : FD := ⟨2, 4,
    (.cons (.iff (.cmp .ne (.idx (.var 0) (.cst (.int 0))) (.lst false .nil)) (.cons (.asg (.nm 3) (.idx (.idx (.var 0) (.cst (.int 0))) (.cst (.int 0))))
    (.cons (.seti (.idx (.var 0) (.cst (.int 0))) (.cst (.int 0)) (.bin .fdiv false (.var 3) (.var 1)))
    (.cons (.iff (.cmp .lt (.var 3) (.var 1)) (.cons (.ex (.mth .popAt false (.idx (.var 0) (.cst (.int 0))) (.cons (.cst (.int 0)) .nil)))
    .nil) .nil)
    (.cons (.ret (.bin .mod false (.bi .int false (.cons (.var 3) .nil)) (.var 1)))
    .nil)))) .nil)
    (.cons (.seti (.var 0) (.cst (.int 2)) (.bin .add false (.idx (.var 0) (.cst (.int 2))) (.cst (.int 1))))
    (.cons (.asg (.nm 2) (.bin .mod false (.bi .int false (.cons (.bin .add false (.idx (.var 0) (.cst (.int 1))) (.bin .mul false (.idx (.var 0) (.cst (.int 2))) (.cst (.int 6364136223846793005)))) .nil)) (.cst (.int 2305843009213693951))))
    (.cons (.asg (.nm 2) (.bin .mod false (.bi .int false (.cons (.bin .add false (.bin .mul false (.var 2) (.var 2)) (.bin .mul false (.idx (.var 0) (.cst (.int 2))) (.cst (.int 1442695040888963407)))) .nil)) (.cst (.int 2305843009213693921))))
    (.cons (.asg (.nm 2) (.bin .mod false (.bi .int false (.cons (.bin .add false (.bin .add false (.bin .mul false (.var 2) (.var 2)) (.bin .mul false (.cst (.int 3)) (.var 2))) (.idx (.var 0) (.cst (.int 1)))) .nil)) (.cst (.int 2305843009213693951))))
    (.cons (.ret (.bin .mod false (.bi .int false (.cons (.bin .fdiv false (.var 2) (.cst (.int 8192))) .nil)) (.var 1)))
    .nil))))))⟩
/-- _law_one(_law_deck_here, _law_items); slots 0:_law_deck_here 1:_law_items -/
def a_one (f_draw : Nat) : FD := ⟨2, 2,
    (.cons (.ret (.idx (.var 1) (.call f_draw [0, 1] (.cons (.var 0) (.cons (.bi .len false (.cons (.var 1) .nil)) .nil)) .nil)))
    .nil)⟩
def c_lots_1 : Ex := (.bin .add false (.var 5) (.tup (.cons (.var 7) .nil)))
def b_lots_1 : Sxs := (.cons (.asg (.nm 6) (.ite (.cmp .ne (.var 5) (.tup .nil)) (.bin .add false (.idx (.var 5) (.neg (.cst (.int 1)))) (.cst (.int 1))) (.cst (.int 0))))
    (.cons (.asg (.nm 4) (.bin .add false (.var 4) (.lc false c_lots_1 (.nm 7) (.rng2 (.var 6) (.var 0)) (.cst (.bl true)) [7])))
    .nil))
def b_lots_2 : Sxs := (.cons (.asg (.nm 4) (.lst false .nil))
    (.cons (.fr (.nm 5) (.seq (.var 3)) b_lots_1 [])
    (.cons (.asg (.nm 3) (.var 4))
    (.cons (.asg (.nm 2) (.bin .add false (.var 2) (.var 3)))
    .nil))))
/-- _law_lots(_law_size); slots 0:_law_size 1:_law_many 2:_law_found 3:_law_level 4:_law_longer 5:_law_lot 6:_law_begin 7:_law_thing -/
def a_lots : FD := ⟨1, 8,
    (.cons (.par [2, 3] (.cons (.lst false (.cons (.tup .nil) .nil)) (.cons (.lst false (.cons (.tup .nil) .nil)) .nil)))
    (.cons (.fr (.nm 1) (.rng1 (.var 0)) b_lots_2 [])
    (.cons (.ret (.var 2))
    .nil)))⟩
def b_is_piece_1 : Sxs := (.cons (.iff (.or_ (.cmp .ne (.idx (.idx (.var 0) (.var 2)) (.var 3)) (.idx (.idx (.var 0) (.var 2)) (.idx (.var 1) (.cst (.int 0))))) (.cmp .ne (.idx (.idx (.var 0) (.var 3)) (.var 2)) (.idx (.idx (.var 0) (.idx (.var 1) (.cst (.int 0)))) (.var 2)))) (.cons (.ret (.cst (.bl false)))
    .nil) .nil)
    .nil)
def b_is_piece_2 : Sxs := (.cons (.iff (.cmp .notin (.var 2) (.var 1)) (.cons (.fr (.nm 3) (.seq (.var 1)) b_is_piece_1 [])
    .nil) .nil)
    .nil)
/-- _law_is_piece(_law_rows_here, _law_lot); slots 0:_law_rows_here 1:_law_lot 2:_law_thing 3:_law_own -/
def a_is_piece : FD := ⟨2, 4,
    (.cons (.fr (.nm 2) (.rng1 (.bi .len false (.cons (.var 0) .nil))) b_is_piece_2 [])
    (.cons (.ret (.cst (.bl true)))
    .nil))⟩
def b_spread_1 : Sxs := (.cons (.asg (.tp [9, 10]) (.tup (.cons (.idx (.idx (.var 0) (.var 8)) (.var 2)) (.cons (.idx (.idx (.var 0) (.var 2)) (.var 8)) .nil))))
    (.cons (.iff (.cmp .ne (.lc false (.var 11) (.nm 11) (.seq (.var 5)) (.or_ (.cmp .ne (.idx (.idx (.var 0) (.var 8)) (.var 11)) (.var 9)) (.cmp .ne (.idx (.idx (.var 0) (.var 11)) (.var 8)) (.var 10))) [11]) (.lst false .nil)) (.cons (.ex (.mth .append false (.var 7) (.cons (.var 8) .nil)))
    .nil) .nil)
    .nil))
def b_spread_2 : Sxs := (.cons (.asg (.nm 7) (.lst true .nil))
    (.cons (.fr (.nm 8) (.seq (.var 6)) b_spread_1 [])
    (.cons (.frz 7)
    (.cons (.iff (.cmp .eq (.var 7) (.lst false .nil)) (.cons (.ret (.var 5))
    .nil) .nil)
    (.cons (.asg (.nm 5) (.bin .add false (.var 5) (.var 7)))
    (.cons (.asg (.nm 6) (.lc false (.var 8) (.nm 8) (.seq (.var 6)) (.cmp .notin (.var 8) (.var 7)) [8]))
    .nil))))))
/-- _law_spread(_law_rows_here, _law_lot, _law_first, _law_second); slots 0:_law_rows_here 1:_law_lot 2:_law_first 3:_law_second 4:_law_turn 5:_law_found 6:_law_rest 7:_law_come 8:_law_thing 9:_law_look 10:_law_back 11:_law_own -/
def a_spread : FD := ⟨4, 12,
    (.cons (.par [5, 6] (.cons (.lst false (.cons (.var 2) (.cons (.var 3) .nil))) (.cons (.lc false (.var 8) (.nm 8) (.seq (.var 1)) (.cmp .notin (.var 8) (.tup (.cons (.var 2) (.cons (.var 3) .nil)))) [8]) .nil)))
    (.cons (.fr (.nm 4) (.rng1 (.bi .len false (.cons (.var 1) .nil))) b_spread_2 [])
    (.cons (.ret (.var 5))
    .nil)))⟩
def b_is_firm_1 (f_spread : Nat) : Sxs := (.cons (.iff (.cmp .lt (.bi .len false (.cons (.call f_spread [0, 1, 2, 3] (.cons (.var 0) (.cons (.var 1) (.cons (.var 3) (.cons (.var 4) .nil)))) .nil) .nil)) (.bi .len false (.cons (.var 1) .nil))) (.cons (.ret (.cst (.bl false)))
    .nil) .nil)
    .nil)
def b_is_firm_2 (f_spread : Nat) : Sxs := (.cons (.fr (.nm 4) (.seq (.slc false (.var 1) (.bin .add false (.var 2) (.cst (.int 1))) (.cst .non))) (b_is_firm_1 f_spread) [])
    .nil)
/-- _law_is_firm(_law_rows_here, _law_lot); slots 0:_law_rows_here 1:_law_lot 2:_law_at 3:_law_first 4:_law_second -/
def a_is_firm (f_spread : Nat) : FD := ⟨2, 5,
    (.cons (.fr (.tp [2, 3]) (.enm (.var 1)) (b_is_firm_2 f_spread) [])
    (.cons (.ret (.cmp .gt (.bi .len false (.cons (.var 1) .nil)) (.cst (.int 2))))
    .nil))⟩
/-- _law_menu(_law_deck_here); slots 0:_law_deck_here 1:_law_low -/
def a_menu (f_draw f_one : Nat) : FD := ⟨1, 2,
    (.cons (.asg (.nm 1) (.call f_draw [0, 1] (.cons (.var 0) (.cons (.cst (.int 99)) .nil)) .nil))
    (.cons (.ret (.call f_one [0, 1] (.cons (.var 0) (.cons (.lst false (.cons (.lst false (.cons (.cst (.int 0)) (.cons (.cst (.int 1)) .nil))) (.cons (.lst false (.cons (.cst (.int 0)) (.cons (.cst (.int 1)) .nil))) (.cons (.lst false (.cons (.cst (.int 1)) (.cons (.cst (.int 0)) (.cons (.cst (.int 2)) .nil)))) (.cons (.lst false (.cons (.var 1) (.cons (.cst (.int 99)) .nil))) (.cons (.lst false (.cons (.cst (.int 0)) (.cons (.bin .add false (.var 1) (.cst (.int 1))) (.cons (.cst (.int 7)) .nil)))) (.cons (.lst false (.cons (.cst (.int 5)) (.cons (.cst (.int 6)) (.cons (.bin .add false (.var 1) (.cst (.int 1))) (.cons (.cst (.int 0)) .nil))))) .nil))))))) .nil)) .nil))
    .nil))⟩
def c_rows_1 : Ex := (.bin .mul true (.lst false (.cons (.cst (.int 0)) .nil)) (.var 1))
def b_rows_1 (f_one : Nat) : Sxs := (.cons (.asg (.nm 9) (.lst false (.cons (.call f_one [0, 1] (.cons (.var 0) (.cons (.var 2) .nil)) .nil) (.cons (.call f_one [0, 1] (.cons (.var 0) (.cons (.var 2) .nil)) .nil) .nil))))
    (.cons (.iff (.cmp .eq (.var 4) (.cst (.int 1))) (.cons (.asg (.nm 9) (.lst false (.cons (.idx (.var 9) (.cst (.int 0))) (.cons (.idx (.var 9) (.cst (.int 0))) .nil))))
    .nil) .nil)
    (.cons (.iff (.cmp .eq (.var 4) (.cst (.int 2))) (.cons (.asg (.nm 9) (.ite (.cmp .eq (.idx (.var 9) (.cst (.int 0))) (.idx (.var 2) (.cst (.int 0)))) (.lst false (.cons (.idx (.var 2) (.cst (.int 0))) (.cons (.idx (.var 2) (.cst (.int 1))) .nil))) (.lst false (.cons (.idx (.var 2) (.cst (.int 1))) (.cons (.idx (.var 2) (.cst (.int 0))) .nil)))))
    .nil) .nil)
    (.cons (.iff (.cmp .eq (.var 4) (.cst (.int 3))) (.cons (.asg (.nm 9) (.lst false (.cons (.bi .int false (.cons (.and_ (.cmp .lt (.idx (.var 6) (.var 8)) (.idx (.var 6) (.var 3))) (.cmp .lt (.idx (.var 7) (.var 8)) (.idx (.var 7) (.var 3)))) .nil)) (.cons (.bi .int false (.cons (.and_ (.cmp .lt (.idx (.var 6) (.var 3)) (.idx (.var 6) (.var 8))) (.cmp .lt (.idx (.var 7) (.var 3)) (.idx (.var 7) (.var 8)))) .nil)) .nil))))
    .nil) .nil)
    (.cons (.seti (.idx (.var 5) (.var 8)) (.var 3) (.idx (.var 9) (.cst (.int 0))))
    (.cons (.seti (.idx (.var 5) (.var 3)) (.var 8) (.idx (.var 9) (.cst (.int 1))))
    .nil))))))
def b_rows_2 (f_one : Nat) : Sxs := (.cons (.fr (.nm 8) (.rng1 (.var 3)) (b_rows_1 f_one) [])
    .nil)
/-- _law_rows(_law_deck_here, _law_size, _law_menu_here); slots 0:_law_deck_here 1:_law_size 2:_law_menu_here 3:_law_y 4:_law_way 5:_law_rows_here 6:_law_one_here 7:_law_other 8:_law_x 9:_law_pair 10:_law_thing -/
def a_rows (f_draw f_mixed f_one : Nat) : FD := ⟨3, 11,
    (.cons (.par [4, 5] (.cons (.call f_draw [0, 1] (.cons (.var 0) (.cons (.cst (.int 5)) .nil)) .nil) (.cons (.lc true c_rows_1 (.nm 10) (.rng1 (.var 1)) (.cst (.bl true)) [10]) .nil)))
    (.cons (.par [6, 7] (.cons (.call f_mixed [0, 1] (.cons (.var 0) (.cons (.rgl false false (.rng1 (.var 1))) .nil)) .nil) (.cons (.call f_mixed [0, 1] (.cons (.var 0) (.cons (.rgl false false (.rng1 (.var 1))) .nil)) .nil) .nil)))
    (.cons (.fr (.nm 3) (.rng1 (.var 1)) (b_rows_2 f_one) [])
    (.cons (.ret (.var 5))
    .nil))))⟩
def b_core_1 (f_rows f_is_firm : Nat) : Sxs := (.cons (.asg (.nm 4) (.frz (.call f_rows [0, 1, 2] (.cons (.var 0) (.cons (.var 1) (.cons (.var 2) .nil))) .nil)))
    (.cons (.iff (.call f_is_firm [0, 1] (.cons (.var 4) (.cons (.rgl true false (.rng1 (.var 1))) .nil)) .nil) (.cons (.ret (.frz (.var 4)))
    .nil) .nil)
    .nil))
def c_core_1 : Ex := (.bin .mul true (.lst false (.cons (.idx (.var 2) (.cst (.int 0))) .nil)) (.var 1))
def b_core_2 : Sxs := (.cons (.seti (.idx (.var 4) (.var 5)) (.var 5) (.cst (.int 0)))
    (.cons (.iff (.cmp .lt (.bin .add false (.var 5) (.cst (.int 1))) (.var 1)) (.cons (.seti (.idx (.var 4) (.var 5)) (.bin .add false (.var 5) (.cst (.int 1))) (.idx (.var 2) (.cst (.int 1))))
    .nil) .nil)
    .nil))
/-- _law_core(_law_deck_here, _law_size, _law_menu_here); slots 0:_law_deck_here 1:_law_size 2:_law_menu_here 3:_law_turn 4:_law_rows_here 5:_law_x 6:_law_thing -/
def a_core (f_rows f_is_firm : Nat) : FD := ⟨3, 7,
    (.cons (.fr (.nm 3) (.rng1 (.cst (.int 5))) (b_core_1 f_rows f_is_firm) [])
    (.cons (.asg (.nm 4) (.lc true c_core_1 (.nm 6) (.rng1 (.var 1)) (.cst (.bl true)) [6]))
    (.cons (.fr (.nm 5) (.rng1 (.var 1)) b_core_2 [])
    (.cons (.frz 4)
    (.cons (.ret (.frz (.var 4)))
    .nil)))))⟩
def c_named_1 : Ex := (.bi .list true (.cons (.var 5) .nil))
def b_named_1 : Sxs := (.cons (.seti (.idx (.var 2) (.idx (.var 1) (.var 3))) (.idx (.var 1) (.var 4)) (.idx (.idx (.var 0) (.var 3)) (.var 4)))
    .nil)
def b_named_2 : Sxs := (.cons (.fr (.nm 4) (.rng1 (.bi .len false (.cons (.var 0) .nil))) b_named_1 [])
    .nil)
/-- _law_named(_law_rows_here, _law_naming); slots 0:_law_rows_here 1:_law_naming 2:_law_found 3:_law_x 4:_law_y 5:_law_row -/
def a_named : FD := ⟨2, 6,
    (.cons (.asg (.nm 2) (.lc true c_named_1 (.nm 5) (.seq (.var 0)) (.cst (.bl true)) [5]))
    (.cons (.fr (.nm 3) (.rng1 (.bi .len false (.cons (.var 0) .nil))) b_named_2 [])
    (.cons (.frz 2)
    (.cons (.ret (.frz (.var 2)))
    .nil))))⟩
def c_set_in_1 : Ex := (.tup (.cons (.var 5) (.cons (.cst (.int 0)) .nil)))
def c_set_in_2 : Ex := (.tup (.cons (.var 1) (.cons (.var 7) .nil)))
def c_set_in_3 : Ex := (.ite (.and_ (.cmp .eq (.var 5) (.var 1)) (.cmp .eq (.var 7) (.var 1))) (.idx (.idx (.var 2) (.var 6)) (.var 8)) (.idx (.idx (.var 0) (.var 5)) (.var 7)))
def b_set_in_1 : Sxs := (.cons (.ex (.mth .append false (.var 4) (.cons (.lc false c_set_in_3 (.tp [7, 8]) (.seq (.var 3)) (.cst (.bl true)) [7, 8]) .nil)))
    .nil)
/-- _law_set_in(_law_rows_here, _law_thing, _law_other); slots 0:_law_rows_here 1:_law_thing 2:_law_other 3:_law_whole 4:_law_found 5:_law_x 6:_law_own 7:_law_y 8:_law_its -/
def a_set_in : FD := ⟨3, 9,
    (.cons (.par [3, 4] (.cons (.bin .add false (.lc false c_set_in_1 (.nm 5) (.rng1 (.var 1)) (.cst (.bl true)) [5]) (.lc false c_set_in_2 (.nm 7) (.rng1 (.bi .len false (.cons (.var 2) .nil))) (.cst (.bl true)) [7])) (.cons (.lst true .nil) .nil)))
    (.cons (.asg (.nm 3) (.bin .add false (.var 3) (.lc false c_set_in_1 (.nm 5) (.rng2 (.bin .add false (.var 1) (.cst (.int 1))) (.bi .len false (.cons (.var 0) .nil))) (.cst (.bl true)) [5])))
    (.cons (.fr (.tp [5, 6]) (.seq (.var 3)) b_set_in_1 [])
    (.cons (.frz 4)
    (.cons (.ret (.frz (.var 4)))
    .nil)))))⟩
def b_small_1 : Sxs := (.cons (.seti (.idx (.var 4) (.var 7)) (.var 6) (.idx (.var 5) (.cst (.int 0))))
    (.cons (.seti (.idx (.var 4) (.var 6)) (.var 7) (.idx (.var 5) (.var 3)))
    .nil))
def b_small_2 : Sxs := (.cons (.fr (.nm 7) (.rng1 (.var 6)) b_small_1 [])
    .nil)
/-- _law_small(_law_deck_here, _law_size, _law_menu_here); slots 0:_law_deck_here 1:_law_size 2:_law_menu_here 3:_law_way 4:_law_rows_here 5:_law_looks 6:_law_y 7:_law_x -/
def a_small (f_draw f_rows f_core f_one : Nat) : FD := ⟨3, 8,
    (.cons (.par [3, 4] (.cons (.call f_draw [0, 1] (.cons (.var 0) (.cons (.cst (.int 4)) .nil)) .nil) (.cons (.call f_rows [0, 1, 2] (.cons (.var 0) (.cons (.var 1) (.cons (.var 2) .nil))) .nil) .nil)))
    (.cons (.iff (.and_ (.cmp .eq (.var 3) (.cst (.int 2))) (.cmp .gt (.var 1) (.cst (.int 2)))) (.cons (.ret (.call f_core [0, 1, 2] (.cons (.var 0) (.cons (.var 1) (.cons (.var 2) .nil))) .nil))
    .nil) .nil)
    (.cons (.iff (.cmp .lt (.var 3) (.cst (.int 2))) (.cons (.asg (.nm 5) (.lst false (.cons (.call f_one [0, 1] (.cons (.var 0) (.cons (.var 2) .nil)) .nil) (.cons (.call f_one [0, 1] (.cons (.var 0) (.cons (.var 2) .nil)) .nil) .nil))))
    (.cons (.fr (.nm 6) (.rng1 (.var 1)) b_small_2 [])
    .nil)) .nil)
    (.cons (.frz 4)
    (.cons (.ret (.frz (.var 4)))
    .nil)))))⟩
def c_made_1 : Ex := (.lst false (.cons (.cst (.int 0)) .nil))
def b_made_1 (f_draw f_set_in f_small : Nat) : Sxs := (.cons (.asg (.nm 5) (.bin .sub false (.var 1) (.bi .len false (.cons (.var 3) .nil))))
    (.cons (.iff (.cmp .gt (.var 5) (.cst (.int 0))) (.cons (.asg (.nm 7) (.bin .add false (.cst (.int 2)) (.call f_draw [0, 1] (.cons (.var 0) (.cons (.bi .min2 false (.cons (.var 5) (.cons (.cst (.int 3)) .nil))) .nil)) .nil)))
    (.cons (.asg (.nm 3) (.call f_set_in [0, 1, 2] (.cons (.var 3) (.cons (.call f_draw [0, 1] (.cons (.var 0) (.cons (.bi .len false (.cons (.var 3) .nil)) .nil)) .nil) (.cons (.call f_small [0, 1, 2] (.cons (.var 0) (.cons (.var 7) (.cons (.var 2) .nil))) .nil) .nil))) .nil))
    .nil)) .nil)
    .nil))
/-- _law_made(_law_deck_here, _law_size, _law_menu_here); slots 0:_law_deck_here 1:_law_size 2:_law_menu_here 3:_law_rows_here 4:_law_turn 5:_law_room 6:_law_thing 7:_law_wide -/
def a_made (f_draw f_set_in f_small f_named f_mixed : Nat) : FD := ⟨3, 8,
    (.cons (.asg (.nm 3) (.lc false c_made_1 (.nm 6) (.rng1 (.bi .min2 false (.cons (.var 1) (.cons (.cst (.int 1)) .nil)))) (.cst (.bl true)) [6]))
    (.cons (.fr (.nm 4) (.rng1 (.var 1)) (b_made_1 f_draw f_set_in f_small) [])
    (.cons (.ret (.call f_named [0, 1] (.cons (.var 3) (.cons (.call f_mixed [0, 1] (.cons (.var 0) (.cons (.rgl false false (.rng1 (.var 1))) .nil)) .nil) .nil)) .nil))
    .nil)))⟩
/-- _law_any(_law_deck_here, _law_size, _law_menu_here); slots 0:_law_deck_here 1:_law_size 2:_law_menu_here 3:_law_way -/
def a_any (f_draw f_core f_rows f_made : Nat) : FD := ⟨3, 4,
    (.cons (.asg (.nm 3) (.call f_draw [0, 1] (.cons (.var 0) (.cons (.cst (.int 5)) .nil)) .nil))
    (.cons (.iff (.and_ (.cmp .eq (.var 3) (.cst (.int 0))) (.cmp .gt (.var 1) (.cst (.int 2)))) (.cons (.ret (.call f_core [0, 1, 2] (.cons (.var 0) (.cons (.var 1) (.cons (.var 2) .nil))) .nil))
    .nil) .nil)
    (.cons (.ret (.ite (.cmp .eq (.var 3) (.cst (.int 1))) (.frz (.call f_rows [0, 1, 2] (.cons (.var 0) (.cons (.var 1) (.cons (.var 2) .nil))) .nil)) (.call f_made [0, 1, 2] (.cons (.var 0) (.cons (.var 1) (.cons (.var 2) .nil))) .nil)))
    .nil)))⟩
def c_turned_1 : Ex := (.idx (.idx (.var 0) (.var 2)) (.var 1))
def c_turned_2 : Ex := (.lc false c_turned_1 (.nm 2) (.rng1 (.bi .len false (.cons (.var 0) .nil))) (.cst (.bl true)) [2])
/-- _law_turned(_law_rows_here); slots 0:_law_rows_here 1:_law_x 2:_law_y -/
def a_turned : FD := ⟨1, 3,
    (.cons (.ret (.lc false c_turned_2 (.nm 1) (.rng1 (.bi .len false (.cons (.var 0) .nil))) (.cst (.bl true)) [1]))
    .nil)⟩
def c_changed_1 : Ex := (.bi .list true (.cons (.var 7) .nil))
/-- _law_changed(_law_deck_here, _law_rows_here, _law_menu_here); slots 0:_law_deck_here 1:_law_rows_here 2:_law_menu_here 3:_law_found 4:_law_size 5:_law_x 6:_law_step 7:_law_row -/
def a_changed (f_draw f_one : Nat) : FD := ⟨3, 8,
    (.cons (.par [3, 4] (.cons (.lc true c_changed_1 (.nm 7) (.seq (.var 1)) (.cst (.bl true)) [7]) (.cons (.bi .len false (.cons (.var 1) .nil)) .nil)))
    (.cons (.iff (.cmp .gt (.var 4) (.cst (.int 1))) (.cons (.par [5, 6] (.cons (.call f_draw [0, 1] (.cons (.var 0) (.cons (.var 4) .nil)) .nil) (.cons (.bin .add false (.cst (.int 1)) (.call f_draw [0, 1] (.cons (.var 0) (.cons (.bin .sub false (.var 4) (.cst (.int 1))) .nil)) .nil)) .nil)))
    (.cons (.seti (.idx (.var 3) (.var 5)) (.bin .mod false (.bi .int false (.cons (.bin .add false (.var 5) (.var 6)) .nil)) (.var 4)) (.call f_one [0, 1] (.cons (.var 0) (.cons (.bin .add false (.var 2) (.lst false (.cons (.cst (.int 99)) (.cons (.cst (.int 0)) .nil)))) .nil)) .nil))
    .nil)) .nil)
    (.cons (.frz 3)
    (.cons (.ret (.frz (.var 3)))
    .nil))))⟩
/-- _law_doubled(_law_deck_here, _law_rows_here, _law_menu_here); slots 0:_law_deck_here 1:_law_rows_here 2:_law_menu_here 3:_law_size 4:_law_pair 5:_law_found 6:_law_naming 7:_law_one_here 8:_law_other -/
def a_doubled (f_draw f_one f_set_in f_named : Nat) : FD := ⟨3, 9,
    (.cons (.asg (.nm 3) (.bi .len false (.cons (.var 1) .nil)))
    (.cons (.iff (.cmp .eq (.var 3) (.cst (.int 0))) (.cons (.ret (.lst false (.cons (.lst false (.cons (.cst (.int 0)) .nil)) .nil)))
    .nil) .nil)
    (.cons (.par [7, 8] (.cons (.call f_draw [0, 1] (.cons (.var 0) (.cons (.var 3) .nil)) .nil) (.cons (.call f_draw [0, 1] (.cons (.var 0) (.cons (.bin .add false (.var 3) (.cst (.int 1))) .nil)) .nil) .nil)))
    (.cons (.asg (.nm 4) (.lst false (.cons (.lst false (.cons (.cst (.int 0)) (.cons (.call f_one [0, 1] (.cons (.var 0) (.cons (.var 2) .nil)) .nil) .nil))) (.cons (.lst false (.cons (.call f_one [0, 1] (.cons (.var 0) (.cons (.var 2) .nil)) .nil) (.cons (.cst (.int 0)) .nil))) .nil))))
    (.cons (.asg (.nm 5) (.call f_set_in [0, 1, 2] (.cons (.var 1) (.cons (.var 7) (.cons (.var 4) .nil))) .nil))
    (.cons (.asg (.nm 6) (.rgl false true (.rng1 (.bin .add false (.var 3) (.cst (.int 1))))))
    (.cons (.sw (.var 6) (.var 8) (.var 6) (.var 7) (.tup (.cons (.idx (.var 6) (.var 7)) (.cons (.idx (.var 6) (.var 8)) .nil))))
    (.cons (.frz 6)
    (.cons (.ret (.call f_named [0, 1] (.cons (.var 5) (.cons (.var 6) .nil)) .nil))
    .nil)))))))))⟩
def c_is_right_1 (q_is_piece : Nat) : Ex := (.call q_is_piece [0, 1] (.cons (.var 2) (.cons (.var 6) .nil)) .nil)
/-- _law_is_right(_law_rows_here); slots 0:_law_rows_here 1:_law_holes 2:_law_table_here 3:_law_size 4:_law_due 5:_law_told 6:_law_lot -/
def a_is_right (f_table f_lots f_is_piece q_is_firm q_is_piece : Nat) : FD := ⟨1, 7,
    (.cons (.asg (.tp [2, 3]) (.tup (.cons (.call f_table [0] (.cons (.var 0) .nil) .nil) (.cons (.bi .len false (.cons (.var 0) .nil)) .nil))))
    (.cons (.asg (.nm 1) (.lc false (.var 6) (.nm 6) (.seq (.call f_lots [0] (.cons (.var 3) .nil) .nil)) (.and_ (.chn .lt .lt (.cst (.int 1)) (.bi .len false (.cons (.var 6) .nil)) (.var 3)) (.call f_is_piece [0, 1] (.cons (.var 0) (.cons (.var 6) .nil)) .nil)) [6]))
    (.cons (.par [4, 5] (.cons (.and_ (.cmp .gt (.var 3) (.cst (.int 2))) (.cmp .eq (.var 1) (.lst false .nil))) (.cons (.call q_is_firm [0] (.cons (.var 2) .nil) .nil) .nil)))
    (.cons (.iff (.and_ (.cmp .lt (.var 3) (.cst (.int 7))) (.cmp .ne (.bi .repr false (.cons (.call q_is_firm [0] .nil (.cons (.var 2) .nil)) .nil)) (.bi .repr false (.cons (.var 4) .nil)))) (.cons (.ret (.cst (.bl false)))
    .nil) .nil)
    (.cons (.ret (.cmp .eq (.bi .repr false (.cons (.lst false (.cons (.var 5) (.cons (.lc false (c_is_right_1 q_is_piece) (.nm 6) (.seq (.slc false (.var 1) (.cst .non) (.cst (.int 6)))) (.cst (.bl true)) [6]) .nil))) .nil)) (.bi .repr false (.cons (.lst false (.cons (.var 4) (.cons (.bin .mul false (.lst false (.cons (.cst (.bl true)) .nil)) (.bi .len false (.cons (.slc false (.var 1) (.cst .non) (.cst (.int 6))) .nil))) .nil))) .nil))))
    .nil)))))⟩
def b_law19_1 (f_menu f_one f_any f_changed f_turned f_doubled f_is_right : Nat) : Sxs := (.cons (.asg (.nm 3) (.call f_menu [0] (.cons (.var 1) .nil) .nil))
    (.cons (.asg (.nm 7) (.ite (.cmp .gt (.var 2) (.cst (.int 0))) (.call f_one [0, 1] (.cons (.var 1) (.cons (.lst false (.cons (.cst (.int 0)) (.cons (.cst (.int 1)) (.cons (.cst (.int 2)) (.cons (.cst (.int 3)) (.cons (.cst (.int 3)) (.cons (.cst (.int 4)) (.cons (.cst (.int 5)) (.cons (.cst (.int 6)) .nil))))))))) .nil)) .nil) (.call f_one [0, 1] (.cons (.var 1) (.cons (.lst false (.cons (.cst (.int 4)) (.cons (.cst (.int 5)) (.cons (.cst (.int 6)) (.cons (.cst (.int 8)) .nil))))) .nil)) .nil)))
    (.cons (.asg (.nm 8) (.call f_any [0, 1, 2] (.cons (.var 1) (.cons (.var 7) (.cons (.var 3) .nil))) .nil))
    (.cons (.asg (.nm 5) (.lst true (.cons (.var 8) .nil)))
    (.cons (.iff (.cmp .lt (.var 7) (.cst (.int 7))) (.cons (.ex (.mth .append false (.var 5) (.cons (.call f_changed [0, 1, 2] (.cons (.var 1) (.cons (.var 8) (.cons (.var 3) .nil))) .nil) .nil)))
    .nil) .nil)
    (.cons (.iff (.cmp .lt (.var 7) (.cst (.int 6))) (.cons (.asg (.nm 5) (.bin .add true (.var 5) (.lst false (.cons (.call f_turned [0] (.cons (.var 8) .nil) .nil) (.cons (.call f_doubled [0, 1, 2] (.cons (.var 1) (.cons (.var 8) (.cons (.var 3) .nil))) .nil) .nil)))))
    .nil) .nil)
    (.cons (.frz 5)
    (.cons (.iff (.cmp .ne (.lc false (.cst (.int 1)) (.nm 13) (.seq (.var 5)) (.not_ (.call f_is_right [0] (.cons (.var 13) .nil) .nil)) [13]) (.lst false .nil)) (.cons (.ret (.cst (.bl false)))
    .nil) .nil)
    .nil))))))))
/-- law(_law_script); slots 0:_law_script 1:_law_deck_here 2:_law_turn 3:_law_menu_here 4:_law_pair 5:_law_some 6:_law_told 7:_law_size 8:_law_rows_here 9:_law_ring 10:_law_path 11:_law_line 12:_law_fan 13:_law_own -/
def a_law19 (f_deck f_menu f_one f_any f_changed f_turned f_doubled f_is_right f_set_in f_draw f_core q_is_firm : Nat) : FD := ⟨1, 14,
    (.cons (.asg (.nm 1) (.call f_deck [0] (.cons (.var 0) .nil) .nil))
    (.cons (.fr (.nm 2) (.rng1 (.cst (.int 4))) (b_law19_1 f_menu f_one f_any f_changed f_turned f_doubled f_is_right) [])
    (.cons (.asg (.nm 3) (.call f_menu [0] (.cons (.var 1) .nil) .nil))
    (.cons (.asg (.nm 4) (.lst false (.cons (.lst false (.cons (.cst (.int 0)) (.cons (.call f_one [0, 1] (.cons (.var 1) (.cons (.var 3) .nil)) .nil) .nil))) (.cons (.lst false (.cons (.call f_one [0, 1] (.cons (.var 1) (.cons (.var 3) .nil)) .nil) (.cons (.cst (.int 0)) .nil))) .nil))))
    (.cons (.asg (.nm 5) (.lst true (.cons (.call f_set_in [0, 1, 2] (.cons (.var 4) (.cons (.call f_draw [0, 1] (.cons (.var 1) (.cons (.cst (.int 2)) .nil)) .nil) (.cons (.call f_core [0, 1, 2] (.cons (.var 1) (.cons (.call f_one [0, 1] (.cons (.var 1) (.cons (.lst false (.cons (.cst (.int 3)) (.cons (.cst (.int 4)) .nil))) .nil)) .nil) (.cons (.var 3) .nil))) .nil) .nil))) .nil) .nil)))
    (.cons (.ex (.mth .append false (.var 5) (.cons (.call f_set_in [0, 1, 2] (.cons (.call f_core [0, 1, 2] (.cons (.var 1) (.cons (.cst (.int 3)) (.cons (.var 3) .nil))) .nil) (.cons (.call f_draw [0, 1] (.cons (.var 1) (.cons (.cst (.int 3)) .nil)) .nil) (.cons (.call f_core [0, 1, 2] (.cons (.var 1) (.cons (.cst (.int 3)) (.cons (.var 3) .nil))) .nil) .nil))) .nil) .nil)))
    (.cons (.frz 5)
    (.cons (.iff (.cmp .ne (.lc false (.cst (.int 1)) (.nm 13) (.seq (.var 5)) (.not_ (.call f_is_right [0] (.cons (.var 13) .nil) .nil)) [13]) (.lst false .nil)) (.cons (.ret (.cst (.bl false)))
    .nil) .nil)
    (.cons (.asg (.tp [9, 10]) (.tup (.cons (.tup (.cons (.cst (.int 3)) (.cons (.tup (.cons (.tup (.cons (.cst (.int 0)) (.cons (.cst (.int 1)) (.cons (.cst (.int 0)) .nil)))) (.cons (.tup (.cons (.cst (.int 0)) (.cons (.cst (.int 0)) (.cons (.cst (.int 1)) .nil)))) (.cons (.tup (.cons (.cst (.int 1)) (.cons (.cst (.int 0)) (.cons (.cst (.int 0)) .nil)))) .nil)))) .nil))) (.cons (.tup (.cons (.cst (.int 4)) (.cons (.tup (.cons (.tup (.cons (.cst (.int 0)) (.cons (.cst (.int 1)) (.cons (.cst (.int 0)) (.cons (.cst (.int 0)) .nil))))) (.cons (.tup (.cons (.cst (.int 1)) (.cons (.cst (.int 0)) (.cons (.cst (.int 1)) (.cons (.cst (.int 0)) .nil))))) (.cons (.tup (.cons (.cst (.int 0)) (.cons (.cst (.int 1)) (.cons (.cst (.int 0)) (.cons (.cst (.int 1)) .nil))))) (.cons (.tup (.cons (.cst (.int 0)) (.cons (.cst (.int 0)) (.cons (.cst (.int 1)) (.cons (.cst (.int 0)) .nil))))) .nil))))) .nil))) .nil))))
    (.cons (.asg (.tp [11, 12]) (.tup (.cons (.tup (.cons (.cst (.int 3)) (.cons (.tup (.cons (.tup (.cons (.cst (.int 0)) (.cons (.cst (.int 1)) (.cons (.cst (.int 1)) .nil)))) (.cons (.tup (.cons (.cst (.int 0)) (.cons (.cst (.int 0)) (.cons (.cst (.int 1)) .nil)))) (.cons (.tup (.cons (.cst (.int 0)) (.cons (.cst (.int 0)) (.cons (.cst (.int 0)) .nil)))) .nil)))) .nil))) (.cons (.tup (.cons (.cst (.int 3)) (.cons (.tup (.cons (.tup (.cons (.cst (.int 0)) (.cons (.cst (.int 0)) (.cons (.cst (.int 1)) .nil)))) (.cons (.tup (.cons (.cst (.int 0)) (.cons (.cst (.int 0)) (.cons (.cst (.int 1)) .nil)))) (.cons (.tup (.cons (.cst (.int 1)) (.cons (.cst (.int 1)) (.cons (.cst (.int 0)) .nil)))) .nil)))) .nil))) .nil))))
    (.cons (.asg (.nm 6) (.lst false (.cons (.call q_is_firm [0] (.cons (.var 9) .nil) .nil) (.cons (.call q_is_firm [0] (.cons (.var 10) .nil) .nil) (.cons (.call q_is_firm [0] (.cons (.var 11) .nil) .nil) (.cons (.call q_is_firm [0] (.cons (.var 12) .nil) .nil) (.cons (.call q_is_firm [0] (.cons (.tup (.cons (.cst (.int 0)) (.cons (.tup .nil) .nil))) .nil) .nil) (.cons (.call q_is_firm [0] (.cons (.tup (.cons (.cst (.int 1)) (.cons (.tup (.cons (.tup (.cons (.cst (.int 0)) .nil)) .nil)) .nil))) .nil) .nil) .nil))))))))
    (.cons (.ret (.cmp .eq (.bi .repr false (.cons (.bin .add false (.var 6) (.lst false (.cons (.call q_is_firm [0] (.cons (.tup (.cons (.cst (.int 2)) (.cons (.tup (.cons (.tup (.cons (.cst (.int 0)) (.cons (.cst (.int 1)) .nil))) (.cons (.tup (.cons (.cst (.int 0)) (.cons (.cst (.int 0)) .nil))) .nil))) .nil))) .nil) .nil) .nil))) .nil)) (.bi .repr false (.cons (.bin .add false (.lst false (.cons (.cst (.bl true)) (.cons (.cst (.bl true)) .nil))) (.bin .mul false (.lst false (.cons (.cst (.bl false)) .nil)) (.cst (.int 5)))) .nil))))
    .nil))))))))))))⟩

end Cd

set_option Elab.async false
set_option linter.all false
set_option maxRecDepth 100000
set_option maxHeartbeats 16000000
/-! CdA1: the deck of the family C: what a draw gives; tables in the store behind it. -/
namespace Cd
open Co Cp
open PySem

def pl (fars : List Int) (whole turn : Int) (rest : Store) : Store := .lst (fars.map .int) :: .lst [.ref 0, .int whole, .int turn] :: rest
def Pool (st rest : Store) : Prop := ∃ fars whole turn, st = pl fars whole turn rest ∧ fars.length ≤ 63
theorem Pool.len {st rest : Store} (p : Pool st rest) : st.length = rest.length + 2 := by
  obtain ⟨_, _, _, rfl, _⟩ := p
  rfl
theorem Pool.get {st rest : Store} (p : Pool st rest) (i : Nat) : st[i + 2]? = rest[i]? := by
  obtain ⟨_, _, _, rfl, _⟩ := p
  rfl
theorem Pool.set {st rest : Store} (p : Pool st rest) (i : Nat) (c : Cell) : Pool (st.set (i + 2) c) (rest.set i c) := by
  obtain ⟨a, s, t, rfl, h⟩ := p
  exact ⟨a, s, t, rfl, h⟩
theorem Pool.app {st rest : Store} (p : Pool st rest) (cs : Store) : Pool (st ++ cs) (rest ++ cs) := by
  obtain ⟨a, s, t, rfl, h⟩ := p
  exact ⟨a, s, t, rfl, h⟩
theorem Pool.take {st rest cs : Store} (p : Pool st (rest ++ cs)) : Pool (st.take (rest.length + 2)) rest := by
  obtain ⟨a, s, t, rfl, h⟩ := p
  refine ⟨a, s, t, ?_, h⟩
  simp [pl]
theorem pl_below {n : Nat} (hn : 1 ≤ n) (a : List Int) (s t : Int) (rest : Store) (ho : rest.all (Cell.below n) = true) : (pl a s t rest).all (Cell.below n) = true := by
  simp only [pl, List.all_cons, Cell.below, belows, below, ho]
  rw [show belows n (a.map Val.int) = true from belows_vI _ a]
  simp; omega
theorem Pool.cut {st rest cs : Store} {v : Val} (p : Pool st (rest ++ cs)) (ho : Old rest) (hv : below (rest.length + 2) v = true) : trunc (rest.length + 2) v st = st.take (rest.length + 2) := by
  obtain ⟨a, s, t, rfl, h⟩ := p
  unfold trunc
  split
  · rename_i hl
    rw [List.take_of_length_le (by omega)]
  · have e : List.take (rest.length + 2) (pl a s t (rest ++ cs)) = pl a s t rest := by simp [pl]
    have hb := pl_below (n := rest.length + 2) (by omega) a s t rest ho
    rw [e, hv, hb]
    rfl
theorem Pool.allb {st rest : Store} (p : Pool st rest) (ho : Old rest) : st.all (Cell.below st.length) = true := by
  have hl := p.len
  obtain ⟨a, s, t, rfl, h⟩ := p
  rw [hl]
  exact pl_below (by omega) a s t rest ho
theorem Pool.fine {st rest : Store} (p : Pool st rest) (ho : Old rest) : Fine st := p.allb ho
theorem Pool.last {st rest cs : Store} {c : Cell} (p : Pool st (rest ++ cs ++ [c])) : st[rest.length + 2 + cs.length]? = some c := by
  have := p.get (rest.length + cs.length)
  rw [show rest.length + cs.length + 2 = rest.length + 2 + cs.length by omega] at this
  rw [this, ← List.length_append, List.getElem?_append_right (Nat.le_refl _), Nat.sub_self]
  rfl
theorem Pool.setLast {st rest cs : Store} {c : Cell} (p : Pool st (rest ++ cs ++ [c])) (d : Cell) : Pool (st.set (rest.length + 2 + cs.length) d) (rest ++ cs ++ [d]) := by
  have := p.set (rest.length + cs.length) d
  rw [show rest.length + cs.length + 2 = rest.length + 2 + cs.length by omega, ← List.length_append, List.set_append_right _ _ (Nat.le_refl _), Nat.sub_self] at this
  exact this
theorem draw_ok {F : Nat → Option FD} {f : Nat} (hf : F f = some Cd.a_draw) (n : Nat) (size : Int) (h1 : 1 ≤ size) (hs : size < 1073741824) {st rest : Store} (p : Pool st rest) :
    ∃ k st', runF F (n + 1) f [.ref 1, .int size] st = .ok (.int k) st' ∧ Pool st' rest ∧ 0 ≤ k ∧ k < size := by
  obtain ⟨fars, whole, turn, rfl, hfl⟩ := p
  rw [runF_eq hf rfl]
  have hmod : ∀ z : Int, binI .mod z size = some (z % size) := fun z => by simp [binI]; omega
  have hdiv : ∀ z : Int, binI .fdiv z size = some (z / size) := fun z => by simp [binI]; omega
  have q1 := eqOk_ints fars
  have q2 := veq_ints fars []
  simp only [List.map_nil] at q2
  have i0 : ∀ a b c : Val, L2.atI [a, b, c] 0 = some a := fun _ _ _ => rfl
  have i1 : ∀ a b c : Val, L2.atI [a, b, c] 1 = some b := fun _ _ _ => rfl
  have i2 : ∀ a b c : Val, L2.atI [a, b, c] 2 = some c := fun _ _ _ => rfl
  by_cases hfar : fars = []
  · subst hfar
    have hm1 : ∀ z : Int, binI .mod z 2305843009213693951 = some (z % 2305843009213693951) := fun z => by simp [binI]
    have hm2 : ∀ z : Int, binI .mod z 2305843009213693921 = some (z % 2305843009213693921) := fun z => by simp [binI]
    have hd : ∀ z : Int, binI .fdiv z 8192 = some (z / 8192) := fun z => by simp [binI]
    have hc1 : ∀ z : Int, binI .mul z 6364136223846793005 = some (z * 6364136223846793005) := fun z => by simp [binI, mulOk]
    have hc2 : ∀ z : Int, binI .mul z 1442695040888963407 = some (z * 1442695040888963407) := fun z => by simp [binI, mulOk]
    have hc5 : ∀ z : Int, binI .mul 3 z = some (3 * z) := fun z => by simp [binI, mulOk]
    have hs1 : ∀ z : Int, binI .mul (z % 2305843009213693951) (z % 2305843009213693951) = some ((z % 2305843009213693951) * (z % 2305843009213693951)) := fun z => by
      have h1 := Int.emod_nonneg z (b := 2305843009213693951) (by omega)
      have h2 := Int.emod_lt_of_pos z (b := 2305843009213693951) (by omega)
      simp only [binI]
      rw [if_pos (small_mul (by omega))]
    have hs2 : ∀ z : Int, binI .mul (z % 2305843009213693921) (z % 2305843009213693921) = some ((z % 2305843009213693921) * (z % 2305843009213693921)) := fun z => by
      have h1 := Int.emod_nonneg z (b := 2305843009213693921) (by omega)
      have h2 := Int.emod_lt_of_pos z (b := 2305843009213693921) (by omega)
      simp only [binI]
      rw [if_pos (small_mul (by omega))]
    simp only [decide_true] at q2
    have key : ∃ z, fin (pl [] whole turn rest).length (execSs (runF F n) Cd.a_draw.body ([Val.ref 1, Val.int size].map some ++ List.replicate (Cd.a_draw.ns - Cd.a_draw.np) none) (pl [] whole turn rest)) = .ok (.int (z % size)) (pl [] whole (turn + 1) rest) := by
      have sv : ∀ v : Int, setv (.ref 1) (.int 2) (.int v) (pl [] whole turn rest) = .ok () (pl [] whole v rest) := fun v => rfl
      have d1 : ∀ t : Int, dr (pl [] whole t rest) (.ref 1) = .lst [.ref 0, .int whole, .int t] := fun _ => rfl
      have d0 : ∀ t : Int, dr (pl [] whole t rest) (.ref 0) = .lst [] := fun _ => rfl
      have ln : ∀ t : Int, (pl [] whole t rest).length = rest.length + 2 := fun _ => rfl
      have ce : cmpv .ne (.lst []) (.lst []) = some false := by simp [cmpv, eqOk_nil, veq_nil]
      have tr : ∀ v t, trunc (rest.length + 2) v (pl [] whole t rest) = pl [] whole t rest := fun v t => trunc_eq (ln t)
      simp [Cd.a_draw, d1, i0, d0, ce, i2, sv, i1, hc1, hm1, hs1, hc2, hm2, hs2, hc5, hd, hmod, ln, tr]
      exact ⟨_, rfl⟩
    obtain ⟨z, key⟩ := key
    exact ⟨_, _, key, ⟨_, whole, _, rfl, by simp⟩, Int.emod_nonneg _ (by omega), Int.emod_lt_of_pos _ (by omega)⟩
  · obtain ⟨z, fs, rfl⟩ : ∃ z fs, fars = z :: fs := by
      cases fars with
      | nil => exact absurd rfl hfar
      | cons z fs => exact ⟨z, fs, rfl⟩
    rw [decide_eq_false hfar] at q2
    have d1 : ∀ fs t, dr (pl fs whole t rest) (.ref 1) = .lst [.ref 0, .int whole, .int t] := fun _ _ => rfl
    have d0 : ∀ fs t, dr (pl fs whole t rest) (.ref 0) = .lst (fs.map .int) := fun _ _ => rfl
    have ln : ∀ fs t, (pl fs whole t rest).length = rest.length + 2 := fun _ _ => rfl
    have tr : ∀ v fs t, trunc (rest.length + 2) v (pl fs whole t rest) = pl fs whole t rest := fun v fs t => trunc_eq (ln fs t)
    have ce : cmpv .ne (.lst ((z :: fs).map .int)) (.lst []) = some true := by simp only [cmpv, q1, q2, eqOk_nil]; rfl
    have a0 : L2.atI ((z :: fs).map Val.int) 0 = some (.int z) := by
      have := map_atI (xs := z :: fs) (i := 0) (by simp)
      simpa using this
    have sv : ∀ v : Int, setv (.ref 0) (.int 0) (.int v) (pl (z :: fs) whole turn rest) = .ok () (pl (v :: fs) whole turn rest) := fun v => by
      have hi : L2.ixN ((z :: fs).map Val.int).length 0 = some 0 := by
        have := ixN_nat (n := ((z :: fs).map Val.int).length) (x := 0) (by simp)
        simpa using this
      show (match L2.ixN ((z :: fs).map Val.int).length 0 with
        | some j => R.ok () ((pl (z :: fs) whole turn rest).set 0 (.lst (((z :: fs).map Val.int).set j (.int v))))
        | none => R.stuck) = _
      rw [hi]
      rfl
    have gt : ∀ v : Int, (pl (v :: fs) whole turn rest)[0]? = some (.lst ((v :: fs).map .int)) := fun v => rfl
    have hfs : fs.length < 63 := by simp at hfl; omega
    have pp : ∀ v : Int, mtv .popAt false (.ref 0) [.int 0] (pl (v :: fs) whole turn rest) = .ok (.int v) (pl fs whole turn rest) := fun v => by
      rw [popAt_ref (v := .int v) (gt v) (by omega) (by simp) (by simp [LIM]; omega) rfl]
      rfl
    have mo : ∀ v : Int, mthOk .popAt (.ref 0) (pl (v :: fs) whole turn rest) = true := fun v => rfl
    refine ⟨z % size, if z < size then pl fs whole turn rest else pl ((z / size) :: fs) whole turn rest, ?_, ?_, Int.emod_nonneg _ (by omega), Int.emod_lt_of_pos _ (by omega)⟩
    · by_cases hz : z < size
      · rw [if_pos hz]
        simp only [List.map_cons] at *
        simp [Cd.a_draw, d1, i0, d0, ce, a0, hdiv, sv, hz, mo, pp, hmod, ln, tr]
      · rw [if_neg hz]
        simp only [List.map_cons] at *
        simp [Cd.a_draw, d1, i0, d0, ce, a0, hdiv, sv, hz, hmod, ln, tr]
    · split
      · exact ⟨_, whole, _, rfl, by omega⟩
      · exact ⟨_, whole, _, rfl, by simp; omega⟩
theorem draw_nat {F : Nat → Option FD} {f : Nat} (hf : F f = some Cd.a_draw) (n : Nat) (sz : Int) (size : Nat) (hz : sz = size) (h0 : 0 < size) (hs : size < 1073741824) {st rest : Store} (p : Pool st rest) :
    ∃ (k : Nat) (st' : Store), runF F (n + 1) f [.ref 1, .int sz] st = .ok (.int k) st' ∧ Pool st' rest ∧ k < size := by
  obtain ⟨k, s, e, p', h1⟩ := draw_ok hf n sz (by omega) (by omega) p
  refine ⟨k.toNat, s, ?_, p', by omega⟩
  rw [e]
  congr 2
  omega
theorem mixed_ok {F : Nat → Option FD} {f g : Nat} (hf : F f = some (a_mixed g)) (hg : F g = some a_draw) (n : Nat) (ns : List Int) (hl : ns.length ≤ 1000) {st rest : Store} (p : Pool st rest) (ho : Old rest) :
    ∃ ms st', runF F (n + 2) f [.ref 1, .lst (vI ns)] st = .ok (.lst (vI ms)) st' ∧ Pool st' rest ∧ ms.Perm ns := by
  rw [runF_eq hf rfl]
  have hlen := p.len
  have c1 : (-1000000 : Int) ≤ (ns.length : Int) ∧ (ns.length : Int) ≤ 1000000 := by omega
  simp [a_mixed, biv, c1]
  -- the loop
  let I : Nat → Ev → Store → Prop := fun i env s => ∃ t r q, env = [some (.ref 1), some (.lst (vI ns)), t, some (.ref (rest.length + 2)), some (.ref (rest.length + 3))] ∧ Pool s (rest ++ [.lst (vI r), .lst (vI q)]) ∧ (q ++ r).Perm ns ∧ r.length + i = ns.length
  have step : ∀ (i : Nat) (x : Val), (rngV 0 ns.length)[i]? = some x → ∀ env s, I (0 + i) env s → ∃ env' s', bodyF (runF F (n + 1)) (Tg.nm 2) (Sxs.cons (Sx.ex (Ex.mth Mt.append false (Ex.var 4) (Exs.cons (Ex.mth Mt.popAt false (Ex.var 3) (Exs.cons (Ex.call g [0, 1] (Exs.cons (Ex.var 0)
      (Exs.cons (Ex.bi Bi.len false (Exs.cons (Ex.var 3) Exs.nil)) Exs.nil)) Exs.nil) Exs.nil)) Exs.nil))) Sxs.nil) x env s = .nx env' s' ∧ I (0 + i + 1) (wipe env' []) s' := by
    rintro i x hx env s ⟨t, r, q, rfl, ps, hp, hr⟩
    obtain ⟨hi, rfl⟩ := rngV_get hx
    have hr0 : 0 < r.length := by omega
    have g1 : s[rest.length + 2]? = some (.lst (vI r)) := by rw [ps.get]; simp
    have g2 : s[rest.length + 3]? = some (.lst (vI q)) := by
      have := ps.get (rest.length + 1)
      rw [show rest.length + 1 + 2 = rest.length + 3 by omega] at this
      rw [this]; simp
    obtain ⟨k, s1, e, p1, k2⟩ := draw_ok hg n (r.length : Int) (by omega) (by omega) ps
    have hk : 0 ≤ k ∧ k < r.length := k2
    have g3 : s1[rest.length + 2]? = some (.lst (vI r)) := by rw [p1.get]; simp
    have hv : (vI r)[k.toNat]? = some (.int (r[k.toNat]'(by omega))) := by
      unfold vI
      rw [List.getElem?_map, List.getElem?_eq_getElem (by omega)]; rfl
    have p2 := p1.set rest.length (.lst (vI (r.eraseIdx k.toNat)))
    have e2 : (rest ++ [Cell.lst (vI r), .lst (vI q)]).set rest.length (.lst (vI (r.eraseIdx k.toNat))) = rest ++ [.lst (vI (r.eraseIdx k.toNat)), .lst (vI q)] := by simp
    rw [e2] at p2
    have g4 : (s1.set (rest.length + 2) (.lst (vI (r.eraseIdx k.toNat))))[rest.length + 3]? = some (.lst (vI q)) := by
      have := p2.get (rest.length + 1)
      rw [show rest.length + 1 + 2 = rest.length + 3 by omega] at this
      rw [this]; simp
    have hq : q.length ≤ ns.length := by
      have := hp.length_eq
      rw [List.length_append] at this; omega
    have p3 := p2.set (rest.length + 1) (.lst (vI (q ++ [r[k.toNat]'(by omega)])))
    have e3 : (rest ++ [Cell.lst (vI (r.eraseIdx k.toNat)), .lst (vI q)]).set (rest.length + 1) (.lst (vI (q ++ [r[k.toNat]'(by omega)]))) = rest ++ [.lst (vI (r.eraseIdx k.toNat)), .lst (vI (q ++ [r[k.toNat]'(by omega)]))] := by simp
    rw [e3, show rest.length + 1 + 2 = rest.length + 3 by omega] at p3
    have lr : (vI r).length ≤ LIM := by
      have := hp.length_eq
      rw [List.length_append] at this
      simp [LIM]; omega
    have lq : (vI q).length < LIM := by simp [LIM]; omega
    refine ⟨[some (.ref 1), some (.lst (vI ns)), some (.int (0 + (i : Int))), some (.ref (rest.length + 2)), some (.ref (rest.length + 3))], (s1.set (rest.length + 2) (.lst (vI (r.eraseIdx k.toNat)))).set (rest.length + 3) (.lst (vI (q ++ [r[k.toNat]'(by omega)]))), ?_, _, r.eraseIdx k.toNat, q ++ [r[k.toNat]'(by omega)], rfl, p3, ?_, ?_⟩
    · rw [bodyF_eq rfl]
      simp [mth_ref g2 (.inl rfl), mth_ref g1 (.inr (.inr (.inl rfl))), dr_ref g1, e, popAt_ref g3 hk.1 (by simpa using hk.2) lr hv, vI_erase, app_ref g4 lq, vI_snoc]
    · have h1 : (r[k.toNat]'(by omega) :: r.eraseIdx k.toNat).Perm r := erase_perm r k.toNat (by omega)
      have h2 : (q ++ [r[k.toNat]'(by omega)] ++ r.eraseIdx k.toNat).Perm (q ++ r) := by
        rw [List.append_assoc]
        exact h1.append_left q
      exact h2.trans hp
    · rw [List.length_eraseIdx_of_lt (by omega)]; omega
  have p0 := p.app [Cell.lst (vI ns), .lst (vI [])]
  obtain ⟨env', s', ef, t, r, q, rfl, ps, hp, hr⟩ := forL_inv (I := I) (rngV 0 ns.length) 0 step [some (.ref 1), some (.lst (vI ns)), none, some (.ref (rest.length + 2)), some (.ref (rest.length + 3))] (st ++ [.lst (vI ns), .lst []]) ⟨none, ns, [], rfl, p0, by simp, by simp⟩
  rw [rngV_len] at hr
  have hr0 : r = [] := List.eq_nil_of_length_eq_zero (by omega)
  subst hr0
  rw [List.append_nil] at hp
  rw [hlen, ef]
  have g1 : s'[rest.length + 2]? = some (.lst (vI [])) := by rw [ps.get]; simp
  have g2 : s'[rest.length + 3]? = some (.lst (vI q)) := by
    have := ps.get (rest.length + 1)
    rw [show rest.length + 1 + 2 = rest.length + 3 by omega] at this
    rw [this]; simp
  have g3 : (s'.set (rest.length + 3) .dead)[rest.length + 2]? = some (.lst (vI [])) := by
    rw [List.getElem?_set_ne (by omega)]; exact g1
  have p1 := (ps.set (rest.length + 1) .dead).set rest.length .dead
  have e4 : ((rest ++ [Cell.lst (vI []), .lst (vI q)]).set (rest.length + 1) .dead).set rest.length .dead = rest ++ [.dead, .dead] := by simp
  rw [e4, show rest.length + 1 + 2 = rest.length + 3 by omega] at p1
  refine ⟨q, _, ?_, p1.take, hp⟩
  simp [frz_vI (n := 2) g2, frz_vI (n := 2) g3, Pool.cut p1 ho (v := .lst (vI q)) (by simpa only [below] using belows_vI _ q)]
/-- one of the items -/
theorem one_ok {F : Nat → Option FD} {f g : Nat} (hf : F f = some (a_one g)) (hg : F g = some Cd.a_draw) (n : Nat) (xs : List Val) (h0 : xs ≠ []) (hl : xs.length ≤ 1000000) (v : Val) (hv : v = .tup xs ∨ v = .lst xs) {st rest : Store} (p : Pool st rest) :
    ∃ x st', runF F (n + 2) f [.ref 1, v] st = .ok x st' ∧ Pool st' rest ∧ x ∈ xs := by
  have hpos : 0 < xs.length := List.length_pos_iff.mpr h0
  obtain ⟨k, st', e, p', hk⟩ := draw_nat hg n (xs.length : Int) xs.length rfl hpos (by omega) p
  have ha : L2.atI xs (k : Int) = some xs[k] := atI_nat' hk
  refine ⟨_, st', ?_, p', List.getElem_mem hk⟩
  rw [runF_eq hf rfl]
  rcases hv with rfl | rfl <;> simp [a_one, e, ha, trunc, p.len, p'.len]
theorem one_sh {F : Nat → Option FD} {f g : Nat} (hf : F f = some (a_one g)) (hg : F g = some Cd.a_draw) (n : Nat) {sh : List Int} (h : ShOk sh) {st rest : Store} (p : Pool st rest) :
    ∃ k st', runF F (n + 2) f [.ref 1, .lst (vI sh)] st = .ok (.int k) st' ∧ Pool st' rest ∧ 0 ≤ k ∧ k < 100 := by
  obtain ⟨x, s, e, p', hx⟩ := one_ok hf hg n (vI sh) (by intro z; exact h.1 (by simpa [vI] using z)) (by have := h.2.1; simp; omega) _ (.inr rfl) p
  obtain ⟨k, hk, rfl⟩ := vI_mem hx
  exact ⟨k, s, e, p', h.2.2 k hk⟩
structure MatAt (s rest : Store) (rows : List (List Int)) (n : Nat) : Prop where
  pool : Pool s (rest ++ mats rows ++ [.lst (refs (rest.length + 2) n)])
  sq : Sq n rows
theorem MatAt.all {s rest : Store} {rows : List (List Int)} {n : Nat} (h : MatAt s rest rows n) : s[rest.length + 2 + n]? = some (.lst (refs (rest.length + 2) n)) := by
  have := h.pool.get (rest.length + n)
  rw [show rest.length + n + 2 = rest.length + 2 + n by omega] at this
  rw [this]
  have e : (rest ++ mats rows).length = rest.length + n := by simp [h.sq.1]
  rw [← e, List.getElem?_append_right (Nat.le_refl _)]
  simp
theorem MatAt.row {s rest : Store} {rows : List (List Int)} {n y : Nat} (h : MatAt s rest rows n) (hy : y < n) : ∃ r, rows[y]? = some r ∧ r.length = n ∧ s[rest.length + 2 + y]? = some (.lst (vI r)) := by
  have hy' : y < rows.length := by rw [h.sq.1]; exact hy
  refine ⟨rows[y], by simp [hy'], (h.sq.2 _ (List.getElem_mem hy')).1, ?_⟩
  have := h.pool.get (rest.length + y)
  rw [show rest.length + y + 2 = rest.length + 2 + y by omega] at this
  rw [this, List.append_assoc, List.getElem?_append_right (by omega), Nat.add_sub_cancel_left, List.getElem?_append_left (by simpa using hy')]
  simp [mats, hy']
theorem MatAt.put {s rest : Store} {rows : List (List Int)} {n y x : Nat} (h : MatAt s rest rows n) (hy : y < n) (hx : x < n) {v : Int} (hv : 0 ≤ v ∧ v < 100) :
    ∃ r s', rows[y]? = some r ∧ setv (.ref (rest.length + 2 + y)) (.int x) (.int v) s = .ok () s' ∧ MatAt s' rest (rows.set y (r.set x v)) n := by
  obtain ⟨r, h1, h2, h3⟩ := h.row hy
  refine ⟨r, s.set (rest.length + 2 + y) (.lst (vI (r.set x v))), h1, ?_, ?_, h.sq.put h1 hv⟩
  · have e : (vI r).set x (.int v) = vI (r.set x v) := by unfold vI; rw [List.map_set]
    simp only [setv, h3, vI_len, h2, ixN_nat hx, e]
  · have := h.pool.set (rest.length + y) (.lst (vI (r.set x v)))
    rw [show rest.length + y + 2 = rest.length + 2 + y by omega] at this
    have e : (rest ++ mats rows ++ [Cell.lst (refs (rest.length + 2) n)]).set (rest.length + y) (.lst (vI (r.set x v))) = rest ++ mats (rows.set y (r.set x v)) ++ [.lst (refs (rest.length + 2) n)] := by
      have hl : (mats rows).length = n := by simp [h.sq.1]
      rw [List.append_assoc, List.set_append_right _ _ (by omega), Nat.add_sub_cancel_left, List.set_append_left _ _ (by omega), ← List.append_assoc]
      congr 2
      unfold mats
      rw [List.map_set]
    rw [e] at this
    exact this
theorem frzL_rows {k : Nat} {rest tail : Store} : ∀ (rows : List (List Int)) (j : Nat) (s : Store), Pool s (rest ++ List.replicate j .dead ++ mats rows ++ tail) →
    ∃ s', frzL (frzV (k + 1)) ((List.range rows.length).map fun i => Val.ref (rest.length + 2 + j + i)) s = some (vM rows, s') ∧ Pool s' (rest ++ List.replicate (j + rows.length) .dead ++ tail)
  | [], j, s, p => ⟨s, rfl, by simpa [mats] using p⟩
  | r :: rows, j, s, p => by
    have g : s[rest.length + 2 + j]? = some (.lst (vI r)) := by
      have := p.get (rest.length + j)
      rw [show rest.length + j + 2 = rest.length + 2 + j by omega] at this
      rw [this, List.append_assoc, List.getElem?_append_right (by simp)]
      simp [mats]
    have p1 := p.set (rest.length + j) .dead
    have e : (rest ++ List.replicate j Cell.dead ++ mats (r :: rows) ++ tail).set (rest.length + j) .dead = rest ++ List.replicate (j + 1) .dead ++ mats rows ++ tail := by
      rw [List.append_assoc, List.set_append_right _ _ (by simp)]
      simp [mats, List.replicate_succ']
    rw [e, show rest.length + j + 2 = rest.length + 2 + j by omega] at p1
    obtain ⟨s', e1, p2⟩ := frzL_rows (k := k) rows (j + 1) _ p1
    refine ⟨s', ?_, by simpa [Nat.add_assoc, Nat.add_comm, Nat.add_left_comm] using p2⟩
    rw [List.length_cons, List.range_succ_eq_map, List.map_cons, List.map_map]
    simp only [frzL, Nat.add_zero, frz_vI (n := k) g]
    have e2 : ((List.range rows.length).map ((fun i => Val.ref (rest.length + 2 + j + i)) ∘ Nat.succ)) = (List.range rows.length).map fun i => Val.ref (rest.length + 2 + (j + 1) + i) := by
      refine List.map_congr_left fun i _ => ?_
      simp only [Function.comp_apply]
      congr 1
      omega
    rw [e2, e1]
    rfl
theorem MatAt.frz {s rest : Store} {rows : List (List Int)} {n : Nat} (h : MatAt s rest rows n) : ∃ s', frzV 3 (.ref (rest.length + 2 + n)) s = some (.lst (vM rows), s') ∧ Pool s' (rest ++ List.replicate (n + 1) .dead) := by
  have p1 := h.pool.set (rest.length + n) .dead
  have e : (rest ++ mats rows ++ [Cell.lst (refs (rest.length + 2) n)]).set (rest.length + n) .dead = rest ++ List.replicate 0 .dead ++ mats rows ++ [.dead] := by
    rw [List.append_assoc, List.set_append_right _ _ (by omega), Nat.add_sub_cancel_left, List.set_append_right _ _ (by simp [h.sq.1])]
    simp [h.sq.1]
  rw [e, show rest.length + n + 2 = rest.length + 2 + n by omega] at p1
  obtain ⟨s', e1, p2⟩ := frzL_rows (k := 1) rows 0 _ p1
  refine ⟨s', ?_, ?_⟩
  · have e3 : refs (rest.length + 2) n = (List.range rows.length).map fun i => Val.ref (rest.length + 2 + 0 + i) := by rw [h.sq.1]; rfl
    simp only [frzV.eq_2, h.all, e3]
    rw [show frzV 2 = frzV (1 + 1) from rfl, e1]
  · rw [h.sq.1, Nat.zero_add] at p2
    rw [List.append_assoc] at p2
    have : List.replicate n Cell.dead ++ [.dead] = List.replicate (n + 1) .dead := by rw [List.replicate_succ']
    rwa [this] at p2
theorem MatAt.pool' {s rest : Store} {rows : List (List Int)} {n : Nat} (h : MatAt s rest rows n) {s' : Store} (p : Pool s' (rest ++ mats rows ++ [.lst (refs (rest.length + 2) n)])) : MatAt s' rest rows n := ⟨p, h.sq⟩
theorem zeros_ok {cf : CF} {j : Nat} {own : List Nat} {env : Ev} {tg : Nat} (n : Nat) (hn : n ≤ 1000) {st rest : Store} (p : Pool st rest) (hj : ((wipe env own).set tg (some (Val.int 0)))[j]? = some (some (.int n)) ∧ tg ≠ j) :
    kLst true (compL (turnP cf (.bin .mul true (.lst false (.cons (.cst (.int 0)) .nil)) (.var j)) (.nm tg) (.cst (.bl true)) env own) (rngV 0 n) st) = .ok (.ref (rest.length + 2 + n)) (st ++ mats (List.replicate n (List.replicate n 0)) ++ [.lst (refs (rest.length + 2) n)]) ∧
      MatAt (st ++ mats (List.replicate n (List.replicate n 0)) ++ [.lst (refs (rest.length + 2) n)]) rest (List.replicate n (List.replicate n 0)) n := by
  have e : compL (turnP cf (.bin .mul true (.lst false (.cons (.cst (.int 0)) .nil)) (.var j)) (.nm tg) (.cst (.bl true)) env own) (rngV 0 n) st = .ok (refs st.length (rngV 0 n).length) (st ++ List.replicate (rngV 0 n).length (.lst (vI (List.replicate n 0)))) := by
    refine compL_new _ _ fun x hx s => ?_
    rw [turnP_eq rfl]
    have h1 : ((wipe env own).set tg (some x))[j]? = some (some (.int n)) := by
      rw [List.getElem?_set_ne hj.2]
      have := hj.1
      rwa [List.getElem?_set_ne hj.2] at this
    have h2 : (n : Int) ≤ 1000 ∧ (-1000 : Int) ≤ n := by omega
    simp [h1, bin, h2, rep_zero]
  have em : List.replicate n (Cell.lst (vI (List.replicate n 0))) = mats (List.replicate n (List.replicate n 0)) := by simp [mats]
  rw [e, rngV_len, em, p.len]
  refine ⟨?_, ?_, ?_⟩
  · simp [p.len]
  · have := p.app (mats (List.replicate n (List.replicate n 0)) ++ [.lst (refs (rest.length + 2) n)])
    rwa [← List.append_assoc, ← List.append_assoc] at this
  · refine ⟨by simp, fun r hr => ?_⟩
    have := List.eq_of_mem_replicate hr
    subst this
    refine ⟨by simp, fun x hx => ?_⟩
    have := List.eq_of_mem_replicate hx
    omega
theorem MatAt.old {s rest : Store} {rows : List (List Int)} {n : Nat} (h : MatAt s rest rows n) (ho : Old rest) : Old (rest ++ mats rows ++ [.lst (refs (rest.length + 2) n)]) := by
  refine Old.app (Old.app ho (mats_below _ _)) ?_
  have hl : (mats rows).length = n := by simp [h.sq.1]
  simp only [List.all_cons, List.all_nil, Bool.and_true, Cell.below, List.length_append, hl, List.length_cons, List.length_nil]
  exact refs_below (by omega)
theorem MatAt.read {s rest : Store} {rows : List (List Int)} {n y x : Nat} (h : MatAt s rest rows n) (hy : y < n) (hx : x < n) : ∃ r v, s[rest.length + 2 + y]? = some (.lst (vI r)) ∧ L2.atI (vI r) (x : Int) = some (.int v) ∧ 0 ≤ v ∧ v < 100 ∧ rows[y]? = some r ∧ r[x]? = some v := by
  obtain ⟨r, h1, h2, h3⟩ := h.row hy
  have hx' : x < r.length := by omega
  have hb := (h.sq.2 r (List.mem_of_getElem? h1)).2 _ (List.getElem_mem hx')
  exact ⟨r, r[x], h3, vI_atI hx', hb.1, hb.2, h1, by simp [hx']⟩
end Cd

set_option Elab.async false
set_option linter.all false
set_option maxRecDepth 100000
set_option maxHeartbeats 16000000
/-! CdA2: the deck is made; drawn rows. -/
namespace Cd
open Co Cp
open PySem

theorem deck_ok {F : Nat → Option FD} {f : Nat} (hf : F f = some a_deck) (n : Nat) (ns : List Int) (hl : ns.length ≤ 63) : ∃ st, runF F (n + 1) f [.scr (vI ns)] [] = .ok (.ref 1) st ∧ Pool st [] := by
  rw [runF_eq hf rfl]
  have hc := cut_all (vI ns) (by simpa using hl)
  have l1 : ¬ LIM < ns.length := by simp [LIM]; omega
  have k1 : compL (turnP (runF F n) c_deck_1 (.nm 4) (.cst (.bl true)) [some (.scr (vI ns)), none, none, none, none] [4]) (vI ns) [] = .ok (vI (ns.filterMap fun c => some (Cp.cellOf c))) [] := by
    refine compL_ints (fun c => some (Cp.cellOf c)) ns fun c _ => ?_
    rw [turnP_eq rfl]
    by_cases h : 0 ≤ c
    · simp [c_deck_1, cmpv, bin, binI, mulOk, h, Cp.cellOf]
    · simp [c_deck_1, cmpv, bin, binI, mulOk, h, Cp.cellOf]
  have hl2 : (ns.filterMap fun c => some (Cp.cellOf c)).length ≤ 63 := by simpa using hl
  generalize (ns.filterMap fun c => some (Cp.cellOf c)) = cs at hl2 k1
  have l2 : ¬ LIM < cs.length := by simp [LIM]; omega
  have hm : ∀ z : Int, binI .mod z 2305843009213693951 = some (z % 2305843009213693951) := fun z => by simp [binI]
  have hm2 : ∀ z : Int, binI .mul z 1000033 = some (z * 1000033) := fun z => by simp [binI, mulOk]
  let E : Int → Option Val → Ev := fun w x => [some (.scr (vI ns)), some (.lst (vI cs)), some (.int w), x, none]
  obtain ⟨env', s', e, w, x, rfl, rfl⟩ := forL_inv (f := bodyF (runF F n) (.nm 3) b_deck_1) (clr := []) (I := fun i env s => ∃ w x, env = E w x ∧ s = ([] : Store)) (vI cs) 0 (by
    rintro i v hv env s ⟨w, x, rfl, rfl⟩
    obtain ⟨c, _, rfl⟩ := vI_get hv
    refine ⟨E ((w * 1000033 + c) % 2305843009213693951) (some (.int c)), [], ?_, _, _, rfl, rfl⟩
    rw [bodyF_eq rfl]
    simp [E, b_deck_1, hm, hm2]) (E (12762 + (cs.length : Int)) none) [] ⟨_, _, rfl, rfl⟩
  have k2 : compL (turnP (runF F n) (.var 3) (.nm 3) (.cmp .gt (.var 3) (.bin .pow false (.cst (.int 10)) (.cst (.int 18)))) (E w x) [3]) (vI cs) [] = .ok (vI (cs.filterMap fun c => if 10 ^ 18 < c then some c else none)) [] := by
    refine compL_ints (fun c => if 10 ^ 18 < c then some c else none) cs fun c _ => ?_
    rw [turnP_eq rfl]
    by_cases h : 10 ^ 18 < c
    · have h' : (1000000000000000000 : Int) < c := h
      simp [E, cmpv, bin, binI, h']
    · have h' : ¬ (1000000000000000000 : Int) < c := h
      simp [E, cmpv, bin, binI, h']
  have hl3 : (cs.filterMap fun c => if 10 ^ 18 < c then some c else none).length ≤ 63 := Nat.le_trans (List.length_filterMap_le _ _) hl2
  generalize (cs.filterMap fun c => if 10 ^ 18 < c then some c else none) = fs at hl3 k2
  simp only [E] at e k2
  refine ⟨pl fs w 0 [], ?_, fs, w, 0, rfl, hl3⟩
  simp [a_deck, partE, isNon, hc, l1, k1, e, l2, k2, trunc, below]
  rfl
theorem menu_ok {F : Nat → Option FD} {f g o : Nat} (hf : F f = some (a_menu g o)) (ho : F o = some (a_one g)) (hg : F g = some Cd.a_draw) (n : Nat) {st rest : Store} (p : Pool st rest) :
    ∃ sh st', runF F (n + 3) f [.ref 1] st = .ok (.lst (vI sh)) st' ∧ Pool st' rest ∧ ShOk sh ∧ 2 ≤ sh.length ∧ sh.length ≤ 4 := by
  obtain ⟨k, s1, e1, p1, b1⟩ := draw_nat hg (n + 1) 99 99 rfl (by omega) (by omega) p
  obtain ⟨x, s3, e3, p3, hx⟩ := one_ok ho hg n [.lst (vI [0, 1]), .lst (vI [0, 1]), .lst (vI [1, 0, 2]), .lst (vI [(k : Int), 99]), .lst (vI [0, (k : Int) + 1, 7]), .lst (vI [5, 6, (k : Int) + 1, 0])] (by simp) (by simp) _ (.inr rfl) p1
  have hs : ∃ sh, x = .lst (vI sh) ∧ ShOk sh ∧ 2 ≤ sh.length ∧ sh.length ≤ 4 := by
    simp only [List.mem_cons, List.not_mem_nil, or_false] at hx
    rcases hx with rfl | rfl | rfl | rfl | rfl | rfl
    all_goals exact ⟨_, rfl, ⟨by simp, by simp, by intro x hx; simp at hx; omega⟩, by simp, by simp⟩
  obtain ⟨sh, rfl, hsh, h2⟩ := hs
  refine ⟨sh, s3, ?_, p3, hsh, h2⟩
  rw [runF_eq hf rfl]
  simp only [vI, List.map_cons, List.map_nil] at e3 ⊢
  simp [a_menu, e1, e3, trunc, p.len, p3.len]
theorem sh_at {sh : List Int} (h : ShOk sh) {i : Nat} (hi : i < sh.length) : ∃ v, L2.atI (vI sh) (i : Int) = some (.int v) ∧ 0 ≤ v ∧ v < 100 := ⟨sh[i], vI_atI hi, h.2.2 _ (List.getElem_mem hi)⟩
/-- drawn rows; they stay in the store -/
theorem rows_ok {F : Nat → Option FD} {f g m o : Nat} (hf : F f = some (a_rows g m o)) (hm' : F m = some (a_mixed g)) (ho' : F o = some (a_one g)) (hg : F g = some Cd.a_draw) (n k : Nat) (hk : k ≤ 50) {sh : List Int} (hsh : ShOk sh) (h2 : 2 ≤ sh.length) {st rest : Store} (p : Pool st rest) (ho : Old rest) :
    ∃ rows st', runF F (n + 3) f [.ref 1, .int k, .lst (vI sh)] st = .ok (.ref (rest.length + 2 + k)) st' ∧ MatAt st' rest rows k := by
  rw [runF_eq hf rfl]
  have c1 : (-1000000 : Int) ≤ (k : Int) ∧ (k : Int) ≤ 1000000 := by omega
  obtain ⟨way, s1, e1, p1, b1⟩ := draw_nat hg (n + 1) 5 5 rfl (by omega) (by omega) p
  obtain ⟨z1, z2⟩ := zeros_ok (cf := runF F (n + 2)) (j := 1) (own := [10]) (env := [some (.ref 1), some (.int k), some (.lst (vI sh)), none, none, none, none, none, none, none, none]) (tg := 10) k (by omega) p1 (by simp)
  have l1 : ¬ LIM < k := by simp only [LIM]; omega
  generalize hzr : List.replicate k (List.replicate k (0 : Int)) = zr at z1 z2
  generalize hst : s1 ++ mats zr ++ [Cell.lst (refs (rest.length + 2) k)] = st0 at z1 z2
  obtain ⟨ms, s2, e2, p2, hp⟩ := mixed_ok hm' hg n ((List.range k).map fun (i : Nat) => (i : Int)) (by simp; omega) z2.pool (z2.old ho)
  obtain ⟨ms2, s3, e3, p3, hp2⟩ := mixed_ok hm' hg n ((List.range k).map fun (i : Nat) => (i : Int)) (by simp; omega) p2 (z2.old ho)
  rw [← rng_vI] at e2 e3
  have hn := names_of hp
  have hn2 := names_of hp2
  have m3 := z2.pool' p3
  let E : Option Val → Option Val → Option Val → Ev := fun y x pr => [some (.ref 1), some (.int k), some (.lst (vI sh)), y, some (.int way), some (.ref (rest.length + 2 + k)), some (.lst (vI ms)), some (.lst (vI ms2)), x, pr, none]
  have i0 : ∀ a b : Val, L2.atI [a, b] 0 = some a := fun _ _ => rfl
  have i1 : ∀ a b : Val, L2.atI [a, b] 1 = some b := fun _ _ => rfl
  obtain ⟨w0, q0, v0⟩ := sh_at hsh (i := 0) (by omega)
  obtain ⟨w1, q1, v1⟩ := sh_at hsh (i := 1) (by omega)
  obtain ⟨env', s', e, y, x, pr, rows, rfl, hm⟩ := forL_inv (f := bodyF (runF F (n + 2)) (.nm 3) (b_rows_2 o)) (clr := []) (I := fun i env s => ∃ y x pr rows, env = E y x pr ∧ MatAt s rest rows k) (rngV 0 k) 0 (by
    rintro y w hw env s ⟨y0, x0, pr0, rows, rfl, hm⟩
    obtain ⟨hy, rfl⟩ := rngV_get hw
    obtain ⟨env', s', e, x', pr', rows', rfl, hm'⟩ := forL_inv (f := bodyF (runF F (n + 2)) (.nm 8) (b_rows_1 o)) (clr := []) (I := fun i env s => ∃ x pr rows, env = E (some (.int y)) x pr ∧ MatAt s rest rows k) (rngV 0 y) 0 (by
      rintro x w hw env s ⟨x0, pr0, rows, rfl, hm⟩
      obtain ⟨hx, rfl⟩ := rngV_get hw
      obtain ⟨k1, t1, d1, r1, u1⟩ := one_sh ho' hg n hsh hm.pool
      obtain ⟨k2, t2, d2, r2, u2⟩ := one_sh ho' hg n hsh r1
      have m2 := hm.pool' r2
      have hxk : x < k := by omega
      obtain ⟨b5, a5⟩ := hn.at_ hxk
      obtain ⟨b6, a6⟩ := hn.at_ hy
      obtain ⟨b7, a7⟩ := hn2.at_ hxk
      obtain ⟨b8, a8⟩ := hn2.at_ hy
      have go : ∀ va vb : Int, (0 ≤ va ∧ va < 100) → (0 ≤ vb ∧ vb < 100) → execSs (runF F (n + 2)) (b_rows_1 o) ((E (some (.int y)) x0 pr0).set 8 (some (.int x))) s = execSs (runF F (n + 2)) (.cons (.seti (.idx (.var 5) (.var 8)) (.var 3) (.idx (.var 9) (.cst (.int 0)))) (.cons (.seti (.idx (.var 5) (.var 3)) (.var 8) (.idx (.var 9) (.cst (.int 1)))) .nil)) (E (some (.int y)) (some (.int x)) (some (.lst [.int va, .int vb]))) t2 →
          ∃ env' s', bodyF (runF F (n + 2)) (.nm 8) (b_rows_1 o) (.int (0 + (x : Int))) (E (some (.int y)) x0 pr0) s = .nx env' s' ∧ ∃ x pr rows, wipe env' [] = E (some (.int y)) x pr ∧ MatAt s' rest rows k := fun va vb ha hb hex => by
        obtain ⟨r3, s3, _, q3, m4⟩ := m2.put (y := x) (x := y) hxk hy ha
        obtain ⟨r4, s4, _, q4, m5⟩ := m4.put (y := y) (x := x) hy hxk hb
        refine ⟨E (some (.int y)) (some (.int x)) (some (.lst [.int va, .int vb])), s4, ?_, _, _, _, rfl, m5⟩
        rw [bodyF_eq rfl]
        rw [Int.zero_add]
        refine hex.trans ?_
        simp [E, i0, i1, dr_ref m2.all, dr_ref m4.all, refs_atI (m := rest.length + 2) hxk, refs_atI (m := rest.length + 2) hy, q3, q4]
      have q0' : L2.atI (vI sh) 0 = some (.int w0) := by simpa using q0
      have q1' : L2.atI (vI sh) 1 = some (.int w1) := by simpa using q1
      by_cases y1 : way = 1
      · subst y1
        refine go k1 k1 u1 u1 ?_
        simp [E, b_rows_1, d1, d2, i0]
      by_cases y2 : way = 2
      · subst y2
        by_cases hc : k1 = w0
        · refine go w0 w1 v0 v1 ?_
          simp [E, b_rows_1, d1, d2, i0, q0', q1', hc]
        · refine go w1 w0 v1 v0 ?_
          simp [E, b_rows_1, d1, d2, i0, q0', q1', hc]
      by_cases y3 : way = 3
      · subst y3
        refine go (if (decide ((nmAt ms x : Int) < nmAt ms y) && decide ((nmAt ms2 x : Int) < nmAt ms2 y)) = true then 1 else 0) (if (decide ((nmAt ms y : Int) < nmAt ms x) && decide ((nmAt ms2 y : Int) < nmAt ms2 x)) = true then 1 else 0) (by split <;> omega) (by split <;> omega) ?_
        simp [E, b_rows_1, d1, d2, a5, a6, a7, a8]
      · have y1' : ¬ (way : Int) = 1 := by omega
        have y2' : ¬ (way : Int) = 2 := by omega
        have y3' : ¬ (way : Int) = 3 := by omega
        refine go k1 k2 u1 u2 ?_
        simp [E, b_rows_1, d1, d2, y1', y2', y3']) (E (some (.int y)) x0 pr0) s ⟨x0, pr0, rows, rfl, hm⟩
    refine ⟨E (some (.int y)) x' pr', s', ?_, _, _, _, _, rfl, hm'⟩
    rw [bodyF_eq rfl]
    have c2 : (-1000000 : Int) ≤ (y : Int) ∧ (y : Int) ≤ 1000000 := by omega
    simp only [E] at e ⊢
    simp [b_rows_2, c2, e]) (E none none none) s3 ⟨none, none, none, _, rfl, m3⟩
  have hb : below st.length (.ref (rest.length + 2 + k)) = false := by simp only [below, decide_eq_false_iff_not, p.len]; omega
  refine ⟨rows, s', ?_, hm⟩
  simp only [E] at e
  simp [a_rows, e1, c_rows_1, c1, l1, rngV_len, z1, e2, e3, e, trunc, hb]
end Cd

set_option Elab.async false
set_option linter.all false
set_option maxRecDepth 100000
set_option maxHeartbeats 16000000
/-! CdA3: what comes of two things; the law's is_firm. -/
namespace Cd
open Co Cp
open PySem

def tells (rows : List (List Int)) (fo : List Nat) (a z : Nat) : Bool := fo.any fun o => (!decide (cel rows z o = cel rows z a)) || (!decide (cel rows o z = cel rows a z))
def spreadL (rows : List (List Int)) (a : Nat) : Nat → List Nat → List Nat → List Nat
  | 0, fo, _ => fo
  | t + 1, fo, re => if re.filter (tells rows fo a) = [] then fo else spreadL rows a t (fo ++ re.filter (tells rows fo a)) (re.filter fun z => !decide (z ∈ re.filter (tells rows fo a)))
theorem fine_app {st cs : Store} (h : Fine st) (hc : cs.all (Cell.below (st.length + cs.length)) = true) : Fine (st ++ cs) := by
  unfold Fine at h ⊢
  rw [List.all_append, List.length_append, hc, store_mono (by omega) h]
  rfl
theorem take_snoc {α : Type} {l : List α} {i : Nat} {x : α} (h : l[i]? = some x) : l.take (i + 1) = l.take i ++ [x] := by
  rw [List.take_add_one, h]; rfl
theorem len_part {α : Type} (p : α → Bool) (l : List α) : l.length = (l.filter p).length + (l.filter fun z => !p z).length := by
  induction l with
  | nil => rfl
  | cons a t ih => cases h : p a <;> simp [List.filter_cons, h] <;> omega
theorem vN_get {ns : List Nat} {i : Nat} {x : Val} (h : (vN ns)[i]? = some x) : ∃ n : Nat, ns[i]? = some n ∧ x = .int n := by
  unfold vN at h
  rw [List.getElem?_map] at h
  cases e : ns[i]? with
  | none => rw [e] at h; cases h
  | some n => rw [e] at h; cases h; exact ⟨n, rfl, rfl⟩
theorem vN_plain {ns : List Nat} : ∀ x ∈ vN ns, ∀ j, x ≠ Val.ref j := by
  intro x hx j
  obtain ⟨i, _, rfl⟩ := List.mem_map.mp hx
  exact fun e => by cases e
theorem vN_snoc (a : List Nat) (b : Nat) : vN a ++ [.int (b : Nat)] = vN (a ++ [b]) := by simp [vN]
theorem vN_app (a b : List Nat) : vN a ++ vN b = vN (a ++ b) := by simp [vN]
theorem bool_not_in (x : Nat) (a b : Nat) : cmpv .notin (.int x) (.tup [.int a, .int b]) = some (!decide (x ∈ [a, b])) := notin_tN x [a, b]
theorem spread_ok {F : Nat → Option FD} {f : Nat} (hf : F f = some a_spread) {n : Nat} {rows : List (List Int)} (h : Sq n rows) (hn : n ≤ 100) {lot : List Nat} (hl : ∀ x ∈ lot, x < n) (hll : lot.length ≤ 100) {a b : Nat} (ha : a < n) (hb : b < n) (j : Nat) {st : Store} (hs : Fine st) :
    runF F (j + 1) f [.lst (vM rows), .tup (vN lot), .int a, .int b] st = .ok (.lst (vN (spreadL rows a lot.length [a, b] (lot.filter fun x => !decide (x ∈ [a, b]))))) st := by
  rw [runF_eq hf rfl]
  have c1 : (-1000000 : Int) ≤ (lot.length : Int) ∧ (lot.length : Int) ≤ 1000000 := by omega
  have l1 : ¬ LIM < lot.length := by simp only [LIM]; omega
  let E : Option Val → List Nat → List Nat → Option Val → Option Val → Option Val → Option Val → Ev := fun t fo re co th lo ba => [some (.lst (vM rows)), some (.tup (vN lot)), some (.int a), some (.int b), t, some (.lst (vN fo)), some (.lst (vN re)), co, th, lo, ba, none]
  have k0 : compL (turnP (runF F j) (.var 8) (.nm 8) (.cmp .notin (.var 8) (.tup (.cons (.var 2) (.cons (.var 3) .nil)))) [some (.lst (vM rows)), some (.tup (vN lot)), some (.int a), some (.int b), none, none, none, none, none, none, none, none] [8]) (vN lot) st = .ok (vN (lot.filter fun x => !decide (x ∈ [a, b]))) st := by
    refine compL_fil _ lot fun x _ => ?_
    rw [turnP_eq rfl]
    simp [bool_not_in, -List.mem_cons]
    split <;> rfl
  let R0 := lot.filter fun x => !decide (x ∈ [a, b])
  have hR0 : R0.length ≤ lot.length := List.length_filter_le _ _
  have hR0b : ∀ x ∈ R0, x < n := fun x hx => hl x (List.mem_filter.mp hx).1
  have main := forL_ret (f := bodyF (runF F j) (.nm 4) b_spread_2) (clr := []) (I := fun i env s => ∃ t fo re co th lo ba, env = E t fo re co th lo ba ∧ s = st ++ List.replicate i .dead ∧ spreadL rows a (lot.length - i) fo re = spreadL rows a lot.length [a, b] R0 ∧ (∀ x ∈ fo, x < n) ∧ (∀ x ∈ re, x < n) ∧ fo.length + re.length ≤ 2 + lot.length)
    (P := fun v s => v = .lst (vN (spreadL rows a lot.length [a, b] R0)) ∧ ∃ i, s = st ++ List.replicate i .dead) (rngV 0 lot.length) 0 (by
      rintro i w hw env s ⟨t, fo, re, co, th, lo, ba, rfl, rfl, hinv, hfo, hre, hlen⟩
      obtain ⟨hi, rfl⟩ := rngV_get hw
      rw [Nat.zero_add] at hinv ⊢
      have hsl : (st ++ List.replicate i Cell.dead).length = st.length + i := by simp
      obtain ⟨env1, s1, e1, th1, lo1, ba1, rfl, rfl⟩ := forL_inv (f := bodyF (runF F j) (.nm 8) b_spread_1) (clr := []) (I := fun q env s => ∃ th lo ba, env = E (some (.int i)) fo re (some (.ref (st.length + i))) th lo ba ∧ s = st ++ List.replicate i .dead ++ [.lst (vN ((re.take q).filter (tells rows fo a)))]) (vN re) 0 (by
        rintro q w hw env s ⟨th, lo, ba, rfl, rfl⟩
        obtain ⟨z, hz, rfl⟩ := vN_get hw
        rw [Nat.zero_add]
        have hzn := hre z (List.mem_of_getElem? hz)
        have hq : q < re.length := (List.getElem?_eq_some_iff.mp hz).1
        have k1 : compL (turnP (runF F j) (.var 11) (.nm 11) (.or_ (.cmp .ne (.idx (.idx (.var 0) (.var 8)) (.var 11)) (.var 9)) (.cmp .ne (.idx (.idx (.var 0) (.var 11)) (.var 8)) (.var 10))) (E (some (.int i)) fo re (some (.ref (st.length + i))) (some (.int z)) (some (.int (cel rows z a))) (some (.int (cel rows a z)))) [11]) (vN fo) (st ++ List.replicate i .dead ++ [.lst (vN ((re.take q).filter (tells rows fo a)))])
            = .ok (vN (fo.filter fun o => (!decide (cel rows z o = cel rows z a)) || (!decide (cel rows o z = cel rows a z)))) (st ++ List.replicate i .dead ++ [.lst (vN ((re.take q).filter (tells rows fo a)))]) := by
          refine compL_fil _ fo fun o ho => ?_
          rw [turnP_eq rfl]
          have hon := hfo o ho
          simp [E, h.row hzn, h.row hon, h.cel hzn hon, h.cel hon hzn]
          split <;> rfl
        have l2 : ¬ LIM < fo.length := by simp only [LIM]; omega
        have cn := cmp_neN (fo.filter fun o => (!decide (cel rows z o = cel rows z a)) || (!decide (cel rows o z = cel rows a z)))
        have te : decide ((fo.filter fun o => (!decide (cel rows z o = cel rows z a)) || (!decide (cel rows o z = cel rows a z))) = []) = !tells rows fo a z := by
          rw [Bool.eq_iff_iff]
          simp [tells, List.filter_eq_nil_iff]
        rw [te] at cn
        have g : (st ++ List.replicate i Cell.dead ++ [.lst (vN ((re.take q).filter (tells rows fo a)))])[st.length + i]? = some (.lst (vN ((re.take q).filter (tells rows fo a)))) := by
          rw [← hsl]; simp
        have lq : (vN ((re.take q).filter (tells rows fo a))).length < LIM := by
          have h1 := List.length_filter_le (tells rows fo a) (re.take q)
          have h2 := List.length_take_le q re
          simp only [vN_len, LIM]; omega
        have sset : ∀ c d : Cell, (st ++ List.replicate i Cell.dead ++ [c]).set (st.length + i) d = st ++ List.replicate i Cell.dead ++ [d] := fun c d => by
          rw [← hsl, List.set_append_right _ _ (Nat.le_refl _), Nat.sub_self]; rfl
        have ap := app_ref (lv := false) (v := .int (z : Nat)) g lq
        rw [sset, vN_snoc] at ap
        refine ⟨E (some (.int i)) fo re (some (.ref (st.length + i))) (some (.int z)) (some (.int (cel rows z a))) (some (.int (cel rows a z))), st ++ List.replicate i .dead ++ [.lst (vN ((re.take (q + 1)).filter (tells rows fo a)))], ?_, _, _, _, rfl, rfl⟩
        rw [bodyF_eq rfl]
        rw [take_snoc hz, List.filter_append]
        generalize (re.take q).filter (tells rows fo a) = done at *
        generalize (fo.filter fun o => (!decide (cel rows z o = cel rows z a)) || (!decide (cel rows o z = cel rows a z))) = fl at *
        simp only [E] at k1
        cases htz : tells rows fo a z with
        | true =>
          rw [htz] at cn
          simp only [List.filter_cons, htz, List.filter_nil, if_true] at ap ⊢
          generalize st ++ List.replicate i Cell.dead ++ [.lst (vN done)] = s0 at *
          simp [b_spread_1, E, h.row hzn, h.row ha, h.cel hzn ha, h.cel ha hzn, l2, k1, cn, mth_ref g (.inl rfl), ap]
        | false =>
          rw [htz] at cn
          simp only [List.filter_cons, htz, List.filter_nil, List.append_nil, Bool.false_eq_true, if_false]
          generalize st ++ List.replicate i Cell.dead ++ [.lst (vN done)] = s0 at *
          simp [b_spread_1, E, h.row hzn, h.row ha, h.cel hzn ha, h.cel ha hzn, l2, k1, cn]) (E (some (.int i)) fo re (some (.ref (st.length + i))) th lo ba) (st ++ List.replicate i .dead ++ [.lst (vN [])]) ⟨th, lo, ba, rfl, by simp⟩
      rw [vN_len, Nat.zero_add, List.take_length] at e1
      obtain ⟨t', ht'⟩ : ∃ t', lot.length - i = t' + 1 := ⟨lot.length - i - 1, by omega⟩
      rw [ht', spreadL] at hinv
      have hcl := List.length_filter_le (tells rows fo a) re
      have hcm : ∀ x ∈ re.filter (tells rows fo a), x < n := fun x hx => hre x (List.mem_filter.mp hx).1
      have hlen3 : (fo ++ re.filter (tells rows fo a)).length + (re.filter fun z => !decide (z ∈ re.filter (tells rows fo a))).length ≤ 2 + lot.length := by
        have h3 : (re.filter fun z => !decide (z ∈ re.filter (tells rows fo a))).length ≤ (re.filter fun z => !tells rows fo a z).length := by
          have : (re.filter fun z => !decide (z ∈ re.filter (tells rows fo a))) = re.filter fun z => !tells rows fo a z := by
            refine List.filter_congr fun x hx => ?_
            simp [List.mem_filter, hx]
          rw [this]
          exact Nat.le_refl _
        have h4 := len_part (tells rows fo a) re
        rw [List.length_append]
        omega
      generalize re.filter (tells rows fo a) = come at *
      have g : (st ++ List.replicate i Cell.dead ++ [.lst (vN come)])[st.length + i]? = some (.lst (vN come)) := by
        rw [← hsl]; simp
      have fz := frz_plain (m := 2) g vN_plain
      have sset : (st ++ List.replicate i Cell.dead ++ [Cell.lst (vN come)]).set (st.length + i) .dead = st ++ List.replicate (i + 1) Cell.dead := by
        rw [← hsl, List.set_append_right _ _ (Nat.le_refl _), Nat.sub_self, List.replicate_succ']
        simp
      rw [sset] at fz
      have ce := cmp_eqN come
      have k2 : compL (turnP (runF F j) (.var 8) (.nm 8) (.cmp .notin (.var 8) (.var 7)) (E (some (.int i)) (fo ++ come) re (some (.lst (vN come))) th1 lo1 ba1) [8]) (vN re) (st ++ List.replicate (i + 1) .dead) = .ok (vN (re.filter fun z => !decide (z ∈ come))) (st ++ List.replicate (i + 1) .dead) := by
        refine compL_fil _ re fun x _ => ?_
        rw [turnP_eq rfl]
        simp [E]
        split <;> rfl
      have l3 : ¬ LIM < re.length := by simp only [LIM]; omega
      have v0 : vN [] = [] := rfl
      rw [v0] at e1
      simp only [E] at e1 k2
      by_cases hc : come = []
      · rw [if_pos hc] at hinv
        subst hc
        refine .inr ⟨_, st ++ List.replicate (i + 1) .dead, ?_, rfl, i + 1, rfl⟩
        rw [bodyF_eq rfl, ← hinv]
        generalize hs0 : st ++ List.replicate i Cell.dead = s0 at *
        generalize st ++ List.replicate (i + 1) Cell.dead = s2 at *
        simp [b_spread_2, E, hsl, e1, fz, ce]
      · rw [if_neg hc] at hinv
        refine .inl ⟨E (some (.int i)) (fo ++ come) (re.filter fun z => !decide (z ∈ come)) (some (.lst (vN come))) th1 lo1 ba1, st ++ List.replicate (i + 1) .dead, .inl ?_, _, _, _, _, _, _, _, rfl, rfl, ?_, ?_, ?_, hlen3⟩
        · rw [bodyF_eq rfl]
          have ad : ∀ s, bin .add false (.lst (vN fo)) (.lst (vN come)) s = .ok (.lst (vN (fo ++ come))) s := fun s => by
            rw [add_lst' (by simp; omega), vN_app]; rfl
          generalize hs0 : st ++ List.replicate i Cell.dead = s0 at *
          generalize st ++ List.replicate (i + 1) Cell.dead = s2 at *
          simp [b_spread_2, E, hsl, e1, fz, ce, hc, ad, l3, k2]
        · rw [show lot.length - (i + 1) = t' by omega]
          exact hinv
        · intro x hx
          rcases List.mem_append.mp hx with hx | hx
          · exact hfo x hx
          · exact hcm x hx
        · exact fun x hx => hre x (List.mem_filter.mp hx).1) (E none [a, b] R0 none none none none) st ⟨none, [a, b], R0, none, none, none, none, rfl, by simp, by rw [Nat.sub_zero], by intro x hx; simp at hx; omega, hR0b, by simp; omega⟩
  have hc := fun (l : List Nat) r => hs.cut (rest := r) (v := .lst (vN l)) (by simpa only [below] using (by simpa only [below] using below_vN st.length l))
  have v2 : vN [a, b] = [.int a, .int b] := rfl
  rw [← show R0 = lot.filter fun x => !decide (x ∈ [a, b]) from rfl] at k0 ⊢
  clear_value R0
  simp only [E, v2] at main
  rcases main with ⟨env', s', e, t, fo, re, co, th, lo, ba, rfl, rfl, hinv, _⟩ | ⟨v, s', e, rfl, i, rfl⟩
  · rw [rngV_len, Nat.zero_add, Nat.sub_self, spreadL] at hinv
    subst hinv
    simp [a_spread, l1, k0, c1, e, hc]
  · simp [a_spread, l1, k0, c1, e, hc]
end Cd

set_option Elab.async false
set_option linter.all false
set_option maxRecDepth 100000
set_option maxHeartbeats 16000000
/-! CdA4: is_firm, the law's and the package's. -/
namespace Cd
open Co Cp
open PySem

theorem law_firm_ok {F : Nat → Option FD} {f s : Nat} (hf : F f = some (Cd.a_is_firm s)) (hs : F s = some a_spread) {n : Nat} {rows : List (List Int)} (h : Sq n rows) (hn : n ≤ 100) {lot : List Nat} (hl : ∀ x ∈ lot, x < n) (hll : lot.length ≤ 100) (j : Nat) {st : Store} (hst : Fine st) :
    ∃ b, runF F (j + 2) f [.lst (vM rows), .tup (vN lot)] st = .ok (.bl b) st := by
  rw [runF_eq hf rfl]
  let E : Option Val → Option Val → Option Val → Ev := fun y z w => [some (.lst (vM rows)), some (.tup (vN lot)), y, z, w]
  let L : Nat → Nat → Nat := fun a b => (spreadL rows a lot.length [a, b] (lot.filter fun x => !decide (x ∈ [a, b]))).length
  let g : Nat → Nat → Option Val := fun a b => if (L a b : Int) < lot.length then some (.bl false) else none
  have lx := forL_find (f := bodyF (runF F (j + 1)) (.tp [2, 3]) (b_is_firm_2 s)) (clr := []) (I := fun env => ∃ y z' w, env = E y z' w) (st := st) (fun (p : Nat × Nat) => Val.tup [.int (p.2 : Nat), .int (p.1 : Nat)])
    (fun p => (lot.drop (p.2 + 1)).findSome? fun y => g p.1 y) lot.zipIdx (by
      rintro ⟨x, i⟩ hx env ⟨y0, z0, w0, rfl⟩
      have hx' := hl x (List.fst_mem_of_mem_zipIdx hx)
      have ly := forL_find (f := bodyF (runF F (j + 1)) (.nm 4) (b_is_firm_1 s)) (clr := []) (I := fun env => ∃ w, env = E (some (.int i)) (some (.int x)) w) (st := st) (fun (i : Nat) => Val.int (i : Int))
        (fun y => g x y) (lot.drop (i + 1)) (by
          rintro y hy env ⟨w0, rfl⟩
          have hy' := hl y (List.mem_of_mem_drop hy)
          rw [bodyF_eq rfl]
          have sp := spread_ok hs h hn hl hll hx' hy' j hst
          by_cases hc : (L x y : Int) < lot.length
          · refine .inl ⟨.bl false, if_pos hc, ?_⟩
            simp only [L] at hc
            generalize spreadL rows x lot.length [x, y] (lot.filter fun z => !decide (z ∈ [x, y])) = sl at sp hc
            have hc' : sl.length < lot.length := by omega
            simp [b_is_firm_1, E, sp, hc']
          · refine .inr ⟨if_neg hc, E (some (.int i)) (some (.int x)) (some (.int y)), .inl ?_, _, rfl⟩
            simp only [L] at hc
            generalize spreadL rows x lot.length [x, y] (lot.filter fun z => !decide (z ∈ [x, y])) = sl at sp hc
            have hc' : ¬ sl.length < lot.length := by omega
            simp [b_is_firm_1, E, sp, hc']) (E (some (.int i)) (some (.int x)) w0) ⟨w0, rfl⟩
      rw [bodyF_eq rfl]
      have ec : cut (vN lot) (some ((i : Int) + 1)) none = vN (lot.drop (i + 1)) := by
        rw [show ((i : Int) + 1) = ((i + 1 : Nat) : Int) by omega, cut_tail, vN_drop]
      rcases ly with ⟨v, g1, e1⟩ | ⟨g1, env1, e1, z1, rfl⟩
      · refine .inl ⟨v, g1, ?_⟩
        rw [← vN] at e1
        simp only [E] at e1 ⊢
        simp [b_is_firm_2, partE, isNon, ec, e1]
      · refine .inr ⟨g1, E (some (.int i)) (some (.int x)) z1, .inl ?_, some (.int i), some (.int x), z1, rfl⟩
        rw [← vN] at e1
        simp only [E] at e1 ⊢
        simp [b_is_firm_2, partE, isNon, ec, e1]) (E none none none) ⟨none, none, none, rfl⟩
  have ee : enumV 0 (vN lot) = lot.zipIdx.map fun (p : Nat × Nat) => Val.tup [.int (p.2 : Nat), .int (p.1 : Nat)] := enumV_map _ lot 0
  rcases lx with ⟨v, g1, e1⟩ | ⟨g1, env1, e1, y1, z1, w1, rfl⟩
  · have hv : v = .bl false := by
      obtain ⟨p, _, hp⟩ := List.exists_of_findSome?_eq_some g1
      obtain ⟨y, _, hy⟩ := List.exists_of_findSome?_eq_some hp
      simp only [g] at hy
      split at hy
      · exact (Option.some.inj hy).symm
      · cases hy
    subst hv
    simp only [E] at e1
    exact ⟨false, by simp [a_is_firm, ee, e1]⟩
  · simp only [E] at e1
    exact ⟨_, by simp [a_is_firm, ee, e1]; rfl⟩
def kTst (r : R Val) : R Val := r.bind fun x st1 => match trL (dr st1 x) with
  | some b => .ok (.bl b) st1
  | none => .stuck
theorem ev_tst (cf : CF) (a : Ex) (env : Ev) (st : Store) : evalE cf (.tst a) env st = kTst (evalE cf a env st) := Eq.trans rfl rfl
theorem kTst_lst (xs : List Val) (st : Store) : kTst (.ok (.lst xs) st) = .ok (.bl (!xs.isEmpty)) st := Eq.trans rfl rfl
theorem kTst_ref {i : Nat} {xs : List Val} {st : Store} (h : st[i]? = some (.lst xs)) : kTst (.ok (.ref i) st) = .ok (.bl (!xs.isEmpty)) st := by
  simp only [kTst, R.bind_ok, dr_ref h, trL]
theorem pop_ref {lv : Bool} {i : Nat} {st : Store} {xs : List Val} {v : Val} (h : st[i]? = some (.lst (xs ++ [v]))) : mtv .pop lv (.ref i) [] st = .ok v (st.set i (.lst xs)) := by
  simp [mtv, h]
theorem vN_emp (l : List Nat) : (vN l).isEmpty = decide (l = []) := by cases l <;> simp [vN]
/-- what fills asks: all closed lots that hold two things hold all -/
def Full (n : Nat) (rows : List (List Int)) (a b : Nat) : Prop := ∀ C, Clo n rows C → a ∈ C → b ∈ C → ∀ x, x < n → x ∈ C
structure FInv (n : Nat) (rows : List (List Int)) (a b : Nat) (le wa : List Nat) : Prop where
  fl : ∀ x ∈ le, x < n ∧ x ≠ a ∧ x ≠ b
  fw : ∀ w ∈ wa, w < n ∧ w ∉ le
  hA : ∀ C, Clo n rows C → a ∈ C → b ∈ C → ∀ x, x < n → x ∉ le → x ∈ C
  hB : ∀ o, o < n → o ∉ le → o ∉ wa → ∀ z ∈ le, apartB rows z o a = false
theorem apart_self (rows : List (List Int)) (z x : Nat) : apartB rows z x x = false := by simp [apartB]
theorem apart_tr {rows : List (List Int)} {z x y w : Nat} (h1 : apartB rows z x w = false) (h2 : apartB rows z y w = false) : apartB rows z x y = false := by
  rw [apart_key] at h1 h2 ⊢
  exact ⟨h1.1.trans h2.1.symm, h1.2.trans h2.2.symm⟩
theorem FInv.step {n : Nat} {rows : List (List Int)} {a b o : Nat} {le ws : List Nat} (h : FInv n rows a b le (ws ++ [o])) :
    FInv n rows a b (le.filter fun z => !decide (z ∈ le.filter fun z => apartB rows z o a)) (ws ++ le.filter fun z => apartB rows z o a) := by
  have ho := h.fw o (by simp)
  have hm : ∀ z, z ∈ (le.filter fun z => !decide (z ∈ le.filter fun z => apartB rows z o a)) ↔ z ∈ le ∧ apartB rows z o a = false := fun z => by
    simp only [List.mem_filter, Bool.not_eq_true', decide_eq_false_iff_not, not_and, Bool.not_eq_true]
    exact ⟨fun ⟨x, y⟩ => ⟨x, y x⟩, fun ⟨x, y⟩ => ⟨x, fun _ => y⟩⟩
  refine ⟨fun x hx => h.fl x ((hm x).mp hx).1, fun w hw => ?_, fun C hC ha hb x hx hn => ?_, fun q hq hq1 hq2 z hz => ?_⟩
  · rw [hm]
    rcases List.mem_append.mp hw with hw | hw
    · have := h.fw w (by simp [hw])
      exact ⟨this.1, fun k => this.2 k.1⟩
    · have := List.mem_filter.mp hw
      exact ⟨(h.fl w this.1).1, fun k => by rw [k.2] at this; cases this.2⟩
  · rw [hm] at hn
    by_cases hl : x ∈ le
    · have ht : apartB rows x o a = true := by
        cases e : apartB rows x o a
        · exact absurd ⟨hl, e⟩ hn
        · rfl
      by_cases hxC : x ∈ C
      · exact hxC
      · have := hC x o a hx hxC (h.hA C hC ha hb o ho.1 ho.2) ha
        rw [ht] at this; cases this
    · exact h.hA C hC ha hb x hx hl
  · rw [hm] at hq1 hz
    have hql : q ∉ le := fun k => by
      have : apartB rows q o a = true := by
        cases e : apartB rows q o a
        · exact absurd ⟨k, e⟩ hq1
        · rfl
      exact hq2 (List.mem_append_right _ (List.mem_filter.mpr ⟨k, this⟩))
    by_cases e : q = o
    · rw [e]; exact hz.2
    · exact h.hB q hq hql (fun k => by
        rcases List.mem_append.mp k with k | k
        · exact hq2 (List.mem_append_left _ k)
        · exact e (List.mem_singleton.mp k)) z hz.1
theorem FInv.done {n : Nat} {rows : List (List Int)} {a b : Nat} (ha : a < n) (hb : b < n) {le wa : List Nat} (h : FInv n rows a b le wa) (hd : wa = [] ∨ le = []) : le = [] ↔ Full n rows a b := by
  constructor
  · rintro rfl C hC h1 h2 x hx
    exact h.hA C hC h1 h2 x hx (by simp)
  · intro hF
    rcases hd with rfl | rfl
    · refine List.eq_nil_iff_forall_not_mem.mpr fun z hz => ?_
      have hm : ∀ x, x ∈ ((List.range n).filter fun x => !decide (x ∈ le)) ↔ x < n ∧ x ∉ le := fun x => by simp
      have hC : Clo n rows ((List.range n).filter fun x => !decide (x ∈ le)) := by
        intro z x y hz hzn hx hy
        rw [hm] at hzn hx hy
        have hz' : z ∈ le := Classical.byContradiction fun k => hzn ⟨hz, k⟩
        exact apart_tr (h.hB x hx.1 hx.2 (by simp) z hz') (h.hB y hy.1 hy.2 (by simp) z hz')
      have := hF _ hC ((hm a).mpr ⟨ha, fun k => (h.fl a k).2.1 rfl⟩) ((hm b).mpr ⟨hb, fun k => (h.fl b k).2.2 rfl⟩) z (h.fl z hz).1
      exact ((hm z).mp this).2 hz
    · rfl
theorem fills_ok {F : Nat → Option FD} {f : Nat} (hf : F f = some p_fills) {n : Nat} {rows : List (List Int)} (h : Sq n rows) (hn : n ≤ 100) {a b : Nat} (ha : a < n) (hb : b < n) (j : Nat) {st : Store} (hst : Fine st) :
    ∃ c, runF F (j + 1) f [.tup (vMt rows), .tup (vN (List.range n)), .int a, .int b] st = .ok (.bl c) st ∧ (c = true ↔ Full n rows a b) := by
  rw [runF_eq hf rfl]
  have l1 : ¬ LIM < n := by simp only [LIM]; omega
  let E : List Nat → Option Val → Option Val → Ev := fun le ow to => [some (.tup (vMt rows)), some (.tup (vN (List.range n))), some (.int a), some (.int b), some (.lst (vN le)), some (.ref st.length), ow, to, none, none]
  let L0 := (List.range n).filter fun x => !decide (x = a) && !decide (x = b)
  have k0 : compL (turnP (runF F j) (.var 8) (.nm 8) (.and_ (.cmp .ne (.var 8) (.var 2)) (.cmp .ne (.var 8) (.var 3))) [some (.tup (vMt rows)), some (.tup (vN (List.range n))), some (.int a), some (.int b), none, none, none, none, none, none] [8]) (vN (List.range n)) st = .ok (vN L0) st := by
    refine compL_fil _ (List.range n) fun x _ => ?_
    rw [turnP_eq rfl]
    by_cases e1 : x = a <;> by_cases e2 : x = b <;> simp [e1, e2] <;> omega
  have f0 : FInv n rows a b L0 [b] := by
    have hm : ∀ x, x ∈ L0 ↔ x < n ∧ x ≠ a ∧ x ≠ b := fun x => by simp [L0]
    refine ⟨fun x hx => (hm x).mp hx, fun w hw => ?_, fun C hC h1 h2 x hx hxn => ?_, fun o ho ho1 ho2 z hz => ?_⟩
    · rw [List.mem_singleton.mp hw]
      exact ⟨hb, fun k => ((hm b).mp k).2.2 rfl⟩
    · rw [hm] at hxn
      by_cases e1 : x = a
      · rw [e1]; exact h1
      · by_cases e2 : x = b
        · rw [e2]; exact h2
        · exact absurd ⟨hx, e1, e2⟩ hxn
    · rw [hm] at ho1
      have : o = a := Classical.byContradiction fun k => ho1 ⟨ho, k, fun k2 => ho2 (by simp [k2])⟩
      rw [this]
      exact apart_self _ _ _
  have hL0 : L0.length ≤ n := by
    have := List.length_filter_le (fun x => !decide (x = a) && !decide (x = b)) (List.range n)
    simpa using this
  obtain ⟨env', s', e, ⟨le, ow, to, wa, rfl, rfl, hi, hd⟩⟩ := whlL_run (t := tF (runF F j) (.and_ (.tst (.var 5)) (.tst (.var 4)))) (f := bF (runF F j) (.cons (.asg (.nm 6) (.mth .pop false (.var 5) .nil))
    (.cons (.asg (.nm 7) (.lc false (.var 9) (.nm 9) (.seq (.var 4)) (.or_ (.cmp .ne (.idx (.idx (.var 0) (.var 9)) (.var 6)) (.idx (.idx (.var 0) (.var 9)) (.var 2))) (.cmp .ne (.idx (.idx (.var 0) (.var 6)) (.var 9)) (.idx (.idx (.var 0) (.var 2)) (.var 9)))) [9]))
    (.cons (.asg (.nm 4) (.lc false (.var 9) (.nm 9) (.seq (.var 4)) (.cmp .notin (.var 9) (.var 7)) [9]))
    (.cons (.ex (.mth .extend false (.var 5) (.cons (.var 7) .nil)))
    .nil))))) (clr := []) (I := fun m env s => ∃ le ow to wa, env = E le ow to ∧ s = st ++ [.lst (vN wa)] ∧ FInv n rows a b le wa ∧ m = le.length + wa.length ∧ le.length + wa.length ≤ n + 1)
    (Q := fun env s => ∃ le ow to wa, env = E le ow to ∧ s = st ++ [.lst (vN wa)] ∧ FInv n rows a b le wa ∧ (wa = [] ∨ le = [])) (by
      rintro m env s ⟨le, ow, to, wa, rfl, rfl, hi, rfl, hlen⟩
      have g : (st ++ [Cell.lst (vN wa)])[st.length]? = some (.lst (vN wa)) := by simp
      by_cases h1 : wa = []
      · refine .inl ⟨st ++ [.lst (vN wa)], ?_, le, ow, to, wa, rfl, rfl, hi, .inl h1⟩
        subst h1
        simp [tF, E, ev_tst, kTst_ref g, vN_emp]
      by_cases h2 : le = []
      · refine .inl ⟨st ++ [.lst (vN wa)], ?_, le, ow, to, wa, rfl, rfl, hi, .inr h2⟩
        simp [tF, E, ev_tst, kTst_ref g, kTst_lst, vN_emp, h1, h2]
      obtain ⟨ws, o, rfl⟩ : ∃ ws o, wa = ws ++ [o] := ⟨wa.dropLast, wa.getLast h1, (List.dropLast_concat_getLast h1).symm⟩
      have ho := hi.fw o (by simp)
      have l2 : ¬ LIM < le.length := by simp only [LIM]; omega
      have g' : (st ++ [Cell.lst (vN (ws ++ [o]))])[st.length]? = some (.lst (vN ws ++ [.int (o : Nat)])) := by rw [g, vN_snoc]
      have pp := pop_ref (lv := false) g'
      have sset : ∀ c d : Cell, (st ++ [c]).set st.length d = st ++ [d] := fun c d => by simp
      rw [sset] at pp
      have hst' := hi.step
      have hle := hi.fl
      have k1 : compL (turnP (runF F j) (.var 9) (.nm 9) (.or_ (.cmp .ne (.idx (.idx (.var 0) (.var 9)) (.var 6)) (.idx (.idx (.var 0) (.var 9)) (.var 2))) (.cmp .ne (.idx (.idx (.var 0) (.var 6)) (.var 9)) (.idx (.idx (.var 0) (.var 2)) (.var 9)))) (E le (some (.int o)) to) [9]) (vN le) (st ++ [.lst (vN ws)]) = .ok (vN (le.filter fun z => apartB rows z o a)) (st ++ [.lst (vN ws)]) := by
        refine compL_fil _ le fun x hx => ?_
        rw [turnP_eq rfl]
        have hx' := (hle x hx).1
        simp [E, h.rowt hx', h.rowt ho.1, h.rowt ha, h.cel hx' ho.1, h.cel hx' ha, h.cel ho.1 hx', h.cel ha hx', apartB]
        split <;> rfl
      have hpart := len_part (fun z => apartB rows z o a) le
      have hfc : (le.filter fun z => !decide (z ∈ le.filter fun z => apartB rows z o a)).length = (le.filter fun z => !apartB rows z o a).length := by
        congr 1
        refine List.filter_congr fun x hx => ?_
        simp [List.mem_filter, hx]
      have htl : (le.filter fun z => apartB rows z o a).length ≤ le.length := List.length_filter_le _ _
      rw [List.length_append, List.length_singleton] at hlen
      generalize hto : le.filter (fun z => apartB rows z o a) = tld at *
      have k2 : compL (turnP (runF F j) (.var 9) (.nm 9) (.cmp .notin (.var 9) (.var 7)) (E le (some (.int o)) (some (.lst (vN tld)))) [9]) (vN le) (st ++ [.lst (vN ws)]) = .ok (vN (le.filter fun z => !decide (z ∈ tld))) (st ++ [.lst (vN ws)]) := by
        refine compL_fil _ le fun x hx => ?_
        rw [turnP_eq rfl]
        simp [E]
        split <;> rfl
      have g2 : (st ++ [Cell.lst (vN ws)])[st.length]? = some (.lst (vN ws)) := by simp
      have hx : (vN ws).length + (vN tld).length ≤ LIM := by simp only [vN_len, LIM]; omega
      have ex := ext_ref (lv := false) g2 hx
      rw [sset, vN_app] at ex
      refine .inr ⟨st ++ [.lst (vN (ws ++ [o]))], E (le.filter fun z => !decide (z ∈ tld)) (some (.int o)) (some (.lst (vN tld))), st ++ [.lst (vN (ws ++ tld))], (le.filter fun z => !decide (z ∈ tld)).length + (ws ++ tld).length, ?_, ?_, ?_, _, _, _, _, rfl, rfl, hst', rfl, ?_⟩
      · simp [tF, E, ev_tst, kTst_ref g, kTst_lst, vN_emp, h2]
      · simp only [E] at k1 k2
        simp [bF, E, mth_ref g (.inr (.inl rfl)), pp, l2, k1, k2, mth_ref g2 (.inr (.inr (.inr rfl))), ex]
      · simp only [List.length_append, List.length_singleton]; omega
      · simp only [List.length_append]; omega) WF (L0.length + 1) (E L0 none none) (st ++ [.lst (vN [b])]) (by simp only [WF]; omega) ⟨L0, none, none, [b], rfl, rfl, f0, rfl, by simp; omega⟩
  have g : (st ++ [Cell.lst (vN wa)])[st.length]? = some (.lst (vN wa)) := by simp
  have hc := fun (b : Bool) r => hst.cut (rest := r) (v := .bl b) rfl
  have v1 : vN [b] = [.int (b : Nat)] := rfl
  rw [v1] at e
  simp only [E] at e
  refine ⟨decide (le = []), ?_, by rw [decide_eq_true_iff]; exact hi.done ha hb hd⟩
  clear_value L0
  simp [p_fills, l1, k0, e, frz_plain (m := 2) g vN_plain, cmp_eqN, hc]
def FirmP (n : Nat) (rows : List (List Int)) : Prop := 3 ≤ n ∧ ∀ a b, a < b → b < n → Full n rows a b
theorem firm_lot_ok {F : Nat → Option FD} {f s : Nat} (hf : F f = some (p_is_firm_lot s)) (hs : F s = some p_fills) {n : Nat} {rows : List (List Int)} (h : Sq n rows) (hn : n ≤ 100) (j : Nat) {st : Store} (hst : Fine st) :
    ∃ c, runF F (j + 2) f [.tup (vMt rows), .tup (vN (List.range n))] st = .ok (.bl c) st ∧ (c = true ↔ FirmP n rows) := by
  classical
  rw [runF_eq hf rfl]
  by_cases h3 : n < 3
  · refine ⟨false, ?_, ⟨fun k => (nomatch k), fun k => absurd k.1 (by omega)⟩⟩
    have h3' : (n : Int) < 3 := by omega
    simp [p_is_firm_lot, h3']
  have h3' : ¬ (n : Int) < 3 := by omega
  let E : Option Val → Option Val → Option Val → Ev := fun y z w => [some (.tup (vMt rows)), some (.tup (vN (List.range n))), y, z, w]
  let g : Nat → Nat → Option Val := fun a b => if Full n rows a b then none else some (.bl false)
  have lx := forL_find (f := bodyF (runF F (j + 1)) (.tp [2, 3]) (b_pis_firm_lot_2 s)) (clr := []) (I := fun env => ∃ y z' w, env = E y z' w) (st := st) (fun (p : Nat × Nat) => Val.tup [.int (p.2 : Nat), .int (p.1 : Nat)])
    (fun p => ((List.range n).drop (p.2 + 1)).findSome? fun y => g p.1 y) (List.range n).zipIdx (by
      rintro ⟨x, i⟩ hx env ⟨y0, z0, w0, rfl⟩
      have hx' : x < n := List.mem_range.mp (List.fst_mem_of_mem_zipIdx hx)
      have ly := forL_find (f := bodyF (runF F (j + 1)) (.nm 4) (b_pis_firm_lot_1 s)) (clr := []) (I := fun env => ∃ w, env = E (some (.int i)) (some (.int x)) w) (st := st) (fun (i : Nat) => Val.int (i : Int))
        (fun y => g x y) ((List.range n).drop (i + 1)) (by
          rintro y hy env ⟨w0, rfl⟩
          have hy' : y < n := List.mem_range.mp (List.mem_of_mem_drop hy)
          rw [bodyF_eq rfl]
          obtain ⟨c, e, hc⟩ := fills_ok hs h hn hx' hy' j hst
          cases c with
          | false =>
            refine .inl ⟨.bl false, if_neg (fun k => nomatch hc.mpr k), ?_⟩
            simp [b_pis_firm_lot_1, E, e]
          | true =>
            refine .inr ⟨if_pos (hc.mp rfl), E (some (.int i)) (some (.int x)) (some (.int y)), .inl ?_, _, rfl⟩
            simp [b_pis_firm_lot_1, E, e]) (E (some (.int i)) (some (.int x)) w0) ⟨w0, rfl⟩
      rw [bodyF_eq rfl]
      have ec : cut (vN (List.range n)) (some ((i : Int) + 1)) none = vN ((List.range n).drop (i + 1)) := by
        rw [show ((i : Int) + 1) = ((i + 1 : Nat) : Int) by omega, cut_tail, vN_drop]
      rcases ly with ⟨v, g1, e1⟩ | ⟨g1, env1, e1, z1, rfl⟩
      · refine .inl ⟨v, g1, ?_⟩
        rw [← vN] at e1
        simp only [E] at e1 ⊢
        simp [b_pis_firm_lot_2, partE, isNon, ec, e1]
      · refine .inr ⟨g1, E (some (.int i)) (some (.int x)) z1, .inl ?_, some (.int i), some (.int x), z1, rfl⟩
        rw [← vN] at e1
        simp only [E] at e1 ⊢
        simp [b_pis_firm_lot_2, partE, isNon, ec, e1]) (E none none none) ⟨none, none, none, rfl⟩
  have ee : enumV 0 (vN (List.range n)) = (List.range n).zipIdx.map fun (p : Nat × Nat) => Val.tup [.int (p.2 : Nat), .int (p.1 : Nat)] := enumV_map _ _ 0
  have hz : ∀ a b, a < b → b < n → (a, a) ∈ (List.range n).zipIdx ∧ b ∈ (List.range n).drop (a + 1) := fun a b hab hb => by
    refine ⟨?_, ?_⟩
    · rw [List.mem_zipIdx_iff_getElem?]
      exact (List.getElem?_range (by omega))
    · rw [List.mem_drop_iff_getElem]
      exact ⟨b - (a + 1), by simp; omega, by simp; omega⟩
  rcases lx with ⟨v, g1, e1⟩ | ⟨g1, env1, e1, y1, z1, w1, rfl⟩
  · obtain ⟨⟨x, i⟩, hp0, hp⟩ := List.exists_of_findSome?_eq_some g1
    obtain ⟨y, hy0, hy⟩ := List.exists_of_findSome?_eq_some hp
    simp only [g] at hy
    split at hy
    · cases hy
    · rename_i hF
      obtain rfl := Option.some.inj hy
      simp only [E] at e1
      refine ⟨false, by simp [p_is_firm_lot, h3', ee, e1], ⟨fun k => (nomatch k), fun k => absurd (k.2 x y ?_ ?_) hF⟩⟩
      · rw [List.mem_zipIdx_iff_getElem?] at hp0
        rw [List.mem_drop_iff_getElem] at hy0
        obtain ⟨q, hq, rfl⟩ := hy0
        have hi : i < n := by
          have := (List.getElem?_eq_some_iff.mp hp0).1
          simpa using this
        rw [List.getElem?_range hi] at hp0
        have hxi : i = x := Option.some.inj hp0
        rw [List.getElem_range]
        omega
      · exact List.mem_range.mp (List.mem_of_mem_drop hy0)
  · simp only [E] at e1
    refine ⟨true, by simp [p_is_firm_lot, h3', ee, e1], ⟨fun _ => ⟨by omega, fun a b hab hb => ?_⟩, fun _ => rfl⟩⟩
    obtain ⟨m1, m2⟩ := hz a b hab hb
    have := List.findSome?_eq_none_iff.mp (List.findSome?_eq_none_iff.mp g1 _ m1) b m2
    simp only [g] at this
    exact Classical.byContradiction fun k => by rw [if_neg k] at this; cases this
theorem is_firm_ok {F : Nat → Option FD} {f l s : Nat} (hf : F f = some (p_is_firm l)) (hlo : F l = some (p_is_firm_lot s)) (hs : F s = some p_fills) {n : Nat} {rows : List (List Int)} (h : Sq n rows) (hn : n ≤ 100) (j : Nat) {st : Store} (hst : Fine st) :
    ∃ c, runF F (j + 3) f [vT rows] st = .ok (.bl c) st ∧ (c = true ↔ FirmP n rows) := by
  obtain ⟨c, e, hc⟩ := firm_lot_ok hlo hs h hn j hst
  refine ⟨c, ?_, hc⟩
  rw [runF_eq hf rfl]
  have ev : vT rows = .tup [.int n, .tup (vMt rows)] := by rw [vT, h.1]
  have c1 : (-1000000 : Int) ≤ (n : Int) ∧ (n : Int) ≤ 1000000 := by omega
  have a1 : L2.atI [Val.int (n : Int), Val.tup (vMt rows)] 1 = some (.tup (vMt rows)) := rfl
  have a0 : L2.atI [Val.int (n : Int), Val.tup (vMt rows)] 0 = some (.int n) := rfl
  have er : rngV 0 n = vN (List.range n) := rngV_map n
  simp [p_is_firm, ev, a1, a0, c1, er, e]
end Cd

set_option Elab.async false
set_option linter.all false
set_option maxRecDepth 100000
set_option maxHeartbeats 16000000
/-! CdA0: copies of rows (as in CoB3). -/
namespace Cd
open Co Cp
open PySem

/-- a copy of rows that stands in the store -/
theorem compL_copy {f : Val → Store → R (Option Val)} {α : Type} (e : α → Val) (c : α → Cell) : ∀ (xs : List α) (s : Store), (∀ x ∈ xs, ∀ s, f (e x) s = .ok (some (.ref s.length)) (s ++ [c x])) → compL f (xs.map e) s = .ok (refs s.length xs.length) (s ++ xs.map c)
  | [], s, _ => by simp [compL, refs]
  | x :: xs, s, h => by
    simp only [List.map_cons, compL, h x (by simp) s, R.bind_ok, compL_copy e c xs (s ++ [c x]) fun y hy => h y (by simp [hy])]
    congr 1
    · unfold refs
      rw [List.length_cons, List.range_succ_eq_map, List.map_cons, List.map_map]
      congr 1
      refine List.map_congr_left fun i _ => ?_
      simp only [Function.comp_apply, List.length_append, List.length_cons, List.length_nil]
      congr 1
      omega
    · simp
theorem biv_listl (xs : List Val) (st : Store) : biv .list true [.lst xs] st = .ok (.ref st.length) (st ++ [.lst xs]) := rfl
end Cd

set_option Elab.async false
set_option linter.all false
set_option maxRecDepth 100000
set_option maxHeartbeats 16000000
/-! CdA5: core, named, set_in. -/
namespace Cd
open Co Cp
open PySem

theorem Old.deads {rest : Store} (h : Old rest) (m : Nat) : Old (rest ++ List.replicate m .dead) := by
  refine Old.app h ?_
  rw [List.all_eq_true]
  intro c hc
  rw [List.eq_of_mem_replicate hc]
  rfl
theorem deads_app (rest : Store) (a b : Nat) : rest ++ List.replicate a Cell.dead ++ List.replicate b Cell.dead = rest ++ List.replicate (a + b) .dead := by
  rw [List.append_assoc, List.replicate_append_replicate]
theorem rep_one (n : Nat) (w : Int) : rep (n : Int) [.int w] = vI (List.replicate n w) := by
  unfold rep vI
  rw [Int.toNat_natCast, List.map_replicate]
  induction n with
  | zero => rfl
  | succ n ih => rw [List.replicate_succ, List.flatten_cons, ih]; rfl
theorem sq_rep (n : Nat) {w : Int} (hw : 0 ≤ w ∧ w < 100) : Sq n (List.replicate n (List.replicate n w)) := by
  refine ⟨by simp, fun r hr => ?_⟩
  rw [List.eq_of_mem_replicate hr]
  refine ⟨by simp, fun x hx => ?_⟩
  rw [List.eq_of_mem_replicate hx]
  exact hw
/-- a table that is laid into the store -/
theorem mat_new {st rest : Store} {n : Nat} {rows : List (List Int)} (h : Sq n rows) (p : Pool st rest) : MatAt (st ++ mats rows ++ [.lst (refs (rest.length + 2) n)]) rest rows n := by
  refine ⟨?_, h⟩
  have := p.app (mats rows ++ [.lst (refs (rest.length + 2) n)])
  rwa [← List.append_assoc, ← List.append_assoc] at this
theorem core_ok {F : Nat → Option FD} {f rw' fi sp g m o : Nat} (hf : F f = some (a_core rw' fi)) (hrw : F rw' = some (a_rows g m o)) (hfi : F fi = some (Cd.a_is_firm sp)) (hsp : F sp = some a_spread) (hm' : F m = some (a_mixed g)) (ho' : F o = some (a_one g)) (hg : F g = some Cd.a_draw) (n k : Nat) (hk : k ≤ 50) {sh : List Int} (hsh : ShOk sh) (h2 : 2 ≤ sh.length) {st rest : Store} (p : Pool st rest) (ho : Old rest) :
    ∃ rows st', runF F (n + 4) f [.ref 1, .int k, .lst (vI sh)] st = .ok (.lst (vM rows)) st' ∧ Pool st' rest ∧ Sq k rows := by
  rw [runF_eq hf rfl]
  have c1 : (-1000000 : Int) ≤ (k : Int) ∧ (k : Int) ≤ 1000000 := by omega
  let E : Option Val → Option Val → Ev := fun t r => [some (.ref 1), some (.int k), some (.lst (vI sh)), t, r, none, none]
  have er : rngV 0 k = vN (List.range k) := rngV_map k
  have main := forL_ret (f := bodyF (runF F (n + 3)) (.nm 3) (b_core_1 rw' fi)) (clr := []) (I := fun i env s => ∃ t r d, env = E t r ∧ Pool s (rest ++ List.replicate d .dead))
    (P := fun v s => ∃ rows d, v = .lst (vM rows) ∧ Sq k rows ∧ Pool s (rest ++ List.replicate d .dead)) (rngV 0 5) 0 (by
      rintro i w hw env s ⟨t, r, d, rfl, ps⟩
      obtain ⟨rows, s1, e1, m1⟩ := rows_ok hrw hm' ho' hg n k hk hsh h2 ps (Old.deads ho d)
      obtain ⟨s2, e2, p2⟩ := m1.frz
      rw [deads_app] at p2
      obtain ⟨b, e3⟩ := law_firm_ok hfi hsp m1.sq (by omega) (lot := List.range k) (fun x hx => List.mem_range.mp hx) (by simp; omega) (n + 1) (p2.fine (Old.deads ho _))
      simp only [List.length_append, List.length_replicate] at e1 e2
      cases b with
      | true =>
        refine .inr ⟨_, s2, ?_, rows, _, rfl, m1.sq, p2⟩
        rw [bodyF_eq rfl]
        simp [b_core_1, E, e1, e2, er, e3, c1, frz_id (v := .lst (vM rows)) (fun i e => by cases e)]
      | false =>
        refine .inl ⟨E (some w) (some (.lst (vM rows))), s2, .inl ?_, _, _, _, rfl, p2⟩
        rw [bodyF_eq rfl]
        simp [b_core_1, E, e1, e2, er, e3, c1]) (E none none) st ⟨none, none, 0, rfl, by simpa using p⟩
  simp only [E] at main
  have r5 : rngV 0 (Int.toNat 5) = rngV 0 5 := rfl
  rcases main with ⟨env', s', e, t, r, d, rfl, ps⟩ | ⟨v, s', e, rows, d, rfl, hsq, ps⟩
  · obtain ⟨w0, q0, v0⟩ := sh_at hsh (i := 0) (by omega)
    obtain ⟨w1, q1, v1⟩ := sh_at hsh (i := 1) (by omega)
    have q0' : L2.atI (vI sh) 0 = some (.int w0) := by simpa using q0
    have q1' : L2.atI (vI sh) 1 = some (.int w1) := by simpa using q1
    have l1 : ¬ LIM < k := by simp only [LIM]; omega
    have kc : compL (turnP (runF F (n + 3)) c_core_1 (.nm 6) (.cst (.bl true)) (E t r) [6]) (rngV 0 k) s' = .ok (refs s'.length k) (s' ++ List.replicate k (.lst (vI (List.replicate k w0)))) := by
      have := compL_new (f := turnP (runF F (n + 3)) c_core_1 (.nm 6) (.cst (.bl true)) (E t r) [6]) (c := .lst (vI (List.replicate k w0))) (rngV 0 k) s' fun x hx s => by
        rw [turnP_eq rfl]
        have h2 : (k : Int) ≤ 1000 ∧ (-1000 : Int) ≤ k := by omega
        simp [c_core_1, E, q0', bin, h2, rep_one]
      rwa [rngV_len] at this
    have em : List.replicate k (Cell.lst (vI (List.replicate k w0))) = mats (List.replicate k (List.replicate k w0)) := by simp [mats]
    rw [em, ps.len] at kc
    have m0 := mat_new (sq_rep k v0) ps
    have hlen : (s' ++ mats (List.replicate k (List.replicate k w0))).length = (rest ++ List.replicate d Cell.dead).length + 2 + k := by simp [ps.len, mats]
    generalize hR : rest ++ List.replicate d Cell.dead = R at *
    generalize List.replicate k (List.replicate k w0) = z at *
    let G : Option Val → Ev := fun x => [some (.ref 1), some (.int k), some (.lst (vI sh)), t, some (.ref (R.length + 2 + k)), x, none]
    obtain ⟨env', s2, e2, x, rows, rfl, m2⟩ := forL_inv (f := bodyF (runF F (n + 3)) (.nm 5) b_core_2) (clr := []) (I := fun i env s => ∃ x rows, env = G x ∧ MatAt s R rows k) (rngV 0 k) 0 (by
      rintro x w hw env s ⟨x0, rows, rfl, hm⟩
      obtain ⟨hx, rfl⟩ := rngV_get hw
      obtain ⟨r3, s3, _, q3, m3⟩ := hm.put hx hx (v := 0) (by omega)
      by_cases hx1 : x + 1 < k
      · obtain ⟨r4, s4, _, q4, m4⟩ := m3.put (y := x) (x := x + 1) hx hx1 v1
        refine ⟨G (some (.int x)), s4, ?_, _, _, rfl, m4⟩
        rw [bodyF_eq rfl]
        have hx1' : (x : Int) + 1 < k := by omega
        have q4' : setv (.ref (R.length + 2 + x)) (.int ((x : Int) + 1)) (.int w1) s3 = .ok () s4 := by
          rw [show ((x : Int) + 1) = ((x + 1 : Nat) : Int) by omega]; exact q4
        simp [b_core_2, G, dr_ref hm.all, dr_ref m3.all, refs_atI (m := R.length + 2) hx, q3, hx1', q1', q4']
      · refine ⟨G (some (.int x)), s3, ?_, _, _, rfl, m3⟩
        rw [bodyF_eq rfl]
        have hx1' : ¬ (x : Int) + 1 < k := by omega
        simp [b_core_2, G, dr_ref hm.all, refs_atI (m := R.length + 2) hx, q3, hx1']) (G none) _ ⟨none, _, rfl, m0⟩
    obtain ⟨s3, e3, p3⟩ := m2.frz
    rw [← hR, deads_app] at p3
    refine ⟨rows, _, ?_, p3.take, m2.sq⟩
    simp only [G, List.append_assoc] at e2
    simp only [E] at kc
    simp [a_core, r5, e, c1, l1, rngV_len, kc, hlen, e2, e3, p.len, frz_id (v := .lst (vM rows)) (fun i e => by cases e), Pool.cut p3 ho (below_vM _ _)]
  · refine ⟨rows, _, ?_, ps.take, hsq⟩
    simp [a_core, r5, e, p.len, Pool.cut ps ho (below_vM _ _)]
def Nam (n : Nat) (names : List Int) : Prop := names.length = n ∧ ∀ x ∈ names, 0 ≤ x ∧ x < n
theorem Nam.at_ {n : Nat} {names : List Int} (h : Nam n names) {i : Nat} (hi : i < n) : nmAt names i < n ∧ L2.atI (vI names) (i : Int) = some (.int (nmAt names i)) := by
  have h1 : i < names.length := by rw [h.1]; exact hi
  have h2 := h.2 _ (List.getElem_mem h1)
  have e : nmAt names i = (names[i]).toNat := by simp [nmAt, List.getD, h1]
  refine ⟨by omega, ?_⟩
  rw [vI_atI h1]
  congr 2
  omega
theorem named_ok {F : Nat → Option FD} {f : Nat} (hf : F f = some a_named) (n j : Nat) (hn : n ≤ 100) {rows : List (List Int)} (hr : Sq n rows) {names : List Int} (hnm : Nam n names) {st rest : Store} (p : Pool st rest) (ho : Old rest) :
    ∃ rows' st', runF F (j + 1) f [.lst (vM rows), .lst (vI names)] st = .ok (.lst (vM rows')) st' ∧ Pool st' rest ∧ Sq n rows' := by
  rw [runF_eq hf rfl]
  have c1 : (-1000000 : Int) ≤ (n : Int) ∧ (n : Int) ≤ 1000000 := by omega
  have l1 : ¬ LIM < n := by simp only [LIM]; omega
  have hc : compL (turnP (runF F j) c_named_1 (.nm 5) (.cst (.bl true)) [some (.lst (vM rows)), some (.lst (vI names)), none, none, none, none] [5]) (vM rows) st = .ok (refs (rest.length + 2) n) (st ++ mats rows) := by
    have := compL_copy (f := turnP (runF F j) c_named_1 (.nm 5) (.cst (.bl true)) [some (.lst (vM rows)), some (.lst (vI names)), none, none, none, none] [5]) (fun r => Val.lst (vI r)) (fun r => Cell.lst (vI r)) rows st fun r _ s => by
      rw [turnP_eq rfl]
      simp [c_named_1, biv_listl]
    rw [p.len, hr.1] at this
    exact this
  have m0 := mat_new hr p
  have hlen : (st ++ mats rows).length = rest.length + 2 + n := by simp [p.len, hr.1]
  let E : Option Val → Option Val → Ev := fun x y => [some (.lst (vM rows)), some (.lst (vI names)), some (.ref (rest.length + 2 + n)), x, y, none]
  obtain ⟨env', s', e, x, y, rows', rfl, hm⟩ := forL_inv (f := bodyF (runF F j) (.nm 3) b_named_2) (clr := []) (I := fun i env s => ∃ x y rows', env = E x y ∧ MatAt s rest rows' n) (rngV 0 n) 0 (by
    rintro x w hw env s ⟨x0, y0, rows', rfl, hm⟩
    obtain ⟨hx, rfl⟩ := rngV_get hw
    obtain ⟨env', s', e, y', rows', rfl, hm'⟩ := forL_inv (f := bodyF (runF F j) (.nm 4) b_named_1) (clr := []) (I := fun i env s => ∃ y rows', env = E (some (.int x)) y ∧ MatAt s rest rows' n) (rngV 0 n) 0 (by
      rintro y w hw env s ⟨y0, rows', rfl, hm⟩
      obtain ⟨hy, rfl⟩ := rngV_get hw
      obtain ⟨b1, a1⟩ := hnm.at_ hx
      obtain ⟨b2, a2⟩ := hnm.at_ hy
      obtain ⟨r1, s3, h1, e1, m3⟩ := hm.put b1 b2 (hr.bd hx hy)
      refine ⟨E (some (.int x)) (some (.int y)), s3, ?_, _, _, rfl, m3⟩
      rw [bodyF_eq rfl]
      simp [b_named_1, E, a1, a2, hr.row hx, hr.cel hx hy, dr_ref hm.all, refs_atI (m := rest.length + 2) b1, e1]) (E (some (.int x)) y0) s ⟨y0, rows', rfl, hm⟩
    refine ⟨E (some (.int x)) y', s', ?_, _, _, _, rfl, hm'⟩
    rw [bodyF_eq rfl]
    simp only [E] at e ⊢
    simp [b_named_2, hr.1, c1, e]) (E none none) _ ⟨none, none, _, rfl, m0⟩
  obtain ⟨s3, e3, p3⟩ := hm.frz
  refine ⟨rows', _, ?_, p3.take, hm.sq⟩
  simp only [E, List.append_assoc] at e
  simp [a_named, hr.1, c1, l1, hc, hlen, e, e3, p.len, frz_id (v := .lst (vM rows')) (fun i e => by cases e), Pool.cut p3 ho (below_vM _ _)]
def vP2 (ps : List (Nat × Nat)) : List Val := ps.map fun p => .tup [.int (p.1 : Nat), .int (p.2 : Nat)]
def own2 (n at' k : Nat) : List (Nat × Nat) := ((List.range at').map fun i => (i, 0)) ++ ((List.range k).map fun d => (at', d)) ++ ((List.range (n - (at' + 1))).map fun i => (at' + 1 + i, 0))
theorem own2_len {n at' k : Nat} (h : at' < n) : (own2 n at' k).length = n + k - 1 := by
  simp [own2]; omega
theorem own2_mem {n at' k : Nat} (h : at' < n) {p : Nat × Nat} (hp : p ∈ own2 n at' k) : p.1 < n ∧ (p.1 = at' → p.2 < k) := by
  simp only [own2, List.mem_append, List.mem_map, List.mem_range] at hp
  rcases hp with (⟨i, hi, rfl⟩ | ⟨j, hj, rfl⟩) | ⟨i, hi, rfl⟩
  · exact ⟨by simp; omega, fun e => by simp at e; omega⟩
  · exact ⟨h, fun _ => hj⟩
  · exact ⟨by simp; omega, fun e => by simp at e; omega⟩
theorem set_in_ok {F : Nat → Option FD} {f : Nat} (hf : F f = some a_set_in) (n at' k j : Nat) (ha : at' < n) (hn : n ≤ 100) (hk : k ≤ 100) {rows more : List (List Int)} (hr : Sq n rows) (hm : Sq k more) {st : Store} (hs : Fine st) :
    ∃ rows', runF F (j + 1) f [.lst (vM rows), .int at', .lst (vM more)] st = .ok (.lst (vM rows')) st ∧ Sq (n + k - 1) rows' := by
  rw [runF_eq hf rfl]
  have c1 : (-1000000 : Int) ≤ (at' : Int) ∧ (at' : Int) ≤ 1000000 := by omega
  have c2 : (-1000000 : Int) ≤ (k : Int) ∧ (k : Int) ≤ 1000000 := by omega
  have c3 : (-1000000 : Int) ≤ (at' : Int) + 1 ∧ (at' : Int) + 1 ≤ 1000000 ∧ (-1000000 : Int) ≤ (n : Int) ∧ (n : Int) ≤ 1000000 := by omega
  have l1 : ¬ LIM < at' := by simp only [LIM]; omega
  have l2 : ¬ LIM < k := by simp only [LIM]; omega
  have l3 : ¬ LIM < n - (at' + 1) := by simp only [LIM]; omega
  have e3 : ((n : Int) - (at' + 1)).toNat = n - (at' + 1) := by omega
  have k1 : ∀ env : Ev, compL (turnP (runF F j) c_set_in_1 (.nm 5) (.cst (.bl true)) [some (.lst (vM rows)), some (.int at'), some (.lst (vM more)), none, none, none, none, none, none] [5]) (rngV 0 at') st = .ok (vP2 ((List.range at').map fun i => (i, 0))) st := fun env => by
    rw [compL_rng fun i => .tup [.int i, .int 0]]
    · simp [vP2, Function.comp_def]
    · intro i _
      rw [turnP_eq rfl]
      simp [c_set_in_1]
  have k1 := k1 []
  have k2 : compL (turnP (runF F j) c_set_in_2 (.nm 7) (.cst (.bl true)) [some (.lst (vM rows)), some (.int at'), some (.lst (vM more)), none, none, none, none, none, none] [7]) (rngV 0 k) st = .ok (vP2 ((List.range k).map fun i => (at', i))) st := by
    rw [compL_rng fun i => .tup [.int at', .int i]]
    · simp [vP2, Function.comp_def]
    · intro i _
      rw [turnP_eq rfl]
      simp [c_set_in_2]
  let S0 : Store := st ++ [.lst []]
  have k3 : ∀ wh, compL (turnP (runF F j) c_set_in_1 (.nm 5) (.cst (.bl true)) [some (.lst (vM rows)), some (.int at'), some (.lst (vM more)), some (.lst wh), some (.ref st.length), none, none, none, none] [5]) (rngV ((at' : Int) + 1) (n - (at' + 1))) S0 = .ok (vP2 ((List.range (n - (at' + 1))).map fun i => (at' + 1 + i, 0))) S0 := fun wh => by
    rw [compL_rng fun i => .tup [.int ((at' : Int) + 1 + i), .int 0]]
    · simp [vP2, Function.comp_def]
    · intro i _
      rw [turnP_eq rfl]
      simp [c_set_in_1]
  have vpa : ∀ a b, vP2 a ++ vP2 b = vP2 (a ++ b) := fun a b => by simp [vP2]
  have vpl : ∀ a, (vP2 a).length = a.length := fun a => by simp [vP2]
  have ad1 : ∀ s, bin .add false (.lst (vP2 ((List.range at').map fun i => (i, 0)))) (.lst (vP2 ((List.range k).map fun i => (at', i)))) s = .ok (.lst (vP2 (((List.range at').map fun i => (i, 0)) ++ ((List.range k).map fun i => (at', i))))) s := fun s => by
    rw [add_lst' (by simp [vpl]; omega), vpa]; rfl
  have ad2 : ∀ s, bin .add false (.lst (vP2 (((List.range at').map fun i => (i, 0)) ++ ((List.range k).map fun i => (at', i))))) (.lst (vP2 ((List.range (n - (at' + 1))).map fun i => (at' + 1 + i, 0)))) s = .ok (.lst (vP2 (own2 n at' k))) s := fun s => by
    rw [add_lst' (by simp [vpl]; omega), vpa]; rfl
  have hol := own2_len (k := k) ha
  have hom := fun {q} => own2_mem (k := k) ha (p := q)
  generalize own2 n at' k = own at hol hom ad2
  have lo : ¬ LIM < own.length := by simp only [LIM]; omega
  let pv : Nat × Nat → Nat × Nat → Int := fun q u => if q.1 = at' ∧ u.1 = at' then cel more q.2 u.2 else cel rows q.1 u.1
  have pvb : ∀ q ∈ own, ∀ u ∈ own, 0 ≤ pv q u ∧ pv q u < 100 := by
    intro q hq u hu
    obtain ⟨hx, dx⟩ := hom hq
    obtain ⟨hy, dy⟩ := hom hu
    by_cases h1 : q.1 = at' ∧ u.1 = at'
    · simp only [pv, if_pos h1]
      exact hm.bd (dx h1.1) (dy h1.2)
    · simp only [pv, if_neg h1]
      exact hr.bd hx hy
  let E : Option Val → Option Val → Option Val → Option Val → Ev := fun x y u v => [some (.lst (vM rows)), some (.int at'), some (.lst (vM more)), some (.lst (vP2 own)), some (.ref st.length), x, y, u, v]
  have turn : ∀ q ∈ own, ∀ (u v : Option Val) (s : Store), compL (turnP (runF F j) c_set_in_3 (.tp [7, 8]) (.cst (.bl true)) (E (some (.int (q.1 : Nat))) (some (.int (q.2 : Nat))) u v) [7, 8]) (vP2 own) s = .ok (vI (own.map (pv q))) s := by
    intro q hq u v s
    obtain ⟨hx, dx⟩ := hom hq
    unfold vI
    rw [List.map_map]
    refine compL_to (fun (p : Nat × Nat) => Val.tup [.int (p.1 : Nat), .int (p.2 : Nat)]) _ own fun w hw => ?_
    obtain ⟨hy, dy⟩ := hom hw
    rw [turnP_eq rfl]
    by_cases h1 : q.1 = at' ∧ w.1 = at'
    · have d1 := dx h1.1
      have d2 := dy h1.2
      simp [c_set_in_3, E, pv, h1.1, h1.2, hm.row d1, hm.cel d1 d2]
    · by_cases h2 : q.1 = at'
      · have h3 : ¬ w.1 = at' := fun e => h1 ⟨h2, e⟩
        have h3' : ¬ ((w.1 : Nat) : Int) = (at' : Int) := by omega
        simp [c_set_in_3, E, pv, h2, h3, h3', hr.row ha, hr.cel ha hy]
      · have h2' : ¬ ((q.1 : Nat) : Int) = (at' : Int) := by omega
        simp [c_set_in_3, E, pv, h2, h2', hr.row hx, hr.cel hx hy]
  obtain ⟨env', s', e, x, y, u, v, rows', rfl, rfl, h'⟩ := forL_inv (f := bodyF (runF F j) (.tp [5, 6]) b_set_in_1) (clr := []) (I := fun i env s => ∃ x y u v rows', env = E x y u v ∧ s = st ++ [.lst (vM rows')] ∧ rows' = (own.take i).map fun q => own.map (pv q)) (vP2 own) 0 (by
    rintro i z hz env s ⟨x, y, u, v, rows', rfl, rfl, h'⟩
    obtain ⟨q, hqi, rfl⟩ : ∃ q, own[i]? = some q ∧ z = .tup [.int (q.1 : Nat), .int (q.2 : Nat)] := by
      unfold vP2 at hz
      rw [List.getElem?_map] at hz
      cases e : own[i]? with
      | none => rw [e] at hz; cases hz
      | some q => rw [e] at hz; cases hz; exact ⟨q, rfl, rfl⟩
    have hq := List.mem_of_getElem? hqi
    rw [Nat.zero_add] at h' ⊢
    have t1 := turn q hq u v (st ++ [.lst (vM rows')])
    have g : (st ++ [Cell.lst (vM rows')])[st.length]? = some (.lst (vM rows')) := by simp
    have hi : i < own.length := (List.getElem?_eq_some_iff.mp hqi).1
    have lr : rows'.length ≤ i := by rw [h']; simp; omega
    have lq : (vM rows').length < LIM := by simp only [vM_len, LIM]; omega
    generalize hrr : own.map (pv q) = r at t1
    refine ⟨E (some (.int (q.1 : Nat))) (some (.int (q.2 : Nat))) u v, st ++ [.lst (vM (rows' ++ [r]))], ?_, _, _, u, v, rows' ++ [r], rfl, rfl, ?_⟩
    · rw [bodyF_eq rfl]
      simp only [E] at t1 ⊢
      simp [b_set_in_1, mth_ref g (.inl rfl), vpl, lo, t1, app_ref g lq]
      simp [vM]
    · rw [List.take_add_one, hqi, List.map_append, ← h', ← hrr]
      rfl) (E none none none none) S0 ⟨none, none, none, none, [], rfl, rfl, by simp⟩
  have h' : rows' = own.map fun q => own.map (pv q) := by simpa [vpl] using h'
  refine ⟨rows', ?_, ⟨by rw [h']; simp; omega, fun r hr => ?_⟩⟩
  · have g : (st ++ [Cell.lst (vM rows')])[st.length]? = some (.lst (vM rows')) := by simp
    have hc := fun r => hs.cut (rest := r) (v := .lst (vM rows')) (below_vM _ rows')
    simp only [E] at e
    simp only [S0] at e k3
    simp [-kRng3_ok, a_set_in, c1, l1, rngV_len, k1, hm.1, c2, l2, k2, ad1, hr.1, kRng3_n c3, e3, l3, k3, ad2, e, frz_vM (m := 2) g, frz_id (v := .lst (vM rows')) (fun i e => by cases e), hc]
  · rw [h'] at hr
    obtain ⟨q, hq, rfl⟩ := List.mem_map.mp hr
    refine ⟨by simp; omega, fun v hv => ?_⟩
    obtain ⟨u, hu, rfl⟩ := List.mem_map.mp hv
    exact pvb q hq u hu
end Cd

set_option Elab.async false
set_option linter.all false
set_option maxRecDepth 100000
set_option maxHeartbeats 16000000
/-! CdA6: small, made, any, changed, turned. -/
namespace Cd
open Co Cp
open PySem

theorem frz_vMi (m : Nat) (rows : List (List Int)) (st : Store) : frzV m (.lst (vM rows)) st = some (.lst (vM rows), st) := frz_id (v := .lst (vM rows)) (fun i e => by cases e)
theorem small_ok {F : Nat → Option FD} {f co rw' fi sp g m o : Nat} (hf : F f = some (a_small g rw' co o)) (hco : F co = some (a_core rw' fi)) (hrw : F rw' = some (a_rows g m o)) (hfi : F fi = some (Cd.a_is_firm sp)) (hsp : F sp = some a_spread) (hm' : F m = some (a_mixed g)) (ho' : F o = some (a_one g)) (hg : F g = some Cd.a_draw) (n k : Nat) (hk : k ≤ 50) {sh : List Int} (hsh : ShOk sh) (h2 : 2 ≤ sh.length) {st rest : Store} (p : Pool st rest) (ho : Old rest) :
    ∃ rows st', runF F (n + 5) f [.ref 1, .int k, .lst (vI sh)] st = .ok (.lst (vM rows)) st' ∧ Pool st' rest ∧ Sq k rows := by
  rw [runF_eq hf rfl]
  have c1 : (-1000000 : Int) ≤ (k : Int) ∧ (k : Int) ≤ 1000000 := by omega
  obtain ⟨way, s1, e1, p1, b1⟩ := draw_nat hg (n + 3) 4 4 rfl (by omega) (by omega) p
  obtain ⟨rows0, s2, e2, m2⟩ := rows_ok hrw hm' ho' hg (n + 1) k hk hsh h2 p1 ho
  by_cases hw : way = 2 ∧ 2 < k
  · obtain ⟨rows, s3, e3, p3, hsq⟩ := core_ok hco hrw hfi hsp hm' ho' hg n k hk hsh h2 m2.pool (m2.old ho)
    have hk2 : (2 : Int) < k := by omega
    have p3' : Pool s3 (rest ++ (mats rows0 ++ [.lst (refs (rest.length + 2) k)])) := by rw [← List.append_assoc]; exact p3
    refine ⟨rows, _, ?_, p3'.take, hsq⟩
    obtain ⟨rfl, hk3⟩ := hw
    simp [a_small, e1, e2, hk2, hk3, e3, p.len, Pool.cut p3' ho (below_vM _ _)]
  · have hw' : ¬ ((way : Int) = 2 ∧ (2 : Int) < k) := by omega
    have hcond : ∀ s, bAnd (decide ((way : Int) = 2)) s (.ok (.bl (decide ((2 : Int) < k))) s) = .ok (.bl false) s := fun s => by
      unfold bAnd
      by_cases h : (way : Int) = 2
      · have h3 : ¬ (2 : Int) < k := fun h3 => hw' ⟨h, h3⟩
        simp [h, h3]
      · simp [h]
    let E : Option Val → Option Val → Option Val → Ev := fun l y x => [some (.ref 1), some (.int k), some (.lst (vI sh)), some (.int way), some (.ref (rest.length + 2 + k)), l, y, x]
    by_cases h2w : way < 2
    · obtain ⟨k1, t1, d1, r1, u1⟩ := one_sh ho' hg (n + 2) hsh m2.pool
      obtain ⟨k2, t2, d2, r2, u2⟩ := one_sh ho' hg (n + 2) hsh r1
      have m3 := m2.pool' r2
      have hlw : ∃ v : Int, L2.atI [Val.int k1, .int k2] (way : Int) = some (.int v) ∧ 0 ≤ v ∧ v < 100 := by
        rcases (show way = 0 ∨ way = 1 by omega) with rfl | rfl
        · exact ⟨k1, rfl, u1⟩
        · exact ⟨k2, rfl, u2⟩
      obtain ⟨v, av, bv⟩ := hlw
      have a0 : L2.atI [Val.int k1, .int k2] 0 = some (.int k1) := rfl
      obtain ⟨env', s', e, y, x, rows, rfl, hm⟩ := forL_inv (f := bodyF (runF F (n + 4)) (.nm 6) b_small_2) (clr := []) (I := fun i env s => ∃ y x rows, env = E (some (.lst [.int k1, .int k2])) y x ∧ MatAt s rest rows k) (rngV 0 k) 0 (by
        rintro y w hw env s ⟨y0, x0, rows, rfl, hm⟩
        obtain ⟨hy, rfl⟩ := rngV_get hw
        obtain ⟨env', s', e, x', rows', rfl, hm'⟩ := forL_inv (f := bodyF (runF F (n + 4)) (.nm 7) b_small_1) (clr := []) (I := fun i env s => ∃ x rows, env = E (some (.lst [.int k1, .int k2])) (some (.int y)) x ∧ MatAt s rest rows k) (rngV 0 y) 0 (by
          rintro x w hw env s ⟨x0, rows, rfl, hm⟩
          obtain ⟨hx, rfl⟩ := rngV_get hw
          have hxk : x < k := by omega
          obtain ⟨r3, s3, _, q3, m4⟩ := hm.put (y := x) (x := y) hxk hy u1
          obtain ⟨r4, s4, _, q4, m5⟩ := m4.put (y := y) (x := x) hy hxk bv
          refine ⟨E (some (.lst [.int k1, .int k2])) (some (.int y)) (some (.int x)), s4, ?_, _, _, rfl, m5⟩
          rw [bodyF_eq rfl]
          simp [E, b_small_1, a0, av, dr_ref hm.all, dr_ref m4.all, refs_atI (m := rest.length + 2) hxk, refs_atI (m := rest.length + 2) hy, q3, q4]) (E (some (.lst [.int k1, .int k2])) (some (.int y)) x0) s ⟨x0, rows, rfl, hm⟩
        refine ⟨E (some (.lst [.int k1, .int k2])) (some (.int y)) x', s', ?_, _, _, _, rfl, hm'⟩
        rw [bodyF_eq rfl]
        have c2 : (-1000000 : Int) ≤ (y : Int) ∧ (y : Int) ≤ 1000000 := by omega
        simp only [E] at e ⊢
        simp [b_small_2, c2, e]) (E (some (.lst [.int k1, .int k2])) none none) t2 ⟨none, none, _, rfl, m3⟩
      obtain ⟨s3, e3, p3⟩ := hm.frz
      have h2w' : (way : Int) < 2 := by omega
      refine ⟨rows, _, ?_, p3.take, hm.sq⟩
      simp only [E] at e
      simp [a_small, e1, e2, hcond, h2w', d1, d2, c1, e, e3, frz_vMi, p.len, Pool.cut p3 ho (below_vM _ _)]
    · obtain ⟨s3, e3, p3⟩ := m2.frz
      have h2w' : ¬ (way : Int) < 2 := by omega
      refine ⟨rows0, _, ?_, p3.take, m2.sq⟩
      simp [a_small, e1, e2, hcond, h2w', e3, frz_vMi, p.len, Pool.cut p3 ho (below_vM _ _)]
theorem sq_one : Sq 1 [[0]] := by
  refine ⟨rfl, fun r hr => ?_⟩
  rw [List.mem_singleton.mp hr]
  exact ⟨rfl, fun x hx => by rw [List.mem_singleton.mp hx]; omega⟩
theorem sq_nil : Sq 0 [] := ⟨rfl, fun r hr => nomatch hr⟩
theorem names_nam {n : Nat} {names : List Int} (h : Names n names) : Nam n names := ⟨h.1, h.2.1⟩
theorem min2_ok (a b : Int) (st : Store) : biv .min2 false [.int a, .int b] st = .ok (.int (if b < a then b else a)) st := by
  simp only [biv]
theorem made_ok {F : Nat → Option FD} {f si sm na co rw' fi sp g m o : Nat} (hf : F f = some (a_made g si sm na m)) (hsi : F si = some a_set_in) (hsm : F sm = some (a_small g rw' co o)) (hna : F na = some a_named) (hco : F co = some (a_core rw' fi)) (hrw : F rw' = some (a_rows g m o)) (hfi : F fi = some (Cd.a_is_firm sp)) (hsp : F sp = some a_spread) (hm' : F m = some (a_mixed g)) (ho' : F o = some (a_one g)) (hg : F g = some Cd.a_draw) (n k : Nat) (hk : k ≤ 50) {sh : List Int} (hsh : ShOk sh) (h2 : 2 ≤ sh.length) {st rest : Store} (p : Pool st rest) (ho : Old rest) :
    ∃ rows st', runF F (n + 6) f [.ref 1, .int k, .lst (vI sh)] st = .ok (.lst (vM rows)) st' ∧ Pool st' rest ∧ Sq k rows := by
  rw [runF_eq hf rfl]
  have c1 : (-1000000 : Int) ≤ (k : Int) ∧ (k : Int) ≤ 1000000 := by omega
  have l1 : ¬ LIM < k := by simp only [LIM]; omega
  let E : Option Val → Option Val → Option Val → Option Val → Ev := fun r t u w => [some (.ref 1), some (.int k), some (.lst (vI sh)), r, t, u, none, w]
  have start : ∃ (q : Nat) (rows0 : List (List Int)), (if (1 : Int) < k then (1 : Int) else k) = (q : Int) ∧ q ≤ 1 ∧ Sq (min k 1) rows0 ∧ compL (turnP (runF F (n + 5)) c_made_1 (.nm 6) (.cst (.bl true)) [some (.ref 1), some (.int k), some (.lst (vI sh)), none, none, none, none, none] [6]) (rngV 0 q) st = .ok (vM rows0) st := by
    by_cases h0 : k = 0
    · subst h0
      exact ⟨0, [], rfl, by omega, sq_nil, rfl⟩
    · exact ⟨1, [[0]], by split <;> omega, by omega, by rw [show min k 1 = 1 by omega]; exact sq_one, rfl⟩
  obtain ⟨q0, rows0, eq0, hq0, hs0, e0⟩ := start
  have cq : (-1000000 : Int) ≤ (q0 : Int) ∧ (q0 : Int) ≤ 1000000 := by omega
  have lq : ¬ LIM < q0 := by simp only [LIM]; omega
  obtain ⟨env', s', e, r, t, u, w, sz, rows, rfl, ps, hsq, h3, h4, rfl⟩ := forL_inv (f := bodyF (runF F (n + 5)) (.nm 4) (b_made_1 g si sm)) (clr := []) (I := fun i env s => ∃ r t u w sz rows, env = E r t u w ∧ Pool s rest ∧ Sq sz rows ∧ sz ≤ k ∧ min k (i + 1) ≤ sz ∧ r = some (.lst (vM rows))) (rngV 0 k) 0 (by
    rintro i wv hw env s ⟨r, t, u, w, sz, rows, rfl, ps, hsq, h3, h4, rfl⟩
    obtain ⟨hi, rfl⟩ := rngV_get hw
    by_cases hroom : sz < k
    · obtain ⟨k1, s1, e1, p1, b1⟩ := draw_nat hg (n + 4) (if (3 : Int) < (k : Int) - sz then 3 else (k : Int) - sz) (min (k - sz) 3) (by split <;> omega) (by omega) (by omega) ps
      obtain ⟨k2, s2, e2, p2, b2⟩ := draw_nat hg (n + 4) (sz : Int) sz rfl (by omega) (by omega) p1
      obtain ⟨more, s3, e3, p3, hmq⟩ := small_ok hsm hco hrw hfi hsp hm' ho' hg n (2 + k1) (by omega) hsh h2 p2 ho
      obtain ⟨rows', e4, hq4⟩ := set_in_ok hsi sz k2 (2 + k1) (n + 4) b2 (by omega) (by omega) hsq hmq (p3.fine ho)
      have hr1 : (0 : Int) < (k : Int) - sz := by omega
      have hr2 : sz < k := hroom
      have e3' : runF F (n + 5) sm [.ref 1, .int (2 + (k1 : Int)), .lst (vI sh)] s2 = .ok (.lst (vM more)) s3 := by
        rw [show (2 + (k1 : Int)) = ((2 + k1 : Nat) : Int) by omega]; exact e3
      refine ⟨E (some (.lst (vM rows'))) (some (.int (0 + (i : Int)))) (some (.int ((k : Int) - sz))) (some (.int (2 + (k1 : Int)))), s3, ?_, _, _, _, _, _, rows', rfl, p3, hq4, by omega, by omega, rfl⟩
      rw [bodyF_eq rfl]
      simp [b_made_1, E, hsq.1, hr1, hr2, min2_ok, e1, e2, e3', e4]
    · have hr1 : ¬ (0 : Int) < (k : Int) - sz := by omega
      refine ⟨E (some (.lst (vM rows))) (some (.int (0 + (i : Int)))) (some (.int ((k : Int) - sz))) w, s, ?_, _, _, _, _, sz, rows, rfl, ps, hsq, h3, by omega, rfl⟩
      rw [bodyF_eq rfl]
      simp [b_made_1, E, hsq.1, hr1, hroom]) (E (some (.lst (vM rows0))) none none none) st ⟨_, none, none, none, _, rows0, rfl, p, hs0, by omega, by omega, rfl⟩
  rw [rngV_len] at h4
  obtain rfl : sz = k := by omega
  obtain ⟨ms, s2, e2, p2, hp⟩ := mixed_ok hm' hg (n + 3) ((List.range sz).map fun (i : Nat) => (i : Int)) (by simp; omega) ps ho
  rw [← rng_vI] at e2
  obtain ⟨rows', s3, e3, p3, hq3⟩ := named_ok hna sz (n + 4) (by omega) hsq (names_nam (names_of hp)) p2 ho
  refine ⟨rows', s3, ?_, p3, hq3⟩
  simp only [E] at e
  simp [a_made, min2_ok, eq0, cq, lq, e0, c1, e, l1, rngV_len, e2, e3, trunc, p.len, p3.len]
theorem any_ok' {F : Nat → Option FD} {f ma si sm na co rw' fi sp g m o : Nat} (hf : F f = some (Cd.a_any g co rw' ma)) (hma : F ma = some (a_made g si sm na m)) (hsi : F si = some a_set_in) (hsm : F sm = some (a_small g rw' co o)) (hna : F na = some a_named) (hco : F co = some (a_core rw' fi)) (hrw : F rw' = some (a_rows g m o)) (hfi : F fi = some (Cd.a_is_firm sp)) (hsp : F sp = some a_spread) (hm' : F m = some (a_mixed g)) (ho' : F o = some (a_one g)) (hg : F g = some Cd.a_draw) (n k : Nat) (hk : k ≤ 50) {sh : List Int} (hsh : ShOk sh) (h2 : 2 ≤ sh.length) {st rest : Store} (p : Pool st rest) (ho : Old rest) :
    ∃ rows st', runF F (n + 7) f [.ref 1, .int k, .lst (vI sh)] st = .ok (.lst (vM rows)) st' ∧ Pool st' rest ∧ Sq k rows := by
  rw [runF_eq hf rfl]
  obtain ⟨way, s1, e1, p1, b1⟩ := draw_nat hg (n + 5) 5 5 rfl (by omega) (by omega) p
  by_cases hw : way = 0 ∧ 2 < k
  · obtain ⟨rows, s3, e3, p3, hsq⟩ := core_ok hco hrw hfi hsp hm' ho' hg (n + 2) k hk hsh h2 p1 ho
    have hk2 : (2 : Int) < k := by omega
    refine ⟨rows, s3, ?_, p3, hsq⟩
    obtain ⟨rfl, hk3⟩ := hw
    simp at e1
    simp [Cd.a_any, e1, hk2, hk3, e3, trunc, p.len, p3.len]
  · have hw' : ¬ ((way : Int) = 0 ∧ (2 : Int) < k) := by omega
    have hcond : ¬ (way = 0 ∧ (2 : Int) < k) := by omega
    by_cases h1 : way = 1
    · subst h1
      obtain ⟨rows, s2, e2, m2⟩ := rows_ok hrw hm' ho' hg (n + 3) k hk hsh h2 p1 ho
      obtain ⟨s3, e3, p3⟩ := m2.frz
      refine ⟨rows, _, ?_, p3.take, m2.sq⟩
      simp at e1
      simp [Cd.a_any, e1, e2, e3, p.len, Pool.cut p3 ho (below_vM _ _)]
    · have h1' : ¬ (way : Int) = 1 := by omega
      obtain ⟨rows, s3, e3, p3, hsq⟩ := made_ok hma hsi hsm hna hco hrw hfi hsp hm' ho' hg n k hk hsh h2 p1 ho
      refine ⟨rows, s3, ?_, p3, hsq⟩
      simp [Cd.a_any, e1, hcond, h1', e3, trunc, p.len, p3.len]
theorem changed_ok {F : Nat → Option FD} {f g o : Nat} (hf : F f = some (a_changed g o)) (ho' : F o = some (a_one g)) (hg : F g = some Cd.a_draw) (j n : Nat) (hn : n ≤ 50) {rows : List (List Int)} (hr : Sq n rows) {sh : List Int} (hsh : ShOk sh) (hs5 : sh.length ≤ 50) {st rest : Store} (p : Pool st rest) (ho : Old rest) :
    ∃ rows' st', runF F (j + 3) f [.ref 1, .lst (vM rows), .lst (vI sh)] st = .ok (.lst (vM rows')) st' ∧ Pool st' rest ∧ Sq n rows' := by
  rw [runF_eq hf rfl]
  have l1 : ¬ LIM < n := by simp only [LIM]; omega
  have hc : compL (turnP (runF F (j + 2)) c_changed_1 (.nm 7) (.cst (.bl true)) [some (.ref 1), some (.lst (vM rows)), some (.lst (vI sh)), none, none, none, none, none] [7]) (vM rows) st = .ok (refs (rest.length + 2) n) (st ++ mats rows) := by
    have := compL_copy (f := turnP (runF F (j + 2)) c_changed_1 (.nm 7) (.cst (.bl true)) [some (.ref 1), some (.lst (vM rows)), some (.lst (vI sh)), none, none, none, none, none] [7]) (fun r => Val.lst (vI r)) (fun r => Cell.lst (vI r)) rows st fun r _ s => by
      rw [turnP_eq rfl]
      simp [c_changed_1, biv_listl]
    rw [p.len, hr.1] at this
    exact this
  have m0 := mat_new hr p
  have hlen : (st ++ mats rows).length = rest.length + 2 + n := by simp [p.len, hr.1]
  rw [List.append_assoc] at m0
  generalize hst0 : st ++ (mats rows ++ [Cell.lst (refs (rest.length + 2) n)]) = st0 at m0
  by_cases h1 : 1 < n
  · have h1' : (1 : Int) < n := by omega
    obtain ⟨x, s1, e1, p1, b1⟩ := draw_nat hg (j + 1) (n : Int) n rfl (by omega) (by omega) m0.pool
    obtain ⟨y, s2, e2, p2, b2⟩ := draw_nat hg (j + 1) ((n : Int) - 1) (n - 1) (by omega) (by omega) (by omega) p1
    have hsh2 : ShOk (sh ++ [99, 0]) := ⟨by simp, by simp; omega, fun x hx => by
      rcases List.mem_append.mp hx with hx | hx
      · exact hsh.2.2 x hx
      · simp at hx; omega⟩
    obtain ⟨v, s3, e3, p3, hv⟩ := one_sh ho' hg j hsh2 p2
    have m3 := m0.pool' p3
    have hz : (x + (1 + y)) % n < n := Nat.mod_lt _ (by omega)
    obtain ⟨r1, s4, hr1, q1, m4⟩ := m3.put (y := x) (x := (x + (1 + y)) % n) b1 hz hv
    have ec : (((x + (1 + y)) % n : Nat) : Int) = ((x : Int) + (1 + (y : Int))) % (n : Int) := by simp
    rw [ec] at q1
    obtain ⟨s5, e5, p5⟩ := m4.frz
    have hmod : binI .mod ((x : Int) + (1 + (y : Int))) (n : Int) = some (((x + (1 + y)) % n : Nat) : Int) := by
      have : ¬ (n : Int) = 0 := by omega
      simp [binI, this]; omega
    have had : ∀ s, bin .add false (.lst (vI sh)) (.lst [.int 99, .int 0]) s = .ok (.lst (vI (sh ++ [99, 0]))) s := fun s => by
      rw [add_lst' (by simp; omega)]
      simp [mkL, vI]
    refine ⟨_, _, ?_, p5.take, m4.sq⟩
    simp [a_changed, hr.1, hc, l1, hlen, hst0, h1, h1', e1, e2, had, e3, hmod, dr_ref m3.all, refs_atI (m := rest.length + 2) b1, q1, e5, frz_vMi, p.len, Pool.cut p5 ho (below_vM _ _)]
  · have h1' : ¬ (1 : Int) < n := by omega
    obtain ⟨s5, e5, p5⟩ := m0.frz
    refine ⟨rows, _, ?_, p5.take, hr⟩
    simp [a_changed, hr.1, hc, l1, hlen, hst0, h1, h1', e5, frz_vMi, p.len, Pool.cut p5 ho (below_vM _ _)]
end Cd

set_option Elab.async false
set_option linter.all false
set_option maxRecDepth 100000
set_option maxHeartbeats 16000000
/-! CdA7: doubled, turned, all lots, the law's is_piece. -/
namespace Cd
open Co Cp
open PySem

theorem ex_sw {cf : CF} {o1 i1 o2 i2 e : Ex} {env : Ev} {st s1 s2 s3 s4 s5 s6 s7 : Store} {v1 v2 x1 y1 x2 y2 : Val} (h0 : evalE cf e env st = .ok (.tup [v1, v2]) s1) (h1 : evalE cf o1 env s1 = .ok x1 s2) (h2 : evalE cf i1 env s2 = .ok y1 s3) (h3 : setv x1 y1 v1 s3 = .ok () s4)
    (h4 : evalE cf o2 env s4 = .ok x2 s5) (h5 : evalE cf i2 env s5 = .ok y2 s6) (h6 : setv x2 y2 v2 s6 = .ok () s7) : execS cf (.sw o1 i1 o2 i2 e) env st = .nx env s7 := by
  simp only [execS, h0, R.toS_ok, h1, h2, h3, h4, h5, h6]
theorem setv_vI {i : Nat} {st : Store} {ms : List Int} {x : Nat} {v : Int} (h : st[i]? = some (.lst (vI ms))) (hx : x < ms.length) : setv (.ref i) (.int x) (.int v) st = .ok () (st.set i (.lst (vI (ms.set x v)))) := by
  have e : (vI ms).set x (.int v) = vI (ms.set x v) := by unfold vI; rw [List.map_set]
  simp only [setv, h, vI_len, ixN_nat hx, e]
theorem doubled_ok {F : Nat → Option FD} {f si na g o : Nat} (hf : F f = some (a_doubled g o si na)) (hsi : F si = some a_set_in) (hna : F na = some a_named) (ho' : F o = some (a_one g)) (hg : F g = some Cd.a_draw) (j n : Nat) (hn : n ≤ 50) {rows : List (List Int)} (hr : Sq n rows) {sh : List Int} (hsh : ShOk sh) {st rest : Store} (p : Pool st rest) (ho : Old rest) :
    ∃ rows' st', runF F (j + 3) f [.ref 1, .lst (vM rows), .lst (vI sh)] st = .ok (.lst (vM rows')) st' ∧ Pool st' rest ∧ Sq (n + 1) rows' := by
  rw [runF_eq hf rfl]
  have l1 : ¬ LIM < n := by simp only [LIM]; omega
  by_cases h0 : n = 0
  · subst h0
    refine ⟨[[0]], st, ?_, p, sq_one⟩
    have := trunc_cut (rest := []) (v := .lst (vM [[0]])) (below_vM _ _) (p.fine ho)
    rw [List.append_nil] at this
    have v1 : (vM [[0]]) = [.lst [.int 0]] := rfl
    rw [v1] at this ⊢
    simp [a_doubled, hr.1, this]
  have h0' : ¬ (n : Int) = 0 := by omega
  obtain ⟨x, s1, e1, p1, b1⟩ := draw_nat hg (j + 1) (n : Int) n rfl (by omega) (by omega) p
  obtain ⟨y, s2, e2, p2, b2⟩ := draw_nat hg (j + 1) ((n : Int) + 1) (n + 1) (by omega) (by omega) (by omega) p1
  obtain ⟨k1, s3, e3, p3, u1⟩ := one_sh ho' hg j hsh p2
  obtain ⟨k2, s4, e4, p4, u2⟩ := one_sh ho' hg j hsh p3
  have sq2 : Sq 2 [[0, k1], [k2, 0]] := by
    refine ⟨rfl, fun r hr => ?_⟩
    simp only [List.mem_cons, List.not_mem_nil, or_false] at hr
    rcases hr with rfl | rfl
    · exact ⟨rfl, fun v hv => by simp at hv; rcases hv with rfl | rfl <;> omega⟩
    · exact ⟨rfl, fun v hv => by simp at hv; rcases hv with rfl | rfl <;> omega⟩
  obtain ⟨rows', e5, hq5⟩ := set_in_ok hsi n x 2 (j + 1) b1 (by omega) (by omega) hr sq2 (p4.fine ho)
  have v2 : vM [[0, k1], [k2, 0]] = [.lst [.int 0, .int k1], .lst [.int k2, .int 0]] := rfl
  rw [v2] at e5
  have c1 : (-1000000 : Int) ≤ (n : Int) + 1 ∧ (n : Int) + 1 ≤ 1000000 := by omega
  have er : rngV 0 (n + 1) = vI ((List.range (n + 1)).map fun (i : Nat) => (i : Int)) := by
    rw [rng_vI]
  have hms : ∀ i (hi : i < n + 1), L2.atI (vI ((List.range (n + 1)).map fun (i : Nat) => (i : Int))) (i : Int) = some (.int i) := fun i hi => by
    rw [vI_atI (by simpa using hi)]; simp
  have hlm : ((List.range (n + 1)).map fun (i : Nat) => (i : Int)).length = n + 1 := by simp
  have hbm : ∀ z ∈ ((List.range (n + 1)).map fun (i : Nat) => (i : Int)), 0 ≤ z ∧ z < ((n + 1 : Nat) : Int) := fun z hz => by
    obtain ⟨i, hi, rfl⟩ := List.mem_map.mp hz
    have := List.mem_range.mp hi
    omega
  generalize ((List.range (n + 1)).map fun (i : Nat) => (i : Int)) = ms at er hms hlm hbm
  have hm2 : ∀ m2, m2 = (ms.set y (x : Int)).set x (y : Int) → Nam (n + 1) m2 := by
    rintro m2 rfl
    refine ⟨by simp [hlm], fun z hz => ?_⟩
    rcases List.mem_or_eq_of_mem_set hz with hz | rfl
    · rcases List.mem_or_eq_of_mem_set hz with hz | rfl
      · exact hbm z hz
      · omega
    · omega
  have g0 : (s4 ++ [Cell.lst (vI ms)])[s4.length]? = some (.lst (vI ms)) := by simp
  have t1 := setv_vI (x := y) (v := (x : Int)) g0 (by omega)
  have sset : ∀ c d : Cell, (s4 ++ [c]).set s4.length d = s4 ++ [d] := fun c d => by simp
  rw [sset] at t1
  have g1 : (s4 ++ [Cell.lst (vI (ms.set y (x : Int)))])[s4.length]? = some (.lst (vI (ms.set y (x : Int)))) := by simp
  have t2 := setv_vI (x := x) (v := (y : Int)) g1 (by simp; omega)
  rw [sset] at t2
  obtain ⟨m2, hm2e⟩ : ∃ m2, m2 = (ms.set y (x : Int)).set x (y : Int) := ⟨_, rfl⟩
  rw [← hm2e] at t2
  have g2 : (s4 ++ [Cell.lst (vI m2)])[s4.length]? = some (.lst (vI m2)) := by simp
  have pd : Pool (s4 ++ [.dead]) (rest ++ [.dead]) := p4.app [.dead]
  have od : Old (rest ++ [.dead]) := Old.deads ho 1
  obtain ⟨rows2, s6, e6, p6, hq6⟩ := named_ok hna (n + 1) (j + 1) (by omega) hq5 (hm2 m2 hm2e) pd od
  have hsw : ∀ env : Ev, env = [some (.ref 1), some (.lst (vM rows)), some (.lst (vI sh)), some (.int n), some (.lst [.lst [.int 0, .int k1], .lst [.int k2, .int 0]]), some (.lst (vM rows')), some (.ref s4.length), some (.int x), some (.int y)] →
      execS (runF F (j + 2)) (.sw (.var 6) (.var 8) (.var 6) (.var 7) (.tup (.cons (.idx (.var 6) (.var 7)) (.cons (.idx (.var 6) (.var 8)) .nil)))) env (s4 ++ [.lst (vI ms)]) = .nx env (s4 ++ [.lst (vI m2)]) := by
    rintro env rfl
    refine ex_sw (v1 := .int x) (v2 := .int y) (s1 := s4 ++ [.lst (vI ms)]) (s2 := s4 ++ [.lst (vI ms)]) (s3 := s4 ++ [.lst (vI ms)]) ?_ (x1 := .ref s4.length) ?_ (y1 := .int y) ?_ t1 (x2 := .ref s4.length) (s5 := s4 ++ [Cell.lst (vI (ms.set y (x : Int)))]) (s6 := s4 ++ [Cell.lst (vI (ms.set y (x : Int)))]) ?_ (y2 := .int x) ?_ t2
    · simp [dr_ref g0, hms x (by omega), hms y b2]
    · simp
    · simp
    · simp
    · simp
  have hsw := hsw _ rfl
  refine ⟨rows2, _, ?_, p6.take, hq6⟩
  simp [a_doubled, hr.1, h0, h0', e1, e2, e3, e4, e5, c1, er, hsw, frz_vI (n := 2) g2, e6, p.len, Pool.cut p6 ho (below_vM _ _)]
theorem vM_mp {α : Type} (g : α → List Int) (xs : List α) : vM (xs.map g) = xs.map fun x => Val.lst (vI (g x)) := by simp [vM, Function.comp_def]
theorem turnedl_ok {F : Nat → Option FD} {f : Nat} (hf : F f = some Cd.a_turned) {n : Nat} {rows : List (List Int)} (h : Sq n rows) (hn : n ≤ 1000) (j : Nat) (st : Store) :
    runF F (j + 1) f [.lst (vM rows)] st = .ok (.lst (vM (turnR n rows))) st := by
  rw [runF_eq hf rfl]
  have c1 : (-1000000 : Int) ≤ (n : Int) ∧ (n : Int) ≤ 1000000 := by omega
  have l1 : ¬ LIM < n := by simp only [LIM]; omega
  have hc : compL (turnP (runF F j) c_turned_2 (.nm 1) (.cst (.bl true)) [some (.lst (vM rows)), none, none] [1]) (rngV 0 n) st = .ok (vM (turnR n rows)) st := by
    rw [turnR, vM_mp]
    refine compL_rng (fun x => .lst (vI ((List.range n).map fun y => cel rows y x))) fun x hx => ?_
    rw [turnP_eq rfl]
    have hi : compL (turnP (runF F j) c_turned_1 (.nm 2) (.cst (.bl true)) [some (.lst (vM rows)), some (.int x), none] [2]) (rngV 0 n) st = .ok (vI ((List.range n).map fun y => cel rows y x)) st := by
      rw [vI, List.map_map]
      refine compL_rng _ fun y hy => ?_
      rw [turnP_eq rfl]
      simp [c_turned_1, h.row hy, h.cel hy hx]
    simp [c_turned_2, h.1, c1, l1, rngV_len, hi]
  simp [Cd.a_turned, h.1, c1, l1, rngV_len, hc]
/-! ### all lots -/
def bgn (l : List Nat) : Nat := match l.getLast? with
  | some x => x + 1
  | none => 0
def extN (n : Nat) (l : List Nat) : List (List Nat) := (List.range (n - bgn l)).map fun i => l ++ [bgn l + i]
def lev (n : Nat) : Nat → List (List Nat)
  | 0 => [[]]
  | k + 1 => (lev n k).flatMap (extN n)
def fnd (n : Nat) : Nat → List (List Nat)
  | 0 => [[]]
  | k + 1 => fnd n k ++ lev n (k + 1)
def vLs (ls : List (List Nat)) : List Val := ls.map fun l => .tup (vN l)
@[scoped simp] theorem vLs_len (ls : List (List Nat)) : (vLs ls).length = ls.length := by simp [vLs]
theorem vLs_app (a b : List (List Nat)) : vLs a ++ vLs b = vLs (a ++ b) := by simp [vLs]
theorem lev_bd : ∀ n, n ≤ 8 → ∀ k, k ≤ 8 → (lev n k).length ≤ 100 ∧ (fnd n k).length ≤ 300 := by
  decide +kernel
theorem lev_mem {n : Nat} : ∀ (k : Nat) (l : List Nat), l ∈ lev n k ↔ Lot n l ∧ l.length = k
  | 0, l => by
    constructor
    · intro h
      rw [List.mem_singleton.mp h]
      exact ⟨⟨List.Pairwise.nil, fun x h => nomatch h⟩, rfl⟩
    · rintro ⟨_, h⟩
      rw [List.eq_nil_of_length_eq_zero h]
      simp [lev]
  | k + 1, l => by
    simp only [lev, List.mem_flatMap, extN, List.mem_map, List.mem_range]
    constructor
    · rintro ⟨m, hm, i, hi, rfl⟩
      obtain ⟨hl, hk⟩ := (lev_mem k m).mp hm
      have hb : ∀ x ∈ m, x < bgn m := by
        intro x hx
        rcases List.eq_nil_or_concat m with rfl | ⟨m', z, rfl⟩
        · cases hx
        · simp only [bgn, List.concat_eq_append, List.getLast?_append, List.getLast?_singleton, Option.some_or] at *
          rcases List.mem_append.mp hx with hx | hx
          · have := (List.pairwise_append.mp hl.1).2.2 x hx z (by simp)
            omega
          · rw [List.mem_singleton.mp hx]; omega
      refine ⟨⟨List.pairwise_append.mpr ⟨hl.1, List.pairwise_singleton _ _, fun x hx y hy => ?_⟩, fun x hx => ?_⟩, by simp [hk]⟩
      · rw [List.mem_singleton.mp hy]
        have := hb x hx; omega
      · rcases List.mem_append.mp hx with hx | hx
        · exact hl.2 x hx
        · rw [List.mem_singleton.mp hx]; omega
    · rintro ⟨hl, hk⟩
      rcases List.eq_nil_or_concat l with rfl | ⟨m, z, rfl⟩
      · cases hk
      · simp only [List.concat_eq_append, List.length_append, List.length_singleton] at hl hk ⊢
        have hp := List.pairwise_append.mp hl.1
        have hz := hl.2 z (by simp)
        have hb : bgn m ≤ z := by
          rcases List.eq_nil_or_concat m with rfl | ⟨m', w, rfl⟩
          · simp [bgn]
          · simp only [bgn, List.concat_eq_append, List.getLast?_append, List.getLast?_singleton, Option.some_or] at *
            have := hp.2.2 w (by simp) z (by simp)
            omega
        refine ⟨m, (lev_mem k m).mpr ⟨⟨hp.1, fun x hx => hl.2 x (by simp [hx])⟩, by omega⟩, z - bgn m, by omega, ?_⟩
        congr 2; omega
theorem fnd_mem {n : Nat} : ∀ (k : Nat) (l : List Nat), l ∈ fnd n k ↔ Lot n l ∧ l.length ≤ k
  | 0, l => by
    rw [show fnd n 0 = lev n 0 from rfl, lev_mem]
    simp
  | k + 1, l => by
    rw [fnd, List.mem_append, fnd_mem k, lev_mem]
    constructor
    · rintro (⟨a, b⟩ | ⟨a, b⟩)
      · exact ⟨a, by omega⟩
      · exact ⟨a, by omega⟩
    · rintro ⟨a, b⟩
      by_cases h : l.length ≤ k
      · exact .inl ⟨a, h⟩
      · exact .inr ⟨a, by omega⟩
theorem cmp_neT (l : List Nat) : cmpv .ne (.tup (vN l)) (.tup []) = some (!decide (l = [])) := by
  have h1 : eqOk (.tup (vN l)) = true := by
    have := eqOk_vN l
    simp only [eqOk, Bool.and_eq_true, SeqAt.shaped, decide_eq_true_eq, noRef, below, toPy, PyData.canLay0, PyData.depth] at this ⊢
    exact this
  have h2 : veq (.tup (vN l)) (.tup []) = decide (l = []) := by
    have := veq_vN l
    simp only [veq, toPy, PyData.eqv] at this ⊢
    exact this
  simp only [cmpv, h1, h2]
  rfl
theorem atI_last (m : List Nat) (z : Nat) : L2.atI (vN (m ++ [z])) (-1) = some (.int (z : Nat)) := by
  have e : (vN (m ++ [z]))[m.length]? = some (.int (z : Nat)) := by simp [vN]
  have h : L2.ixN (vN (m ++ [z])).length (-1) = some m.length := by
    unfold L2.ixN
    rw [if_neg (by omega), if_pos (by simp; omega)]
    congr 1
    simp; omega
  unfold L2.atI
  rw [h]
  exact e
theorem lots_ok {F : Nat → Option FD} {f : Nat} (hf : F f = some Cd.a_lots) (n : Nat) (hn : n ≤ 8) (j : Nat) (st : Store) :
    runF F (j + 1) f [.int n] st = .ok (.lst (vLs (fnd n n))) st := by
  rw [runF_eq hf rfl]
  have c1 : (-1000000 : Int) ≤ (n : Int) ∧ (n : Int) ≤ 1000000 := by omega
  let E : Option Val → List (List Nat) → List (List Nat) → Option Val → Option Val → Option Val → Ev := fun t fo le lo x b => [some (.int n), t, some (.lst (vLs fo)), some (.lst (vLs le)), lo, x, b, none]
  obtain ⟨env', s', e, t, lo, x, b, rfl, rfl⟩ := forL_inv (f := bodyF (runF F j) (.nm 1) b_lots_2) (clr := []) (I := fun i env s => ∃ t lo x b, env = E t (fnd n i) (lev n i) lo x b ∧ st = s) (rngV 0 n) 0 (by
    rintro i w hw env s ⟨t, lo, x, b, rfl, rfl⟩
    obtain ⟨hi, rfl⟩ := rngV_get hw
    rw [Nat.zero_add]
    obtain ⟨env', s', e, x, b, rfl, rfl⟩ := forL_inv (f := bodyF (runF F j) (.nm 5) b_lots_1) (clr := []) (I := fun q env s => ∃ x b, env = E (some (.int i)) (fnd n i) (lev n i) (some (.lst (vLs (((lev n i).take q).flatMap (extN n))))) x b ∧ st = s) (vLs (lev n i)) 0 (by
      rintro q w hw env s ⟨x, b, rfl, rfl⟩
      obtain ⟨l, hl, rfl⟩ : ∃ l, (lev n i)[q]? = some l ∧ w = .tup (vN l) := by
        unfold vLs at hw
        rw [List.getElem?_map] at hw
        cases e : (lev n i)[q]? with
        | none => rw [e] at hw; cases hw
        | some l => rw [e] at hw; cases hw; exact ⟨l, rfl, rfl⟩
      rw [Nat.zero_add]
      have hlot := (lev_mem i l).mp (List.mem_of_getElem? hl)
      have htk : (lev n i).take (q + 1) = (lev n i).take q ++ [l] := take_snoc hl
      have hbd : (((lev n i).take q).flatMap (extN n)).length + (extN n l).length ≤ 1000 := by
        have h1 := (lev_bd n hn (i + 1) (by omega)).1
        have h2 : (((lev n i).take (q + 1)).flatMap (extN n)).length ≤ (lev n (i + 1)).length := by
          rw [lev]
          conv => rhs; rw [← List.take_append_drop (q + 1) (lev n i), List.flatMap_append, List.length_append]
          omega
        rw [htk, List.flatMap_append, List.length_append] at h2
        simp only [List.flatMap_cons, List.flatMap_nil, List.append_nil] at h2
        omega
      have hb : bgn l ≤ n := by
        rcases List.eq_nil_or_concat l with rfl | ⟨m, z, rfl⟩
        · simp [bgn]
        · have := hlot.1.2 z (by simp)
          simp only [bgn, List.concat_eq_append, List.getLast?_append, List.getLast?_singleton, Option.some_or]
          omega
      refine ⟨E (some (.int i)) (fnd n i) (lev n i) (some (.lst (vLs (((lev n i).take (q + 1)).flatMap (extN n))))) (some (.tup (vN l))) (some (.int (bgn l : Nat))), st, ?_, _, _, rfl, rfl⟩
      rw [bodyF_eq rfl]
      have c3 : (-1000000 : Int) ≤ (bgn l : Int) ∧ (bgn l : Int) ≤ 1000000 ∧ (-1000000 : Int) ≤ (n : Int) ∧ (n : Int) ≤ 1000000 := by omega
      have e3 : ((n : Int) - (bgn l : Nat)).toNat = n - bgn l := by omega
      have l1 : ¬ LIM < n - bgn l := by simp only [LIM]; omega
      have k1 : compL (turnP (runF F j) c_lots_1 (.nm 7) (.cst (.bl true)) (E (some (.int i)) (fnd n i) (lev n i) (some (.lst (vLs (((lev n i).take q).flatMap (extN n))))) (some (.tup (vN l))) (some (.int (bgn l : Nat)))) [7]) (rngV (bgn l : Int) (n - bgn l)) st = .ok (vLs (extN n l)) st := by
        rw [compL_rng fun i => .tup (vN (l ++ [bgn l + i]))]
        · simp [vLs, extN, Function.comp_def]
        · intro i hi
          rw [turnP_eq rfl]
          have ll : l.length + 1 ≤ LIM := by rw [hlot.2]; simp only [LIM]; omega
          simp [c_lots_1, E, bin, ll, vN]
      have ad : ∀ s, bin .add false (.lst (vLs (((lev n i).take q).flatMap (extN n)))) (.lst (vLs (extN n l))) s = .ok (.lst (vLs (((lev n i).take (q + 1)).flatMap (extN n)))) s := fun s => by
        rw [add_lst' (by simp only [vLs_len]; exact hbd), vLs_app, htk, List.flatMap_append]
        simp [mkL]
      have hbe : ∀ env : Ev, kIte (runF F j) (.bin .add false (.idx (.var 5) (.neg (.cst (.int 1)))) (.cst (.int 1))) (.cst (.int 0)) (E (some (.int i)) (fnd n i) (lev n i) (some (.lst (vLs (((lev n i).take q).flatMap (extN n))))) (some (.tup (vN l))) b) (.ok (.bl (!decide (l = []))) st) = .ok (.int (bgn l : Nat)) st := fun _ => by
        rcases List.eq_nil_or_concat l with rfl | ⟨m, z, rfl⟩
        · simp [bgn, E]
        · simp only [List.concat_eq_append]
          have := atI_last m z
          simp [bgn, E, this]
      have hbe := hbe []
      simp only [E] at hbe k1
      generalize vLs (((lev n i).take (q + 1)).flatMap (extN n)) = res at *
      generalize vLs (((lev n i).take q).flatMap (extN n)) = cur at *
      simp [-kRng3_ok, b_lots_1, E, cmp_neT, hbe, kRng3_n c3, e3, rngV_len, l1, k1, ad]) (E (some (.int i)) (fnd n i) (lev n i) (some (.lst (vLs []))) x b) st ⟨x, b, by rfl, rfl⟩
    refine ⟨E (some (.int i)) (fnd n (i + 1)) (lev n (i + 1)) (some (.lst (vLs (lev n (i + 1))))) x b, st, ?_, _, _, _, _, rfl, rfl⟩
    rw [bodyF_eq rfl]
    have hbd := lev_bd n hn i (by omega)
    have hbd' := lev_bd n hn (i + 1) (by omega)
    have l2 : ¬ LIM < (lev n i).length := by simp only [LIM]; omega
    have ad : ∀ s, bin .add false (.lst (vLs (fnd n i))) (.lst (vLs (lev n (i + 1)))) s = .ok (.lst (vLs (fnd n (i + 1)))) s := fun s => by
      rw [add_lst' (by simp; omega), vLs_app]; rfl
    rw [vLs_len, Nat.zero_add, List.take_length] at e
    rw [show (lev n i).flatMap (extN n) = lev n (i + 1) from rfl] at e
    simp only [E] at e ⊢
    have v0 : vLs [] = [] := rfl
    rw [v0] at e
    simp [b_lots_2, e, ad]) (E none [[]] [[]] none none none) st ⟨none, none, none, none, rfl, rfl⟩
  rw [rngV_len, Nat.zero_add] at e
  have v1 : vLs [[]] = [.tup []] := rfl
  simp only [E, v1] at e
  simp [Cd.a_lots, c1, e]
end Cd

set_option Elab.async false
set_option linter.all false
set_option maxRecDepth 100000
set_option maxHeartbeats 16000000
/-! CdA8: the law's is_piece; firm tables have no holes. -/
namespace Cd
open Co Cp
open PySem

def pieceW (n : Nat) (rows : List (List Int)) (lot : List Nat) : Bool := (List.range n).all fun z => decide (z ∈ lot) || lot.all fun y => !apartB rows z y (lot.getD 0 0)
theorem findSome_if {α : Type} (p : α → Bool) (v : Val) (xs : List α) : xs.findSome? (fun x => if p x = true then some v else none) = if xs.any p = true then some v else none := by
  induction xs with
  | nil => rfl
  | cons x xs ih => cases h : p x <;> simp [List.findSome?_cons, h, ih]
theorem law_piece_ok {F : Nat → Option FD} {f : Nat} (hf : F f = some Cd.a_is_piece) {n : Nat} {rows : List (List Int)} (h : Sq n rows) (hn : n ≤ 1000) {lot : List Nat} (hl : ∀ x ∈ lot, x < n) (j : Nat) (st : Store) :
    runF F (j + 1) f [.lst (vM rows), .tup (vN lot)] st = .ok (.bl (pieceW n rows lot)) st := by
  rw [runF_eq hf rfl]
  have h00 : ∀ y ∈ lot, y < n ∧ L2.atI (vN lot) 0 = some (.int (lot.getD 0 0 : Nat)) ∧ lot.getD 0 0 < n := fun y hy => by
    have h0 : 0 < lot.length := List.length_pos_of_mem hy
    have eg : lot.getD 0 0 = lot[0] := by simp [List.getD, h0]
    refine ⟨hl y hy, ?_, ?_⟩
    · rw [show (0 : Int) = ((0 : Nat) : Int) from rfl, vN_atI h0, eg]
    · rw [eg]; exact hl _ (List.getElem_mem h0)
  unfold pieceW
  generalize lot.getD 0 0 = hd at *
  have c1 : (-1000000 : Int) ≤ (n : Int) ∧ (n : Int) ≤ 1000000 := by omega
  let E : Option Val → Option Val → Ev := fun x y => [some (.lst (vM rows)), some (.tup (vN lot)), x, y]
  have main := forL_find (f := bodyF (runF F j) (.nm 2) b_is_piece_2) (clr := []) (I := fun env => ∃ x y, env = E x y) (st := st) (fun (i : Nat) => Val.int (i : Int))
    (fun z => if ((!decide (z ∈ lot)) && lot.any fun y => apartB rows z y hd) = true then some (.bl false) else none) (List.range n) (by
      rintro z hz env ⟨x0, y0, rfl⟩
      have hz : z < n := List.mem_range.mp hz
      rw [bodyF_eq rfl]
      by_cases hzl : z ∈ lot
      · refine .inr ⟨by simp [hzl], E (some (.int z)) y0, .inl ?_, _, _, rfl⟩
        simp [b_is_piece_2, E, hzl]
      have ly := forL_find (f := bodyF (runF F j) (.nm 3) b_is_piece_1) (clr := []) (I := fun env => ∃ y, env = E (some (.int z)) y) (st := st) (fun (i : Nat) => Val.int (i : Int))
        (fun y => if apartB rows z y hd = true then some (.bl false) else none) lot (by
          rintro y hy env ⟨y0, rfl⟩
          obtain ⟨hy', a0, hl0⟩ := h00 y hy
          rw [bodyF_eq rfl]
          have hb : execSs (runF F j) b_is_piece_1 ((E (some (.int z)) y0).set 3 (some (.int y))) st = if apartB rows z y hd = true then .ret (.bl false) st else .nx (E (some (.int z)) (some (.int y))) st := by
            simp [b_is_piece_1, E, a0, h.row hz, h.row hy', h.row hl0, h.cel hz hy', h.cel hz hl0, h.cel hy' hz, h.cel hl0 hz, apartB]
          rw [hb]
          by_cases hc : apartB rows z y hd = true
          · exact .inl ⟨_, if_pos hc, if_pos hc⟩
          · exact .inr ⟨if_neg hc, _, .inl (if_neg hc), _, rfl⟩) (E (some (.int z)) y0) ⟨y0, rfl⟩
      rw [findSome_if] at ly
      simp only [hzl, decide_false, Bool.not_false, Bool.true_and]
      rw [show (lot.map fun (i : Nat) => Val.int (i : Int)) = vN lot from rfl] at ly
      rcases ly with ⟨v, g1, e1⟩ | ⟨g1, env1, e1, y1, rfl⟩
      · refine .inl ⟨v, g1, ?_⟩
        simp only [E] at e1
        simp [b_is_piece_2, E, hzl, e1]
      · refine .inr ⟨g1, E (some (.int z)) y1, .inl ?_, _, _, rfl⟩
        simp only [E] at e1
        simp [b_is_piece_2, E, hzl, e1]) (E none none) ⟨none, none, rfl⟩
  rw [findSome_if, ← rngV_map] at main
  have hp : ((List.range n).all fun z => decide (z ∈ lot) || lot.all fun y => !apartB rows z y hd) = !(List.range n).any fun z => (!decide (z ∈ lot)) && lot.any fun y => apartB rows z y hd := by
    rw [List.not_any_eq_all_not]
    congr 1
    funext z
    rw [Bool.not_and, Bool.not_not, List.not_any_eq_all_not]
  rw [hp]
  generalize ((List.range n).any fun z => (!decide (z ∈ lot)) && lot.any fun y => apartB rows z y hd) = c at *
  rcases main with ⟨v, g1, e1⟩ | ⟨g1, env1, e1, x1, y1, rfl⟩
  · cases c with
    | false => cases g1
    | true =>
      obtain rfl := Option.some.inj g1
      simp only [E] at e1
      simp [Cd.a_is_piece, h.1, c1, e1]
  · cases c with
    | true => cases g1
    | false =>
      simp only [E] at e1
      simp [Cd.a_is_piece, h.1, c1, e1]
theorem pieceW_clo {n : Nat} {rows : List (List Int)} {l : List Nat} : pieceW n rows l = true ↔ Clo n rows l := by
  unfold pieceW
  simp only [List.all_eq_true, List.mem_range, Bool.or_eq_true, decide_eq_true_eq, Bool.not_eq_true']
  constructor
  · intro h z x y hz hzl hx hy
    rcases h z hz with k | k
    · exact absurd k hzl
    · exact apart_tr (k x hx) (k y hy)
  · intro h z hz
    by_cases hzl : z ∈ l
    · exact .inl hzl
    · refine .inr fun y hy => h z y _ hz hzl hy ?_
      have h0 : 0 < l.length := List.length_pos_of_mem hy
      have eg : l.getD 0 0 = l[0] := by simp [List.getD, h0]
      rw [eg]
      exact List.getElem_mem h0
def isHole (n : Nat) (rows : List (List Int)) (l : List Nat) : Bool := (decide (1 < l.length) && decide (l.length < n)) && pieceW n rows l
def holes (n : Nat) (rows : List (List Int)) : List (List Nat) := (fnd n n).filter (isHole n rows)
def dueB (n : Nat) (rows : List (List Int)) : Bool := decide (2 < n) && decide (holes n rows = [])
theorem lot_range (n : Nat) : Lot n (List.range n) := ⟨List.pairwise_lt_range, fun x hx => List.mem_range.mp hx⟩
theorem firm_due {n : Nat} {rows : List (List Int)} : FirmP n rows ↔ dueB n rows = true := by
  unfold dueB FirmP
  rw [Bool.and_eq_true, decide_eq_true_iff, decide_eq_true_iff]
  have hh : holes n rows = [] ↔ ∀ l, Lot n l → 1 < l.length → l.length < n → ¬ Clo n rows l := by
    unfold holes
    rw [List.filter_eq_nil_iff]
    constructor
    · intro h l hl h1 h2 hc
      refine h l ((fnd_mem n l).mpr ⟨hl, hl.len⟩) ?_
      simp [isHole, h1, h2, pieceW_clo.mpr hc]
    · intro h l hl hc
      have hl := ((fnd_mem n l).mp hl).1
      simp only [isHole, Bool.and_eq_true, decide_eq_true_eq] at hc
      exact h l hl hc.1.1 hc.1.2 (pieceW_clo.mp hc.2)
  rw [hh]
  refine and_congr (by omega) ⟨fun hF l hl h1 h2 hc => ?_, fun hH a b hab hb C hC ha hbC x hx => ?_⟩
  · have hab : l[0]'(by omega) < l[1]'h1 := List.pairwise_iff_getElem.mp hl.1 0 1 (by omega) h1 (by omega)
    have := hF _ _ hab (hl.2 _ (List.getElem_mem _)) l hc (List.getElem_mem _) (List.getElem_mem _)
    have e := lot_ext hl (lot_range n) fun x => ⟨fun k => List.mem_range.mpr (hl.2 x k), fun k => this x (List.mem_range.mp k)⟩
    rw [e] at h2
    simp at h2
  · classical
    have hm : ∀ x, x ∈ ((List.range n).filter fun x => decide (x ∈ C)) ↔ x < n ∧ x ∈ C := fun x => by simp
    have hl : Lot n ((List.range n).filter fun x => decide (x ∈ C)) := ⟨(lot_range n).1.filter _, fun x k => ((hm x).mp k).1⟩
    have hc : Clo n rows ((List.range n).filter fun x => decide (x ∈ C)) := fun z u v hz hzn hu hv => hC z u v hz (fun k => hzn ((hm z).mpr ⟨hz, k⟩)) ((hm u).mp hu).2 ((hm v).mp hv).2
    have ha' := (hm a).mpr ⟨by omega, ha⟩
    have hb' := (hm b).mpr ⟨hb, hbC⟩
    have h2 : 1 < ((List.range n).filter fun x => decide (x ∈ C)).length := by
      rcases hq : (List.range n).filter fun x => decide (x ∈ C) with _ | ⟨u, _ | ⟨v, w⟩⟩
      · rw [hq] at ha'; cases ha'
      · rw [hq] at ha' hb'
        rw [List.mem_singleton] at ha' hb'
        omega
      · simp
    refine Classical.byContradiction fun hxC => ?_
    have hlt : ((List.range n).filter fun x => decide (x ∈ C)).length < (List.range n).length := List.length_filter_lt_length_iff_exists.mpr ⟨x, List.mem_range.mpr hx, by simpa using hxC⟩
    rw [List.length_range] at hlt
    exact hH _ hl h2 hlt hc
theorem sm_bls {bs : List Bool} {L : Nat} (h : bs.length ≤ L) : Sm (.lst (bs.map .bl)) 1 (3 + L * 68) := by
  refine Sm.lst (d := 0) (w := 66) (fun x hx => ?_) (by simpa using h)
  obtain ⟨b, _, rfl⟩ := List.mem_map.mp hx
  exact .bl b
theorem compL_filT {f : Val → Store → R (Option Val)} {st : Store} (p : List Nat → Bool) (ls : List (List Nat)) (h : ∀ l ∈ ls, f (.tup (vN l)) st = .ok (if p l = true then some (.tup (vN l)) else none) st) : compL f (vLs ls) st = .ok (vLs (ls.filter p)) st := by
  have := compL_via (fun l => Val.tup (vN l)) (fun l => if p l = true then some (Val.tup (vN l)) else none) ls h
  rw [vLs, this]
  congr 1
  clear h this
  induction ls with
  | nil => rfl
  | cons a t ih => cases e : p a <;> simp [List.filterMap_cons, List.filter_cons, e, ih, vLs]
theorem sm_vLs {n : Nat} {ls : List (List Nat)} (h : ∀ l ∈ ls, Lot n l) (hn : n ≤ 8) (hl : ls.length ≤ 300) : Sm (.lst (vLs ls)) 2 170000 := by
  refine (Sm.lst (d := 1) (w := 547) (L := 300) (fun x hx => ?_) (by simpa using hl)).mono (by omega) (by omega)
  obtain ⟨l, hl, rfl⟩ := List.mem_map.mp hx
  exact sm_lot (h l hl) hn
theorem cmp_eqL {ls : List (List Nat)} (h : eqOk (.lst (vLs ls)) = true) : cmpv .eq (.lst (vLs ls)) (.lst []) = some (decide (ls = [])) := by
  have h2 : veq (.lst (vLs ls)) (.lst []) = decide (ls = []) := by
    cases ls with
    | nil => exact veq_nil
    | cons a t => simp [vLs, veq, toPy, toPys, PyData.eqv, PyData.eqvAll]
  simp only [cmpv, h, h2, eqOk_nil]
  rfl
theorem rep_bl (n : Nat) (b : Bool) : rep (n : Int) [.bl b] = (List.replicate n b).map .bl := by
  unfold rep
  rw [Int.toNat_natCast, List.map_replicate]
  induction n with
  | zero => rfl
  | succ n ih => rw [List.replicate_succ, List.flatten_cons, ih]; rfl
theorem chn_len {cf : CF} {i k : Nat} {xs : List Val} {n : Int} {env : Ev} {st : Store} (h1 : env[i]? = some (some (.tup xs))) (h2 : env[k]? = some (some (.int n))) :
    evalE cf (.chn .lt .lt (.cst (.int 1)) (.bi .len false (.cons (.var i) .nil)) (.var k)) env st = .ok (.bl (decide (1 < xs.length) && decide ((xs.length : Int) < n))) st := by
  have a1 : evalE cf (.bi .len false (.cons (.var i) .nil)) env st = .ok (.int xs.length) st := by simp [h1]
  have a2 : evalE cf (.var k) env st = .ok (.int n) st := by simp [h2]
  have a3 : evalE cf (.cst (.int 1)) env st = .ok (.int 1) st := by simp
  have c1 : cmpv .lt (.int 1) (.int xs.length) = some (decide (1 < xs.length)) := by simp; omega
  have c2 : cmpv .lt (.int xs.length) (.int n) = some (decide ((xs.length : Int) < n)) := by simp
  simp only [evalE.eq_def cf (.chn .lt .lt (.cst (.int 1)) (.bi .len false (.cons (.var i) .nil)) (.var k)), a1, a2, a3, R.bind_ok, dr_int, c1, c2]
  cases decide (1 < xs.length) <;> rfl
theorem is_right_ok {F : Nat → Option FD} {f tb lo ip qf ql qs qp q : Nat} (hf : F f = some (a_is_right tb lo ip qf qp)) (htb : F tb = some a_table) (hlo : F lo = some Cd.a_lots) (hip : F ip = some Cd.a_is_piece) (hqf : F qf = some (p_is_firm ql)) (hql : F ql = some (p_is_firm_lot qs)) (hqs : F qs = some p_fills) (hqp : F qp = some (p_is_piece q)) (hq : F q = some p_parts_two)
    {n : Nat} {rows : List (List Int)} (h : Sq n rows) (hn : n ≤ 8) (j : Nat) {st : Store} (hs : Fine st) :
    runF F (j + 5) f [.lst (vM rows)] st = .ok (.bl true) st := by
  rw [runF_eq hf rfl]
  have e1 := fun s => law_table_ok htb (rows := rows) (by have := h.1; omega) (j + 3) s
  have e2 := lots_ok hlo n hn (j + 3) st
  obtain ⟨c, e3, hc⟩ := is_firm_ok hqf hql hqs h (by omega) (j + 1) hs
  have hcd : c = dueB n rows := by
    rw [Bool.eq_iff_iff, hc, firm_due]
  subst hcd
  have hlots : ∀ l ∈ fnd n n, Lot n l := fun l hl => ((fnd_mem n l).mp hl).1
  have hbd := (lev_bd n hn n hn).2
  have l1 : ¬ LIM < (fnd n n).length := by simp only [LIM]; omega
  have hhl : (holes n rows).length ≤ 300 := Nat.le_trans (List.length_filter_le _ _) hbd
  have hhm : ∀ l ∈ holes n rows, Lot n l ∧ pieceW n rows l = true := fun l hl => by
    obtain ⟨a, b⟩ := List.mem_filter.mp hl
    simp only [isHole, Bool.and_eq_true] at b
    exact ⟨hlots l a, b.2⟩
  have k1 : compL (turnP (runF F (j + 4)) (.var 6) (.nm 6) (.and_ (.chn .lt .lt (.cst (.int 1)) (.bi .len false (.cons (.var 6) .nil)) (.var 3)) (.call ip [0, 1] (.cons (.var 0) (.cons (.var 6) .nil)) .nil)) [some (.lst (vM rows)), none, some (vT rows), some (.int n), none, none, none] [6]) (vLs (fnd n n)) st = .ok (vLs (holes n rows)) st := by
    refine compL_filT _ (fnd n n) fun l hl => ?_
    have hlt := (hlots l hl)
    have e4 := law_piece_ok hip h (by omega) hlt.2 (j + 3) st
    rw [turnP_eq rfl]
    have ch := chn_len (cf := runF F (j + 4)) (i := 6) (k := 3) (xs := vN l) (n := n) (env := [some (.lst (vM rows)), none, some (vT rows), some (.int n), none, none, some (.tup (vN l))]) (st := st) rfl rfl
    rw [vN_len] at ch
    simp [ch, e4, isHole]
    by_cases a1 : 1 < l.length <;> by_cases a2 : l.length < n <;> cases a3 : pieceW n rows l <;> simp [a1, a2, a3, bAnd]
  have smh := sm_vLs (fun l hl => (hhm l hl).1) hn hhl
  have q1 := cmp_eqL (eqOk_small smh.s (Nat.le_trans smh.d (by omega)))
  have k2 : compL (turnP (runF F (j + 4)) (c_is_right_1 qp) (.nm 6) (.cst (.bl true)) [some (.lst (vM rows)), some (.lst (vLs (holes n rows))), some (vT rows), some (.int n), some (.bl (dueB n rows)), some (.bl (dueB n rows)), none] [6]) (vLs ((holes n rows).take 6)) st = .ok ((List.replicate ((holes n rows).take 6).length true).map .bl) st := by
    have := compL_mapv (f := turnP (runF F (j + 4)) (c_is_right_1 qp) (.nm 6) (.cst (.bl true)) [some (.lst (vM rows)), some (.lst (vLs (holes n rows))), some (vT rows), some (.int n), some (.bl (dueB n rows)), some (.bl (dueB n rows)), none] [6]) (st := st) (fun l => Val.tup (vN l)) (fun _ => Val.bl true) ((holes n rows).take 6) fun l hl => by
      obtain ⟨hlt, hp⟩ := hhm l (List.mem_of_mem_take hl)
      have e5 := is_piece_ok hqp hq h (by omega) hlt.2 (by have := hlt.len; omega) (j + 2) st
      rw [piece_tell hlt, clo_iff.mpr (pieceW_clo.mp hp)] at e5
      rw [turnP_eq rfl]
      simp [c_is_right_1, e5]
    rw [List.map_replicate]
    exact this.trans (by rw [List.map_const'])
  have hc6 : cut (vLs (holes n rows)) none (some 6) = vLs ((holes n rows).take 6) := by
    rw [show (6 : Int) = ((6 : Nat) : Int) from rfl, cut_head]
    simp [vLs, List.map_take]
  have hl6 : ((holes n rows).take 6).length ≤ 6 := List.length_take_le _ _
  have dd : (decide ((2 : Int) < n) && decide (holes n rows = [])) = dueB n rows := by
    unfold dueB
    congr 1
    rw [decide_eq_decide]; omega
  have rb : ∀ s, biv .repr false [.bl (dueB n rows)] s = .ok (.str (toPy (.bl (dueB n rows))).shown) s := fun s => biv_repr (fun i e => by cases e) ((Sm.bl _).sh (by omega) (by omega))
  have nb := ne_same (Sm.bl (dueB n rows)).s
  have sb := sm_bls (bs := List.replicate ((holes n rows).take 6).length true) (L := 6) (by simpa using hl6)
  have s2 : Sm (.lst [.bl (dueB n rows), .lst ((List.replicate ((holes n rows).take 6).length true).map .bl)]) 2 2000 := by
    refine (Sm.lst (d := 1) (w := 500) (L := 2) (fun x hx => ?_) (by simp)).mono (by omega) (by omega)
    simp only [List.mem_cons, List.not_mem_nil, or_false] at hx
    rcases hx with rfl | rfl
    · exact (Sm.bl _).mono (by omega) (by omega)
    · exact sb.mono (by omega) (by omega)
  have r2 := biv_reprl (lv := false) (st := st) (s2.sh (by omega) (by omega))
  have q2 := eq_same s2.s
  have rp := rep_bl ((holes n rows).take 6).length true
  generalize hbl : (List.replicate ((holes n rows).take 6).length true).map Val.bl = bls at *
  have hk : ((holes n rows).take 6).length ≤ 6 := hl6
  generalize (holes n rows).take 6 = h6 at *
  generalize dueB n rows = d at *
  have l6 : ¬ LIM < h6.length := by simp only [LIM]; omega
  have b6 : (-1000 : Int) ≤ (h6.length : Int) ∧ (h6.length : Int) ≤ 1000 := by omega
  simp [a_is_right, e1, h.1, e2, l1, k1, e3, q1, dd, rb, nb, partE, isNon, hc6, l6, k2, r2, q2, bin_rep b6, rp]
  trace_state
end Cd

set_option Elab.async false
set_option linter.all false
set_option maxRecDepth 100000
set_option maxHeartbeats 16000000
/-! CdA9: the plain law of k19. -/
namespace Cd
open Co Cp
open PySem

def hdS : Sxs → Sx
  | .cons s _ => s
  | .nil => .pass
def tlS : Sxs → Sxs
  | .cons _ r => r
  | .nil => .nil
def vMs (ls : List (List (List Int))) : List Val := ls.map fun r => .lst (vM r)
theorem vMs_plain {ls : List (List (List Int))} : ∀ x ∈ vMs ls, ∀ j, x ≠ Val.ref j := by
  intro x hx j
  obtain ⟨r, _, rfl⟩ := List.mem_map.mp hx
  exact fun e => by cases e
theorem vMs_below (n : Nat) (ls : List (List (List Int))) : belows n (vMs ls) = true := by
  induction ls with
  | nil => rfl
  | cons r ls ih =>
    simp only [vMs, List.map_cons, belows, Bool.and_eq_true]
    exact ⟨below_vM _ _, ih⟩
theorem Old.cell {cs : Store} (h : Old cs) (ls : List (List (List Int))) : Old (cs ++ [.lst (vMs ls)]) := by
  refine Old.app h ?_
  simp only [List.all_cons, List.all_nil, Bool.and_true, Cell.below]
  exact vMs_below _ _
def Sqs (ls : List (List (List Int))) : Prop := ∀ r ∈ ls, ∃ m, m ≤ 8 ∧ Sq m r
theorem rights_ok {F : Nat → Option FD} {f tb lo ip qf ql qs qp q : Nat} (hf : F f = some (a_is_right tb lo ip qf qp)) (htb : F tb = some a_table) (hlo : F lo = some Cd.a_lots) (hip : F ip = some Cd.a_is_piece) (hqf : F qf = some (p_is_firm ql)) (hql : F ql = some (p_is_firm_lot qs)) (hqs : F qs = some p_fills) (hqp : F qp = some (p_is_piece q)) (hq : F q = some p_parts_two)
    {ls : List (List (List Int))} (h : Sqs ls) (j : Nat) {st : Store} (hs : Fine st) (a b c d e f' g i k l m n o : Option Val) :
    compL (turnP (runF F (j + 5)) (.cst (.int 1)) (.nm 13) (.not_ (.call f [0] (.cons (.var 13) .nil) .nil)) [a, b, c, d, e, f', g, i, k, l, m, n, o, none] [13]) (vMs ls) st = .ok [] st := by
  have := compL_via (f := turnP (runF F (j + 5)) (.cst (.int 1)) (.nm 13) (.not_ (.call f [0] (.cons (.var 13) .nil) .nil)) [a, b, c, d, e, f', g, i, k, l, m, n, o, none] [13]) (st := st) (fun r => Val.lst (vM r)) (fun _ => none) ls fun r hr => by
    obtain ⟨m, hm, hsq⟩ := h r hr
    have e1 := is_right_ok hf htb hlo hip hqf hql hqs hqp hq hsq hm j hs
    rw [turnP_eq rfl]
    simp [e1]
  rw [vMs, this]
  congr 1
  clear h this
  induction ls with
  | nil => rfl
  | cons r ls ih => simpa using ih
theorem add_vMs {lv : Bool} {a : List (List (List Int))} {r1 r2 : List (List Int)} {st : Store} (h : a.length ≤ 100) : bin .add lv (.lst (vMs a)) (.lst [.lst (vM r1), .lst (vM r2)]) st = mkL lv (vMs (a ++ [r1, r2])) st := by
  rw [add_lst' (by simp [vMs]; omega)]
  simp [vMs]
theorem vMs_snoc (a : List (List (List Int))) (r : List (List Int)) : vMs a ++ [.lst (vM r)] = vMs (a ++ [r]) := by simp [vMs]
theorem Pool.atEnd {st cs : Store} {c : Cell} (p : Pool st (cs ++ [c])) : st[cs.length + 2]? = some c := by
  rw [p.get]; simp
theorem Pool.setEnd {st cs : Store} {c : Cell} (p : Pool st (cs ++ [c])) (d : Cell) : Pool (st.set (cs.length + 2) d) (cs ++ [d]) := by
  have := p.set cs.length d
  simpa using this
theorem Sqs.snoc {ls : List (List (List Int))} {r : List (List Int)} {m : Nat} (h : Sqs ls) (hm : m ≤ 8) (hr : Sq m r) : Sqs (ls ++ [r]) := by
  intro x hx
  rcases List.mem_append.mp hx with hx | hx
  · exact h x hx
  · rw [List.mem_singleton.mp hx]
    exact ⟨m, hm, hr⟩
theorem Sqs.nil : Sqs [] := fun _ h => nomatch h
theorem law19_ok {F : Nat → Option FD} {f dk me on an ch tu db ir si dr co ma sm na rw' fi sp m tb lo ip qf ql qs qp q : Nat} (hf : F f = some (a_law19 dk me on an ch tu db ir si dr co qf)) (hdk : F dk = some a_deck) (hme : F me = some (a_menu dr on)) (hon : F on = some (a_one dr)) (han : F an = some (Cd.a_any dr co rw' ma)) (hch : F ch = some (a_changed dr on)) (htu : F tu = some Cd.a_turned) (hdb : F db = some (a_doubled dr on si na)) (hir : F ir = some (a_is_right tb lo ip qf qp))
    (hsi : F si = some a_set_in) (hdr : F dr = some Cd.a_draw) (hco : F co = some (a_core rw' fi)) (hma : F ma = some (a_made dr si sm na m)) (hsm : F sm = some (a_small dr rw' co on)) (hna : F na = some a_named) (hrw : F rw' = some (a_rows dr m on)) (hfi : F fi = some (Cd.a_is_firm sp)) (hsp : F sp = some a_spread) (hm' : F m = some (a_mixed dr))
    (htb : F tb = some a_table) (hlo : F lo = some Cd.a_lots) (hip : F ip = some Cd.a_is_piece) (hqf : F qf = some (p_is_firm ql)) (hql : F ql = some (p_is_firm_lot qs)) (hqs : F qs = some p_fills) (hqp : F qp = some (p_is_piece q)) (hq : F q = some p_parts_two)
    (n : Nat) (ns : List Int) (hl : ns.length ≤ 63) : ∃ st, runF F (n + 9) f [.scr (vI ns)] [] = .ok (.bl true) st := by
  rw [runF_eq hf rfl]
  obtain ⟨st, e0, p0⟩ := deck_ok hdk (n + 7) ns hl
  let E : Option Val → Option Val → Option Val → Option Val → Option Val → Ev := fun t m so sz ro => [some (.scr (vI ns)), some (.ref 1), t, m, none, so, none, sz, ro, none, none, none, none, none]
  let T := tlS (tlS (b_law19_1 me on an ch tu db ir))
  obtain ⟨env1, s1, e1, t1, m1, so1, sz1, ro1, cs, rfl, p1, o1⟩ := forL_inv (f := bodyF (runF F (n + 8)) (.nm 2) (b_law19_1 me on an ch tu db ir)) (clr := []) (I := fun i env s => ∃ t m so sz ro cs, env = E t m so sz ro ∧ Pool s cs ∧ Old cs) (rngV 0 4) 0 (by
    rintro i v hv env s ⟨t, m0, so, sz, ro, cs, rfl, p, o⟩
    obtain ⟨hi, rfl⟩ := rngV_get hv
    obtain ⟨sh, s1, d1, p1, hsh, hs2, hs4⟩ := menu_ok hme hon hdr (n + 5) p
    have go : ∀ (k : Nat) (s2 : Store), k ≤ 8 → Pool s2 cs → execSs (runF F (n + 8)) (b_law19_1 me on an ch tu db ir) ((E t m0 so sz ro).set 2 (some (.int (0 + (i : Int))))) s = execSs (runF F (n + 8)) T (E (some (.int (0 + (i : Int)))) (some (.lst (vI sh))) so (some (.int k)) ro) s2 →
        ∃ env' s', bodyF (runF F (n + 8)) (.nm 2) (b_law19_1 me on an ch tu db ir) (.int (0 + (i : Int))) (E t m0 so sz ro) s = .nx env' s' ∧ ∃ t m so sz ro cs, wipe env' [] = E t m so sz ro ∧ Pool s' cs ∧ Old cs := by
      intro k s2 hk8 p2 hex
      obtain ⟨rows, s3, e3, p3, hsq⟩ := any_ok' han hma hsi hsm hna hco hrw hfi hsp hm' hon hdr (n + 1) k (by omega) hsh hs2 p2 o
      have q3 : Pool (s3 ++ [.lst (vMs [rows])]) (cs ++ [.lst (vMs [rows])]) := p3.app _
      have v1 : vMs [rows] = [.lst (vM rows)] := rfl
      have ln3 := p3.len
      have g3 := q3.atEnd
      -- the end of a turn
      have fin' : ∀ (ls : List (List (List Int))) (s5 cs5 : Store) (at' : Nat), Sqs ls → ls.length ≤ 10 → Pool s5 cs5 → Old cs5 → s5[at']? = some (.lst (vMs ls)) → 2 ≤ at' →
          execSs (runF F (n + 8)) T (E (some (.int (0 + (i : Int)))) (some (.lst (vI sh))) so (some (.int k)) ro) s2 = execSs (runF F (n + 8)) (tlS (tlS (tlS (tlS T)))) (E (some (.int (0 + (i : Int)))) (some (.lst (vI sh))) (some (.ref at')) (some (.int k)) (some (.lst (vM rows)))) s5 →
          ∃ env' s', bodyF (runF F (n + 8)) (.nm 2) (b_law19_1 me on an ch tu db ir) (.int (0 + (i : Int))) (E t m0 so sz ro) s = .nx env' s' ∧ ∃ t m so sz ro cs, wipe env' [] = E t m so sz ro ∧ Pool s' cs ∧ Old cs := by
        intro ls s5 cs5 at' hls hln p5 o5 g5 h2 hex2
        obtain ⟨at'', rfl⟩ : ∃ a, at' = a + 2 := ⟨at' - 2, by omega⟩
        have p6 := p5.set at'' .dead
        have o6 : Old (cs5.set at'' .dead) := by
          unfold Old at o5 ⊢
          rw [List.length_set]
          rw [List.all_eq_true] at o5 ⊢
          intro c hc
          rcases List.mem_or_eq_of_mem_set hc with hc | rfl
          · exact o5 c hc
          · rfl
        have r := rights_ok hir htb hlo hip hqf hql hqs hqp hq hls (n + 3) (p6.fine o6) (some (.scr (vI ns))) (some (.ref 1)) (some (.int (0 + (i : Int)))) (some (.lst (vI sh))) none (some (.lst (vMs ls))) none (some (.int k)) (some (.lst (vM rows))) none none none none
        refine ⟨E (some (.int (0 + (i : Int)))) (some (.lst (vI sh))) (some (.lst (vMs ls))) (some (.int k)) (some (.lst (vM rows))), s5.set (at'' + 2) .dead, ?_, _, _, _, _, _, _, rfl, p6, o6⟩
        rw [bodyF_eq rfl]
        refine hex.trans (hex2.trans ?_)
        have lls : ¬ LIM < (vMs ls).length := by simp only [vMs, List.length_map, LIM]; omega
        rw [Int.zero_add] at r
        have cn : cmpv .ne (.lst []) (.lst []) = some false := by simp [cmpv, eqOk_nil, veq_nil]
        simp [T, tlS, b_law19_1, E, frz_plain (m := 2) g5 vMs_plain, lls, r, cn]
      have hs1 : Sqs [rows] := Sqs.nil.snoc hk8 hsq
      by_cases h7 : k < 7
      · have h7' : (k : Int) < 7 := by omega
        obtain ⟨rows2, s4, e4, p4, hsq2⟩ := changed_ok hch hon hdr (n + 5) k (by omega) hsq hsh (by omega) q3 (Old.cell o [rows])
        have g4 := p4.atEnd
        have a4 := app_ref (lv := false) (v := .lst (vM rows2)) g4 (by simp [vMs, LIM])
        rw [vMs_snoc] at a4
        have p5 := p4.setEnd (.lst (vMs ([rows] ++ [rows2])))
        have hs2' := hs1.snoc (by omega : k ≤ 8) hsq2
        by_cases h6 : k < 6
        · have h6' : (k : Int) < 6 := by omega
          generalize hs5 : s4.set (cs.length + 2) (.lst (vMs ([rows] ++ [rows2]))) = s5 at a4 p5
          have e5 := turnedl_ok htu hsq (by omega) (n + 7) s5
          obtain ⟨rows4, s6, e6, p6, hsq4⟩ := doubled_ok hdb hsi hna hon hdr (n + 5) k (by omega) hsq hsh p5 (Old.cell o _)
          have g6 := p6.atEnd
          have ad := add_vMs (lv := true) (a := [rows] ++ [rows2]) (r1 := turnR k rows) (r2 := rows4) (st := s6) (by simp)
          have ln6 := p6.len
          refine fin' ([rows] ++ [rows2] ++ [turnR k rows, rows4]) (s6 ++ [.lst (vMs ([rows] ++ [rows2] ++ [turnR k rows, rows4]))]) (cs ++ [.lst (vMs ([rows] ++ [rows2]))] ++ [.lst (vMs ([rows] ++ [rows2] ++ [turnR k rows, rows4]))]) s6.length ?_ (by simp) (p6.app _) (Old.cell (Old.cell o _) _) (by simp) (by omega) ?_
          · have := (hs2'.snoc hk8 (turn_sq hsq)).snoc (m := k + 1) (by omega) hsq4
            simpa using this
          · rw [v1] at e4 g3
            generalize vMs ([rows] ++ [rows2] ++ [turnR k rows, rows4]) = w at *
            generalize vMs ([rows] ++ [rows2]) = w2 at *
            simp [T, tlS, b_law19_1, E, e3, v1, h7', h7, h6', h6, e4, ln3, mth_ref g3 (.inl rfl), a4, e5, e6, dr_ref g6, ad, mkL]
        · have h6' : ¬ (k : Int) < 6 := by omega
          refine fin' ([rows] ++ [rows2]) _ _ (cs.length + 2) hs2' (by simp) p5 (Old.cell o _) p5.atEnd (by omega) ?_
          rw [v1] at e4 g3
          generalize vMs ([rows] ++ [rows2]) = w2 at *
          simp [T, tlS, b_law19_1, E, e3, v1, h7', h7, h6', h6, e4, ln3, mth_ref g3 (.inl rfl), a4]
      · have h7' : ¬ (k : Int) < 7 := by omega
        have h6' : ¬ (k : Int) < 6 := by omega
        have h6 : ¬ k < 6 := by omega
        refine fin' [rows] _ _ (cs.length + 2) hs1 (by simp) q3 (Old.cell o _) q3.atEnd (by omega) ?_
        simp [T, tlS, b_law19_1, E, e3, v1, h7', h7, h6', h6, ln3]
    by_cases hi0 : i = 0
    · subst hi0
      obtain ⟨x, s2, d2, p2, hx⟩ := one_ok hon hdr (n + 6) [.int 4, .int 5, .int 6, .int 8] (by simp) (by simp) _ (.inr rfl) p1
      have hk : ∃ k : Nat, k ≤ 8 ∧ x = .int k := by
        simp only [List.mem_cons, List.not_mem_nil, or_false] at hx
        rcases hx with rfl | rfl | rfl | rfl
        · exact ⟨4, by omega, rfl⟩
        · exact ⟨5, by omega, rfl⟩
        · exact ⟨6, by omega, rfl⟩
        · exact ⟨8, by omega, rfl⟩
      obtain ⟨k, hk8, rfl⟩ := hk
      refine go k s2 hk8 p2 ?_
      simp [T, tlS, b_law19_1, E, d1, d2]
    · obtain ⟨x, s2, d2, p2, hx⟩ := one_ok hon hdr (n + 6) [.int 0, .int 1, .int 2, .int 3, .int 3, .int 4, .int 5, .int 6] (by simp) (by simp) _ (.inr rfl) p1
      have hk : ∃ k : Nat, k ≤ 8 ∧ x = .int k := by
        simp only [List.mem_cons, List.not_mem_nil, or_false] at hx
        rcases hx with rfl | rfl | rfl | rfl | rfl | rfl | rfl | rfl
        · exact ⟨0, by omega, rfl⟩
        · exact ⟨1, by omega, rfl⟩
        · exact ⟨2, by omega, rfl⟩
        · exact ⟨3, by omega, rfl⟩
        · exact ⟨3, by omega, rfl⟩
        · exact ⟨4, by omega, rfl⟩
        · exact ⟨5, by omega, rfl⟩
        · exact ⟨6, by omega, rfl⟩
      obtain ⟨k, hk8, rfl⟩ := hk
      have hip' : (0 : Int) < i := by omega
      have hip2 : 0 < i := by omega
      refine go k s2 hk8 p2 ?_
      simp [T, tlS, b_law19_1, E, d1, d2, hip', hip2]) (E none none none none none) st ⟨none, none, none, none, none, [], rfl, p0, rfl⟩
  -- the end
  obtain ⟨sh, s2, d2, p2, hsh, hs2, hs4⟩ := menu_ok hme hon hdr (n + 5) p1
  obtain ⟨k1, s3, d3, p3, u1⟩ := one_sh hon hdr (n + 6) hsh p2
  obtain ⟨k2, s4, d4, p4, u2⟩ := one_sh hon hdr (n + 6) hsh p3
  obtain ⟨x, s5, d5, p5, b5⟩ := draw_nat hdr (n + 7) 2 2 rfl (by omega) (by omega) p4
  obtain ⟨w, s6, d6, p6, hw⟩ := one_ok hon hdr (n + 6) [.int 3, .int 4] (by simp) (by simp) _ (.inr rfl) p5
  have hk : ∃ k : Nat, 3 ≤ k ∧ k ≤ 4 ∧ w = .int k := by
    simp only [List.mem_cons, List.not_mem_nil, or_false] at hw
    rcases hw with rfl | rfl
    · exact ⟨3, by omega, by omega, rfl⟩
    · exact ⟨4, by omega, by omega, rfl⟩
  obtain ⟨k, hk3, hk4, rfl⟩ := hk
  obtain ⟨rows, s7, d7, p7, hsq⟩ := core_ok hco hrw hfi hsp hm' hon hdr (n + 4) k (by omega) hsh hs2 p6 o1
  have sq2 : Sq 2 [[0, k1], [k2, 0]] := by
    refine ⟨rfl, fun r hr => ?_⟩
    simp only [List.mem_cons, List.not_mem_nil, or_false] at hr
    rcases hr with rfl | rfl
    · exact ⟨rfl, fun v hv => by simp at hv; rcases hv with rfl | rfl <;> omega⟩
    · exact ⟨rfl, fun v hv => by simp at hv; rcases hv with rfl | rfl <;> omega⟩
  obtain ⟨rows', d8, hsq'⟩ := set_in_ok hsi 2 x k (n + 7) b5 (by omega) (by omega) sq2 hsq (p7.fine o1)
  have v2 : vM [[0, k1], [k2, 0]] = [.lst [.int 0, .int k1], .lst [.int k2, .int 0]] := rfl
  rw [v2] at d8
  have v1 : vMs [rows'] = [.lst (vM rows')] := rfl
  have p8 : Pool (s7 ++ [.lst (vMs [rows'])]) (cs ++ [.lst (vMs [rows'])]) := p7.app _
  have ln7 := p7.len
  obtain ⟨rA, s9, d9, p9, hA⟩ := core_ok hco hrw hfi hsp hm' hon hdr (n + 4) 3 (by omega) hsh hs2 p8 (Old.cell o1 _)
  obtain ⟨y, s10, d10, p10, b10⟩ := draw_nat hdr (n + 7) 3 3 rfl (by omega) (by omega) p9
  obtain ⟨rB, s11, d11, p11, hB⟩ := core_ok hco hrw hfi hsp hm' hon hdr (n + 4) 3 (by omega) hsh hs2 p10 (Old.cell o1 _)
  obtain ⟨rC, d12, hC⟩ := set_in_ok hsi 3 y 3 (n + 7) b10 (by omega) (by omega) hA hB (p11.fine (Old.cell o1 _))
  have g11 := p11.atEnd
  have a11 := app_ref (lv := false) (v := .lst (vM rC)) g11 (by simp [vMs, LIM])
  rw [vMs_snoc] at a11
  have p12 := p11.setEnd (.lst (vMs ([rows'] ++ [rC])))
  generalize hs12 : s11.set (cs.length + 2) (.lst (vMs ([rows'] ++ [rC]))) = s12 at a11 p12
  have g12 := p12.atEnd
  have p13 := p12.setEnd .dead
  have o13 : Old (cs ++ [.dead]) := Old.deads o1 1
  have hss : Sqs ([rows'] ++ [rC]) := (Sqs.nil.snoc (by omega) hsq').snoc (by omega) hC
  have fz := frz_plain (m := 2) g12 vMs_plain
  generalize hs13 : s12.set (cs.length + 2) .dead = s13 at p13 fz
  have F13 := p13.fine o13
  have r := rights_ok hir htb hlo hip hqf hql hqs hqp hq hss (n + 3) F13 (some (.scr (vI ns))) (some (.ref 1)) t1 (some (.lst (vI sh))) (some (.lst (vM [[0, k1], [k2, 0]]))) (some (.lst (vMs ([rows'] ++ [rC])))) none sz1 ro1 none none none none
  have firmc : ∀ (m : Nat) (rs : List (List Int)) (b : Bool), Sq m rs → m ≤ 8 → dueB m rs = b → runF F (n + 8) qf [vT rs] s13 = .ok (.bl b) s13 := by
    intro m rs b hrs hm hb
    obtain ⟨c, e, hc⟩ := is_firm_ok hqf hql hqs hrs (by omega) (n + 5) F13
    have : c = b := by
      rw [Bool.eq_iff_iff, hc, firm_due, hb]
    rw [← this]; exact e
  have f1 := firmc 3 [[0, 1, 0], [0, 0, 1], [1, 0, 0]] true ⟨rfl, by decide⟩ (by omega) (by decide +kernel)
  have f2 := firmc 4 [[0, 1, 0, 0], [1, 0, 1, 0], [0, 1, 0, 1], [0, 0, 1, 0]] true ⟨rfl, by decide⟩ (by omega) (by decide +kernel)
  have f3 := firmc 3 [[0, 1, 1], [0, 0, 1], [0, 0, 0]] false ⟨rfl, by decide⟩ (by omega) (by decide +kernel)
  have f4 := firmc 3 [[0, 0, 1], [0, 0, 1], [1, 1, 0]] false ⟨rfl, by decide⟩ (by omega) (by decide +kernel)
  have f5 := firmc 0 [] false ⟨rfl, by decide⟩ (by omega) (by decide +kernel)
  have f6 := firmc 1 [[0]] false ⟨rfl, by decide⟩ (by omega) (by decide +kernel)
  have f7 := firmc 2 [[0, 1], [0, 0]] false ⟨rfl, by decide⟩ (by omega) (by decide +kernel)
  simp [vT, vMt, vI] at f1 f2 f3 f4 f5 f6 f7
  have sm : Sm (.lst [.bl true, .bl true, .bl false, .bl false, .bl false, .bl false, .bl false]) 3 10000 := ⟨by decide, by decide, by decide⟩
  have w1 := biv_reprl (lv := false) (st := s13) (sm.sh (by omega) (by omega))
  have w2 := eq_same sm.s
  have cn : cmpv .ne (.lst []) (.lst []) = some false := by simp [cmpv, eqOk_nil, veq_nil]
  have lls : ¬ LIM < (vMs ([rows'] ++ [rC])).length := by simp [vMs, LIM]
  have rf : rep 5 [.bl false] = [.bl false, .bl false, .bl false, .bl false, .bl false] := rfl
  rw [show ((3 : Nat) : Int) = 3 from rfl] at d9 d11
  have g8 := p8.atEnd
  rw [v1] at d9 g8
  rw [v2] at r
  simp only [E] at e1
  have l6 : ∀ (a : List Val) (b : Val), a.length = 6 → bin .add false (.lst a) (.lst [b]) s13 = .ok (.lst (a ++ [b])) s13 := fun a b ha => by
    rw [add_lst' (by simp; omega)]; rfl
  generalize vMs ([rows'] ++ [rC]) = L2' at *
  have r4 : rngV 0 (Int.toNat 4) = rngV 0 4 := rfl
  refine ⟨trunc 0 (.bl true) s13, ?_⟩
  simp [a_law19, e0, r4, e1, d2, d3, d4, d5, d6, d7, d8, v1, ln7, d9, d10, d11, d12, mth_ref g8 (.inl rfl), a11, fz, lls, r, cn, f1, f2, f3, f4, f5, f6, f7, l6, bin_rep, rf, add_lst', w1, w2]
end Cd

set_option Elab.async false
set_option linter.all false
set_option maxRecDepth 100000
set_option maxHeartbeats 4000000
/-! Co0: enumerate over a tuple; a list or a tuple walked. -/
namespace PySem
open Sem (wp)
open AutoSeq1 (wpAny_loadPart')
theorem meets_enumerate_newTu (l : Addr) (items : Array Value) (n : Nat) (dct : Option Addr) (sl : Array (Option Value)) :
    Meets (Builtin.«enumerate.__new__» ⟨[.type "enumerate", .ref l], []⟩) (fun _ R s => s.heap.get? l = some { cls := .type "tuple", dict := dct, data := .seq items n, slots := sl } ∧
      R (.ok (.ret (.ref (s.heap.push { cls := .type "tuple_iterator", data := .fields #[.ref l, .int 0 0] }).objs.size)))
        { s with heap := (s.heap.push { cls := .type "tuple_iterator", data := .fields #[.ref l, .int 0 0] }).push { cls := .type "enumerate", data := .fields #[.none, .bool false, .ref s.heap.objs.size, rawInt 0, .none, .none] } }) :=
  .of_wp fun prog w A R s h => by
    obtain ⟨hp, g, d, tk, os⟩ := s; obtain ⟨hl, h⟩ := h
    have hsub := sub_enumerate
    have hL : Heap.IsTuple (Shared.heap ⟨hp, g, d, tk, os⟩) l items := ⟨_, hl, rfl, n, rfl⟩
    wp_walk using wpAny_loadPart' hl
    refine wpAny_stack_any fun st => wpAny_pure ?_
    split
    · rename_i c _ _ _ _ _
      cases (c == Value.type "enumerate")
      · wp_walk using wpAny_loadPart' hl, wpAny_pyIter_tuple hL
        exact ⟨_, rfl, h⟩
      · wp_walk using wpAny_loadPart' hl, wpAny_pyIter_tuple hL
        exact ⟨_, rfl, h⟩
    · wp_walk using wpAny_loadPart' hl, wpAny_pyIter_tuple hL
      exact ⟨_, rfl, h⟩
section
variable {prog : Program} {w : World} {A : Around} {E : Value → Shared → Prop} {s : Shared}
theorem call_enumerate_tuple {l : Addr} {items : Array Value} {Q : Value → Shared → Prop} (hL : s.heap.IsTuple l items)
    (h : ∀ h', IsEnum h' (s.heap.objs.size + 1) s.heap.objs.size 0 .none → h'.IsTupleIter s.heap.objs.size l 0 → h'.objs.size = s.heap.objs.size + 2 →
      (∀ b o, s.heap.get? b = some o → h'.get? b = some o) → Q (.ref (s.heap.objs.size + 1)) { s with heap := h' }) :
    wpAny (model prog w) A (call (.type "enumerate") [.ref l]) Q E s := by
  obtain ⟨⟨c, dct, dt, sl⟩, hl, hc, n, hd⟩ := hL
  replace hc : c = .type "tuple" := hc
  replace hd : dt = .seq items n := hd
  subst hc hd
  refine callType_new F.called_enumerate (by decide) (F.typeCall_enumerate_1 _) (F.newCall_enumerate_1 _) (fun obj => F.args_object_init_2 obj _) F.entry_enumerate_new
    (meets_enumerate_newTu l items n dct sl) ⟨hl, ?_⟩
  have hz : (s.heap.push { cls := .type "tuple_iterator", data := .fields #[.ref l, .int 0 0] }).objs.size = s.heap.objs.size + 1 := Heap.size_push ..
  show _ ∧ _
  rw [hz]
  have he : IsEnum ((s.heap.push { cls := .type "tuple_iterator", data := .fields #[.ref l, .int 0 0] }).push
      { cls := .type "enumerate", data := .fields #[.none, .bool false, .ref s.heap.objs.size, rawInt 0, .none, .none] }) (s.heap.objs.size + 1) s.heap.objs.size 0 .none := by
    have := Heap.get?_push_size (s.heap.push { cls := .type "tuple_iterator", data := .fields #[.ref l, .int 0 0] })
      (o := { cls := .type "enumerate", data := .fields #[.none, .bool false, .ref s.heap.objs.size, rawInt 0, .none, .none] }) rfl
    rw [hz] at this; exact this
  refine ⟨⟨_, he, rfl⟩, h _ he ⟨_, Heap.get?_push_of_some _ (Heap.get?_push_size _ rfl), rfl, rfl⟩ (by rw [Heap.size_push, hz]) fun b o x => Heap.get?_push_of_some _ (Heap.get?_push_of_some _ x)⟩
end
end PySem
namespace Co
open PySem PySem.Spec L2
def ItE (K : PySem.W.Frag) (a : Addr) : L2.It :=
  ⟨fun i H => ∃ (xs : List V) (x : V), SqT K H a xs ∧ xs[i]? = some x, fun i H v H' => ∃ T x, v = .ref T ∧ H T = none ∧ H' = upd H T (.tup [.int (i : Nat), x]) ∧ ∀ xs, SqT K H a xs → xs[i]? = some x, fun i H => ∃ xs : List V, SqT K H a xs ∧ xs.length ≤ i⟩
theorem turn_enumT {P : Program} {w : World} {K : PySem.W.Frag} {elts : List Expr} {kk : Nat} {tpos : Pos} (a e it : Addr) (hai : a ≠ it) (hae : a ≠ e) :
    Turn P w K (.Tuple elts kk tpos) (ItE K a) [e, it] e (fun i h => (∃ old, IsEnum h e it ((i : Nat) : Int) old) ∧ h.IsTupleIter it a i ∧ e ≠ it) where
  mem := by simp
  obj := fun i h st b hb => by
    obtain ⟨⟨old, he⟩, ⟨o, ho, hc, hd⟩, _⟩ := st
    have e' : b = e ∨ b = it := by simpa using hb
    rcases e' with z | z
    · rw [z]; exact ⟨_, he, fun v q => nomatch q⟩
    · rw [z]; exact ⟨o, ho, fun v q => by rw [hd] at q; cases q⟩
  keep := fun i h h' st k => let ⟨⟨old, he⟩, hi, hne⟩ := st; ⟨⟨old, k e (by simp) _ he⟩, hi.at fun o q => k it (by simp) o q, hne⟩
  item := by
    intro X hP hw hK hc i pins s σ H E I hf st hg
    subst hP hw hK
    obtain ⟨⟨old, he⟩, hit, hne⟩ := st
    obtain ⟨xs, x, hq, hx⟩ := hg
    obtain ⟨its, rv, p, hz⟩ := I.tuple hq
    obtain ⟨u, hu, ru⟩ := rv.get hx
    have hel : e < s.heap.objs.size := Heap.lt_size he
    have hil : it < s.heap.objs.size := by obtain ⟨_, q, _⟩ := hit; exact Heap.lt_size q
    have hiz : i < its.toArray.size := by
      have := (List.getElem?_eq_some_iff.mp hu).1
      simpa using this
    refine wpAny_pyNext_enum_itemD (D := Draws.tuple (prog := X.prog) (w := X.w) (A := X.A.in1) (I.ok.hd hc) it a hai its.toArray) he ⟨hit, p⟩ hiz hne (by simp; exact ⟨hne, Ne.symm hae⟩) fun y h' tk hP ho hs' hT hsz hk => ?_
    have ey : y = u := by
      have e1 : its[i]? = some y := by simpa using hP
      rw [hu] at e1
      exact (Option.some.inj e1).symm
    subst ey
    refine ⟨_, rfl, wpAny_letOwnedTupleGo_enum (s := { s with heap := h', toks := tk + 1 }) ho fun h'' he' sb => ?_⟩
    have hT2 : h''.get? s.heap.objs.size = some { cls := .type "tuple", data := .seq #[.int i tk, y] } := (sb.2 _ (Nat.ne_of_gt hel)).trans hT
    have new : ObjOk X.prog X.w (upd H s.heap.objs.size (.tup [.int (i : Nat), x])) h'' s.heap.objs.size (.tup [.int (i : Nat), x]) :=
      ⟨by show 2 ≤ sizeLine; decide, [.int i tk, y], .cons ⟨_, rfl⟩ (.cons ru .nil), ⟨_, hT2, rfl, _, rfl⟩⟩
    have I1 : L2.Inv X pins σ (upd H s.heap.objs.size (.tup [.int (i : Nat), x])) { s with heap := h'', toks := tk + 1 } :=
      I.turnedNew (ch := [e, it]) (fun b ob hb q => (sb.2 b (fun z => hb (by simp [z]))).trans (hk b ob (fun z => hb (by simp [z])) (fun z => hb (by simp [z])) q)) hf (Nat.le_refl _) new
    refine ⟨.ref s.heap.objs.size, _, I1, rfl, ⟨_, x, rfl, I.hok.fresh (Nat.le_refl _), rfl, fun ys hy => by rw [I.tuple_inj hy hq]; exact hx⟩, ⟨⟨y, ?_⟩, hs'.1.at fun o q => (sb.2 it (Ne.symm hne)).trans q, hne⟩, fun b hb => ?_⟩
    · have e1 : ((i + 1 : Nat) : Int) = (i : Int) + 1 := by omega
      rw [e1]; exact he'
    · have hb' : b < s.heap.objs.size := by
        have e' : b = e ∨ b = it := by simpa using hb
        rcases e' with z | z
        · rw [z]; exact hel
        · rw [z]; exact hil
      rw [upd_ne (Nat.ne_of_lt hb')]
      exact (hf b hb).1
  done := by
    intro X hP hw hK hc i pins s σ H E I hf st hg
    subst hP hw hK
    obtain ⟨⟨old, he⟩, hit, hne⟩ := st
    obtain ⟨xs, hq, hx⟩ := hg
    obtain ⟨its, rv, p, hz⟩ := I.tuple hq
    obtain ⟨f0, f1, f2, f3, f4, f5⟩ := hf it (by simp)
    have hl := rv.length
    have hT : s.TypeIs (.ref e) "enumerate" := ⟨_, he, rfl⟩
    unfold pyNext
    refine wpAny_bind (wpAny_attempt (wpAny_callSpecial?_slot (name := Str.ofString "__next__") hT PySem.F.slot_enumerate_next
      (wpAny_call_entry PySem.F.slot_enumerate_next hT PySem.F.entry_enumerate_next ?_ (PySem.F.args_enumerate_next_1 _))))
    show wpAny _ _ (field (.ref e) 2 >>= _) _ _ _
    refine wpAny_bind (wpAny_field he rfl (x := .ref it) rfl ?_)
    refine wpAny_bind (wpAny_nextOf_tuple_end (I.ok.hd hc) hit p (by simp; omega) fun h' x he' hx' => ?_)
    obtain ⟨o, ho, hcc⟩ := hx'
    refine wpAny_bind (wpAny_isInstance (T := "StopIteration") (b := true) ⟨o, ho, hcc⟩ isSubtype_stop ?_)
    exact wpAny_pure ⟨rfl, I.turned (t' := s.toks) (fun b o hb q => he' b o hb q) f0 f1 f3 f4 f5⟩
  self := fun A i s Q E st h => let ⟨⟨_, he⟩, _⟩ := st; wpAny_pyIter_enum he h
def iEnumA (K : PySem.W.Frag) (ta : TA) : TI := fun σ H R => ta σ H fun vs H1 => ∃ a xs, vs = [.ref a] ∧ ((SqL K H1 a xs ∧ R (Ite K a) H1) ∨ (SqT K H1 a xs ∧ R (ItE K a) H1))
theorem pi_enumA {X : Cx} {e : Expr} {ta : TA} {p pos tpos : Pos} {elts : List Expr} {kk : Nat} (hg : Gl X "enumerate") (hm : X.mg "enumerate" = none) (ha : PA X [e] ta) (hs : starEach [e] X.env = [(false, eval e X.env)]) :
    PI X (.Tuple elts kk tpos) (.Call (.Name "enumerate" p) [e] [] pos) (iEnumA X.K ta) := by
  refine ⟨fun pins s σ H R I h => ?_⟩
  refine PyProof.Rows.Call_ (ld_blt I hg hm PyProof.Rows.boot_enumerate (PyProof.Rows.callWith_type1 (thn (ha.run pos pins s σ H _ I h) fun us s1 ⟨vs, H1, I1, r1, q1⟩ => ?_) hs rfl))
  obtain ⟨a, xs, ex, hq⟩ := q1
  subst ex
  cases r1 with
  | cons r rr =>
    cases rr
    cases r
    rcases hq with ⟨hq, q⟩ | ⟨hq, q⟩
    · obtain ⟨its, rv, p', hz⟩ := I1.list hq
      refine call_enumerate_list p'.isList fun h' he hit hsz hk => wpAny_pyIter_enum he ?_
      have I2 : L2.Inv X pins σ H1 { s1 with heap := h' } := I1.kept (t' := s1.toks) hk
      refine ⟨s1.heap.objs.size + 1, [s1.heap.objs.size + 1, s1.heap.objs.size], _, _, H1, rfl, I2, turn_enum a (s1.heap.objs.size + 1) s1.heap.objs.size, ⟨⟨.none, he⟩, hit, Nat.succ_ne_self _⟩, fun b hb => ?_, q⟩
      have e' : b = s1.heap.objs.size + 1 ∨ b = s1.heap.objs.size := by simpa using hb
      have hle : s1.heap.objs.size ≤ b := by
        rcases e' with z | z
        · rw [z]; exact Nat.le_add_right _ _
        · rw [z]; exact Nat.le_refl _
      exact I1.fpOk hle (I1.hok.fresh hle)
    · obtain ⟨its, rv, p', hz⟩ := I1.tuple hq
      have hlt : a < s1.heap.objs.size := p'.lt
      refine call_enumerate_tuple p' fun h' he hit hsz hk => wpAny_pyIter_enum he ?_
      have I2 : L2.Inv X pins σ H1 { s1 with heap := h' } := I1.kept (t' := s1.toks) hk
      refine ⟨s1.heap.objs.size + 1, [s1.heap.objs.size + 1, s1.heap.objs.size], _, _, H1, rfl, I2, turn_enumT a (s1.heap.objs.size + 1) s1.heap.objs.size (Nat.ne_of_lt hlt) (Nat.ne_of_lt (Nat.lt_succ_of_lt hlt)), ⟨⟨.none, he⟩, hit, Nat.succ_ne_self _⟩, fun b hb => ?_, q⟩
      have e' : b = s1.heap.objs.size + 1 ∨ b = s1.heap.objs.size := by simpa using hb
      have hle : s1.heap.objs.size ≤ b := by
        rcases e' with z | z
        · rw [z]; exact Nat.le_add_right _ _
        · rw [z]; exact Nat.le_refl _
      exact I1.fpOk hle (I1.hok.fresh hle)
/-- a list or a tuple walked -/
def iSeq (K : PySem.W.Frag) (tl : TE) : TI := fun σ H R => tl σ H fun x H1 => ∃ a, x = .ref a ∧ (((∃ xs, SqL K H1 a xs) ∧ R (Itl K a) H1) ∨ ((∃ xs, SqT K H1 a xs) ∧ R (Itt K a) H1))
theorem pi_seq {X : Cx} {tg l : Expr} {tl : TE} (hl : PE X l tl) : PI X tg l (iSeq X.K tl) := by
  refine ⟨fun pins s σ H R I h => ?_⟩
  refine thn (hl.run pins s σ H _ I h) fun v s1 ⟨x, H1, I1, r1, q1⟩ => ?_
  obtain ⟨a, e, q⟩ := q1
  subst e
  cases r1
  rcases q with ⟨⟨xs, hq⟩, q⟩ | ⟨⟨xs, hq⟩, q⟩
  · obtain ⟨its, rv, p, hz⟩ := I1.list hq
    refine wpAny_pyIter_list p.isList ?_
    refine ⟨s1.heap.objs.size, [s1.heap.objs.size], _, _, H1, rfl, I1.kept (t' := s1.toks) fun b o e => Heap.get?_push_of_some _ e, turn_list a _, ⟨_, Heap.get?_push_size _ rfl, rfl, rfl⟩, fun b hb => ?_, q⟩
    have e : b = s1.heap.objs.size := by simpa using hb
    subst e
    exact I1.fpOk (Nat.le_refl _) (I1.hok.fresh (Nat.le_refl _))
  · obtain ⟨its, rv, p, hz⟩ := I1.tuple hq
    refine wpAny_pyIter_tuple (show s1.heap.IsTuple a its.toArray from p) ?_
    refine ⟨s1.heap.objs.size, [s1.heap.objs.size], _, _, H1, rfl, I1.kept (t' := s1.toks) fun b o e => Heap.get?_push_of_some _ e, turn_tuple a _, ⟨_, Heap.get?_push_size _ rfl, rfl, rfl⟩, fun b hb => ?_, q⟩
    have e : b = s1.heap.objs.size := by simpa using hb
    subst e
    exact I1.fpOk (Nat.le_refl _) (I1.hok.fresh (Nat.le_refl _))
end Co

set_option Elab.async false
set_option linter.all false
set_option maxRecDepth 100000
/-! Co2: how the plain values and the store lie in the layer's abstract heap. -/
namespace Co
open PySem PySem.Spec L2

/-- a memory: where each cell of the store stands, the store, the abstract heap -/
structure M where
  ρ : List Addr
  st : Store
  H : Hp
  /-- objects that are held back: nobody reads or writes them -/
  hd : List Addr
def Cell.isLive : Cell → Prop
  | .dead => False
  | _ => True
def M.Live (m : M) (a : Addr) : Prop := a ∈ m.hd ∨ ∃ (i : Nat) (c : Cell), m.ρ[i]? = some a ∧ m.st[i]? = some c ∧ c.isLive
def KLst (K : PySem.W.Frag) (a : Addr) (xs : List V) : Prop := ∃ o its n, K.lookup a = some o ∧ o.cls = .type "list" ∧ o.dict = none ∧ o.data = Data.seq its n ∧ its.size ≤ sizeLine ∧ Vals xs its.toList

mutual
inductive RepV (K : PySem.W.Frag) (m : M) : Val → V → Prop
  | non : RepV K m .non .non
  | bl (b : Bool) : RepV K m (.bl b) (.bl b)
  | int (i : Int) : RepV K m (.int i) (.int i)
  | str (x : Str) : RepV K m (.str x) (.str x)
  | tup {a : Addr} {vs : List V} {xs : List Val} : SqT K m.H a vs → RepVs K m xs vs → RepV K m (.tup xs) (.ref a)
  | lst {a : Addr} {vs : List V} {xs : List Val} : m.H a = some (.lst vs) → ¬ m.Live a → RepVs K m xs vs → RepV K m (.lst xs) (.ref a)
  | scr {a : Addr} {vs : List V} {xs : List Val} : (∃ o, m.H a = some (.frz o (.lst vs))) ∨ KLst K a vs → RepVs K m xs vs → RepV K m (.scr xs) (.ref a)
  | dct {a : Addr} {kvs : List (Key × V)} {ks : List Key} {xs : List Val} : m.H a = some (.dK kvs) → ¬ m.Live a → kvs.map (·.1) = ks → RepVs K m xs (kvs.map (·.2)) → RepV K m (.dct ks xs) (.ref a)
  | ref {i : Nat} {a : Addr} : m.ρ[i]? = some a → RepV K m (.ref i) (.ref a)
inductive RepVs (K : PySem.W.Frag) (m : M) : List Val → List V → Prop
  | nil : RepVs K m [] []
  | cons {v : Val} {x : V} {vs : List Val} {xs : List V} : RepV K m v x → RepVs K m vs xs → RepVs K m (v :: vs) (x :: xs)
end

/-- what stands in a cell -/
inductive CellOk (K : PySem.W.Frag) (m : M) : Cell → Addr → Prop
  | lst {a : Addr} {vs : List V} {xs : List Val} : m.H a = some (.lst vs) → RepVs K m xs vs → CellOk K m (.lst xs) a
  | dct {a : Addr} {kvs : List (Key × V)} {ks : List Key} {xs : List Val} : m.H a = some (.dK kvs) → kvs.map (·.1) = ks → RepVs K m xs (kvs.map (·.2)) → CellOk K m (.dct ks xs) a
  | dead {a : Addr} : m.H a ≠ none → CellOk K m .dead a
/-- an object that is written nowhere here -/
def HO.still : HO → Prop
  | .lst _ => False
  | .dK _ => False
  | _ => True
structure RelS (K : PySem.W.Frag) (m : M) : Prop where
  len : m.ρ.length = m.st.length
  nd : m.ρ.Nodup
  cell : ∀ (i : Nat) (c : Cell) (a : Addr), m.st[i]? = some c → m.ρ[i]? = some a → CellOk K m c a
  hd : ∀ a ∈ m.hd, (∃ o, m.H a = some o ∧ ¬ HO.still o) ∧ a ∉ m.ρ
/-- from one memory to a later one -/
structure Ext (m m' : M) : Prop where
  rho : ∀ (i : Nat) (a : Addr), m.ρ[i]? = some a → m'.ρ[i]? = some a
  keep : ∀ a o, m.H a = some o → ¬ m.Live a → m'.H a = some o
  kinds : ∀ a o, m.H a = some o → HO.still o → m'.H a = some o
  live : ∀ a, m'.Live a → m.Live a ∨ m.H a = none
  trk : ∀ a, m.H a ≠ none → m'.H a ≠ none
  len : m.st.length ≤ m'.st.length
  mem : ∀ a ∈ m'.ρ, a ∈ m.ρ ∨ m.H a = none
  hd : m'.hd = m.hd
  hold : ∀ a ∈ m.hd, m'.H a = m.H a

theorem neM {α : Type} {a b : α} {l : List α} (h1 : a ∈ l) (h2 : b ∉ l) : a ≠ b := fun e => h2 (e ▸ h1)
theorem ixInj {α : Type} : ∀ {l : List α} {i j : Nat} {x : α}, l.Nodup → l[i]? = some x → l[j]? = some x → i = j
  | [], _, _, _, _, h, _ => by simp at h
  | y :: l, 0, 0, _, _, _, _ => rfl
  | y :: l, 0, j + 1, x, nd, h1, h2 => by
    have e : y = x := by simpa using h1
    subst e
    exact absurd (List.mem_of_getElem? (by simpa using h2)) (List.nodup_cons.mp nd).1
  | y :: l, i + 1, 0, x, nd, h1, h2 => by
    have e : y = x := by simpa using h2
    subst e
    exact absurd (List.mem_of_getElem? (by simpa using h1)) (List.nodup_cons.mp nd).1
  | y :: l, i + 1, j + 1, x, nd, h1, h2 => congrArg (· + 1) (ixInj (x := x) (List.nodup_cons.mp nd).2 (by simpa using h1) (by simpa using h2))

theorem Ext.refl (m : M) : Ext m m := ⟨fun _ _ h => h, fun _ _ h _ => h, fun _ _ h _ => h, fun _ h => .inl h, fun _ h => h, Nat.le_refl _, fun _ h => .inl h, rfl, fun _ _ => rfl⟩
theorem Ext.trans {m m1 m2 : M} (a : Ext m m1) (b : Ext m1 m2) : Ext m m2 where
  rho := fun i x h => b.rho i x (a.rho i x h)
  keep := fun x o h hn => b.keep x o (a.keep x o h hn) fun hl => by
    rcases a.live x hl with z | z
    · exact hn z
    · rw [h] at z; cases z
  kinds := fun x o h s => b.kinds x o (a.kinds x o h s) s
  live := fun x hl => by
    rcases b.live x hl with z | z
    · exact a.live x z
    · refine .inr ?_
      cases q : m.H x with
      | none => rfl
      | some o => exact absurd z (a.trk x (by rw [q]; simp))
  trk := fun x h => b.trk x (a.trk x h)
  len := Nat.le_trans a.len b.len
  mem := fun x hx => by
    rcases b.mem x hx with z | z
    · exact a.mem x z
    · refine .inr ?_
      cases q : m.H x with
      | none => rfl
      | some o => exact absurd z (a.trk x (by rw [q]; simp))
  hd := b.hd.trans a.hd
  hold := fun x hx => (b.hold x (by rw [a.hd]; exact hx)).trans (a.hold x hx)

section
variable {K : PySem.W.Frag} {m m' : M}
/-- what a value's description leans on stays -/
structure Keep (m m' : M) : Prop where
  rho : ∀ (i : Nat) (a : Addr), m.ρ[i]? = some a → m'.ρ[i]? = some a
  keep : ∀ a o, m.H a = some o → ¬ m.Live a → m'.H a = some o ∧ ¬ m'.Live a
  kinds : ∀ a o, m.H a = some o → HO.still o → m'.H a = some o
theorem Ext.notLive (e : Ext m m') {a : Addr} {o : HO} (h : m.H a = some o) (hn : ¬ m.Live a) : ¬ m'.Live a := fun hl => by
  rcases e.live a hl with z | z
  · exact hn z
  · rw [h] at z; cases z
theorem Rd.still {H : Hp} {a : Addr} {u : HO} (hu : HO.still u) (r : Rd H a u) : ∃ o, H a = some o ∧ HO.still o := by
  rcases r with r | ⟨o, r⟩
  · exact ⟨_, r, hu⟩
  · exact ⟨_, r, trivial⟩
theorem Ext.kp (e : Ext m m') : Keep m m' := ⟨e.rho, fun a o h hn => ⟨e.keep a o h hn, e.notLive h hn⟩, e.kinds⟩
mutual
theorem RepV.kept (e : Keep m m') : ∀ {v : Val} {x : V}, RepV K m v x → RepV K m' v x
  | _, _, .non => .non
  | _, _, .bl b => .bl b
  | _, _, .int i => .int i
  | _, _, .str x => .str x
  | _, _, .tup h hs => by
    refine .tup ?_ (RepVs.kept e hs)
    rcases h with (h | ⟨o, h⟩) | h
    · exact .inl (.inl (e.kinds _ _ h trivial))
    · exact .inl (.inr ⟨o, e.kinds _ _ h trivial⟩)
    · exact .inr h
  | _, _, .lst h hl hs => .lst (e.keep _ _ h hl).1 (e.keep _ _ h hl).2 (RepVs.kept e hs)
  | _, _, .scr h hs => by
    refine .scr ?_ (RepVs.kept e hs)
    rcases h with ⟨o, h⟩ | h
    · exact .inl ⟨o, e.kinds _ _ h trivial⟩
    · exact .inr h
  | _, _, .dct h hl hk hs => .dct (e.keep _ _ h hl).1 (e.keep _ _ h hl).2 hk (RepVs.kept e hs)
  | _, _, .ref h => .ref (e.rho _ _ h)
theorem RepVs.kept (e : Keep m m') : ∀ {vs : List Val} {xs : List V}, RepVs K m vs xs → RepVs K m' vs xs
  | _, _, .nil => .nil
  | _, _, .cons h hs => .cons (RepV.kept e h) (RepVs.kept e hs)
end
theorem RepV.mono (e : Ext m m') {v : Val} {x : V} (h : RepV K m v x) : RepV K m' v x := h.kept e.kp
theorem RepVs.mono (e : Ext m m') {v : List Val} {x : List V} (h : RepVs K m v x) : RepVs K m' v x := h.kept e.kp
theorem RepVs.length : ∀ {vs : List Val} {xs : List V}, RepVs K m vs xs → xs.length = vs.length
  | _, _, .nil => rfl
  | _, _, .cons _ h => by simp [RepVs.length h]
theorem RepVs.get : ∀ {vs : List Val} {xs : List V} {i : Nat} {v : Val}, RepVs K m vs xs → vs[i]? = some v → ∃ x, xs[i]? = some x ∧ RepV K m v x
  | _, _, _, _, .nil, e => by simp at e
  | _, _, 0, _, .cons r _, e => by simp at e; subst e; exact ⟨_, rfl, r⟩
  | _, _, i + 1, v, .cons _ t, e => by
    obtain ⟨u, h1, h2⟩ := RepVs.get (i := i) (v := v) t (by simpa using e)
    exact ⟨u, by simpa using h1, h2⟩
theorem RepVs.getV : ∀ {vs : List Val} {xs : List V} {i : Nat} {x : V}, RepVs K m vs xs → xs[i]? = some x → ∃ v, vs[i]? = some v ∧ RepV K m v x
  | _, _, _, _, .nil, e => by simp at e
  | _, _, 0, _, .cons r _, e => by simp at e; subst e; exact ⟨_, rfl, r⟩
  | _, _, i + 1, v, .cons _ t, e => by
    obtain ⟨u, h1, h2⟩ := RepVs.getV (i := i) (x := v) t (by simpa using e)
    exact ⟨u, by simpa using h1, h2⟩
theorem RepVs.append : ∀ {vs ws : List Val} {xs ys : List V}, RepVs K m vs xs → RepVs K m ws ys → RepVs K m (vs ++ ws) (xs ++ ys)
  | _, _, _, _, .nil, s => s
  | _, _, _, _, .cons r t, s => .cons r (RepVs.append t s)
theorem RepVs.take : ∀ {vs : List Val} {xs : List V} (n : Nat), RepVs K m vs xs → RepVs K m (vs.take n) (xs.take n)
  | _, _, 0, _ => by simp only [List.take_zero]; exact .nil
  | _, _, _ + 1, .nil => .nil
  | _, _, n + 1, .cons r t => .cons r (RepVs.take n t)
theorem RepVs.drop : ∀ {vs : List Val} {xs : List V} (n : Nat), RepVs K m vs xs → RepVs K m (vs.drop n) (xs.drop n)
  | _, _, 0, r => r
  | _, _, _ + 1, .nil => .nil
  | _, _, n + 1, .cons _ t => RepVs.drop n t
theorem RepVs.set {v : Val} {x : V} (r : RepV K m v x) : ∀ {vs : List Val} {xs : List V} (i : Nat), RepVs K m vs xs → RepVs K m (vs.set i v) (xs.set i x)
  | _, _, _, .nil => .nil
  | _, _, 0, .cons _ t => .cons r t
  | _, _, i + 1, .cons q t => .cons q (RepVs.set r i t)
theorem RepVs.eraseIdx : ∀ {vs : List Val} {xs : List V} (i : Nat), RepVs K m vs xs → RepVs K m (vs.eraseIdx i) (xs.eraseIdx i)
  | _, _, _, .nil => .nil
  | _, _, 0, .cons _ t => t
  | _, _, i + 1, .cons q t => .cons q (RepVs.eraseIdx i t)
theorem RepVs.rep {vs : List Val} {xs : List V} (r : RepVs K m vs xs) : ∀ (n : Nat), RepVs K m (List.replicate n vs).flatten (List.replicate n xs).flatten
  | 0 => .nil
  | n + 1 => by
    rw [List.replicate_succ, List.replicate_succ, List.flatten_cons, List.flatten_cons]
    exact r.append (RepVs.rep r n)
theorem RepVs.dropLast : ∀ {vs : List Val} {xs : List V}, RepVs K m vs xs → RepVs K m vs.dropLast xs.dropLast
  | _, _, .nil => .nil
  | _, _, .cons _ .nil => .nil
  | _, _, .cons q (.cons r t) => .cons q (RepVs.dropLast (.cons r t))
theorem RepVs.ints : ∀ (ns : List Int), RepVs K m (ns.map Val.int) (ns.map V.int)
  | [] => .nil
  | n :: ns => .cons (.int n) (RepVs.ints ns)
theorem RepVs.ofInts : ∀ {vs : List Val} {xs : List V} {ns : List Int}, RepVs K m vs xs → ints? vs = some ns → xs = ns.map V.int
  | _, _, _, .nil, e => by
    simp only [ints?, Option.some.injEq] at e; subst e; rfl
  | _, _, _, .cons (v := v) (vs := vs) r t, e => by
    cases r <;> simp only [ints?, Option.map_eq_some_iff, reduceCtorEq] at e
    obtain ⟨ms, e1, e2⟩ := e
    subst e2
    rw [RepVs.ofInts t e1]; rfl
theorem RepVs.ofBls : ∀ {vs : List Val} {xs : List V} {ns : List Bool}, RepVs K m vs xs → bls? vs = some ns → xs = ns.map V.bl
  | _, _, _, .nil, e => by
    simp only [bls?, Option.some.injEq] at e; subst e; rfl
  | _, _, _, .cons (v := v) (vs := vs) r t, e => by
    cases r <;> simp only [bls?, Option.map_eq_some_iff, reduceCtorEq] at e
    obtain ⟨ms, e1, e2⟩ := e
    subst e2
    rw [RepVs.ofBls t e1]; rfl

theorem CellOk.tr {c : Cell} {a : Addr} (h : CellOk K m c a) : m.H a ≠ none := by
  cases h with
  | lst e _ => rw [e]; simp
  | dct e _ _ => rw [e]; simp
  | dead e => exact e
theorem RelS.at (r : RelS K m) {i : Nat} {c : Cell} (h : m.st[i]? = some c) : ∃ a, m.ρ[i]? = some a ∧ CellOk K m c a := by
  have hi : i < m.ρ.length := by
    rw [r.len]
    exact (List.getElem?_eq_some_iff.mp h).1
  exact ⟨m.ρ[i], by simp [hi], r.cell i c _ h (by simp [hi])⟩
theorem RelS.mem (r : RelS K m) {a : Addr} (h : a ∈ m.ρ) : m.H a ≠ none := by
  obtain ⟨i, hi, e⟩ := List.getElem_of_mem h
  have h2 : i < m.st.length := by rw [← r.len]; exact hi
  exact (r.cell i m.st[i] a (by simp [h2]) (by simp [hi, e])).tr
theorem RelS.fresh (r : RelS K m) {p : Addr} (h : m.H p = none) : p ∉ m.ρ := fun hm => r.mem hm h
theorem RelS.freshH (r : RelS K m) {p : Addr} (h : m.H p = none) : p ∉ m.hd := fun hm => by
  obtain ⟨⟨o, e, _⟩, _⟩ := r.hd p hm
  rw [h] at e; cases e
theorem RelS.freshL (r : RelS K m) {p : Addr} (h : m.H p = none) : ¬ m.Live p := fun hl => by
  rcases hl with hl | ⟨i, _, e, _⟩
  · exact r.freshH h hl
  · exact r.fresh h (List.mem_of_getElem? e)
/-- live addresses hold lists and dicts -/
theorem RelS.liveK (r : RelS K m) {a : Addr} (h : m.Live a) : ∃ o, m.H a = some o ∧ ¬ HO.still o := by
  rcases h with h | ⟨i, c, e1, e2, hc⟩
  · exact (r.hd a h).1
  cases r.cell i c a e2 e1 with
  | lst e _ => exact ⟨_, e, fun z => z⟩
  | dct e _ _ => exact ⟨_, e, fun z => z⟩
  | dead _ => exact hc.elim

/-- a new object that no cell holds -/
theorem Ext.new (r : RelS K m) {p : Addr} (hp : m.H p = none) (o : HO) : Ext m { m with H := upd m.H p o } where
  rho := fun _ _ h => h
  keep := fun a u h _ => (upd_ne (fun e => by rw [e, hp] at h; cases h)).trans h
  kinds := fun a u h _ => (upd_ne (fun e => by rw [e, hp] at h; cases h)).trans h
  live := fun a h => .inl h
  trk := fun a h => by
    by_cases e : a = p
    · subst e; show upd m.H a o a ≠ none; rw [upd_same]; simp
    · show upd m.H p o a ≠ none; rw [upd_ne e]; exact h
  len := Nat.le_refl _
  mem := fun _ h => .inl h
  hd := rfl
  hold := fun a ha => upd_ne fun e => r.freshH hp (e ▸ ha)
theorem CellOk.kept (e : Keep m m') {c : Cell} {a : Addr} (h : CellOk K m c a) (hH : m'.H a = m.H a) : CellOk K m' c a := by
  cases h with
  | lst h1 h2 => exact .lst (hH.trans h1) (h2.kept e)
  | dct h1 h2 h3 => exact .dct (hH.trans h1) h2 (h3.kept e)
  | dead h1 => exact .dead (by rw [hH]; exact h1)
theorem CellOk.mono (e : Ext m m') {c : Cell} {a : Addr} (h : CellOk K m c a) (hH : m'.H a = m.H a) : CellOk K m' c a := h.kept e.kp hH
theorem RelS.new (r : RelS K m) {p : Addr} (hp : m.H p = none) (o : HO) : RelS K { m with H := upd m.H p o } where
  len := r.len
  nd := r.nd
  cell := fun i c a h1 h2 => (r.cell i c a h1 h2).mono (Ext.new r hp o) (by
    show upd m.H p o a = m.H a
    exact upd_ne fun e => r.fresh hp (e ▸ List.mem_of_getElem? h2))
  hd := fun a ha => by
    obtain ⟨⟨u, e, hs⟩, hn⟩ := r.hd a ha
    refine ⟨⟨u, ?_, hs⟩, hn⟩
    show upd m.H p o a = some u
    rw [upd_ne (neM ha (r.freshH hp))]; exact e
/-- a new cell -/
def M.push (m : M) (p : Addr) (o : HO) (c : Cell) : M := ⟨m.ρ ++ [p], m.st ++ [c], upd m.H p o, m.hd⟩
theorem Ext.push (r : RelS K m) {p : Addr} (hp : m.H p = none) (o : HO) (c : Cell) : Ext m (m.push p o c) where
  rho := fun i a h => by
    show (m.ρ ++ [p])[i]? = some a
    rw [List.getElem?_append_left (List.getElem?_eq_some_iff.mp h).1]; exact h
  keep := (Ext.new r hp o).keep
  kinds := (Ext.new r hp o).kinds
  live := fun a hl => by
    rcases hl with hl | ⟨i, d, h1, h2, h3⟩
    · exact .inl (.inl hl)
    have h1 : (m.ρ ++ [p])[i]? = some a := h1
    have h2 : (m.st ++ [c])[i]? = some d := h2
    by_cases hi : i < m.ρ.length
    · rw [List.getElem?_append_left hi] at h1
      rw [List.getElem?_append_left (by rw [← r.len]; exact hi)] at h2
      exact .inl (.inr ⟨i, d, h1, h2, h3⟩)
    · rw [List.getElem?_append_right (by omega)] at h1
      have e : a = p := by
        rcases Nat.eq_zero_or_pos (i - m.ρ.length) with z | z
        · rw [z] at h1; simpa using h1.symm
        · rw [List.getElem?_eq_none (by simp; omega)] at h1; cases h1
      subst e
      exact .inr hp
  trk := (Ext.new r hp o).trk
  len := by show m.st.length ≤ (m.st ++ [c]).length; simp
  mem := fun a h => by
    have h : a ∈ m.ρ ++ [p] := h
    rcases List.mem_append.mp h with z | z
    · exact .inl z
    · have e : a = p := by simpa using z
      exact .inr (e ▸ hp)
  hd := rfl
  hold := (Ext.new r hp o).hold
theorem RelS.push (r : RelS K m) {p : Addr} (hp : m.H p = none) (o : HO) (c : Cell) (hc : CellOk K (m.push p o c) c p) : RelS K (m.push p o c) where
  len := by show (m.ρ ++ [p]).length = (m.st ++ [c]).length; simp [r.len]
  nd := by
    show (m.ρ ++ [p]).Nodup
    rw [List.nodup_append]
    exact ⟨r.nd, by simp, fun a ha b hb => by
      have e : b = p := by simpa using hb
      subst e
      exact fun e => r.fresh hp (e ▸ ha)⟩
  cell := fun i d a h1 h2 => by
    have h2 : (m.ρ ++ [p])[i]? = some a := h2
    have h1 : (m.st ++ [c])[i]? = some d := h1
    by_cases hi : i < m.ρ.length
    · rw [List.getElem?_append_left hi] at h2
      rw [List.getElem?_append_left (by rw [← r.len]; exact hi)] at h1
      refine (r.cell i d a h1 h2).mono (Ext.push r hp o c) ?_
      show upd m.H p o a = m.H a
      exact upd_ne fun e => r.fresh hp (e ▸ List.mem_of_getElem? h2)
    · have hz : i = m.ρ.length := by
        have := (List.getElem?_eq_some_iff.mp h2).1
        simp at this; omega
      subst hz
      rw [List.getElem?_append_right (Nat.le_refl _)] at h2
      rw [r.len, List.getElem?_append_right (Nat.le_refl _)] at h1
      have e1 : a = p := by simpa using h2.symm
      have e2 : d = c := by simpa using h1.symm
      subst e1; subst e2
      exact hc
  hd := fun a ha => by
    obtain ⟨⟨u, e, hs⟩, hn⟩ := r.hd a ha
    refine ⟨⟨u, ?_, hs⟩, fun hm => ?_⟩
    · show upd m.H p o a = some u
      rw [upd_ne (neM ha (r.freshH hp))]; exact e
    · have hm : a ∈ m.ρ ++ [p] := hm
      rcases List.mem_append.mp hm with z | z
      · exact hn z
      · have e : a = p := by simpa using z
        exact r.freshH hp (e ▸ ha)
/-- a cell is written -/
def M.put (m : M) (i : Nat) (a : Addr) (o : HO) (c : Cell) : M := ⟨m.ρ, m.st.set i c, upd m.H a o, m.hd⟩
theorem Ext.put (r : RelS K m) {i : Nat} {a : Addr} {c0 : Cell} (hi : m.st[i]? = some c0) (hl : c0.isLive) (ha : m.ρ[i]? = some a) (o : HO) (c : Cell) : Ext m (m.put i a o c) where
  rho := fun _ _ h => h
  keep := fun b u h hn => (upd_ne (fun e => hn (by rw [e]; exact .inr ⟨i, c0, ha, hi, hl⟩))).trans h
  kinds := fun b u h hs => (upd_ne (fun e => by
    obtain ⟨w, h1, h2⟩ := r.liveK (.inr ⟨i, c0, ha, hi, hl⟩)
    rw [e, h1] at h; cases h; exact h2 hs)).trans h
  live := fun b hl' => by
    rcases hl' with hl' | ⟨j, d, h1, h2, h3⟩
    · exact .inl (.inl hl')
    have h1 : m.ρ[j]? = some b := h1
    have h2 : (m.st.set i c)[j]? = some d := h2
    by_cases e : i = j
    · subst e
      rw [ha] at h1; cases h1
      exact .inl (.inr ⟨i, c0, ha, hi, hl⟩)
    · rw [List.getElem?_set_ne e] at h2
      exact .inl (.inr ⟨j, d, h1, h2, h3⟩)
  trk := fun b h => by
    by_cases e : b = a
    · subst e; show upd m.H b o b ≠ none; rw [upd_same]; simp
    · show upd m.H a o b ≠ none; rw [upd_ne e]; exact h
  len := by show m.st.length ≤ (m.st.set i c).length; simp
  mem := fun _ h => .inl h
  hd := rfl
  hold := fun b hb => upd_ne fun e => (r.hd b hb).2 (e ▸ List.mem_of_getElem? ha)
theorem RelS.put (r : RelS K m) {i : Nat} {a : Addr} {c0 : Cell} (hi : m.st[i]? = some c0) (hl : c0.isLive) (ha : m.ρ[i]? = some a) (o : HO) (c : Cell) (hc : CellOk K (m.put i a o c) c a) : RelS K (m.put i a o c) where
  len := by show m.ρ.length = (m.st.set i c).length; simp [r.len]
  nd := r.nd
  cell := fun j d b h1 h2 => by
    have h2 : m.ρ[j]? = some b := h2
    have h1 : (m.st.set i c)[j]? = some d := h1
    by_cases e : i = j
    · subst e
      rw [ha] at h2; cases h2
      have : (m.st.set i c)[i]? = some c := List.getElem?_set_self (List.getElem?_eq_some_iff.mp hi).1
      rw [this] at h1; cases h1
      exact hc
    · rw [List.getElem?_set_ne e] at h1
      refine (r.cell j d b h1 h2).mono (Ext.put r hi hl ha o c) ?_
      show upd m.H a o b = m.H b
      refine upd_ne fun z => e ?_
      subst z
      exact ixInj r.nd ha h2
  hd := fun b hb => by
    obtain ⟨⟨u, e, hs⟩, hn⟩ := r.hd b hb
    refine ⟨⟨u, ?_, hs⟩, hn⟩
    show upd m.H a o b = some u
    rw [upd_ne (Ne.symm (neM (List.mem_of_getElem? ha) hn))]; exact e
/-- a cell is given up: the heap stays -/
def M.kill (m : M) (i : Nat) : M := ⟨m.ρ, m.st.set i .dead, m.H, m.hd⟩
theorem kill_live {m : M} {i : Nat} {b : Addr} (h : (m.kill i).Live b) : m.Live b := by
  rcases h with h | ⟨j, d, h1, h2, h3⟩
  · exact .inl h
  have h1 : m.ρ[j]? = some b := h1
  have h2 : (m.st.set i .dead)[j]? = some d := h2
  by_cases e : i = j
  · subst e
    rw [List.getElem?_set] at h2
    simp only [if_true] at h2
    split at h2
    · cases h2; exact h3.elim
    · cases h2
  · rw [List.getElem?_set_ne e] at h2
    exact .inr ⟨j, d, h1, h2, h3⟩
theorem Ext.kill (m : M) (i : Nat) : Ext m (m.kill i) where
  rho := fun _ _ h => h
  keep := fun _ _ h _ => h
  kinds := fun _ _ h _ => h
  live := fun _ h => .inl (kill_live h)
  trk := fun _ h => h
  len := by show m.st.length ≤ (m.st.set i .dead).length; simp
  mem := fun _ h => .inl h
  hd := rfl
  hold := fun _ _ => rfl
theorem RelS.kill (r : RelS K m) (i : Nat) : RelS K (m.kill i) where
  len := by show m.ρ.length = (m.st.set i .dead).length; simp [r.len]
  nd := r.nd
  cell := fun j d b h1 h2 => by
    have h2 : m.ρ[j]? = some b := h2
    have h1 : (m.st.set i .dead)[j]? = some d := h1
    by_cases e : i = j
    · subst e
      have : i < m.st.length := by rw [← r.len]; exact (List.getElem?_eq_some_iff.mp h2).1
      rw [List.getElem?_set_self this] at h1; cases h1
      exact .dead (r.mem (List.mem_of_getElem? h2))
    · rw [List.getElem?_set_ne e] at h1
      exact (r.cell j d b h1 h2).mono (Ext.kill m i) rfl
  hd := r.hd
theorem kill_dead (r : RelS K m) {i : Nat} {a : Addr} (ha : m.ρ[i]? = some a) : ¬ (m.kill i).Live a := fun hl => by
  rcases hl with hl | ⟨j, d, h1, h2, h3⟩
  · exact (r.hd a hl).2 (List.mem_of_getElem? ha)
  have h1 : m.ρ[j]? = some a := h1
  have h2 : (m.st.set i .dead)[j]? = some d := h2
  have e : i = j := ixInj r.nd ha h1
  subst e
  have : i < m.st.length := by rw [← r.len]; exact (List.getElem?_eq_some_iff.mp ha).1
  rw [List.getElem?_set_self this] at h2; cases h2
  exact h3

/-! the cells behind the n-th are forgotten -/
def M.cut (m : M) (n : Nat) : M := ⟨m.ρ.take n, m.st.take n, m.H, m.hd⟩
theorem cut_live {m : M} {n : Nat} {b : Addr} (h : (m.cut n).Live b) : m.Live b := by
  rcases h with h | ⟨j, d, h1, h2, h3⟩
  · exact .inl h
  have h1 : (m.ρ.take n)[j]? = some b := h1
  have h2 : (m.st.take n)[j]? = some d := h2
  rw [List.getElem?_take] at h1 h2
  split at h1
  · rename_i hj
    rw [if_pos hj] at h2
    exact .inr ⟨j, d, h1, h2, h3⟩
  · cases h1
mutual
theorem RepV.cut {n : Nat} : ∀ {v : Val} {x : V}, RepV K m v x → below n v = true → RepV K (m.cut n) v x
  | _, _, .non, _ => .non
  | _, _, .bl b, _ => .bl b
  | _, _, .int i, _ => .int i
  | _, _, .str x, _ => .str x
  | _, _, .tup h hs, b => .tup h (RepVs.cut hs (by simpa only [below] using b))
  | _, _, .lst h hl hs, b => .lst h (fun z => hl (cut_live z)) (RepVs.cut hs (by simpa only [below] using b))
  | _, _, .scr h hs, b => .scr h (RepVs.cut hs (by simpa only [below] using b))
  | _, _, .dct h hl hk hs, b => .dct h (fun z => hl (cut_live z)) hk (RepVs.cut hs (by simpa only [below] using b))
  | _, _, .ref (i := i) (a := a) h, b => .ref (by
      have hb : i < n := by simpa only [below, decide_eq_true_eq] using b
      show (m.ρ.take n)[i]? = some a
      rw [List.getElem?_take, if_pos hb]; exact h)
theorem RepVs.cut {n : Nat} : ∀ {vs : List Val} {xs : List V}, RepVs K m vs xs → belows n vs = true → RepVs K (m.cut n) vs xs
  | _, _, .nil, _ => .nil
  | v :: vs, _, .cons h hs, b => by
    have b' : below n v = true ∧ belows n vs = true := by simpa only [belows, Bool.and_eq_true] using b
    exact .cons (RepV.cut h b'.1) (RepVs.cut hs b'.2)
end
theorem RelS.cut (r : RelS K m) {n : Nat} (hb : (m.st.take n).all (Cell.below n) = true) : RelS K (m.cut n) where
  len := by show (m.ρ.take n).length = (m.st.take n).length; simp [r.len]
  nd := r.nd.sublist (List.take_sublist _ _)
  cell := fun j d b h1 h2 => by
    have h2 : (m.ρ.take n)[j]? = some b := h2
    have h1 : (m.st.take n)[j]? = some d := h1
    have hd : Cell.below n d = true := List.all_eq_true.mp hb d (List.mem_of_getElem? h1)
    rw [List.getElem?_take] at h1 h2
    split at h1
    · rename_i hj
      rw [if_pos hj] at h2
      cases r.cell j d b h1 h2 with
      | lst e h => exact .lst e (h.cut (by simpa only [Cell.below] using hd))
      | dct e ek h => exact .dct e ek (h.cut (by simpa only [Cell.below] using hd))
      | dead e => exact .dead e
    · cases h1
  hd := fun a ha => ⟨(r.hd a ha).1, fun hm => (r.hd a ha).2 (List.mem_of_mem_take hm)⟩
theorem Ext.cut {m m' : M} (r : RelS K m) (e : Ext m m') : Ext m (m'.cut m.st.length) where
  rho := fun i a h => by
    show (m'.ρ.take m.st.length)[i]? = some a
    rw [List.getElem?_take, if_pos (by rw [← r.len]; exact (List.getElem?_eq_some_iff.mp h).1)]
    exact e.rho i a h
  keep := e.keep
  kinds := e.kinds
  live := fun a h => e.live a (cut_live h)
  trk := e.trk
  len := by
    show m.st.length ≤ (m'.st.take m.st.length).length
    rw [List.length_take]
    have := e.len
    omega
  mem := fun a h => e.mem a (List.mem_of_mem_take h)
  hd := e.hd
  hold := e.hold

/-! ### holding an object back -/
def M.give (m : M) (h : List Addr) : M := ⟨m.ρ, m.st, m.H, h⟩
def M.write (m : M) (D : Addr) (o : HO) : M := ⟨m.ρ, m.st, upd m.H D o, m.hd⟩
def M.adopt (m : M) (D : Addr) (c : Cell) (h : List Addr) : M := ⟨m.ρ ++ [D], m.st ++ [c], m.H, h⟩
theorem give_live {h : List Addr} {a : Addr} (hs : ∀ b ∈ h, b ∈ m.hd) (l : (m.give h).Live a) : m.Live a := by
  rcases l with l | l
  · exact .inl (hs a l)
  · exact .inr l
/-- a new object, held back -/
theorem Keep.held (r : RelS K m) {D : Addr} (hp : m.H D = none) (o : HO) : Keep m ((m.write D o).give (D :: m.hd)) where
  rho := fun _ _ h => h
  keep := fun a u h hn => by
    have ne : a ≠ D := fun e => by rw [e, hp] at h; cases h
    refine ⟨(upd_ne ne).trans h, fun l => ?_⟩
    rcases l with l | l
    · rcases List.mem_cons.mp l with e | l
      · exact ne e
      · exact hn (.inl l)
    · exact hn (.inr l)
  kinds := fun a u h _ => (upd_ne (fun e => by rw [e, hp] at h; cases h)).trans h
theorem RelS.held (r : RelS K m) {D : Addr} (hp : m.H D = none) {o : HO} (ho : ¬ HO.still o) : RelS K ((m.write D o).give (D :: m.hd)) where
  len := r.len
  nd := r.nd
  cell := fun i c a h1 h2 => (r.cell i c a h1 h2).kept (Keep.held r hp o) (upd_ne fun e => r.fresh hp (e ▸ List.mem_of_getElem? h2))
  hd := fun a ha => by
    rcases List.mem_cons.mp ha with rfl | ha
    · exact ⟨⟨o, upd_same, ho⟩, r.fresh hp⟩
    · obtain ⟨⟨u, e, hs⟩, hn⟩ := r.hd a ha
      exact ⟨⟨u, (upd_ne (neM ha (r.freshH hp))).trans e, hs⟩, hn⟩
/-- what is held back is written -/
theorem Keep.write (r : RelS K m) {D : Addr} (hD : D ∈ m.hd) (o : HO) : Keep m (m.write D o) where
  rho := fun _ _ h => h
  keep := fun a u h hn => ⟨(upd_ne (fun e : a = D => hn (by rw [e]; exact .inl hD))).trans h, fun l => hn l⟩
  kinds := fun a u h hs => (upd_ne fun e => by
    obtain ⟨⟨w, e1, e2⟩, _⟩ := r.hd D hD
    rw [e, e1] at h; cases h; exact e2 hs).trans h
theorem RelS.write (r : RelS K m) {D : Addr} (hD : D ∈ m.hd) {o : HO} (ho : ¬ HO.still o) : RelS K (m.write D o) where
  len := r.len
  nd := r.nd
  cell := fun i c a h1 h2 => (r.cell i c a h1 h2).kept (Keep.write r hD o) (upd_ne fun e => (r.hd D hD).2 (e ▸ List.mem_of_getElem? h2))
  hd := fun a ha => by
    refine ⟨?_, (r.hd a ha).2⟩
    by_cases e : a = D
    · subst e; exact ⟨o, upd_same, ho⟩
    · obtain ⟨u, e1, e2⟩ := (r.hd a ha).1
      exact ⟨u, (upd_ne e).trans e1, e2⟩
/-- .. and given back -/
theorem Keep.give {h : List Addr} (hs : ∀ b ∈ h, b ∈ m.hd) : Keep m (m.give h) :=
  ⟨fun _ _ e => e, fun a u e hn => ⟨e, fun l => hn (give_live hs l)⟩, fun _ _ e _ => e⟩
theorem RelS.give (r : RelS K m) {h : List Addr} (hs : ∀ b ∈ h, b ∈ m.hd) : RelS K (m.give h) where
  len := r.len
  nd := r.nd
  cell := fun i c a h1 h2 => (r.cell i c a h1 h2).kept (Keep.give hs) rfl
  hd := fun a ha => r.hd a (hs a ha)
theorem adopt_live (r : RelS K m) {D : Addr} {c : Cell} {h : List Addr} (hD : D ∈ m.hd) (hs : ∀ b ∈ h, b ∈ m.hd) {a : Addr} (l : (m.adopt D c h).Live a) : m.Live a := by
  rcases l with l | ⟨i, d, h1, h2, h3⟩
  · exact .inl (hs a l)
  · have h1 : (m.ρ ++ [D])[i]? = some a := h1
    have h2 : (m.st ++ [c])[i]? = some d := h2
    by_cases hi : i < m.ρ.length
    · rw [List.getElem?_append_left hi] at h1
      rw [List.getElem?_append_left (by rw [← r.len]; exact hi)] at h2
      exact .inr ⟨i, d, h1, h2, h3⟩
    · rw [List.getElem?_append_right (by omega)] at h1
      have e : a = D := by
        rcases Nat.eq_zero_or_pos (i - m.ρ.length) with z | z
        · rw [z] at h1; simpa using h1.symm
        · rw [List.getElem?_eq_none (by simp; omega)] at h1; cases h1
      exact .inl (e ▸ hD)
theorem Keep.adopt (r : RelS K m) {D : Addr} (c : Cell) {h : List Addr} (hD : D ∈ m.hd) (hs : ∀ b ∈ h, b ∈ m.hd) : Keep m (m.adopt D c h) where
  rho := fun i a e => by
    show (m.ρ ++ [D])[i]? = some a
    rw [List.getElem?_append_left (List.getElem?_eq_some_iff.mp e).1]; exact e
  keep := fun a u e hn => ⟨e, fun l => hn (adopt_live r hD hs l)⟩
  kinds := fun _ _ e _ => e
theorem RelS.adopt (r : RelS K m) {D : Addr} {c : Cell} {h : List Addr} (hD : D ∈ m.hd) (hs : ∀ b ∈ h, b ∈ m.hd) (hn : D ∉ h) (hc : CellOk K (m.adopt D c h) c D) : RelS K (m.adopt D c h) where
  len := by show (m.ρ ++ [D]).length = (m.st ++ [c]).length; simp [r.len]
  nd := by
    show (m.ρ ++ [D]).Nodup
    rw [List.nodup_append]
    exact ⟨r.nd, by simp, fun a ha b hb => by
      have e : b = D := by simpa using hb
      subst e
      exact fun e => (r.hd b hD).2 (e ▸ ha)⟩
  cell := fun i d a h1 h2 => by
    have h2 : (m.ρ ++ [D])[i]? = some a := h2
    have h1 : (m.st ++ [c])[i]? = some d := h1
    by_cases hi : i < m.ρ.length
    · rw [List.getElem?_append_left hi] at h2
      rw [List.getElem?_append_left (by rw [← r.len]; exact hi)] at h1
      exact (r.cell i d a h1 h2).kept (Keep.adopt r c hD hs) rfl
    · have hz : i = m.ρ.length := by
        have := (List.getElem?_eq_some_iff.mp h2).1
        simp at this; omega
      subst hz
      rw [List.getElem?_append_right (Nat.le_refl _)] at h2
      rw [r.len, List.getElem?_append_right (Nat.le_refl _)] at h1
      have e1 : a = D := by simpa using h2.symm
      have e2 : d = c := by simpa using h1.symm
      subst e1; subst e2
      exact hc
  hd := fun a ha => by
    refine ⟨(r.hd a (hs a ha)).1, fun hm => ?_⟩
    have hm : a ∈ m.ρ ++ [D] := hm
    rcases List.mem_append.mp hm with z | z
    · exact (r.hd a (hs a ha)).2 z
    · have e : a = D := by simpa using z
      exact hn (e ▸ ha)
/-- from ahead of the held one to a later memory -/
theorem Ext.through {m1 : M} {D : Addr} (e1 : Ext m1 (m.give m1.hd)) (hh : m.hd = D :: m1.hd) (hD : m1.H D = none) (e : Ext m m') : Ext m1 (m'.give m1.hd) where
  rho := fun i a h => e.rho i a (e1.rho i a h)
  keep := fun a o h hn => by
    have h2 : m.H a = some o := e1.keep a o h hn
    refine e.keep a o h2 fun l => ?_
    rcases l with l | l
    · rw [hh] at l
      rcases List.mem_cons.mp l with z | z
      · rw [z, hD] at h; cases h
      · exact hn (.inl z)
    · exact e1.notLive h hn (.inr l)
  kinds := fun a o h hs => e.kinds a o (e1.kinds a o h hs) hs
  live := fun a l => by
    rcases l with l | l
    · exact .inl (.inl l)
    · rcases e.live a (.inr l) with z | z
      · rcases z with z | z
        · rw [hh] at z
          rcases List.mem_cons.mp z with w | w
          · exact .inr (w ▸ hD)
          · exact .inl (.inl w)
        · exact e1.live a (.inr z)
      · refine .inr ?_
        cases q : m1.H a with
        | none => rfl
        | some o => exact absurd z (e1.trk a (by rw [q]; simp))
  trk := fun a h => e.trk a (e1.trk a h)
  len := Nat.le_trans e1.len e.len
  mem := fun a h => by
    rcases e.mem a h with z | z
    · exact e1.mem a z
    · refine .inr ?_
      cases q : m1.H a with
      | none => rfl
      | some o => exact absurd z (e1.trk a (by rw [q]; simp))
  hd := rfl
  hold := fun a ha => (e.hold a (by rw [hh]; exact List.mem_cons_of_mem _ ha)).trans (e1.hold a ha)
theorem Ext.wrote {m1 : M} (r1 : RelS K m1) {D : Addr} (e1 : Ext m1 (m.give m1.hd)) (hD : m1.H D = none) (o : HO) : Ext m1 ((m.write D o).give m1.hd) where
  rho := e1.rho
  keep := fun a u h hn => (upd_ne (fun e => by rw [e, hD] at h; cases h)).trans (e1.keep a u h hn)
  kinds := fun a u h hs => (upd_ne (fun e => by rw [e, hD] at h; cases h)).trans (e1.kinds a u h hs)
  live := fun a l => e1.live a l
  trk := fun a h => by
    by_cases z : a = D
    · subst z; show upd m.H a o a ≠ none; rw [upd_same]; simp
    · show upd m.H D o a ≠ none; rw [upd_ne z]; exact e1.trk a h
  len := e1.len
  mem := e1.mem
  hd := rfl
  hold := fun a ha => (upd_ne (neM ha (r1.freshH hD))).trans (e1.hold a ha)
theorem Ext.adopted {m1 : M} (r : RelS K m) {D : Addr} (e1 : Ext m1 (m.give m1.hd)) (hh : m.hd = D :: m1.hd) (hD : m1.H D = none) (c : Cell) : Ext m1 (m.adopt D c m1.hd) where
  rho := fun i a h => (Keep.adopt r c (D := D) (h := m1.hd) (by rw [hh]; exact List.mem_cons_self ..) (by rw [hh]; exact fun b hb => List.mem_cons_of_mem _ hb)).rho i a (e1.rho i a h)
  keep := e1.keep
  kinds := e1.kinds
  live := fun a l => by
    rcases adopt_live r (D := D) (h := m1.hd) (by rw [hh]; exact List.mem_cons_self ..) (by rw [hh]; exact fun b hb => List.mem_cons_of_mem _ hb) l with z | z
    · rw [hh] at z
      rcases List.mem_cons.mp z with w | w
      · exact .inr (w ▸ hD)
      · exact .inl (.inl w)
    · exact e1.live a (.inr z)
  trk := e1.trk
  len := by
    show m1.st.length ≤ (m.st ++ [c]).length
    have := e1.len
    have : m1.st.length ≤ m.st.length := this
    simp; omega
  mem := fun a h => by
    have h : a ∈ m.ρ ++ [D] := h
    rcases List.mem_append.mp h with z | z
    · exact e1.mem a z
    · have e : a = D := by simpa using z
      exact .inr (e ▸ hD)
  hd := rfl
  hold := e1.hold

/-! ### names -/
structure RelEnv (K : PySem.W.Frag) (m : M) (env : Ev) (σ : St) : Prop where
  len : env.length = σ.length
  at_ : ∀ (i : Nat) (v : Val), env[i]? = some (some v) → ∃ x, σ[i]? = some (some x) ∧ RepV K m v x
variable {env : Ev} {σ : St}
theorem RelEnv.mono (r : RelEnv K m env σ) (e : Ext m m') : RelEnv K m' env σ := ⟨r.len, fun i v h => let ⟨x, h1, h2⟩ := r.at_ i v h; ⟨x, h1, h2.mono e⟩⟩
theorem RelEnv.set (r : RelEnv K m env σ) {v : Val} {x : V} (i : Nat) (h : RepV K m v x) : RelEnv K m (env.set i (some v)) (σ.set i (some x)) where
  len := by simp [r.len]
  at_ := fun j u e => by
    by_cases hj : i = j
    · subst hj
      have hl : i < env.length := by
        have := (List.getElem?_eq_some_iff.mp e).1
        simpa using this
      rw [List.getElem?_set_self hl] at e
      cases e
      exact ⟨x, List.getElem?_set_self (by rw [← r.len]; exact hl), h⟩
    · rw [List.getElem?_set_ne hj] at e
      obtain ⟨y, h1, h2⟩ := r.at_ j u e
      exact ⟨y, by rw [List.getElem?_set_ne hj]; exact h1, h2⟩
theorem RelEnv.forget (r : RelEnv K m env σ) (i : Nat) : RelEnv K m (env.set i none) σ where
  len := by simp [r.len]
  at_ := fun j u e => by
    by_cases hj : i = j
    · subst hj
      rw [List.getElem?_set] at e
      simp only [if_true] at e
      split at e <;> cases e
    · rw [List.getElem?_set_ne hj] at e
      exact r.at_ j u e
theorem RelEnv.clear (r : RelEnv K m env σ) : ∀ is : List Nat, RelEnv K m (wipe env is) σ
  | [] => r
  | i :: is => (RelEnv.clear r is).forget i
theorem wipe_len (env : Ev) : ∀ is : List Nat, (wipe env is).length = env.length
  | [] => rfl
  | i :: is => by unfold wipe; rw [List.length_set, wipe_len env is]
theorem RelEnv.wipe2 (r : RelEnv K m env σ) : ∀ is : List Nat, RelEnv K m (wipe env is) (L2.wipe σ is)
  | [] => r
  | i :: is => by
    have ih := RelEnv.wipe2 r is
    refine ⟨by show (List.set _ _ _).length = (List.set _ _ _).length; rw [List.length_set, List.length_set]; exact ih.len, fun j u e => ?_⟩
    have e : ((wipe env is).set i none)[j]? = some (some u) := e
    show ∃ x, ((L2.wipe σ is).set i none)[j]? = some (some x) ∧ _
    by_cases hj : i = j
    · subst hj
      rw [List.getElem?_set] at e
      simp only [if_true] at e
      split at e <;> cases e
    · rw [List.getElem?_set_ne hj] at e
      obtain ⟨x, h1, h2⟩ := ih.at_ j u e
      exact ⟨x, by rw [List.getElem?_set_ne hj]; exact h1, h2⟩
theorem RelEnv.setAll : ∀ (is : List Nat) (vs : List Val) (xs : List V) (env : Ev) (σ : St) (env' : Ev), RelEnv K m env σ → RepVs K m vs xs → Co.setAll is vs env = some env' →
    RelEnv K m env' ((is.zip xs).foldl (fun s p => s.set p.1 (some p.2)) σ)
  | [], [], _, env, σ, env', r, .nil, e => by
    simp only [Co.setAll, Option.some.injEq] at e; subst e; exact r
  | i :: is, v :: vs, _, env, σ, env', r, .cons (x := x) h hs, e => by
    simp only [Co.setAll] at e
    exact RelEnv.setAll is vs _ _ _ env' (r.set i h) hs e
  | [], _ :: _, _, _, _, _, _, _, e => by simp [Co.setAll] at e
  | _ :: _, [], _, _, _, _, _, _, e => by simp [Co.setAll] at e

/-! ### readings -/
def PostV (K : PySem.W.Frag) (m : M) (r : R Val) (Q : V → Hp → Prop) : Prop :=
  match r with
  | .ok v st' => ∀ (m' : M) (x : V), m'.st = st' → Ext m m' → RelS K m' → RepV K m' v x → Q x m'.H
  | _ => False
def PostVs (K : PySem.W.Frag) (m : M) (r : R (List Val)) (Q : List V → Hp → Prop) : Prop :=
  match r with
  | .ok v st' => ∀ (m' : M) (x : List V), m'.st = st' → Ext m m' → RelS K m' → RepVs K m' v x → Q x m'.H
  | _ => False
theorem PostV.ext {r : R Val} {Q : V → Hp → Prop} (h : PostV K m r Q) (e : Ext m m') : PostV K m' r Q := by
  cases r with
  | ok v st' => exact fun m2 x h1 h2 h3 h4 => h m2 x h1 (e.trans h2) h3 h4
  | _ => exact h
theorem PostVs.ext {r : R (List Val)} {Q : List V → Hp → Prop} (h : PostVs K m r Q) (e : Ext m m') : PostVs K m' r Q := by
  cases r with
  | ok v st' => exact fun m2 x h1 h2 h3 h4 => h m2 x h1 (e.trans h2) h3 h4
  | _ => exact h
/-- the plainest end -/
theorem PostV.ok {v : Val} {x : V} {Q : V → Hp → Prop} (h : PostV K m (.ok v m.st) Q) (r : RelS K m) (hv : RepV K m v x) : Q x m.H := h m x rfl (Ext.refl m) r hv
/-- a new tuple, a new list -/
theorem PostV.tup {xs : List Val} {ys : List V} {Q : V → Hp → Prop} (h : PostV K m (.ok (.tup xs) m.st) Q) (r : RelS K m) (hs : RepVs K m xs ys) (p : Addr) (hp : m.H p = none) : Q (.ref p) (upd m.H p (.tup ys)) :=
  h { m with H := upd m.H p (.tup ys) } (.ref p) rfl (Ext.new r hp _) (r.new hp _) (.tup (.inl (.inl upd_same)) (hs.mono (Ext.new r hp _)))
theorem PostV.mkL {lv : Bool} {xs : List Val} {ys : List V} {Q : V → Hp → Prop} (h : PostV K m (mkL lv xs m.st) Q) (r : RelS K m) (hs : RepVs K m xs ys) (p : Addr) (hp : m.H p = none) : Q (.ref p) (upd m.H p (.lst ys)) := by
  cases lv with
  | false => exact h { m with H := upd m.H p (.lst ys) } (.ref p) rfl (Ext.new r hp _) (r.new hp _) (.lst upd_same (fun hl => r.freshL hp hl) (hs.mono (Ext.new r hp _)))
  | true =>
    have e := Ext.push r hp (.lst ys) (.lst xs)
    refine h (m.push p (.lst ys) (.lst xs)) (.ref p) rfl e (r.push hp _ _ (.lst upd_same (hs.mono e))) (.ref ?_)
    show (m.ρ ++ [p])[m.st.length]? = some p
    rw [← r.len, List.getElem?_append_right (Nat.le_refl _)]
    simp
end
def rdE (K : PySem.W.Frag) (cf : CF) (x : Ex) : TE := fun σ H Q => ∃ (m : M) (env : Ev), m.H = H ∧ RelS K m ∧ RelEnv K m env σ ∧ PostV K m (evalE cf x env m.st) Q
def rdEs (K : PySem.W.Frag) (cf : CF) (x : Exs) : TA := fun σ H Q => ∃ (m : M) (env : Ev), m.H = H ∧ RelS K m ∧ RelEnv K m env σ ∧ PostVs K m (evalEs cf x env m.st) Q
section
variable {K : PySem.W.Frag} {m : M} {cf : CF} {env : Ev} {σ : St}
theorem rd_bind {a : Ex} {f : Val → Store → R Val} {Q : V → Hp → Prop} {G : V → Hp → Prop} (h : PostV K m ((evalE cf a env m.st).bind f) Q) (r : RelS K m) (re : RelEnv K m env σ)
    (k : ∀ (m1 : M) (v : Val) (x : V), Ext m m1 → RelS K m1 → RelEnv K m1 env σ → RepV K m1 v x → PostV K m1 (f v m1.st) Q → G x m1.H) : rdE K cf a σ m.H G := by
  refine ⟨m, env, rfl, r, re, ?_⟩
  cases e : evalE cf a env m.st with
  | ok v st1 =>
    rw [e] at h
    intro m1 x h1 h2 h3 h4
    subst h1
    exact k m1 v x h2 h3 (re.mono h2) h4 (PostV.ext h h2)
  | exc c xs st => rw [e] at h; exact h.elim
  | stuck => rw [e] at h; exact h.elim
theorem rds_bind {a : Exs} {f : List Val → Store → R Val} {Q : V → Hp → Prop} {G : List V → Hp → Prop} (h : PostV K m ((evalEs cf a env m.st).bind f) Q) (r : RelS K m) (re : RelEnv K m env σ)
    (k : ∀ (m1 : M) (v : List Val) (x : List V), Ext m m1 → RelS K m1 → RelEnv K m1 env σ → RepVs K m1 v x → PostV K m1 (f v m1.st) Q → G x m1.H) : rdEs K cf a σ m.H G := by
  refine ⟨m, env, rfl, r, re, ?_⟩
  cases e : evalEs cf a env m.st with
  | ok v st1 =>
    rw [e] at h
    intro m1 x h1 h2 h3 h4
    subst h1
    exact k m1 v x h2 h3 (re.mono h2) h4 (PostV.ext h h2)
  | exc c xs st => rw [e] at h; exact h.elim
  | stuck => rw [e] at h; exact h.elim
end
end Co

set_option Elab.async false
set_option linter.all false
set_option maxRecDepth 100000
set_option maxHeartbeats 4000000
/-! Co3: the operators, comparisons and built-ins of the small language are the model's. -/
namespace Co
open PySem PySem.Spec L2

theorem Rd_of {H : Hp} {a : Addr} {u : HO} (h : H a = some u) : Rd H a u := .inl h
theorem LIM_le : LIM ≤ sizeLine := by decide

/-- what a value is, behind dr -/
def RepD (K : PySem.W.Frag) (m : M) : Val → V → Prop
  | .lst xs, x => ∃ a vs, x = .ref a ∧ m.H a = some (.lst vs) ∧ RepVs K m xs vs
  | .scr xs, x => ∃ a vs, x = .ref a ∧ SqL K m.H a vs ∧ RepVs K m xs vs
  | .tup xs, x => ∃ a vs, x = .ref a ∧ SqT K m.H a vs ∧ RepVs K m xs vs
  | .dct ks xs, x => ∃ a kvs, x = .ref a ∧ m.H a = some (.dK kvs) ∧ kvs.map (·.1) = ks ∧ RepVs K m xs (kvs.map (·.2))
  | .non, x => x = .non
  | .bl b, x => x = .bl b
  | .int i, x => x = .int i
  | .str s, x => x = .str s
  | .ref _, _ => True
section
variable {K : PySem.W.Frag} {m : M}
theorem RepV.d {v : Val} {x : V} (h : RepV K m v x) : RepD K m v x := by
  cases h with
  | non => rfl
  | bl b => rfl
  | int i => rfl
  | str s => rfl
  | tup h hs => exact ⟨_, _, rfl, h, hs⟩
  | lst h _ hs => exact ⟨_, _, rfl, h, hs⟩
  | scr h hs => exact ⟨_, _, rfl, h.elim (fun z => .inl (.inr z)) .inr, hs⟩
  | dct h _ hk hs => exact ⟨_, _, rfl, h, hk, hs⟩
  | ref _ => trivial
theorem dr_rep (r : RelS K m) {v : Val} {x : V} (h : RepV K m v x) : RepD K m (dr m.st v) x := by
  cases v with
  | ref i =>
    cases h with
    | ref ha =>
      simp only [dr]
      cases e : m.st[i]? with
      | none => simp only [RepD]
      | some c =>
        have hc := r.cell i c _ e ha
        cases hc with
        | lst h1 h2 => exact ⟨_, _, rfl, h1, h2⟩
        | dct h1 h2 h3 => exact ⟨_, _, rfl, h1, h2, h3⟩
        | dead _ => simp only [RepD]
  | _ => exact h.d
/-- only pure data stands in a value without references -/
theorem dr_noRef {v : Val} (h : noRef v = true) (st : Store) : dr st v = v := by
  cases v with
  | ref i => simp [noRef, below] at h
  | _ => rfl

mutual
theorem RepV.dp : ∀ {v : Val} {x : V}, RepV K m v x → noRef v = true → PyData.canLay0 (toPy v) = true → Dp K m.H x (toPy v)
  | _, _, .non, _, _ => by simp only [toPy]; exact .non
  | _, _, .bl b, _, _ => by simp only [toPy]; exact .bl b
  | _, _, .int i, _, _ => by simp only [toPy]; exact .int i
  | _, _, .str x, _, _ => by simp only [toPy]; exact .str x
  | .tup xs, _, .tup h hs, b, c => by
    simp only [toPy]
    exact .tup h (RepVs.dps hs (by simpa only [noRef, below] using b) (by simpa only [toPy, PyData.canLay0] using c))
  | .lst xs, _, .lst h _ hs, b, c => by
    simp only [toPy]
    exact .lst (.inl (.inl h)) (RepVs.dps hs (by simpa only [noRef, below] using b) (by simpa only [toPy, PyData.canLay0] using c))
  | .scr xs, _, .scr h hs, b, c => by
    simp only [toPy]
    exact .lst (h.elim (fun z => .inl (.inr z)) .inr) (RepVs.dps hs (by simpa only [noRef, below] using b) (by simpa only [toPy, PyData.canLay0] using c))
  | .dct ks xs, _, .dct _ _ _ _, _, c => by simp [toPy, PyData.canLay0] at c
  | .ref i, _, .ref _, b, _ => by simp [noRef, below] at b
theorem RepVs.dps : ∀ {vs : List Val} {xs : List V}, RepVs K m vs xs → belows 0 vs = true → PyData.canLayAll0 (toPys vs) = true → DpAll K m.H xs (toPys vs)
  | [], _, .nil, _, _ => by simp only [toPys]; exact .nil
  | v :: vs, _, .cons h hs, b, c => by
    simp only [belows, Bool.and_eq_true] at b
    simp only [toPys, PyData.canLayAll0, Bool.and_eq_true] at c
    simp only [toPys]
    exact .cons (RepV.dp h b.1 c.1) (RepVs.dps hs b.2 c.2)
end
/-- a dereferenced value, as data -/
theorem RepD.dp {v : Val} {x : V} (h : RepD K m v x) (e : eqOk v = true) : Dp K m.H x (toPy v) ∧ SeqAt.shaped (toPy v) = true := by
  simp only [eqOk, Bool.and_eq_true] at e
  obtain ⟨e1, e2⟩ := e
  have e3 := SeqAt.canLay_of_shaped e2
  refine ⟨?_, e2⟩
  cases v with
  | non => cases h; simp only [toPy]; exact .non
  | bl b => cases h; simp only [toPy]; exact .bl b
  | int b => cases h; simp only [toPy]; exact .int b
  | str b => cases h; simp only [toPy]; exact .str b
  | tup xs =>
    obtain ⟨a, vs, rfl, h1, h2⟩ := h
    simp only [toPy]
    exact .tup h1 (h2.dps (by simpa only [noRef, below] using e1) (by simpa only [toPy, PyData.canLay0] using e3))
  | lst xs =>
    obtain ⟨a, vs, rfl, h1, h2⟩ := h
    simp only [toPy]
    exact .lst (.inl (.inl h1)) (h2.dps (by simpa only [noRef, below] using e1) (by simpa only [toPy, PyData.canLay0] using e3))
  | scr xs =>
    obtain ⟨a, vs, rfl, h1, h2⟩ := h
    simp only [toPy]
    exact .lst h1 (h2.dps (by simpa only [noRef, below] using e1) (by simpa only [toPy, PyData.canLay0] using e3))
  | dct ks xs => simp [toPy, PyData.canLay0] at e3
  | ref i => simp [noRef, below] at e1
end

def opOf : Bop → Operator
  | .add => .Add | .sub => .Sub | .mul => .Mult | .fdiv => .FloorDiv | .mod => .Mod | .pow => .Pow
  | .shl => .LShift | .shr => .RShift | .band => .BitAnd | .bor => .BitOr | .bxor => .BitXor
def rB (K : PySem.W.Frag) (op : Bop) (lv : Bool) : R2 := fun x y H Q => ∃ (m : M) (v w : Val), m.H = H ∧ RelS K m ∧ RepV K m v x ∧ RepV K m w y ∧ PostV K m (bin op lv (dr m.st v) (dr m.st w) m.st) Q

section
variable {X : Cx}
theorem natAbs_lt64 {i : Int} (h : i.natAbs < 2 ^ 64) : -(2 ^ 64) < i ∧ i < 2 ^ 64 := by
  have e : (2 : Nat) ^ 64 = 18446744073709551616 := by decide
  have e2 : (2 : Int) ^ 64 = 18446744073709551616 := by decide
  rw [e] at h
  rw [e2]
  omega
theorem flatten_len {α : Type} (n : Nat) (xs : List α) : (List.replicate n xs).flatten.length = n * xs.length := by
  simp [List.length_flatten]
theorem op_bin (op : Bop) (lv : Bool) : OpR X (binaryOp (opOf op)) (rB X.K op lv) := by
  intro pins s σ H x y v u Q I rx ry h
  obtain ⟨m, a, b, eH, hr, ha, hb, h⟩ := h
  subst eH
  have da := dr_rep hr ha
  have db := dr_rep hr hb
  generalize dr m.st a = A at da h
  generalize dr m.st b = B at db h
  have hlim := LIM_le
  cases A with
  | int i =>
    cases B with
    | int j =>
      cases da; cases db
      simp only [bin] at h
      cases op with
      | add => exact op_add pins s σ _ _ _ v u Q I rx ry ⟨i, j, rfl, rfl, h.ok hr (.int _)⟩
      | sub => exact op_sub pins s σ _ _ _ v u Q I rx ry ⟨i, j, rfl, rfl, h.ok hr (.int _)⟩
      | mul =>
        simp only [binI] at h
        split at h
        · rename_i k e
          split at e
          · rename_i c
            cases e
            simp only [mulOk, Bool.or_eq_true, Bool.and_eq_true, decide_eq_true_eq] at c
            rcases c with (c | c) | ⟨c1, c2⟩
            · exact op_mul pins s σ _ _ _ v u Q I rx ry ⟨i, j, rfl, rfl, .inl (natAbs_lt64 c), h.ok hr (.int _)⟩
            · exact op_mul pins s σ _ _ _ v u Q I rx ry ⟨i, j, rfl, rfl, .inr (natAbs_lt64 c), h.ok hr (.int _)⟩
            · exact op_mulW pins s σ _ _ _ v u Q I rx ry ⟨i, j, rfl, rfl, wide_mul (a := 2000) (b := 2000) c1 c2 (by decide) (by decide) (by decide), h.ok hr (.int _)⟩
          · cases e
        · exact h.elim
      | fdiv =>
        simp only [binI] at h
        split at h
        · rename_i k e
          split at e
          · rename_i c
            cases e
            exact op_fdiv pins s σ _ _ _ v u Q I rx ry ⟨i, j, rfl, rfl, c, h.ok hr (.int _)⟩
          · cases e
        · exact h.elim
      | mod =>
        simp only [binI] at h
        split at h
        · rename_i k e
          split at e
          · rename_i c
            cases e
            exact op_mod pins s σ _ _ _ v u Q I rx ry ⟨i, j, rfl, rfl, c, h.ok hr (.int _)⟩
          · cases e
        · exact h.elim
      | pow =>
        simp only [binI] at h
        split at h
        · rename_i k e
          split at e
          · rename_i c
            cases e
            exact op_pow pins s σ _ _ _ v u Q I rx ry ⟨i, j, rfl, rfl, ⟨c.1, by omega, c.2.2⟩, h.ok hr (.int _)⟩
          · cases e
        · exact h.elim
      | shl =>
        simp only [binI] at h
        split at h
        · rename_i k e
          split at e
          · rename_i c
            cases e
            exact op_shl pins s σ _ _ _ v u Q I rx ry ⟨i, j, rfl, rfl, ⟨c.1, by omega, c.2.2⟩, h.ok hr (.int _)⟩
          · cases e
        · exact h.elim
      | shr =>
        simp only [binI] at h
        split at h
        · rename_i k e
          split at e
          · rename_i c
            cases e
            exact op_shr pins s σ _ _ _ v u Q I rx ry ⟨i, j, rfl, rfl, c, h.ok hr (.int _)⟩
          · cases e
        · exact h.elim
      | band => exact op_and pins s σ _ _ _ v u Q I rx ry ⟨i, j, rfl, rfl, h.ok hr (.int _)⟩
      | bor => exact op_or pins s σ _ _ _ v u Q I rx ry ⟨i, j, rfl, rfl, h.ok hr (.int _)⟩
      | bxor => exact op_xor pins s σ _ _ _ v u Q I rx ry ⟨i, j, rfl, rfl, h.ok hr (.int _)⟩
    | _ => simp only [bin] at h; exact h.elim
  | str i =>
    cases B with
    | str j =>
      cases da; cases db
      cases op with
      | add =>
        simp only [bin] at h
        split at h
        · rename_i c
          exact op_add_str pins s σ _ _ _ v u Q I rx ry ⟨i, j, rfl, rfl, by omega, h.ok hr (.str _)⟩
        · exact h.elim
      | _ => simp only [bin] at h; exact h.elim
    | _ => simp only [bin] at h; exact h.elim
  | tup xs =>
    obtain ⟨p, vs, rfl, hp, hs⟩ := da
    have l1 := hs.length
    cases B with
    | tup ys =>
      obtain ⟨q, ws, rfl, hq, ht⟩ := db
      have l2 := ht.length
      cases op with
      | add =>
        simp only [bin] at h
        split at h
        · rename_i c
          refine op_catA pins s σ _ _ _ v u Q I rx ry ⟨p, q, vs, ws, rfl, rfl, hp, hq, by omega, fun e => ?_, fun e1 e2 => ?_, fun _ _ p' hp' => h.tup hr (hs.append ht) p' hp'⟩
          · subst e; cases hs; exact h.ok hr (.tup hq ht)
          · subst e2; cases ht; rw [List.append_nil] at h; exact h.ok hr (.tup hp hs)
        · exact h.elim
      | _ => simp only [bin] at h; exact h.elim
    | int k =>
      cases db
      cases op with
      | mul =>
        simp only [bin] at h
        split at h
        · rename_i c
          refine op_repT pins s σ _ _ _ v u Q I rx ry ⟨p, k, vs, rfl, rfl, hp, fun e => ?_, c.2.2.1, c.2.2.2, by omega, fun p' hp' => h.tup hr (hs.rep _) p' hp'⟩
          subst e
          cases hs
          exact c.2.1 rfl
        · exact h.elim
      | _ => simp only [bin] at h; exact h.elim
    | _ => simp only [bin] at h; exact h.elim
  | lst xs =>
    obtain ⟨p, vs, rfl, hp, hs⟩ := da
    have l1 := hs.length
    cases B with
    | lst ys =>
      obtain ⟨q, ws, rfl, hq, ht⟩ := db
      have l2 := ht.length
      cases op with
      | add =>
        simp only [bin] at h
        split at h
        · rename_i c
          exact op_cat pins s σ _ _ _ v u Q I rx ry ⟨p, q, vs, ws, rfl, rfl, hp, hq, by omega, fun p' hp' => h.mkL hr (hs.append ht) p' hp'⟩
        · exact h.elim
      | _ => simp only [bin] at h; exact h.elim
    | int k =>
      cases db
      cases op with
      | mul =>
        simp only [bin] at h
        split at h
        · rename_i c
          have b1 : vs.length * k.toNat ≤ 1000 * 1000 := Nat.mul_le_mul (by omega) (by omega)
          have b2 : (1000 * 1000 : Nat) ≤ sizeLine := by decide
          exact op_rep pins s σ _ _ _ v u Q I rx ry ⟨p, k, vs, rfl, rfl, hp, by omega, by omega, by omega, fun p' hp' => h.mkL hr (hs.rep _) p' hp'⟩
        · exact h.elim
      | _ => simp only [bin] at h; exact h.elim
    | _ => simp only [bin] at h; exact h.elim
  | _ => cases B <;> simp only [bin] at h <;> exact h.elim

def copOf : Cop → CmpOp
  | .lt => .Lt | .le => .LtE | .gt => .Gt | .ge => .GtE | .eq => .Eq | .ne => .NotEq | .isin => .In | .notin => .NotIn | .isn => .Is | .notn => .IsNot
def rC (K : PySem.W.Frag) (op : Cop) : R2 := fun x y H Q => ∃ (m : M) (v w : Val) (k : Bool), m.H = H ∧ RelS K m ∧ RepV K m v x ∧ RepV K m w y ∧ cmpv op (dr m.st v) (dr m.st w) = some k ∧ Q (.bl k) H

theorem flat_rep {K : PySem.W.Frag} {m : M} {v : Val} {x : V} (h : RepV K m v x) (f : flat v = true) : flatV x = true := by
  cases h <;> simp only [flat] at f <;> first | rfl | cases f
theorem flats_rep {K : PySem.W.Frag} {m : M} : ∀ {vs : List Val} {xs : List V}, RepVs K m vs xs → vs.all flat = true → xs.all flatV = true
  | _, _, .nil, _ => rfl
  | _, _, .cons h hs, f => by
    simp only [List.all_cons, Bool.and_eq_true] at f ⊢
    exact ⟨flat_rep h f.1, flats_rep hs f.2⟩
theorem eqV_veq {K : PySem.W.Frag} {m : M} {v w : Val} {x y : V} (h : RepV K m v x) (h2 : RepV K m w y) (f : flat v = true) (f2 : flat w = true) : eqV x y = veq v w := by
  cases h <;> first
    | (simp [flat] at f; done)
    | (cases h2 <;> first
        | (simp [flat] at f2; done)
        | simp [eqV, veq, toPy, PyData.eqv])
theorem inV_has {K : PySem.W.Frag} {m : M} {v : Val} {x : V} (h : RepV K m v x) (f : flat v = true) : ∀ {vs : List Val} {xs : List V}, RepVs K m vs xs → vs.all flat = true → inV x xs = hasIn v vs
  | _, _, .nil, _ => rfl
  | _, _, .cons h2 hs, f2 => by
    simp only [List.all_cons, Bool.and_eq_true] at f2
    have ih := inV_has h f hs f2.2
    simp only [inV, hasIn] at ih ⊢
    rw [List.any_cons, List.any_cons, ih, eqV_veq h2 h f2.1 f]
theorem flat_dr {v : Val} {st : Store} (h : flat (dr st v) = true) : dr st v = v := by
  cases v with
  | ref i =>
    simp only [dr] at h
    split at h <;> simp [flat] at h
  | _ => rfl
theorem op_cmp (hu : X.A.units + 64 < cLine) (op : Cop) : OpR X (compareOp (copOf op)) (rC X.K op) := by
  intro pins s σ H x y v u Q I rx ry h
  obtain ⟨m, a, b, k, eH, hr, ha, hb, hk, h⟩ := h
  subst eH
  have da := dr_rep hr ha
  have db := dr_rep hr hb
  cases op with
  | lt =>
    simp only [cmpv] at hk
    split at hk <;> cases hk
    rename_i e1 e2
    rw [e1] at da; rw [e2] at db
    cases da; cases db
    exact op_lt pins s σ _ _ _ v u Q I rx ry ⟨_, _, rfl, rfl, h⟩
  | le =>
    simp only [cmpv] at hk
    split at hk <;> cases hk
    rename_i e1 e2
    rw [e1] at da; rw [e2] at db
    cases da; cases db
    exact op_le pins s σ _ _ _ v u Q I rx ry ⟨_, _, rfl, rfl, h⟩
  | gt =>
    simp only [cmpv] at hk
    split at hk <;> cases hk
    rename_i e1 e2
    rw [e1] at da; rw [e2] at db
    cases da; cases db
    exact op_gt pins s σ _ _ _ v u Q I rx ry ⟨_, _, rfl, rfl, h⟩
  | ge =>
    simp only [cmpv] at hk
    split at hk <;> cases hk
    rename_i e1 e2
    rw [e1] at da; rw [e2] at db
    cases da; cases db
    exact op_ge pins s σ _ _ _ v u Q I rx ry ⟨_, _, rfl, rfl, h⟩
  | eq =>
    simp only [cmpv] at hk
    split at hk
    · rename_i c
      cases hk
      simp only [Bool.and_eq_true] at c
      obtain ⟨d1, s1⟩ := da.dp c.1
      obtain ⟨d2, s2⟩ := db.dp c.2
      exact op_eqD hu pins s σ _ _ _ v u Q I rx ry ⟨_, _, d1, d2, s1, s2, h⟩
    · cases hk
  | ne =>
    simp only [cmpv] at hk
    split at hk
    · rename_i c
      cases hk
      simp only [Bool.and_eq_true] at c
      obtain ⟨d1, s1⟩ := da.dp c.1
      obtain ⟨d2, s2⟩ := db.dp c.2
      exact op_neD hu pins s σ _ _ _ v u Q I rx ry ⟨_, _, d1, d2, s1, s2, h⟩
    · cases hk
  | isn =>
    simp only [cmpv] at hk
    split at hk
    · rename_i e2
      rw [e2] at db
      cases db
      split at hk <;> cases hk
      · rename_i e1
        rw [e1] at da; cases da
        exact op_isN pins s σ _ _ _ v u Q I rx ry ⟨rfl, by simpa using h⟩
      · rename_i e1
        refine op_isN pins s σ _ _ _ v u Q I rx ry ⟨rfl, ?_⟩
        have hx : x ≠ .non := by
          rintro rfl
          cases ha with
          | non => exact e1 rfl
        rw [decide_eq_false hx]
        exact h
    · rename_i e2
      rw [e2] at db
      cases db
      split at hk <;> cases hk
      rename_i e1
      rw [e1] at da; cases da
      exact op_is_bl pins s σ _ _ _ v u Q I rx ry ⟨_, _, rfl, rfl, h⟩
    · cases hk
  | notn =>
    simp only [cmpv] at hk
    split at hk
    · rename_i e2
      rw [e2] at db
      cases db
      split at hk <;> cases hk
      · rename_i e1
        rw [e1] at da; cases da
        exact op_notN pins s σ _ _ _ v u Q I rx ry ⟨rfl, by simpa using h⟩
      · rename_i e1
        refine op_notN pins s σ _ _ _ v u Q I rx ry ⟨rfl, ?_⟩
        have hx : x ≠ .non := by
          rintro rfl
          cases ha with
          | non => exact e1 rfl
        rw [decide_eq_false hx]
        exact h
    · rename_i e2
      rw [e2] at db
      cases db
      split at hk <;> cases hk
      rename_i e1
      rw [e1] at da; cases da
      exact op_isnot_bl pins s σ _ _ _ v u Q I rx ry ⟨_, _, rfl, rfl, h⟩
    · cases hk
  | isin =>
    simp only [cmpv] at hk
    split at hk
    all_goals first
      | cases hk
      | (rename_i xs e2
         rw [e2] at db
         split at hk <;> cases hk
         rename_i c
         simp only [Bool.and_eq_true] at c
         obtain ⟨p, ws, rfl, hp, hs⟩ := db
         have e0 := flat_dr c.1
         rw [e0] at h c
         refine op_in_seq pins s σ _ _ _ v u Q I rx ry ⟨p, ws, rfl, ?_, flat_rep ha c.1, flats_rep hs c.2, ?_⟩
         · first | exact .inr hp | exact .inl (.inl (.inl hp))
         · simp only [Bool.false_eq_true, if_false]; rw [inV_has ha c.1 hs c.2]; exact h)
  | notin =>
    simp only [cmpv] at hk
    split at hk
    all_goals first
      | cases hk
      | (rename_i xs e2
         rw [e2] at db
         split at hk <;> cases hk
         rename_i c
         simp only [Bool.and_eq_true] at c
         obtain ⟨p, ws, rfl, hp, hs⟩ := db
         have e0 := flat_dr c.1
         rw [e0] at h c
         refine op_notIn_seq pins s σ _ _ _ v u Q I rx ry ⟨p, ws, rfl, ?_, flat_rep ha c.1, flats_rep hs c.2, ?_⟩
         · first | exact .inr hp | exact .inl (.inl (.inl hp))
         · simp only [if_true]; rw [inV_has ha c.1 hs c.2]; exact h)
end
end Co

set_option Elab.async false
set_option linter.all false
set_option maxRecDepth 100000
set_option maxHeartbeats 4000000
/-! Co4: built-ins, methods, subscripts, stores. -/
namespace Co
open PySem PySem.Spec L2

def rBi (K : PySem.W.Frag) (b : Bi) (lv : Bool) : List V → Hp → VK → Prop := fun xs H Q => ∃ (m : M) (vs : List Val), m.H = H ∧ RelS K m ∧ RepVs K m vs xs ∧ PostV K m (biv b lv vs m.st) Q
section
variable {X : Cx}
theorem one_rep {K : PySem.W.Frag} {m : M} {v : Val} {xs : List V} (h : RepVs K m [v] xs) : ∃ x, xs = [x] ∧ RepV K m v x := by
  cases h with
  | cons r t => cases t; exact ⟨_, rfl, r⟩
theorem two_rep {K : PySem.W.Frag} {m : M} {v w : Val} {xs : List V} (h : RepVs K m [v, w] xs) : ∃ x y, xs = [x, y] ∧ RepV K m v x ∧ RepV K m w y := by
  cases h with
  | cons r t =>
    obtain ⟨y, rfl, r2⟩ := one_rep t
    exact ⟨_, y, rfl, r, r2⟩
theorem bi_len (lv : Bool) : CallR X (.builtin "len") (rBi X.K .len lv) := by
  intro pins s σ H xs us Q I r h
  obtain ⟨m, vs, eH, hr, hv, h⟩ := h
  subst eH
  match vs, hv, h with
  | [], hv, h => exact h.elim
  | _ :: _ :: _, hv, h => exact h.elim
  | [v], hv, h =>
    obtain ⟨x, rfl, hx⟩ := one_rep hv
    have d := dr_rep hr hx
    simp only [biv] at h
    generalize dr m.st v = D at d h
    cases D with
    | tup xs =>
      obtain ⟨a, ws, rfl, h1, h2⟩ := d
      simp only [← h2.length] at h
      exact call_len_seq pins s σ _ _ us Q I r ⟨a, ws, rfl, .inr h1, h.ok hr (.int _)⟩
    | lst xs =>
      obtain ⟨a, ws, rfl, h1, h2⟩ := d
      simp only [← h2.length] at h
      exact call_len_seq pins s σ _ _ us Q I r ⟨a, ws, rfl, .inl (.inl (.inl h1)), h.ok hr (.int _)⟩
    | scr xs =>
      obtain ⟨a, ws, rfl, h1, h2⟩ := d
      simp only [← h2.length] at h
      exact call_len_seq pins s σ _ _ us Q I r ⟨a, ws, rfl, .inl h1, h.ok hr (.int _)⟩
    | dct ks xs =>
      obtain ⟨a, kvs, rfl, h1, h2, h3⟩ := d
      have e : ks.length = kvs.length := by rw [← h2, List.length_map]
      simp only [e] at h
      exact call_lenD pins s σ _ _ us Q I r ⟨a, kvs, rfl, h1, h.ok hr (.int _)⟩
    | str z =>
      cases d
      simp only at h
      split at h
      · rename_i c
        have := LIM_le
        exact call_len_str pins s σ _ _ us Q I r ⟨z, rfl, by omega, h.ok hr (.int _)⟩
      · exact h.elim
    | _ => exact h.elim
theorem bi_tuple (lv : Bool) : CallR X (.type "tuple") (rBi X.K .tuple lv) := by
  intro pins s σ H xs us Q I r h
  obtain ⟨m, vs, eH, hr, hv, h⟩ := h
  subst eH
  match vs, hv, h with
  | [], hv, h => exact h.elim
  | _ :: _ :: _, hv, h => exact h.elim
  | [v], hv, h =>
    obtain ⟨x, rfl, hx⟩ := one_rep hv
    have d := dr_rep hr hx
    simp only [biv] at h
    generalize dr m.st v = D at d h
    cases D with
    | tup xs =>
      obtain ⟨a, ws, rfl, h1, h2⟩ := d
      exact call_tuple_of pins s σ _ _ us Q I r ⟨a, ws, rfl, .inr ⟨h1, h.ok hr (.tup h1 h2)⟩⟩
    | lst xs =>
      obtain ⟨a, ws, rfl, h1, h2⟩ := d
      exact call_tuple_of pins s σ _ _ us Q I r ⟨a, ws, rfl, .inl ⟨.inl (.inl h1), fun l hl => h.tup hr h2 l hl⟩⟩
    | _ => exact h.elim
theorem bi_list (lv : Bool) : CallR X (.type "list") (rBi X.K .list lv) := by
  intro pins s σ H xs us Q I r h
  obtain ⟨m, vs, eH, hr, hv, h⟩ := h
  subst eH
  match vs, hv, h with
  | [], hv, h => exact h.elim
  | _ :: _ :: _, hv, h => exact h.elim
  | [v], hv, h =>
    obtain ⟨x, rfl, hx⟩ := one_rep hv
    have d := dr_rep hr hx
    simp only [biv] at h
    generalize dr m.st v = D at d h
    cases D with
    | tup xs =>
      obtain ⟨a, ws, rfl, h1, h2⟩ := d
      exact call_list_of pins s σ _ _ us Q I r ⟨a, ws, rfl, .inr h1, fun l hl => h.mkL hr h2 l hl⟩
    | lst xs =>
      obtain ⟨a, ws, rfl, h1, h2⟩ := d
      exact call_list_of pins s σ _ _ us Q I r ⟨a, ws, rfl, .inl (.inl (.inl h1)), fun l hl => h.mkL hr h2 l hl⟩
    | _ => exact h.elim
theorem bi_sum (hc : X.calm = true) (lv : Bool) : CallR X (.builtin "sum") (rBi X.K .sum lv) := by
  intro pins s σ H xs us Q I r h
  obtain ⟨m, vs, eH, hr, hv, h⟩ := h
  subst eH
  match vs, hv, h with
  | [], hv, h => exact h.elim
  | _ :: _ :: _, hv, h => exact h.elim
  | [v], hv, h =>
    obtain ⟨x, rfl, hx⟩ := one_rep hv
    have d := dr_rep hr hx
    simp only [biv] at h
    generalize dr m.st v = D at d h
    cases D with
    | lst xs =>
      obtain ⟨a, ws, rfl, h1, h2⟩ := d
      simp only at h
      cases e : ints? xs with
      | none => rw [e] at h; exact h.elim
      | some ns =>
        rw [e] at h
        have := h2.ofInts e
        subst this
        exact cr_sum hc pins s σ _ _ us Q I r ⟨a, ns, rfl, .inl (.inl h1), h.ok hr (.int _)⟩
    | _ => exact h.elim
theorem bi_any (hc : X.calm = true) (lv : Bool) : CallR X (.builtin "any") (rBi X.K .any lv) := by
  intro pins s σ H xs us Q I r h
  obtain ⟨m, vs, eH, hr, hv, h⟩ := h
  subst eH
  match vs, hv, h with
  | [], hv, h => exact h.elim
  | _ :: _ :: _, hv, h => exact h.elim
  | [v], hv, h =>
    obtain ⟨x, rfl, hx⟩ := one_rep hv
    have d := dr_rep hr hx
    simp only [biv] at h
    generalize dr m.st v = D at d h
    cases D with
    | lst xs =>
      obtain ⟨a, ws, rfl, h1, h2⟩ := d
      simp only at h
      cases e : bls? xs with
      | none => rw [e] at h; exact h.elim
      | some ns =>
        rw [e] at h
        have := h2.ofBls e
        subst this
        exact cr_any hc pins s σ _ _ us Q I r ⟨a, ns, rfl, .inl (.inl h1), h.ok hr (.bl _)⟩
    | _ => exact h.elim
theorem bi_all (hc : X.calm = true) (lv : Bool) : CallR X (.builtin "all") (rBi X.K .all lv) := by
  intro pins s σ H xs us Q I r h
  obtain ⟨m, vs, eH, hr, hv, h⟩ := h
  subst eH
  match vs, hv, h with
  | [], hv, h => exact h.elim
  | _ :: _ :: _, hv, h => exact h.elim
  | [v], hv, h =>
    obtain ⟨x, rfl, hx⟩ := one_rep hv
    have d := dr_rep hr hx
    simp only [biv] at h
    generalize dr m.st v = D at d h
    cases D with
    | lst xs =>
      obtain ⟨a, ws, rfl, h1, h2⟩ := d
      simp only at h
      cases e : bls? xs with
      | none => rw [e] at h; exact h.elim
      | some ns =>
        rw [e] at h
        have := h2.ofBls e
        subst this
        exact cr_all hc pins s σ _ _ us Q I r ⟨a, ns, rfl, .inl (.inl h1), h.ok hr (.bl _)⟩
    | _ => exact h.elim
/-! sorting: the sorted list of ints is one -/
theorem insI_perm (x : Int) : ∀ l, (insI x l).Perm (x :: l)
  | [] => .refl _
  | y :: r => by
    unfold insI
    split
    · exact .refl _
    · exact ((insI_perm x r).cons y).trans (.swap x y r)
theorem sortI_perm : ∀ l, (sortI l).Perm l
  | [] => .refl _
  | x :: r => (insI_perm x _).trans ((sortI_perm r).cons x)
theorem insI_le (x : Int) : ∀ l, l.Pairwise (· ≤ ·) → (insI x l).Pairwise (· ≤ ·)
  | [], _ => by simp [insI]
  | y :: r, h => by
    obtain ⟨h1, h2⟩ := List.pairwise_cons.mp h
    unfold insI
    split
    · rename_i c
      refine List.pairwise_cons.mpr ⟨fun z hz => ?_, h⟩
      rcases List.mem_cons.mp hz with rfl | hz
      · exact c
      · have := h1 z hz; omega
    · rename_i c
      refine List.pairwise_cons.mpr ⟨fun z hz => ?_, insI_le x r h2⟩
      rcases List.mem_cons.mp ((insI_perm x r).mem_iff.mp hz) with rfl | hz
      · omega
      · exact h1 z hz
theorem sortI_le : ∀ l, (sortI l).Pairwise (· ≤ ·)
  | [] => .nil
  | x :: r => insI_le x _ (sortI_le r)
theorem sort_one : ∀ {l l' : List Int}, l.Perm l' → l.Pairwise (· ≤ ·) → l'.Pairwise (· ≤ ·) → l = l'
  | [], l', p, _, _ => by rw [List.Perm.nil_eq p]
  | x :: r, [], p, _, _ => by have := p.length_eq; simp at this
  | x :: r, y :: t, p, h, h' => by
    obtain ⟨h1, h2⟩ := List.pairwise_cons.mp h
    obtain ⟨h1', h2'⟩ := List.pairwise_cons.mp h'
    have e : x = y := by
      have a : x ∈ y :: t := p.mem_iff.mp (List.mem_cons_self ..)
      have b : y ∈ x :: r := p.mem_iff.mpr (List.mem_cons_self ..)
      rcases List.mem_cons.mp a with z | z
      · exact z
      · rcases List.mem_cons.mp b with w | w
        · exact w.symm
        · have q1 := h1' x z
          have q2 := h1 y w
          omega
    subst e
    rw [sort_one ((List.perm_cons x).mp p) h2 h2']
theorem perm_sortI {l ns : List Int} (p : l.Perm ns) (h : l.Pairwise (· ≤ ·)) : l = sortI ns := sort_one (p.trans (sortI_perm ns).symm) h (sortI_le ns)
theorem bi_sorted_lst (lv : Bool) {pins : List (Addr × Obj)} {s : Shared} {σ : L2.St} {m : M} {us : List Value} {Q : VK} {a : Addr} {ws : List V} {ns : List Int} {xs : List Val} (I : Inv X pins σ m.H s) (r : Vals [.ref a] us) (hr : RelS X.K m)
    (h1 : SqL X.K m.H a ws) (h2 : RepVs X.K m xs ws) (e : ints? xs = some ns) (h : PostV X.K m (mkL lv ((sortI ns).map .int) m.st) Q) : wpAny (model X.prog X.w) X.A (call (.builtin "sorted") us) (EP X pins σ Q) X.xe s := by
  have := h2.ofInts e
  subst this
  refine cr_sortedI pins s σ _ _ us Q I r ⟨a, ns, rfl, h1, fun ns' p hp hs hn => ?_⟩
  rw [perm_sortI hp hs]
  exact h.mkL hr (RepVs.ints _) p hn
theorem bi_min2 (hc : X.calm = true) (lv : Bool) : CallR X (.builtin "min") (rBi X.K .min2 lv) := by
  intro pins s σ H xs us Q I r h
  obtain ⟨m, vs, eH, hr, hv, h⟩ := h
  subst eH
  match vs, hv, h with
  | [], hv, h => exact h.elim
  | [_], hv, h => simp only [biv] at h; exact h.elim
  | _ :: _ :: _ :: _, hv, h => simp only [biv] at h; exact h.elim
  | [v, w], hv, h =>
    obtain ⟨x, y, rfl, rx, ry⟩ := two_rep hv
    cases rx with
    | int i =>
      cases ry with
      | int j => exact call_min2 hc pins s σ _ _ us Q I r ⟨i, j, rfl, (show PostV X.K m (.ok (.int (if j < i then j else i)) m.st) Q from h).ok hr (.int _)⟩
      | _ => exact h.elim
    | _ => simp only [biv] at h; exact h.elim
theorem bi_int (lv : Bool) : CallR X (.type "int") (rBi X.K .int lv) := by
  intro pins s σ H xs us Q I r h
  obtain ⟨m, vs, eH, hr, hv, h⟩ := h
  subst eH
  match vs, hv, h with
  | [], hv, h => exact h.elim
  | _ :: _ :: _, hv, h => simp only [biv] at h; exact h.elim
  | [v], hv, h =>
    obtain ⟨x, rfl, hx⟩ := one_rep hv
    cases hx with
    | int i => exact call_int1 pins s σ _ _ us Q I r (.inl ⟨i, rfl, (show PostV X.K m (.ok (.int i) m.st) Q from h).ok hr (.int _)⟩)
    | bl k => exact call_int1 pins s σ _ _ us Q I r (.inr ⟨k, rfl, (show PostV X.K m (.ok (.int (if k then 1 else 0)) m.st) Q from h).ok hr (.int _)⟩)
    | _ => exact h.elim
theorem log2_of {n k : Nat} (h : n < 2 ^ k) (hk : 0 < k) : n.log2 < k := by
  by_cases h0 : n = 0
  · subst h0; simpa using hk
  · exact (Nat.log2_lt h0).mpr h
theorem bi_str (lv : Bool) : CallR X (.type "str") (rBi X.K .str lv) := by
  intro pins s σ H xs us Q I r h
  obtain ⟨m, vs, eH, hr, hv, h⟩ := h
  subst eH
  match vs, hv, h with
  | [], hv, h => exact h.elim
  | _ :: _ :: _, hv, h => simp only [biv] at h; exact h.elim
  | [v], hv, h =>
    obtain ⟨x, rfl, hx⟩ := one_rep hv
    cases hx with
    | int i =>
      simp only [biv] at h
      split at h
      · rename_i c
        have := log2_of c (by decide)
        exact call_str_int pins s σ _ _ us Q I r ⟨i, rfl, by omega, h.ok hr (.str _)⟩
      · exact h.elim
    | str z => exact SkE.call_str_str pins s σ _ _ us Q I r ⟨z, rfl, (show PostV X.K m (.ok (.str z) m.st) Q from h).ok hr (.str _)⟩
    | _ => exact h.elim
/-! repr -/
theorem dp_noDict : ∀ {v : V} {d : PyData} {K : PySem.W.Frag} {H : Hp}, Dp K H v d → d.hasDict = false
  | _, _, _, _, h => by
    cases h with
    | lst h hs => simp only [PyData.hasDict]; exact dps_noDict hs
    | tup h hs => simp only [PyData.hasDict]; exact dps_noDict hs
    | _ => simp only [PyData.hasDict]
where dps_noDict : ∀ {v : List V} {d : List PyData} {K : PySem.W.Frag} {H : Hp}, DpAll K H v d → PyData.hasDictAll d = false
  | _, _, _, _, h => by
    cases h with
    | nil => simp only [PyData.hasDictAll]
    | cons h hs => simp only [PyData.hasDictAll, dp_noDict h, dps_noDict hs, Bool.or_self]

theorem bi_repr (hg : X.A.guards = some []) (hu : X.A.units + 66 < cLine) (lv : Bool) : CallR X (.builtin "repr") (rBi X.K .repr lv) := by
  intro pins s σ H xs us Q I r h
  obtain ⟨m, vs, eH, hr, hv, h⟩ := h
  subst eH
  match vs, hv, h with
  | [], hv, h => exact h.elim
  | _ :: _ :: _, hv, h => exact h.elim
  | [v], hv, h =>
    obtain ⟨x, rfl, hx⟩ := one_rep hv
    have d := dr_rep hr hx
    simp only [biv] at h
    split at h
    · rename_i c
      simp only [shOk, Bool.and_eq_true, decide_eq_true_eq] at c
      obtain ⟨⟨c1, c2⟩, c3⟩ := c
      obtain ⟨dp, sh⟩ := d.dp c1
      generalize toPy (dr m.st v) = D at dp sh c2 c3 h
      obtain ⟨u, rfl, ru⟩ := vals1 r
      obtain ⟨as, rd⟩ := Dp.reads I D x u dp ru
      have nd := dp_noDict dp
      have dep := SeqAt.depth_of_shaped sh
      have fin : ∀ h' tk t, (∀ b o, s.heap.get? b = some o → h'.get? b = some o) → EP X pins σ Q (.str D.shown t) { s with heap := h', toks := tk } := fun h' tk t hk =>
        ⟨.str D.shown, m.H, I.kept hk, ⟨t, rfl⟩, h.ok hr (.str _)⟩
      cases dp with
      | non => cases ru; rw [PyData.shown_none] at fin; exact PySem.P.repr_of_none (fin _ _ _ fun _ _ e => e)
      | bl b => cases ru; rw [PyData.shown_bool] at fin; exact PySem.P.repr_of_bool (fin _ _ _ fun _ _ e => e)
      | int i => obtain ⟨t, rfl⟩ := ru; rw [PyData.shown_int] at fin; exact PySem.P.repr_of_int (by simpa [PyData.showable] using c2) (fin _ _ _ fun _ _ e => e)
      | str z => obtain ⟨t, rfl⟩ := ru; rw [PyData.shown_str] at fin c3; exact PySem.P.repr_of_str (fin _ _ _ fun _ _ e => e) c3
      | lst q1 q2 => cases ru; exact PySem.repr_of_reads' rd c2 (PyData.noDict_hsm nd) hg (by omega) (fun _ _ e => e) (fun h' u tk hk => fin h' tk u hk) c3
      | tup q1 q2 => cases ru; exact PySem.repr_of_reads' rd c2 (PyData.noDict_hsm nd) hg (by omega) (fun _ _ e => e) (fun h' u tk hk => fin h' tk u hk) c3
    · exact h.elim

/-! subscripts -/
theorem look_val {K : PySem.W.Frag} {m : M} {k : Key} : ∀ {kvs : List (Key × V)} {xs : List Val} {v : Val}, RepVs K m xs (kvs.map (·.2)) → look k (kvs.map (·.1)) xs = some v → ∃ x, valV kvs k = some x ∧ RepV K m v x
  | [], [], v, _, e => by simp [look] at e
  | p :: kvs, x :: xs, v, .cons h hs, e => by
    simp only [List.map_cons, look] at e
    split at e
    · rename_i c
      cases e
      exact ⟨p.2, valV_pos c, h⟩
    · rename_i c
      obtain ⟨y, h1, h2⟩ := look_val hs e
      exact ⟨y, by rw [valV_neg c]; exact h1, h2⟩
theorem keyOf_rep {K : PySem.W.Frag} {m : M} {v : Val} {x : V} {k : Key} (h : RepV K m v x) (e : keyOf v = some k) : x = kV k := by
  cases h <;> simp only [keyOf, Option.some.injEq, reduceCtorEq] at e <;> subst e <;> rfl
def rDx : R2 := fun x y H Q => ∃ (a : Addr) (v : V), x = .ref a ∧ DGet H a y (some v) ∧ Q v H
theorem ix_dict (hu : X.A.units + 1 < cLine) : IxR X rDx := by
  intro value slice pins s σ H x y v u Q I rx ry h hs
  obtain ⟨a, z, rfl, g, q⟩ := h
  cases rx
  exact PyProof.Rows.tail_any (dict_typeIs I g) PySem.F.slot_dict_getitem.lookup (d_getItem hu I g ry fun w' s3 I3 rw' => ⟨z, H, I3, rw', q⟩) hs
def rIdx (K : PySem.W.Frag) : R2 := fun x y H Q => ∃ (m : M) (v w z : Val), m.H = H ∧ RelS K m ∧ RepV K m v x ∧ RepV K m w y ∧ idx (dr m.st v) w = some z ∧ PostV K m (.ok z m.st) Q
theorem atI_rep {K : PySem.W.Frag} {m : M} {vs : List Val} {xs : List V} {i : Int} {v : Val} (h : RepVs K m vs xs) (e : atI vs i = some v) : ∃ x, atI xs i = some x ∧ RepV K m v x := by
  unfold atI at e ⊢
  rw [h.length]
  cases q : ixN vs.length i with
  | none => rw [q] at e; cases e
  | some j =>
    rw [q] at e
    exact h.get e
theorem op_idx (hu : X.A.units + 1 < cLine) : IxR X (rIdx X.K) := by
  intro value slice pins s σ H x y v u Q I rx ry h hs
  obtain ⟨m, a, b, z, eH, hr, ha, hb, hi, h⟩ := h
  subst eH
  have d := dr_rep hr ha
  generalize dr m.st a = D at d hi
  cases D with
  | tup xs =>
    obtain ⟨p, ws, rfl, h1, h2⟩ := d
    cases hb <;> simp only [idx, reduceCtorEq] at hi
    obtain ⟨q, e1, e2⟩ := atI_rep h2 hi
    exact ix_tup value slice pins s σ _ _ _ v u Q I rx ry ⟨p, ws, _, q, rfl, rfl, h1, e1, h.ok hr e2⟩ hs
  | lst xs =>
    obtain ⟨p, ws, rfl, h1, h2⟩ := d
    cases hb <;> simp only [idx, reduceCtorEq] at hi
    obtain ⟨q, e1, e2⟩ := atI_rep h2 hi
    exact ix_list value slice pins s σ _ _ _ v u Q I rx ry ⟨p, ws, _, q, rfl, rfl, .inl (.inl h1), e1, h.ok hr e2⟩ hs
  | scr xs =>
    obtain ⟨p, ws, rfl, h1, h2⟩ := d
    cases hb <;> simp only [idx, reduceCtorEq] at hi
    obtain ⟨q, e1, e2⟩ := atI_rep h2 hi
    exact ix_list value slice pins s σ _ _ _ v u Q I rx ry ⟨p, ws, _, q, rfl, rfl, h1, e1, h.ok hr e2⟩ hs
  | dct ks xs =>
    obtain ⟨p, kvs, rfl, h1, rfl, h3⟩ := d
    simp only [idx] at hi
    cases e : keyOf b with
    | none => rw [e] at hi; cases hi
    | some k =>
      rw [e] at hi
      obtain ⟨q, e1, e2⟩ := look_val h3 hi
      have ey := keyOf_rep hb e
      subst ey
      refine ix_dict hu value slice pins s σ _ _ _ v u Q I rx ry ⟨p, q, rfl, ?_, h.ok hr e2⟩ hs
      rw [← e1]
      exact DGet.k h1
  | _ => simp only [idx, reduceCtorEq] at hi
/-! slices -/
theorem cut_rep {K : PySem.W.Frag} {m : M} {vs : List Val} {xs : List V} (h : RepVs K m vs xs) (lo hi : Option Int) : RepVs K m (cut vs lo hi) (cutV xs lo hi) := by
  unfold cut cutV
  rw [h.length]
  exact (h.drop _).take _
def rSlc (K : PySem.W.Frag) (lv : Bool) : V → Option Int → Option Int → Hp → VK → Prop := fun x lo hi H Q => ∃ (m : M) (v : Val), m.H = H ∧ RelS K m ∧ RepV K m v x ∧
  PostV K m (match dr m.st v with
      | .tup xs => .ok (.tup (cut xs lo hi)) m.st
      | .lst xs | .scr xs => mkL lv (cut xs lo hi) m.st
      | _ => .stuck) Q
theorem op_slc (lv : Bool) : SlR X (rSlc X.K lv) := by
  intro pins s σ H x v vl vu lo hi sl Q I rx hsl pl pu h
  obtain ⟨m, a, eH, hr, ha, h⟩ := h
  subst eH
  have d := dr_rep hr ha
  generalize dr m.st a = D at d h
  cases D with
  | tup xs =>
    obtain ⟨p, ws, rfl, h1, h2⟩ := d
    refine sl_tupA pins s σ _ _ v vl vu lo hi sl Q I rx hsl pl pu ⟨p, ws, rfl, h1, fun e => ?_, fun _ q hq => h.tup hr (cut_rep h2 lo hi) q hq⟩
    have e2 : cut xs lo hi = xs := by
      unfold cut
      rw [← h2.length, e.1, e.2, List.drop_zero, h2.length, Nat.sub_zero, List.take_length]
    simp only [e2] at h
    exact h.ok hr (.tup h1 h2)
  | lst xs =>
    obtain ⟨p, ws, rfl, h1, h2⟩ := d
    exact sl_list pins s σ _ _ v vl vu lo hi sl Q I rx hsl pl pu ⟨p, ws, rfl, .inl (.inl h1), fun q hq => h.mkL hr (cut_rep h2 lo hi) q hq⟩
  | scr xs =>
    obtain ⟨p, ws, rfl, h1, h2⟩ := d
    exact sl_list pins s σ _ _ v vl vu lo hi sl Q I rx hsl pl pu ⟨p, ws, rfl, h1, fun q hq => h.mkL hr (cut_rep h2 lo hi) q hq⟩
  | _ => exact h.elim
/-! methods -/
def rMt (K : PySem.W.Frag) (mt : Mt) (lv : Bool) : V → List V → Hp → VK → Prop := fun x xs H Q => ∃ (m : M) (o : Val) (vs : List Val), m.H = H ∧ RelS K m ∧ RepV K m o x ∧ RepVs K m vs xs ∧ PostV K m (mtv mt lv o vs m.st) Q
theorem ref_lst {K : PySem.W.Frag} {m : M} {i : Nat} {x : V} {xs : List Val} (hr : RelS K m) (h : RepV K m (.ref i) x) (e : m.st[i]? = some (.lst xs)) : ∃ a ws, x = .ref a ∧ m.ρ[i]? = some a ∧ m.H a = some (.lst ws) ∧ RepVs K m xs ws := by
  cases h with
  | ref ha =>
    cases hr.cell i _ _ e ha with
    | lst h1 h2 => exact ⟨_, _, rfl, ha, h1, h2⟩
theorem PostV.put {K : PySem.W.Frag} {m : M} {i : Nat} {a : Addr} {c0 c : Cell} {o : HO} {v : Val} {x : V} {Q : V → Hp → Prop} (h : PostV K m (.ok v (m.st.set i c)) Q) (hr : RelS K m) (hi : m.st[i]? = some c0) (hl : c0.isLive) (ha : m.ρ[i]? = some a)
    (hc : CellOk K (m.put i a o c) c a) (hv : RepV K m v x) : Q x (upd m.H a o) := h (m.put i a o c) x rfl (Ext.put hr hi hl ha o c) (hr.put hi hl ha o c hc) (hv.mono (Ext.put hr hi hl ha o c))
theorem mt_app (lv : Bool) : MtR X "list.append" (rMt X.K .append lv) := by
  intro pins s σ H x xs v us Q I rx rs h
  obtain ⟨m, o, vs, eH, hr, ho, hs, h⟩ := h
  subst eH
  match vs, hs, h with
  | [], _, h => exact h.elim
  | _ :: _ :: _, _, h => exact h.elim
  | [w], hs, h =>
    obtain ⟨y, rfl, hy⟩ := one_rep hs
    simp only [mtv] at h
    cases o with
    | ref i =>
      simp only at h
      cases e : m.st[i]? with
      | none => rw [e] at h; exact h.elim
      | some c =>
        rw [e] at h
        cases c with
        | lst ls =>
          simp only at h
          split at h
          · rename_i c
            obtain ⟨a, ws, rfl, h1, h2, h3⟩ := ref_lst hr ho e
            have := LIM_le
            have hl := h3.length
            refine mt_append pins s σ _ _ _ v us Q I rx rs ⟨a, ws, y, rfl, rfl, h2, by omega, ?_⟩
            have ex := Ext.put hr e trivial h1 (.lst (ws ++ [y])) (.lst (ls ++ [w]))
            exact h.put hr e trivial h1 (.lst upd_same ((h3.mono ex).append (.cons (hy.mono ex) .nil))) .non
          · exact h.elim
        | _ => exact h.elim
    | _ => exact h.elim
theorem mt_pp (lv : Bool) : MtR X "list.pop" (rMt X.K .pop lv) := by
  intro pins s σ H x xs v us Q I rx rs h
  obtain ⟨m, o, vs, eH, hr, ho, hs, h⟩ := h
  subst eH
  match vs, hs, h with
  | _ :: _, _, h => simp only [mtv] at h; exact h.elim
  | [], hs, h =>
    cases hs
    simp only [mtv] at h
    cases o with
    | ref i =>
      simp only at h
      cases e : m.st[i]? with
      | none => rw [e] at h; exact h.elim
      | some c =>
        rw [e] at h
        cases c with
        | lst ls =>
          simp only at h
          cases el : ls.getLast? with
          | none => rw [el] at h; exact h.elim
          | some w =>
            rw [el] at h
            obtain ⟨a, ws, rfl, h1, h2, h3⟩ := ref_lst hr ho e
            have hl := h3.length
            rw [List.getLast?_eq_getElem?] at el
            obtain ⟨y, e1, e2⟩ := h3.get el
            refine mt_pop pins s σ _ _ _ v us Q I rx rs ⟨a, ws, y, rfl, rfl, h2, by rw [hl]; exact e1, ?_⟩
            have ex := Ext.put hr e trivial h1 (.lst ws.dropLast) (.lst ls.dropLast)
            exact h.put hr e trivial h1 (.lst upd_same (h3.mono ex).dropLast) e2
        | _ => exact h.elim
    | _ => exact h.elim
theorem mt_ppAt (lv : Bool) : MtR X "list.pop" (rMt X.K .popAt lv) := by
  intro pins s σ H x xs v us Q I rx rs h
  obtain ⟨m, o, vs, eH, hr, ho, hs, h⟩ := h
  subst eH
  match vs, hs, h with
  | [], _, h => exact h.elim
  | _ :: _ :: _, _, h => simp only [mtv] at h; exact h.elim
  | [w], hs, h =>
    obtain ⟨y, rfl, hy⟩ := one_rep hs
    cases hy with
    | int k =>
      simp only [mtv] at h
      cases o with
      | ref i =>
        simp only at h
        cases e : m.st[i]? with
        | none => rw [e] at h; exact h.elim
        | some c =>
          rw [e] at h
          cases c with
          | lst ls =>
            simp only at h
            split at h
            · rename_i c
              cases el : ls[k.toNat]? with
              | none => rw [el] at h; exact h.elim
              | some w =>
                rw [el] at h
                obtain ⟨a, ws, rfl, h1, h2, h3⟩ := ref_lst hr ho e
                have hl := h3.length
                have hlim : LIM = 100000 := rfl
                obtain ⟨y, e1, e2⟩ := h3.get el
                refine mt_popAt pins s σ _ _ _ v us Q I rx rs ⟨a, ws, k, k.toNat, y, rfl, rfl, h2, by omega, by omega, ?_, e1, ?_⟩
                · exact (ixN_seq (n := ws.length) (i := k) (j := k.toNat) (by unfold ixN; rw [if_pos (by omega), if_pos (by omega)])).1
                have ex := Ext.put hr e trivial h1 (.lst (ws.eraseIdx k.toNat)) (.lst (ls.eraseIdx k.toNat))
                exact h.put hr e trivial h1 (.lst upd_same ((h3.mono ex).eraseIdx _)) e2
            · exact h.elim
          | _ => exact h.elim
      | _ => exact h.elim
    | _ => simp only [mtv] at h; exact h.elim
theorem mt_ext (lv : Bool) : MtR X "list.extend" (rMt X.K .extend lv) := by
  intro pins s σ H x xs v us Q I rx rs h
  obtain ⟨m, o, vs, eH, hr, ho, hs, h⟩ := h
  subst eH
  match vs, hs, h with
  | [], _, h => exact h.elim
  | _ :: _ :: _, _, h => exact h.elim
  | [w], hs, h =>
    obtain ⟨y, rfl, hy⟩ := one_rep hs
    have d := dr_rep hr hy
    simp only [mtv] at h
    cases o with
    | ref i =>
      generalize dr m.st w = D at d h
      cases D with
      | lst ys =>
        simp only at h
        cases e : m.st[i]? with
        | none => rw [e] at h; exact h.elim
        | some c =>
          rw [e] at h
          cases c with
          | lst ls =>
            simp only at h
            split at h
            · rename_i c
              obtain ⟨a, ws, rfl, h1, h2, h3⟩ := ref_lst hr ho e
              obtain ⟨b, zs, rfl, h4, h5⟩ := d
              have := LIM_le
              have hl := h3.length
              have hl2 := h5.length
              refine mt_extend pins s σ _ _ _ v us Q I rx rs ⟨a, b, ws, zs, rfl, rfl, h2, h4, by omega, ?_⟩
              have ex := Ext.put hr e trivial h1 (.lst (ws ++ zs)) (.lst (ls ++ ys))
              exact h.put hr e trivial h1 (.lst upd_same ((h3.mono ex).append (h5.mono ex))) .non
            · exact h.elim
          | _ => exact h.elim
      | _ => exact h.elim
    | _ => simp only at h; exact h.elim
/-! stores -/
def PostU (K : PySem.W.Frag) (m : M) (r : R Unit) (Q : Hp → Prop) : Prop :=
  match r with
  | .ok _ st' => ∀ (m' : M), m'.st = st' → Ext m m' → RelS K m' → Q m'.H
  | _ => False
def rSet (K : PySem.W.Frag) : TSet := fun o i v H Q => ∃ (m : M) (a b c : Val), m.H = H ∧ RelS K m ∧ RepV K m a o ∧ RepV K m b i ∧ RepV K m c v ∧ PostU K m (setv a b c m.st) Q
theorem zip_rep {K : PySem.W.Frag} {m : M} {k : Key} {v : Val} {x : V} (hv : RepV K m v x) : ∀ {kvs : List (Key × V)} {xs : List Val}, RepVs K m xs (kvs.map (·.2)) →
    RepVs K m (List.zipWith (fun k' x => if k' = k then v else x) (kvs.map (·.1)) xs) ((kvs.map (fun kv => if kv.1 = k then (kv.1, x) else kv)).map (·.2))
  | [], [], _ => .nil
  | p :: kvs, y :: xs, .cons h hs => by
    simp only [List.map_cons, List.zipWith_cons_cons]
    refine .cons ?_ (zip_rep hv hs)
    split
    · exact hv
    · exact h
theorem putK_rep {K : PySem.W.Frag} {m : M} {k : Key} {v : Val} {x : V} (hv : RepV K m v x) {kvs : List (Key × V)} {xs : List Val} (h : RepVs K m xs (kvs.map (·.2))) :
    (putK kvs k x).map (·.1) = putKs k (kvs.map (·.1)) ∧ RepVs K m (putVs k v (kvs.map (·.1)) xs) ((putK kvs k x).map (·.2)) := by
  have e : ((kvs.map (·.1)).any fun k' => decide (k' = k)) = kvs.any fun kv => decide (kv.1 = k) := by rw [List.any_map]; rfl
  unfold putK putKs putVs
  rw [e]
  split
  · refine ⟨?_, zip_rep hv h⟩
    rw [List.map_map]
    refine List.map_congr_left fun p _ => ?_
    show (if p.1 = k then (p.1, x) else p).1 = p.1
    split <;> rfl
  · rw [List.map_append, List.map_append]
    exact ⟨rfl, h.append (.cons hv .nil)⟩
theorem PostU.put {K : PySem.W.Frag} {m : M} {i : Nat} {a : Addr} {c0 c : Cell} {o : HO} {Q : Hp → Prop} (h : PostU K m (.ok () (m.st.set i c)) Q) (hr : RelS K m) (hi : m.st[i]? = some c0) (hl : c0.isLive) (ha : m.ρ[i]? = some a)
    (hc : CellOk K (m.put i a o c) c a) : Q (upd m.H a o) := h (m.put i a o c) rfl (Ext.put hr hi hl ha o c) (hr.put hi hl ha o c hc)
theorem op_set (hu : X.A.units + 1 < cLine) : PSet X (rSet X.K) := by
  intro pins s σ H o i v ov iv u Q I ro ri rv h
  obtain ⟨m, a, b, c, eH, hr, ha, hb, hc, h⟩ := h
  subst eH
  simp only [setv] at h
  cases a with
  | ref n =>
    simp only at h
    cases e : m.st[n]? with
    | none => rw [e] at h; exact h.elim
    | some cell =>
      rw [e] at h
      cases cell with
      | lst ls =>
        simp only at h
        cases hb with
        | int k =>
          simp only at h
          cases ej : ixN ls.length k with
          | none => rw [ej] at h; exact h.elim
          | some j =>
            rw [ej] at h
            obtain ⟨p, ws, rfl, h1, h2, h3⟩ := ref_lst hr ha e
            have ex := Ext.put hr e trivial h1 (.lst (ws.set j v)) (.lst (ls.set j c))
            exact set_list pins s σ _ _ _ v ov iv u Q I ro ri rv ⟨p, ws, k, j, rfl, rfl, h2, by rw [h3.length]; exact ej, h.put hr e trivial h1 (.lst upd_same ((h3.mono ex).set (hc.mono ex) j))⟩
        | _ => exact h.elim
      | dct ks xs =>
        simp only at h
        cases ek : keyOf b with
        | none => rw [ek] at h; exact h.elim
        | some k =>
          rw [ek] at h
          simp only at h
          split at h
          · rename_i hl
            cases ha with
            | ref hρ =>
              cases hr.cell n _ _ e hρ with
              | dct h1 h2 h3 =>
                rename_i p kvs
                subst h2
                have ey := keyOf_rep hb ek
                subst ey
                cases ro
                rw [List.length_map] at hl
                have ex := Ext.put hr e trivial hρ (.dK (putK kvs k v)) (.dct (putKs k (kvs.map (·.1))) (putVs k c (kvs.map (·.1)) xs))
                obtain ⟨q1, q2⟩ := putK_rep (hc.mono ex) (h3.mono ex) (k := k)
                have hz : kvs.length < sizeLine := small1000 (by omega)
                exact d_setItem hu I (DPut.k h1 hz) ri rv fun s4 I4 => ⟨_, I4, h.put hr e trivial hρ (.dct upd_same q1 q2)⟩
          · exact h.elim
      | _ => exact h.elim
  | _ => exact h.elim
end
end Co

set_option Elab.async false
set_option linter.all false
set_option maxRecDepth 100000
set_option maxHeartbeats 8000000
/-! Co5: a checked text is what the small language says (expressions). -/
namespace Co
open PySem PySem.Spec L2

structure GI where
  fn : List (Nat × Str × List Str)
  kw : List (Nat × Nat × List Str × List Nat)
  cs : List (Str × Val)
def bltNames : List Str := ["len", "tuple", "list", "sum", "any", "all", "sorted", "min", "max", "int", "str", "repr", "isinstance", "range", "enumerate", "zip", "set", "bool", "dict", "abs"]
def isVis (sc : Scope) (x : Str) : Bool := match sc.names.lookup x with
  | some .local => true | some .cell => true | some .free => true | _ => false
def isGl (sc : Scope) (x : Str) : Bool := match sc.names.lookup x with
  | some .globalImplicit => true | _ => false
def isOwn (sc : Scope) (x : Str) : Bool := match sc.names.lookup x with
  | some .local => true | some .cell => true | _ => false
def isLoc (sc : Scope) (x : Str) : Bool := match sc.names.lookup x with
  | some .local => true | _ => false
def okN (x : Str) : Bool := !(x == ("__debug__" : Str)) && !(x == ("__classdict__" : Str)) && !(x == ("__name__" : Str))
def cstEq : Const → Val → Bool
  | .int i, .int j => i == j
  | .bool i, .bl j => i == j
  | .none, .non => true
  | .str x, .str y => x == y
  | _, _ => false
def valEq : Val → Val → Bool
  | .int i, .int j => i == j
  | .bl i, .bl j => i == j
  | .non, .non => true
  | .str x, .str y => x == y
  | _, _ => false
def bopEq : Bop → Operator → Bool
  | .add, .Add | .sub, .Sub | .mul, .Mult | .fdiv, .FloorDiv | .mod, .Mod | .pow, .Pow | .shl, .LShift | .shr, .RShift | .band, .BitAnd | .bor, .BitOr | .bxor, .BitXor => true
  | _, _ => false
def copEq : Cop → CmpOp → Bool
  | .lt, .Lt | .le, .LtE | .gt, .Gt | .ge, .GtE | .eq, .Eq | .ne, .NotEq | .isin, .In | .notin, .NotIn | .isn, .Is | .notn, .IsNot => true
  | _, _ => false
def biName : Bi → Str
  | .len => "len" | .tuple => "tuple" | .list => "list" | .sum => "sum" | .any => "any" | .all => "all" | .sorted => "sorted" | .min2 => "min" | .max2 => "max" | .max1 => "max" | .min1 => "min" | .abs => "abs"
  | .int => "int" | .str => "str" | .repr => "repr" | .isin _ => "isinstance" | .sset => "sorted"
def biAr : Bi → Nat
  | .min2 => 2 | .max2 => 2 | _ => 1
/-- what is carried today -/
def biOk : Bi → Bool
  | .len | .tuple | .list | .sum | .any | .all | .sorted | .min2 | .max2 | .max1 | .min1 | .abs | .int | .str | .repr | .isin _ => true
  | _ => false
def tyName : Ty → Str
  | .int => "int" | .bool => "bool" | .str => "str" | .tuple => "tuple" | .list => "list" | .dict => "dict" | .none => "NoneType"
def mtName : Mt → Str
  | .append => "append" | .pop => "pop" | .popAt => "pop" | .extend => "extend" | .index => "index" | .insert => "insert" | .get => "get"
def mtAr : Mt → Nat
  | .pop => 0 | _ => 1
def mtOk : Mt → Bool
  | .append | .pop | .popAt | .extend => true
  | _ => false
def keyC : Key → Const → Bool
  | .inl i, .int j => i == j
  | .inr x, .str y => x == y
  | _, _ => false
def plainO : Expr → Bool
  | .Name _ _ => true
  | .Subscript _ _ _ => true
  | _ => false
/-- the slots of a target -/
def chkT (N : List Str) (sc : Scope) : Tg → Expr → Bool
  | .nm i, .Name x _ => decide (N[i]? = some x) && isOwn sc x
  | .tp is, .Tuple es _ _ => chkTs N sc is es
  | _, _ => false
where chkTs (N : List Str) (sc : Scope) : List Nat → List Expr → Bool
  | [], [] => true
  | i :: is, .Name x _ :: es => decide (N[i]? = some x) && isOwn sc x && chkTs N sc is es
  | _, _ => false
def ownP (N : List Str) (own : List Nat) : List (Str × Nat) := own.map fun i => (N.getD i "", i)
mutual
def chkE (G : GI) (N : List Str) : Ex → Scope → Expr → Bool
  | .var i, sc, e => match e with
    | .Name x _ => decide (N[i]? = some x) && isVis sc x && okN x
    | _ => false
  | .cst v, sc, e => match e with
    | .Constant c _ _ => cstEq c v
    | .Name x _ => isGl sc x && okN x && (match G.cs.lookup x with | some w => valEq w v | none => false)
    | _ => false
  | .tup es, sc, e => match e with
    | .Tuple as _ _ => decide (as.length ≤ 1000) && chkEs G N es sc as
    | _ => false
  | .lst _ es, sc, e => match e with
    | .List as _ => decide (as.length ≤ 1000) && chkEs G N es sc as
    | _ => false
  | .dct lv ks es, sc, e => match e with
    | .Dict keys values _ => decide (keys.length = values.length) && decide (keys.length ≤ 15) && decide (ks.Nodup) && chkK ks keys && !keys.isEmpty && chkEs G N es sc values
    | _ => false
  | .bin op _ a b, sc, e => match e with
    | .BinOp a' op' b' _ => bopEq op op' && chkE G N a sc a' && chkE G N b sc b'
    | _ => false
  | .neg a, sc, e => match e with
    | .UnaryOp .USub a' _ => chkE G N a sc a'
    | _ => false
  | .not_ a, sc, e => match e with
    | .UnaryOp .Not a' _ => chkE G N a sc a'
    | _ => false
  | .cmp op a b, sc, e => match e with
    | .Compare a' [op'] [b'] _ => copEq op op' && chkE G N a sc a' && chkE G N b sc b'
    | _ => false
  | .chn o1 o2 a b c, sc, e => match e with
    | .Compare a' [p1, p2] [b', c'] _ => copEq o1 p1 && copEq o2 p2 && chkE G N a sc a' && chkE G N b sc b' && chkE G N c sc c'
    | _ => false
  | .and_ a b, sc, e => match e with
    | .BoolOp .And (v :: w :: r) p => chkE G N a sc v && (if r.isEmpty then chkE G N b sc w else chkE G N b sc (.BoolOp .And (w :: r) p))
    | _ => false
  | .or_ a b, sc, e => match e with
    | .BoolOp .Or (v :: w :: r) p => chkE G N a sc v && (if r.isEmpty then chkE G N b sc w else chkE G N b sc (.BoolOp .Or (w :: r) p))
    | _ => false
  | .ite c a b, sc, e => match e with
    | .IfExp c' a' b' _ => chkE G N c sc c' && chkE G N a sc a' && chkE G N b sc b'
    | _ => false
  | .call f pm es ks, sc, e => match e with
    | .Call (.Name x _) as kws _ => isGl sc x && okN x && (G.fn.any fun q => decide (q.1 = f) && decide (q.2.1 = x)) && kws.all (·.arg.isSome) &&
        (G.kw.any fun q => decide (q.1 = f) && decide (q.2.1 = as.length) && decide (q.2.2.1 = kws.filterMap (·.arg)) && decide (q.2.2.2 = pm)) && chkEs G N es sc as && chkEs G N ks sc (kws.map (·.value))
    | _ => false
  | .bi b _ es, sc, e => match e with
    | .Call (.Name x _) as [] _ => isGl sc x && biOk b && decide (x = biName b) && (match b with
      | .isin t => (match as with
        | [a, .Name y _] => isGl sc y && decide (y = tyName t) && bltNames.contains y && chkEs G N es sc [a]
        | _ => false)
      | _ => decide (as.length = biAr b) && chkEs G N es sc as)
    | _ => false
  | .mth m _ o es, sc, e => match e with
    | .Call (.Attribute o' nm ap) as [] cp => mtOk m && decide (nm = mtName m) && plainO o' && (ap.endLine == cp.line) && decide (as.length = mtAr m) && chkE G N o sc o' && chkEs G N es sc as
    | _ => false
  | .idx a i, sc, e => match e with
    | .Subscript a' i' _ => chkE G N a sc a' && chkE G N i sc i'
    | _ => false
  | .slc _ a lo hi, sc, e => match e with
    | .Subscript a' (.Slice lo' hi' none _) _ => chkE G N a sc a' && (match lo' with | some l => !isNon lo && chkE G N lo sc l | none => isNon lo) && (match hi' with | some l => !isNon hi && chkE G N hi sc l | none => isNon hi)
    | _ => false
  | .lc _ elt tg it cnd own, sc, e => match e with
    | .ListComp elt' [⟨tg', iter', ifs', 0⟩] scope _ => blkC N sc scope (ownP N own) && chkI G N it sc iter' tg' && chkT N scope tg tg' && decide (∀ i ∈ tgs tg, i ∈ own) && chkE G N elt (relS scope sc) elt' &&
        (match ifs' with
         | [] => isYes cnd
         | [c] => chkE G N cnd (relS scope sc) c
         | _ => false)
    | _ => false
  | .sset _ a, sc, e => match e with
    | .Call (.Name x _) [.Call (.Name y _) [a'] [] _] [] _ => isGl sc x && decide (x = "sorted") && isGl sc y && decide (y = "set") && chkE G N a sc a'
    | _ => false
  | .frz a, sc, e => chkE G N a sc e
  | .tst _, _, _ => false
  | .rgl tp _ it, sc, e => match e with
    | .Call (.Name x _) [a'] [] _ => isGl sc x && decide (x = rglName tp) && isRng it && chkI G N it sc a' a'
    | _ => false
def chkEs (G : GI) (N : List Str) : Exs → Scope → List Expr → Bool
  | .nil, _, es => es.isEmpty
  | .cons x xs, sc, es => match es with
    | e :: r => chkE G N x sc e && chkEs G N xs sc r
    | [] => false
def chkI (G : GI) (N : List Str) : Ic → Scope → Expr → Expr → Bool
  | .seq x, sc, e, _ => chkE G N x sc e && plainIter e
  | .rng1 x, sc, e, _ => match e with
    | .Call (.Name nm _) [a] [] _ => isGl sc nm && decide (nm = "range") && chkE G N x sc a
    | _ => false
  | .rng2 x y, sc, e, _ => match e with
    | .Call (.Name nm _) [a, b] [] _ => isGl sc nm && decide (nm = "range") && chkE G N x sc a && chkE G N y sc b
    | _ => false
  | .enm x, sc, e, t => match e with
    | .Call (.Name nm _) [a] [] _ => isGl sc nm && decide (nm = "enumerate") && chkE G N x sc a && isTupT t
    | _ => false
def rglName : Bool → Str
  | true => "tuple"
  | false => "list"
def isRng : Ic → Bool
  | .rng1 _ => true
  | .rng2 _ _ => true
  | _ => false
def isYes : Ex → Bool
  | .cst (.bl true) => true
  | _ => false
def tgs : Tg → List Nat
  | .nm i => [i]
  | .tp is => is
def chkK : List Key → List (Option Expr) → Bool
  | [], [] => true
  | k :: ks, some (.Constant c _ _) :: r => keyC k c && chkK ks r
  | _, _ => false
def plainIter : Expr → Bool
  | .Set _ _ _ => false
  | _ => true
def isTupT : Expr → Bool
  | .Tuple _ _ _ => true
  | _ => false
end
end Co

set_option Elab.async false
set_option linter.all false
set_option maxRecDepth 100000
set_option maxHeartbeats 8000000
/-! Co6: calls. -/
namespace Co
open PySem PySem.Spec L2

/-- a def's promise, where no repr is running -/
structure FnG (P : Program) (w : World) (K : PySem.W.Frag) (mg : Str → Option Value) (base : Heap) (k : Nat) (f : Addr) (fd : FuncData) (ps : List Str) (sp : Sp) : Prop where
  len : ∀ vs H Q E, sp vs H Q E → vs.length = ps.length
  run : ∀ (A : Around) (outer : List Env) (s : Shared) (H : Hp) (args : Args) (us : List Value) (vs : List V) (Q : VK) (E : XK), Room k A → A.guards = some [] → Env0 P w K mg base A outer s H → BindsTo s fd args (ps.zip us) → Vals vs us → sp vs H Q E →
    codeAny (model P w) A (.call (.ref f) args) (CR CX0 outer P w H s Q E) s
theorem FnG.mono {P : Program} {w : World} {K : PySem.W.Frag} {mg : Str → Option Value} {base : Heap} {j k : Nat} {f : Addr} {fd : FuncData} {ps : List Str} {sp : Sp} (F : FnG P w K mg base j f fd ps sp) (h : j ≤ k) : FnG P w K mg base k f fd ps sp :=
  ⟨F.len, fun A outer s H args us vs Q E hr => F.run A outer s H args us vs Q E (hr.mono h)⟩
theorem deeper_guards (A : Around) (env : Env) : (A.deeper env).guards = A.guards := by first | rfl | simp [Around.deeper]

section
open PyProof.Rows
theorem fn_ofG {P : Program} {w : World} {K : PySem.W.Frag} {mg : Str → Option Value} {base : Heap} {k : Nat} {f : Addr} {name qual : Str} {params : Arguments} {body : List Stmt} {scope : Scope} {dV kV doc pm cdv ct oc : Value} {an od : Option Addr}
    {osl : Array (Option Value)} {N ps : List Str} {sp : Sp} (lk : K.lookup f = some ⟨oc, od, .func (PySem.W.fnOf name qual params body scope dV kV doc pm an cdv ct), osl⟩) (hcd : PySem.W.codeIn K cdv qual = true) (S : FnScope N ps scope)
    (len : ∀ vs H Q E, sp vs H Q E → vs.length = ps.length)
    (hbody : ∀ (A : Around) (outer : List Env) (s : Shared) (H : Hp) (vs : List V) (Q : VK) (E : XK), Room k (A.deeper (envOfC qual scope s.heap.objs.size f cdv)) → (A.deeper (envOfC qual scope s.heap.objs.size f cdv)).guards = some [] → sp vs H Q E →
      ∃ t, PSs (cxOf CX0 P w K mg base N qual scope f cdv A outer s H E) body t ∧ t { nx := fun _ H' => Q .non H', rt := Q } (start N vs) H) :
    FnG P w K mg base (k + 1) f (PySem.W.fnOf name qual params body scope dV kV doc pm an cdv ct) ps sp := by
  refine ⟨len, fun A outer s H args us vs Q E hr hgd e0 hb r hsp => ?_⟩
  have hl := len _ _ _ _ hsp
  have KX : K.In s.heap := e0.mod.kin.keeps fun b o e => (e0.bs b o e).1
  have lim : s.heap.NoLimit := e0.mod.nolimit.keeps fun b o e => (e0.bs b o e).1
  have hkind : ∀ y ∈ ps.zip us, scope.names.lookup y.1 = some .local ∨ (scope.names.lookup y.1 = some .cell ∧ ((cellsFrom (s.heap.objs.size + 1) scope.names []).lookup y.1).isSome = true) := fun ⟨n, v⟩ hy => by
    rcases S.par n (List.of_mem_zip hy).1 with q | q
    · exact .inl q
    · exact .inr ⟨q, PySem.W.cellsFrom_some _ _ _ (.inl q)⟩
  refine codeAny_call_function hr.depth (KX _ _ lk) rfl S.co S.gen rfl (PySem.W.codeRec_of KX hcd) (hb _ _ _ _ ?_)
  refine wpAny_newFunctionEnv_cells S.kind hkind fun env he s1 x => ?_
  subst he
  refine ⟨lim.keeps x.toInCall.keep, codeAny_func ?_⟩
  obtain ⟨t, ht, hq⟩ := hbody A outer s H vs Q E (hr.deeper _) (by rw [deeper_guards]; exact hgd) hsp
  have I : L2.Inv (cxOf CX0 P w K mg base N qual scope f cdv A outer s H E) [] (start N vs) H s1 := inv_start S hr.hd e0 hl r x
  refine wpAny_mono (ht.run [] s1 (start N vs) H _ I hq) (fun fl s' hs => ?_) fun e s' hs => hs
  have fin : ∀ {σ' : L2.St} {H' : Hp} {v : V} {u : Value}, L2.Inv (cxOf CX0 P w K mg base N qual scope f cdv A outer s H E) [] σ' H' s' → RelV v u → Q v H' → CE outer P w H s Q u s' :=
    fun {σ' H' v u} J rv q => ⟨v, H', J.os, J.bare, J.base, J.hok, rv, q⟩
  cases fl with
  | ret u =>
    obtain ⟨v, σ', H', J, rv, q⟩ := hs
    exact fin J rv q
  | next =>
    obtain ⟨σ', H', J, q⟩ := hs
    exact fin (v := V.non) (u := Value.none) J rfl q
  | brk =>
    obtain ⟨_, _, _, q⟩ := hs
    exact False.elim q
  | cont =>
    obtain ⟨_, _, _, q⟩ := hs
    exact False.elim q
end

section
variable {X : Cx} {k : Nat} {f : Addr} {fd : FuncData} {ps : List Str} {sp : Sp}
theorem run_fnG {pins : List (Addr × Obj)} {σ : L2.St} {H : Hp} {s : Shared} {Q : VK} {us all : List Value} {kw : List (Str × Value)} {vs : List V} (F : FnG X.prog X.w X.K X.mg X.base k f fd ps sp) (hr : Room k X.A) (hg : X.A.guards = some [])
    (I : L2.Inv X pins σ H s) (hb : BindsTo s fd ⟨us, kw⟩ (ps.zip all)) (r : Vals vs all) (h : sp vs H Q E0) : wpAny (model X.prog X.w) X.A (call (.ref f) us kw) (EP X pins σ Q) X.xe s := by
  refine wpAny_call (codeAny_mono (F.run X.A X.stack s H ⟨us, kw⟩ all vs Q E0 hr hg I.env0 hb r h) fun r s' hq => ?_)
  cases r with
  | error e => exact hq.elim
  | ok fl =>
    cases fl with
    | ret u => exact I.after hq
    | next => exact False.elim hq
    | brk => exact False.elim hq
    | cont => exact False.elim hq
end

/-- what a def computes -/
def spF (K : PySem.W.Frag) (n : Nat) (cf : CF) (f : Nat) : Sp := fun vs H Q _ => vs.length = n ∧ ∃ (m : M) (args : List Val), m.H = H ∧ RelS K m ∧ RepVs K m args vs ∧ PostV K m (cf f args m.st) Q

structure CtxOk (G : GI) (N : List Str) (n : Nat) (cf : CF) (X : Cx) (sc : Scope) : Prop where
  eS : X.env.scope = sc
  eN : X.N = N
  nd : N.Nodup
  calm : X.calm = true
  gd : X.A.guards = some []
  room : Room n X.A
  blt : ∀ x ∈ bltNames, X.mg x = none
  cs : ∀ x v, G.cs.lookup x = some v → ∃ u y, X.mg x = some u ∧ RelV y u ∧ ∀ K m, RepV K m v y
  fn : ∀ f x ps, (f, x, ps) ∈ G.fn → ∃ a fd, X.mg x = some (.ref a) ∧ PySem.W.keepIn X.K (.ref a) = true ∧ FnG X.prog X.w X.K X.mg X.base n a fd ps (spF X.K ps.length cf f) ∧
    ∀ np ks pm, (f, np, ks, pm) ∈ G.kw → pm.length = ps.length ∧ ∀ (us ws all : List Value), us.length = np → ws.length = ks.length → pm.mapM (fun i => (us ++ ws)[i]?) = some all → bindArgs fd ⟨us, ks.zip ws⟩ = pure (ps.zip all)
  fn1 : ∀ f x ps x' ps', (f, x, ps) ∈ G.fn → (f, x', ps') ∈ G.fn → x = x' ∧ ps = ps'
theorem CtxOk.blk {G : GI} {N : List Str} {n : Nat} {cf : CF} {X : Cx} {sc : Scope} (c : CtxOk G N n cf X sc) (s : Shared) (H : Hp) (scope : Scope) (C : Addr) (cl : List (Str × Addr)) (fp : List Addr) : CtxOk G N n cf (X.blk s H scope (compEnvC scope cl C X.env) fp) (relS scope sc) :=
  ⟨by rw [← c.eS]; rfl, c.eN, c.nd, c.calm, c.gd, c.room, c.blt, c.cs, c.fn, c.fn1⟩

/-! ### from one reading to another -/
section
variable {X : Cx} {e : Expr}
theorem PE.imp {t t' : TE} (h : PE X e t) (i : ∀ σ H Q, t' σ H Q → t σ H Q) : PE X e t' := ⟨fun pins s σ H Q I q => h.run pins s σ H Q I (i σ H Q q)⟩
theorem PT.imp {t t' : TT} (h : PT X e t) (i : ∀ σ H Q, t' σ H Q → t σ H Q) : PT X e t' := ⟨fun pins s σ H Q I q => h.run pins s σ H Q I (i σ H Q q)⟩
theorem PA.imp {es : List Expr} {t t' : TA} (h : PA X es t) (i : ∀ σ H Q, t' σ H Q → t σ H Q) : PA X es t' := ⟨fun pos pins s σ H Q I q => h.run pos pins s σ H Q I (i σ H Q q)⟩
theorem PK.imp {es : List Keyword} {t t' : TA} (h : PK X es t) (i : ∀ σ H Q, t' σ H Q → t σ H Q) : PK X es t' := ⟨fun pos pins s σ H Q I q => h.run pos pins s σ H Q I (i σ H Q q)⟩
theorem PI.imp {tg : Expr} {t t' : TI} (h : PI X tg e t) (i : ∀ σ H Q, t' σ H Q → t σ H Q) : PI X tg e t' := ⟨fun pins s σ H Q I q => h.run pins s σ H Q I (i σ H Q q)⟩
end
def rdT (K : PySem.W.Frag) (cf : CF) (x : Ex) : TT := fun σ H Q => rdE K cf x σ H fun V H1 => ∃ k, V = .bl k ∧ Q k H1

/-! ### forms of expressions -/
def fineE : Expr → Bool
  | .Starred .. => false
  | .Slice .. => false
  | .Set .. => false
  | .SetComp .. => false
  | .DictComp .. => false
  | _ => true
theorem star_cons {e : Expr} (h : fineE e = true) (es : List Expr) (env : Env) : starEach (e :: es) env = (false, eval e env) :: starEach es env := by
  cases e <;> first | rfl | cases h
theorem stars_any {env : Env} {pos : Pos} : ∀ {es : List Expr}, (∀ e ∈ es, fineE e = true) → (backTo pos (starEach es env)).any (·.1) = false
  | [], _ => rfl
  | e :: es, h => by
    rw [star_cons (h e (List.mem_cons_self ..))]
    show (false || (backTo pos (starEach es env)).any (·.1)) = false
    rw [Bool.false_or]
    exact stars_any fun x hx => h x (List.mem_cons_of_mem _ hx)
theorem stars_all {env : Env} {pos : Pos} : ∀ {es : List Expr}, (∀ e ∈ es, fineE e = true) → (backTo pos (starEach es env)).all (fun x => !x.1) = true
  | [], _ => rfl
  | e :: es, h => by
    rw [star_cons (h e (List.mem_cons_self ..))]
    show (true && (backTo pos (starEach es env)).all (fun x => !x.1)) = true
    rw [Bool.true_and]
    exact stars_all fun x hx => h x (List.mem_cons_of_mem _ hx)
theorem stars_len {env : Env} : ∀ {es : List Expr}, (∀ e ∈ es, fineE e = true) → (starEach es env).length = es.length
  | [], _ => rfl
  | e :: es, h => by
    rw [star_cons (h e (List.mem_cons_self ..)), List.length_cons, List.length_cons, stars_len fun x hx => h x (List.mem_cons_of_mem _ hx)]
theorem kws_names {env : Env} {pos : Pos} : ∀ {ks : List Keyword}, (backToKw pos (keywordEach ks env)).filterMap (·.1) = ks.filterMap (·.arg)
  | [] => rfl
  | ⟨n, v, p⟩ :: ks => by
    have ih := kws_names (env := env) (pos := pos) (ks := ks)
    cases n with
    | none => exact ih
    | some x => exact congrArg (x :: ·) ih
theorem kws_some {env : Env} {pos : Pos} : ∀ {ks : List Keyword}, ks.all (·.arg.isSome) = true → (backToKw pos (keywordEach ks env)).all (·.1.isSome) = true ∧ (backToKw pos (keywordEach ks env)).any (·.1.isNone) = false
  | [], _ => ⟨rfl, rfl⟩
  | ⟨n, v, p⟩ :: ks, h => by
    simp only [List.all_cons, Bool.and_eq_true] at h
    obtain ⟨h1, h2⟩ := kws_some (env := env) (pos := pos) h.2
    cases n with
    | none => cases h.1
    | some x => exact ⟨h1, h2⟩
end Co

set_option Elab.async false
set_option linter.all false
set_option maxRecDepth 100000
set_option maxHeartbeats 8000000
/-! Co7: what is walked; comprehensions. -/
namespace Co
open PySem PySem.Spec L2

theorem Keep.trans {m m1 m2 : M} (a : Keep m m1) (b : Keep m1 m2) : Keep m m2 :=
  ⟨fun i x h => b.rho i x (a.rho i x h), fun x o h hn => let ⟨h1, h2⟩ := a.keep x o h hn; b.keep x o h1 h2, fun x o h hs => b.kinds x o (a.kinds x o h hs) hs⟩
theorem Keep.refl (m : M) : Keep m m := ⟨fun _ _ h => h, fun _ _ h hn => ⟨h, hn⟩, fun _ _ h _ => h⟩

/-- an iterator gives these values, whatever becomes of the memory -/
def ItOk (K : PySem.W.Frag) (m : M) (xs : List Val) (J : L2.It) : Prop := ∀ (m' : M), RelS K m' → Keep m m' → ∀ i : Nat,
  (i < xs.length → J.go i m'.H) ∧ (xs.length ≤ i → J.stop i m'.H) ∧
  ∀ (x : V) (H' : Hp), J.yld i m'.H x H' → ∀ v, xs[i]? = some v → ∃ m'' : M, m''.H = H' ∧ m''.st = m'.st ∧ Ext m' m'' ∧ RelS K m'' ∧ RepV K m'' v x
def PostI (K : PySem.W.Frag) (m : M) (r : R (List Val)) (Q : L2.It → Hp → Prop) : Prop :=
  match r with
  | .ok xs st' => ∀ (m' : M) (J : L2.It), m'.st = st' → Ext m m' → RelS K m' → ItOk K m' xs J → Q J m'.H
  | _ => False
def rdI (K : PySem.W.Frag) (cf : CF) (x : Ic) : TI := fun σ H R => ∃ (m : M) (env : Ev), m.H = H ∧ RelS K m ∧ RelEnv K m env σ ∧ PostI K m (evalI cf x env m.st) R
section
variable {K : PySem.W.Frag} {m m' : M} {cf : CF} {env : Ev} {σ : L2.St}
theorem PostI.ext {r : R (List Val)} {Q : L2.It → Hp → Prop} (h : PostI K m r Q) (e : Ext m m') : PostI K m' r Q := by
  cases r with
  | ok v st' => exact fun m2 x h1 h2 h3 h4 => h m2 x h1 (e.trans h2) h3 h4
  | _ => exact h
theorem rdi_bind {a : Ex} {f : Val → Store → R (List Val)} {Q : L2.It → Hp → Prop} {G : V → Hp → Prop} (h : PostI K m ((evalE cf a env m.st).bind f) Q) (r : RelS K m) (re : RelEnv K m env σ)
    (k : ∀ (m1 : M) (v : Val) (x : V), Ext m m1 → RelS K m1 → RelEnv K m1 env σ → RepV K m1 v x → PostI K m1 (f v m1.st) Q → G x m1.H) : rdE K cf a σ m.H G := by
  refine ⟨m, env, rfl, r, re, ?_⟩
  cases e : evalE cf a env m.st with
  | ok v st1 =>
    rw [e] at h
    intro m1 x h1 h2 h3 h4
    subst h1
    exact k m1 v x h2 h3 (re.mono h2) h4 (PostI.ext h h2)
  | exc c xs st => rw [e] at h; exact h.elim
  | stuck => rw [e] at h; exact h.elim
theorem rdss_bind {a : Exs} {f : List Val → Store → R (List Val)} {Q : List V → Hp → Prop} {G : List V → Hp → Prop} (h : PostVs K m ((evalEs cf a env m.st).bind f) Q) (r : RelS K m) (re : RelEnv K m env σ)
    (k : ∀ (m1 : M) (v : List Val) (x : List V), Ext m m1 → RelS K m1 → RelEnv K m1 env σ → RepVs K m1 v x → PostVs K m1 (f v m1.st) Q → G x m1.H) : rdEs K cf a σ m.H G := by
  refine ⟨m, env, rfl, r, re, ?_⟩
  cases e : evalEs cf a env m.st with
  | ok v st1 =>
    rw [e] at h
    intro m1 x h1 h2 h3 h4
    subst h1
    exact k m1 v x h2 h3 (re.mono h2) h4 (PostVs.ext h h2)
  | exc c xs st => rw [e] at h; exact h.elim
  | stuck => rw [e] at h; exact h.elim
theorem rds_bind1 {a : Ex} {f : Val → Store → R (List Val)} {Q : List V → Hp → Prop} {G : V → Hp → Prop} (h : PostVs K m ((evalE cf a env m.st).bind f) Q) (r : RelS K m) (re : RelEnv K m env σ)
    (k : ∀ (m1 : M) (v : Val) (x : V), Ext m m1 → RelS K m1 → RelEnv K m1 env σ → RepV K m1 v x → PostVs K m1 (f v m1.st) Q → G x m1.H) : rdE K cf a σ m.H G := by
  refine ⟨m, env, rfl, r, re, ?_⟩
  cases e : evalE cf a env m.st with
  | ok v st1 =>
    rw [e] at h
    intro m1 x h1 h2 h3 h4
    subst h1
    exact k m1 v x h2 h3 (re.mono h2) h4 (PostVs.ext h h2)
  | exc c xs st => rw [e] at h; exact h.elim
  | stuck => rw [e] at h; exact h.elim

/-- a list that stands still -/
theorem itl_ok {a : Addr} {ws : List V} {xs : List Val} (h : m.H a = some (.lst ws)) (hl : ¬ m.Live a) (hs : RepVs K m xs ws) : ItOk K m xs (Itl K a) := by
  intro m' r' kp i
  have h1 : m'.H a = some (.lst ws) := (kp.keep a _ h hl).1
  have q : SqL K m'.H a ws := .inl (.inl h1)
  have hs' := hs.kept kp
  have hln := hs.length
  refine ⟨fun hi => ?_, fun hi => ⟨ws, q, by omega⟩, fun x H' y v hv => ?_⟩
  · exact ⟨ws, ws[i]'(by omega), q, by simp⟩
  · obtain ⟨rfl, y⟩ := y
    obtain ⟨z, e1, e2⟩ := hs'.get hv
    have := y ws q
    rw [e1] at this
    cases this
    exact ⟨m', rfl, rfl, Ext.refl m', r', e2⟩
theorem itt_ok {a : Addr} {ws : List V} {xs : List Val} (h : SqT K m.H a ws) (hs : RepVs K m xs ws) : ItOk K m xs (Itt K a) := by
  intro m' r' kp i
  have q : SqT K m'.H a ws := by
    rcases h with (h | ⟨o, h⟩) | h
    · exact .inl (.inl (kp.kinds _ _ h trivial))
    · exact .inl (.inr ⟨o, kp.kinds _ _ h trivial⟩)
    · exact .inr h
  have hs' := hs.kept kp
  have hln := hs.length
  refine ⟨fun hi => ?_, fun hi => ⟨ws, q, by omega⟩, fun x H' y v hv => ?_⟩
  · exact ⟨ws, ws[i]'(by omega), q, by simp⟩
  · obtain ⟨rfl, y⟩ := y
    obtain ⟨z, e1, e2⟩ := hs'.get hv
    have := y ws q
    rw [e1] at this
    cases this
    exact ⟨m', rfl, rfl, Ext.refl m', r', e2⟩
theorem itr_ok {lo : Int} {n : Nat} : ItOk K m (rngV lo n) (Itr lo n) := by
  intro m' r' kp i
  have hln : (rngV lo n).length = n := by simp [rngV]
  refine ⟨fun hi => by rw [hln] at hi; exact hi, fun hi => by rw [hln] at hi; exact hi, fun x H' y v hv => ?_⟩
  obtain ⟨rfl, rfl⟩ := y
  refine ⟨m', rfl, rfl, Ext.refl m', r', ?_⟩
  have hi : i < n := by
    have := (List.getElem?_eq_some_iff.mp hv).1
    rw [hln] at this; exact this
  have e : v = .int (lo + (i : Int)) := by
    unfold rngV at hv
    rw [List.getElem?_map, List.getElem?_range hi] at hv
    cases hv; rfl
  subst e
  exact .int _
theorem enumV_len : ∀ (n : Nat) (xs : List Val), (enumV n xs).length = xs.length
  | _, [] => rfl
  | n, x :: xs => by simp [enumV, enumV_len (n + 1) xs]
theorem enumV_get : ∀ (n : Nat) (xs : List Val) (i : Nat) (v : Val), (enumV n xs)[i]? = some v → ∃ x, xs[i]? = some x ∧ v = .tup [.int ((n + i : Nat) : Int), x]
  | _, [], _, _, h => by simp [enumV] at h
  | n, x :: xs, 0, v, h => by
    simp [enumV] at h
    exact ⟨x, rfl, h.symm⟩
  | n, x :: xs, i + 1, v, h => by
    have h' : (enumV (n + 1) xs)[i]? = some v := by simpa [enumV] using h
    obtain ⟨y, h1, h2⟩ := enumV_get (n + 1) xs i v h'
    refine ⟨y, by simpa using h1, ?_⟩
    rw [h2]
    have : n + 1 + i = n + (i + 1) := by omega
    rw [this]
theorem enum_yield (r : RelS K m) {T : Addr} {i : Nat} {v x : Val} {y : V} (hT : m.H T = none) (hx : RepV K m x y) : ∃ m'' : M, m''.H = upd m.H T (.tup [.int (i : Nat), y]) ∧ m''.st = m.st ∧ Ext m m'' ∧ RelS K m'' ∧ RepV K m'' (.tup [.int (i : Nat), x]) (.ref T) := by
  have e := Ext.new r hT (.tup [.int (i : Nat), y])
  exact ⟨{ m with H := upd m.H T (.tup [.int (i : Nat), y]) }, rfl, rfl, e, r.new hT _, .tup (.inl (.inl upd_same)) (.cons (.int _) (.cons (hx.mono e) .nil))⟩
theorem ite_ok {a : Addr} {ws : List V} {xs : List Val} (h : m.H a = some (.lst ws)) (hl : ¬ m.Live a) (hs : RepVs K m xs ws) : ItOk K m (enumV 0 xs) (Ite K a) := by
  intro m' r' kp i
  have h1 : m'.H a = some (.lst ws) := (kp.keep a _ h hl).1
  have q : SqL K m'.H a ws := .inl (.inl h1)
  have hs' := hs.kept kp
  have hln := hs.length
  have hen := enumV_len 0 xs
  refine ⟨fun hi => ?_, fun hi => ⟨ws, q, by omega⟩, fun x H' y v hv => ?_⟩
  · exact ⟨ws, ws[i]'(by omega), q, by simp⟩
  · obtain ⟨T, z, rfl, hT, rfl, y⟩ := y
    obtain ⟨x0, e1, e2⟩ := enumV_get 0 xs i v hv
    obtain ⟨z', e3, e4⟩ := hs'.get e1
    have := y ws q
    rw [e3] at this
    cases this
    rw [e2, Nat.zero_add]
    exact enum_yield (v := x0) r' hT e4
theorem itE_ok {a : Addr} {ws : List V} {xs : List Val} (h : SqT K m.H a ws) (hs : RepVs K m xs ws) : ItOk K m (enumV 0 xs) (ItE K a) := by
  intro m' r' kp i
  have q : SqT K m'.H a ws := by
    rcases h with (h | ⟨o, h⟩) | h
    · exact .inl (.inl (kp.kinds _ _ h trivial))
    · exact .inl (.inr ⟨o, kp.kinds _ _ h trivial⟩)
    · exact .inr h
  have hs' := hs.kept kp
  have hln := hs.length
  have hen := enumV_len 0 xs
  refine ⟨fun hi => ?_, fun hi => ⟨ws, q, by omega⟩, fun x H' y v hv => ?_⟩
  · exact ⟨ws, ws[i]'(by omega), q, by simp⟩
  · obtain ⟨T, z, rfl, hT, rfl, y⟩ := y
    obtain ⟨x0, e1, e2⟩ := enumV_get 0 xs i v hv
    obtain ⟨z', e3, e4⟩ := hs'.get e1
    have := y ws q
    rw [e3] at this
    cases this
    rw [e2, Nat.zero_add]
    exact enum_yield (v := x0) r' hT e4
end

/-! ### targets -/
def gSet (is : List Nat) (n : Nat) : TGs := fun vs σ H Q => vs.length = n ∧ Q ((is.zip vs).foldl (fun s p => s.set p.1 (some p.2)) σ) H
/-- what a target stores -/
def rdT' (K : PySem.W.Frag) (t : Tg) : TG := fun x σ H Q => ∃ (m : M) (env env' : Ev) (v : Val), m.H = H ∧ RelS K m ∧ RelEnv K m env σ ∧ RepV K m v x ∧ bindT t v env = some env' ∧ ∀ σ', RelEnv K m env' σ' → (∃ vs : List V, σ' = ((tgs t).zip vs).foldl (fun s p => s.set p.1 (some p.2)) σ) → Q σ' H
section
variable {X : Cx} {N : List Str}
theorem PG.imp {e : Expr} {t t' : TG} (h : PG X e t) (i : ∀ x σ H Q, t' x σ H Q → t x σ H Q) : PG X e t' := ⟨fun pins s σ H v u Q I r q => h.run pins s σ H v u Q I r (i v σ H Q q)⟩
theorem PGs.imp {e : List Expr} {t t' : TGs} (h : PGs X e t) (i : ∀ x σ H Q, t' x σ H Q → t x σ H Q) : PGs X e t' := ⟨fun pins s σ H v u Q I r q => h.run pins s σ H v u Q I r (i v σ H Q q)⟩
theorem assignEach_cons {e : Expr} (h : fineE e = true) (es : List Expr) (env : PySem.Env) : assignEach (e :: es) env = (false, assign e env) :: assignEach es env := by
  cases e <;> first | rfl | cases h
def gList : List Nat → TGs
  | [] => gNil
  | i :: is => gCons (gName i) (gList is)
theorem gList_of : ∀ (is : List Nat) (vs : List V) (σ : L2.St) (H : Hp) (Q : L2.St → Hp → Prop), vs.length = is.length → Q ((is.zip vs).foldl (fun s p => s.set p.1 (some p.2)) σ) H → gList is vs σ H Q
  | [], vs, σ, H, Q, hl, h => ⟨List.eq_nil_of_length_eq_zero hl, h⟩
  | i :: is, [], σ, H, Q, hl, h => by simp at hl
  | i :: is, v :: vs, σ, H, Q, hl, h => ⟨v, vs, rfl, gList_of is vs _ H Q (by simpa using hl) h⟩
/-- the names of a target can be stored -/
def CanSet (X : Cx) (sc : Scope) : Prop := ∀ x, isOwn sc x = true → Loc X.env.scope x ∧ (X.fn x = true ∨ X.env.scope.names.lookup x = some .local)
theorem pgs_names {sc : Scope} (hN : X.N = N) (nd : N.Nodup) (cs : CanSet X sc) : ∀ (is : List Nat) (es : List Expr), chkT.chkTs N sc is es = true → PGs X es (gList is) ∧ (∀ e ∈ es, fineE e = true) ∧ es.length = is.length
  | [], [], _ => ⟨pgs_nil, (fun _ h => nomatch h), rfl⟩
  | i :: is, e :: es, h => by
    cases e with
    | Name x p =>
      simp only [chkT.chkTs, Bool.and_eq_true, decide_eq_true_eq] at h
      obtain ⟨⟨h1, h2⟩, h3⟩ := h
      obtain ⟨q1, q2, q3⟩ := pgs_names hN nd cs is es h3
      obtain ⟨c1, c2⟩ := cs x h2
      refine ⟨pgs_cons (pg_name (by rw [hN]; exact nd) (by rw [hN]; exact h1) c1 c2) q1 rfl, fun e he => ?_, by simp [q3]⟩
      rcases List.mem_cons.mp he with rfl | he
      · rfl
      · exact q2 e he
    | _ => simp [chkT.chkTs] at h
  | [], e :: es, h => by simp [chkT.chkTs] at h
  | i :: is, [], h => by simp [chkT.chkTs] at h
theorem setAll_len : ∀ (is : List Nat) (vs : List Val) (env env' : Ev), setAll is vs env = some env' → vs.length = is.length
  | [], [], _, _, _ => rfl
  | i :: is, v :: vs, env, env', h => by simp [setAll_len is vs _ env' (by simpa [setAll] using h)]
  | [], _ :: _, _, _, h => by simp [setAll] at h
  | _ :: _, [], _, _, h => by simp [setAll] at h
theorem unstar {env : PySem.Env} : ∀ {es : List Expr}, (∀ e ∈ es, fineE e = true) → (assignEach es env).findIdx? (·.1) = none ∧ (assignEach es env).length = es.length
  | [], _ => ⟨rfl, rfl⟩
  | e :: es, h => by
    obtain ⟨h1, h2⟩ := unstar (env := env) (es := es) fun x hx => h x (List.mem_cons_of_mem _ hx)
    rw [assignEach_cons (h e (List.mem_cons_self ..))]
    refine ⟨?_, by simp [h2]⟩
    rw [List.findIdx?_cons]
    simp [h1]
theorem PG.or {e : Expr} {t t' : TG} (h : PG X e t) (h' : PG X e t') : PG X e (fun x σ H Q => t x σ H Q ∨ t' x σ H Q) := ⟨fun pins s σ H v u Q I r q => q.elim (h.run pins s σ H v u Q I r) (h'.run pins s σ H v u Q I r)⟩
/-- a tuple or a list of that length is unpacked -/
theorem pg_ok {sc : Scope} (hN : X.N = N) (nd : N.Nodup) (hc : X.calm = true) (cs : CanSet X sc) (t : Tg) (e : Expr) (h : chkT N sc t e = true) : PG X e (rdT' X.K t) := by
  cases t with
  | nm i =>
    cases e with
    | Name x p =>
      simp only [chkT, Bool.and_eq_true, decide_eq_true_eq] at h
      obtain ⟨c1, c2⟩ := cs x h.2
      refine PG.imp (pg_name (by rw [hN]; exact nd) (by rw [hN]; exact h.1) c1 c2) fun y σ H Q q => ?_
      obtain ⟨m, env, env', v, e1, r, re, rv, eb, k⟩ := q
      simp only [bindT, Option.some.injEq] at eb
      subst eb
      exact k _ (re.set i rv) ⟨[y], rfl⟩
    | _ => simp [chkT] at h
  | tp is =>
    cases e with
    | Tuple es kk p =>
      have h' : chkT.chkTs N sc is es = true := by simpa only [chkT] using h
      obtain ⟨q1, q2, q3⟩ := pgs_names hN nd cs is es h'
      obtain ⟨u1, u2⟩ := unstar (env := X.env) q2
      refine PG.imp (PG.or (pg_tup (n := is.length) hc q1 (by rw [u2, q3]) u1) (pg_unl (n := is.length) hc q1 (by rw [u2, q3]) u1)) fun y σ H Q q => ?_
      obtain ⟨m, env, env', v, e1, r, re, rv, eb, k⟩ := q
      subst e1
      cases rv with
      | tup h1 h2 =>
        simp only [bindT] at eb
        have hlen := setAll_len _ _ _ _ eb
        exact .inl ⟨_, _, rfl, h1, by rw [h2.length, hlen], gList_of _ _ _ _ _ (by rw [h2.length, hlen]) (k _ (RelEnv.setAll is _ _ env σ env' re h2 eb) ⟨_, rfl⟩)⟩
      | lst h1 h3 h2 =>
        simp only [bindT] at eb
        have hlen := setAll_len _ _ _ _ eb
        exact .inr ⟨_, _, rfl, .inl (.inl h1), by rw [h2.length, hlen], gList_of _ _ _ _ _ (by rw [h2.length, hlen]) (k _ (RelEnv.setAll is _ _ env σ env' re h2 eb) ⟨_, rfl⟩)⟩
      | _ => simp [bindT] at eb
    | _ => simp [chkT] at h
end
/-! ### comprehensions -/
theorem R.bind_assoc {α β γ : Type} (r : R α) (f : α → Store → R β) (g : β → Store → R γ) : (r.bind f).bind g = r.bind fun a st => (f a st).bind g := by cases r <;> rfl
section
variable {K : PySem.W.Frag} {m : M} {cf : CF} {env : Ev} {σ : L2.St}
/-- an expression's reading, with any end -/
theorem rd_any {β : Type} {a : Ex} {f : Val → Store → R β} {G : V → Hp → Prop} (P : R β → Prop) (h0 : ¬ P .stuck) (h1 : ∀ c xs st, ¬ P (.exc c xs st)) (h : P ((evalE cf a env m.st).bind f)) (r : RelS K m) (re : RelEnv K m env σ)
    (k : ∀ (m1 : M) (v : Val) (x : V), Ext m m1 → RelS K m1 → RelEnv K m1 env σ → RepV K m1 v x → P (f v m1.st) → G x m1.H) : rdE K cf a σ m.H G := by
  refine ⟨m, env, rfl, r, re, ?_⟩
  cases e : evalE cf a env m.st with
  | ok v st1 =>
    rw [e] at h
    intro m1 x h1 h2 h3 h4
    subst h1
    exact k m1 v x h2 h3 (re.mono h2) h4 h
  | exc c xs st => rw [e] at h; exact h1 _ _ _ h
  | stuck => rw [e] at h; exact h0 h
theorem wipe_set {i : Nat} {x : Option V} : ∀ {vs : List Nat} {σ : L2.St}, i ∈ vs → L2.wipe (σ.set i x) vs = L2.wipe σ vs
  | [], _, h => nomatch h
  | v :: vs, σ, h => by
    show (L2.wipe (σ.set i x) vs).set v none = (L2.wipe σ vs).set v none
    by_cases hv : i ∈ vs
    · rw [wipe_set hv]
    · have e : i = v := (List.mem_cons.mp h).resolve_right hv
      subst e
      have : L2.wipe (σ.set i x) vs = (L2.wipe σ vs).set i x := by
        clear h
        induction vs with
        | nil => rfl
        | cons u vs ih =>
          have h1 : i ∉ vs := fun z => hv (List.mem_cons_of_mem _ z)
          have h2 : i ≠ u := fun z => hv (z ▸ List.mem_cons_self ..)
          show (L2.wipe (σ.set i x) vs).set u none = ((L2.wipe σ vs).set u none).set i x
          rw [ih h1, List.set_comm _ _ h2]
      rw [this, List.set_set]
theorem wipe_sets : ∀ (is : List Nat) (xs : List V) {vs : List Nat} {σ : L2.St}, (∀ i ∈ is, i ∈ vs) → L2.wipe ((is.zip xs).foldl (fun s p => s.set p.1 (some p.2)) σ) vs = L2.wipe σ vs
  | [], _, _, _, _ => rfl
  | _ :: _, [], _, _, _ => rfl
  | i :: is, x :: xs, vs, σ, h => by
    show L2.wipe ((is.zip xs).foldl (fun s p => s.set p.1 (some p.2)) (σ.set i (some x))) vs = _
    rw [wipe_sets is xs fun j hj => h j (List.mem_cons_of_mem _ hj), wipe_set (h i (List.mem_cons_self ..))]
theorem wipe_at {i : Nat} : ∀ {vs : List Nat} {σ : L2.St}, i ∈ vs → (L2.wipe σ vs)[i]? = some none ∨ (L2.wipe σ vs).length ≤ i
  | [], _, h => nomatch h
  | v :: vs, σ, h => by
    show ((L2.wipe σ vs).set v none)[i]? = some none ∨ ((L2.wipe σ vs).set v none).length ≤ i
    by_cases hi : i < (L2.wipe σ vs).length
    · by_cases e : v = i
      · subst e; exact .inl (List.getElem?_set_self hi)
      · rw [List.getElem?_set_ne e]
        have := wipe_at (σ := σ) ((List.mem_cons.mp h).resolve_left fun z => e z.symm)
        rcases this with z | z
        · exact .inl z
        · omega
    · right; rw [List.length_set]; omega
theorem wipe_wipe (σ : L2.St) : ∀ vs ws : List Nat, (∀ i ∈ vs, i ∈ ws) → L2.wipe (L2.wipe σ ws) vs = L2.wipe σ ws
  | [], _, _ => rfl
  | v :: vs, ws, h => by
    show (L2.wipe (L2.wipe σ ws) vs).set v none = L2.wipe σ ws
    rw [wipe_wipe σ vs ws fun i hi => h i (List.mem_cons_of_mem _ hi)]
    rcases wipe_at (σ := σ) (h v (List.mem_cons_self ..)) with z | z
    · obtain ⟨hl, e⟩ := List.getElem?_eq_some_iff.mp z
      rw [← e, List.set_getElem_self]
    · exact List.set_eq_of_length_le z
end
section
variable {X : Cx} {cf : CF}
/-- a comprehension's turn -/
def turnF (cf : CF) (elt : Ex) (tg : Tg) (cnd : Ex) (env : Ev) (own : List Nat) : Val → Store → R (Option Val) := fun x st2 => match bindT tg x (wipe env own) with
      | some env2 => (evalE cf cnd env2 st2).bind fun b st3 => (match tru b with
        | some true => (evalE cf elt env2 st3).bind fun v st4 => .ok (some v) st4
        | some false => .ok none st3
        | none => .stuck)
      | none => .stuck
theorem compL_cons {β : Type} (f : Val → Store → R (Option Val)) (x : Val) (xs : List Val) (st : Store) (g : List Val → Store → R β) :
    (compL f (x :: xs) st).bind g = (f x st).bind fun o st1 => (compL f xs st1).bind fun r st2 => g (match o with | some v => v :: r | none => r) st2 := by
  simp only [compL, R.bind_assoc]
  rfl
theorem tru_rep {K : PySem.W.Frag} {m : M} {v : Val} {x : V} {b : Bool} (h : RepV K m v x) (e : tru v = some b) : x = .bl b := by
  cases h <;> simp only [tru, reduceCtorEq, Option.some.injEq] at e
  subst e; rfl
theorem lc_ok {K : PySem.W.Frag} {lv : Bool} {elt cnd : Ex} {tg : Tg} {it : Ic} {own : List Nat} (ht : ∀ i ∈ tgs tg, i ∈ own) {σ : L2.St} {H : Hp} {Q : VK} (h : rdE K cf (.lc lv elt tg it cnd own) σ H Q) :
    tLc (rdI K cf it) (rdT' K tg) (rdT K cf cnd) (rdE K cf elt) own σ H Q := by
  obtain ⟨m, env, rfl, r, re, h⟩ := h
  refine ⟨m, env, rfl, r, re, ?_⟩
  simp only [evalE] at h
  cases ei : evalI cf it env m.st with
  | exc c xs st => rw [ei] at h; exact h.elim
  | stuck => rw [ei] at h; exact h.elim
  | ok xs st1 =>
    rw [ei] at h
    intro m1 J es e1 r1 hJ D hD
    subst es
    replace h := PostV.ext h e1
    rw [R.bind_ok] at h
    split at h
    · exact h.elim
    rename_i hlim
    have re1 := re.mono e1
    replace h : PostV K m1 ((compL (turnF cf elt tg cnd env own) xs m1.st).bind fun vs st5 => mkL lv vs st5) Q := h
    have lim := LIM_le
    have ns : ¬ HO.still (.lst []) := fun z => z
    -- the state between two turns
    let W : Nat → Hp → Prop := fun i H => i ≤ xs.length ∧ ∃ (mm : M) (av : List Val) (ac : List V), mm.H = H ∧ mm.hd = D :: m1.hd ∧ RelS K mm ∧ Keep m1 mm ∧ Ext m1 (mm.give m1.hd) ∧ mm.H D = some (.lst ac) ∧ RepVs K mm av ac ∧ ac.length ≤ i ∧
      PostV K m1 ((compL (turnF cf elt tg cnd env own) (xs.drop i) mm.st).bind fun vs st5 => mkL lv (av ++ vs) st5) Q
    refine ⟨fun i k H => k = xs.length - i ∧ W i H, ⟨xs.length, by simp, Nat.zero_le _, (m1.write D (.lst [])).give (D :: m1.hd), [], [], rfl, rfl, r1.held hD ns, Keep.held r1 hD _, ?_, upd_same, .nil, Nat.le_refl _, (by show PostV K m1 ((compL (turnF cf elt tg cnd env own) (xs.drop 0) m1.st).bind fun vs st5 => mkL lv ([] ++ vs) st5) Q; exact h)⟩, ?_⟩
    · exact Ext.new r1 hD (.lst [])
    rintro i k H ⟨rfl, hi, mm, av, ac, rfl, eh, rr, kp, ex, hDa, hav, hal, hp⟩
    obtain ⟨j1, j2, j3⟩ := hJ mm rr kp i
    have hs1 : ∀ b ∈ m1.hd, b ∈ mm.hd := fun b hb => by rw [eh]; exact List.mem_cons_of_mem _ hb
    have hs2 : D ∈ mm.hd := by rw [eh]; exact List.mem_cons_self ..
    have hs3 : D ∉ m1.hd := r1.freshH hD
    by_cases hlt : i < xs.length
    · refine .inr ⟨j1 hlt, W (i + 1), fun H' w => ⟨xs.length - (i + 1), by omega, rfl, w⟩, fun x H' hy => ?_⟩
      have hx : xs[i]? = some xs[i] := by simp [hlt]
      obtain ⟨m2, rfl, es2, ex2, r2, hv⟩ := j3 x H' hy _ hx
      have ed : xs.drop i = xs[i] :: xs.drop (i + 1) := List.drop_eq_getElem_cons hlt
      rw [ed, compL_cons] at hp
      generalize xs[i] = v0 at hp hv
      have kp2 : Keep m1 m2 := kp.trans ex2.kp
      have re2 : RelEnv K m2 (wipe env own) (L2.wipe σ own) := by
        have q : RelEnv K m2 env σ := ⟨re1.len, fun j u hj => let ⟨z, z1, z2⟩ := re1.at_ j u hj; ⟨z, z1, z2.kept kp2⟩⟩
        exact q.wipe2 own
      rw [← es2] at hp
      simp only [turnF] at hp
      cases eb : bindT tg v0 (wipe env own) with
      | none => rw [eb] at hp; exact hp.elim
      | some env2 =>
        rw [eb] at hp
        refine ⟨m2, wipe env own, env2, v0, rfl, r2, re2, hv, eb, fun σ2 re3 ⟨ws, eσ⟩ => ⟨?_, ?_⟩⟩
        · rw [eσ, wipe_sets _ _ ht, wipe_wipe _ _ _ fun i hi => hi]
        simp only [R.bind_assoc] at hp
        refine rd_any (P := fun r => PostV K m1 r Q) (fun z => z) (fun _ _ _ z => z) hp r2 re3 fun m3 b x3 ex3 r3 re4 hb hp3 => ?_
        -- what follows a turn
        have next : ∀ (m4 : M) (av' : List Val) (ac' : List V), Ext mm m4 → RelS K m4 → RepVs K m4 av' ac' → m4.H D = some (.lst ac') → ac'.length ≤ i + 1 →
            PostV K m1 ((compL (turnF cf elt tg cnd env own) (xs.drop (i + 1)) m4.st).bind fun vs st5 => mkL lv (av' ++ vs) st5) Q → W (i + 1) m4.H := fun m4 av' ac' e4 r4 ha hd4 hl4 hp4 =>
          ⟨hlt, m4, av', ac', rfl, e4.hd.trans eh, r4, kp.trans e4.kp, ex.through eh hD e4, hd4, ha, hl4, hp4⟩
        cases etr : tru b with
        | none => rw [etr] at hp3; exact hp3.elim
        | some tb =>
          rw [etr] at hp3
          refine ⟨tb, tru_rep hb etr, ?_⟩
          have e03 : Ext mm m3 := ex2.trans ex3
          have hD3 : m3.H D = some (.lst ac) := (e03.hold D hs2).trans hDa
          cases tb with
          | false =>
            exact iteF (next m3 av ac e03 r3 (hav.mono e03) hD3 (by omega) hp3)
          | true =>
            refine iteT ?_
            simp only [R.bind_assoc] at hp3
            refine rd_any (P := fun r => PostV K m1 r Q) (fun z => z) (fun _ _ _ z => z) hp3 r3 re4 fun m4 ve y ex4 r4 re5 hve hp4 => ?_
            have e04 : Ext mm m4 := e03.trans ex4
            have hD4 : m4.H D = some (.lst ac) := (e04.hold D hs2).trans hDa
            have hs4 : D ∈ m4.hd := by rw [e04.hd]; exact hs2
            refine ⟨ac, hD4, by omega, ?_⟩
            have kw := Keep.write r4 hs4 (.lst (ac ++ [y]))
            refine ⟨hlt, m4.write D (.lst (ac ++ [y])), av ++ [ve], ac ++ [y], rfl, e04.hd.trans eh, r4.write hs4 (fun z => z), (kp.trans e04.kp).trans kw, Ext.wrote r1 (ex.through eh hD e04) hD _, upd_same,
              ((hav.mono e04).kept kw).append (.cons (hve.kept kw) .nil), by simp; omega, ?_⟩
            show PostV K m1 ((compL (turnF cf elt tg cnd env own) (xs.drop (i + 1)) m4.st).bind fun vs st5 => mkL lv ((av ++ [ve]) ++ vs) st5) Q
            simpa [List.append_assoc] using hp4
    · have hz : i = xs.length := by omega
      refine .inl ⟨j2 (by omega), ?_⟩
      rw [hz, List.drop_length] at hp
      simp only [compL, R.bind_ok, List.append_nil] at hp
      cases lv with
      | false =>
        refine hp (mm.give m1.hd) (.ref D) rfl ex (rr.give hs1) (.lst hDa (fun l => ?_) (hav.kept (Keep.give hs1)))
        rcases l with l | ⟨j, c, q1, _, _⟩
        · exact hs3 l
        · exact (rr.hd D hs2).2 (List.mem_of_getElem? q1)
      | true =>
        have ka := Keep.adopt rr (.lst av) hs2 hs1
        refine hp (mm.adopt D (.lst av) m1.hd) (.ref D) rfl (Ext.adopted rr ex eh hD _) (rr.adopt hs2 hs1 hs3 (.lst hDa (hav.kept ka))) (.ref ?_)
        show (mm.ρ ++ [D])[mm.st.length]? = some D
        rw [← rr.len, List.getElem?_append_right (Nat.le_refl _)]
        simp
end
end Co

set_option Elab.async false
set_option linter.all false
set_option maxRecDepth 100000
set_option maxHeartbeats 16000000
/-! Co8: a checked expression is what the small language says. -/
namespace Co
open PySem PySem.Spec L2

section
variable {G : GI} {N : List Str} {n : Nat} {cf : CF}
theorem chkE_fine' : ∀ (x : Ex) {sc : Scope} {e : Expr}, chkE G N x sc e = true → fineE e = true
  | .frz y, sc, e, h => chkE_fine' y (by simpa only [chkE] using h)
  | .var _, sc, e, h => by cases e <;> first | rfl | simp [chkE] at h
  | .cst _, sc, e, h => by cases e <;> first | rfl | simp [chkE] at h
  | .tup _, sc, e, h => by cases e <;> first | rfl | simp [chkE] at h
  | .lst _ _, sc, e, h => by cases e <;> first | rfl | simp [chkE] at h
  | .dct _ _ _, sc, e, h => by cases e <;> first | rfl | simp [chkE] at h
  | .bin _ _ _ _, sc, e, h => by cases e <;> first | rfl | simp [chkE] at h
  | .neg _, sc, e, h => by cases e <;> first | rfl | simp [chkE] at h
  | .not_ _, sc, e, h => by cases e <;> first | rfl | simp [chkE] at h
  | .cmp _ _ _, sc, e, h => by cases e <;> first | rfl | simp [chkE] at h
  | .chn _ _ _ _ _, sc, e, h => by cases e <;> first | rfl | simp [chkE] at h
  | .and_ _ _, sc, e, h => by cases e <;> first | rfl | simp [chkE] at h
  | .or_ _ _, sc, e, h => by cases e <;> first | rfl | simp [chkE] at h
  | .ite _ _ _, sc, e, h => by cases e <;> first | rfl | simp [chkE] at h
  | .call _ _ _ _, sc, e, h => by cases e <;> first | rfl | simp [chkE] at h
  | .bi _ _ _, sc, e, h => by cases e <;> first | rfl | simp [chkE] at h
  | .mth _ _ _ _, sc, e, h => by cases e <;> first | rfl | simp [chkE] at h
  | .idx _ _, sc, e, h => by cases e <;> first | rfl | simp [chkE] at h
  | .slc _ _ _ _, sc, e, h => by cases e <;> first | rfl | simp [chkE] at h
  | .lc _ _ _ _ _ _, sc, e, h => by cases e <;> first | rfl | simp [chkE] at h
  | .sset _ _, sc, e, h => by cases e <;> first | rfl | simp [chkE] at h
  | .rgl _ _ _, sc, e, h => by cases e <;> first | rfl | simp [chkE] at h
theorem chkE_fine {x : Ex} {sc : Scope} {e : Expr} (h : chkE G N x sc e = true) : fineE e = true := chkE_fine' x h
theorem isGl_of {sc : Scope} {x : Str} {X : Cx} (hs : X.env.scope = sc) (h : isGl sc x = true) : Gl X x := by
  unfold isGl at h
  show X.env.scope.names.lookup x = some .globalImplicit
  rw [hs]
  split at h
  · assumption
  · cases h
theorem isVis_of {sc : Scope} {x : Str} {X : Cx} (hs : X.env.scope = sc) (h : isVis sc x = true) : Vis X.env.scope x := by
  unfold isVis at h
  rw [hs]
  split at h
  · exact .inl (by assumption)
  · exact .inr (.inl (by assumption))
  · exact .inr (.inr (by assumption))
  · cases h
theorem okN_of {x : Str} (h : okN x = true) : (x == ("__debug__" : Str)) = false ∧ (x == ("__classdict__" : Str)) = false ∧ x ≠ "__name__" := by
  simp only [okN, Bool.and_eq_true, Bool.not_eq_true'] at h
  refine ⟨h.1.1, h.1.2, fun e => ?_⟩
  have := h.2
  rw [e, beq_self_eq_true] at this
  cases this
theorem pt_plain {X : Cx} {e : Expr} {x : Ex} (h : PE X e (rdE X.K cf x)) (he : ∀ whole, isTrue e X.env whole = (do let v ← whole; standAt e.pos; holding [v] (truthy v)) := by intro _; rfl) : PT X e (rdT X.K cf x) := pt_val h he
theorem bopEq_of {a : Bop} {b : Operator} (h : bopEq a b = true) : b = opOf a := by cases a <;> cases b <;> first | rfl | cases h
theorem copEq_of {a : Cop} {b : CmpOp} (h : copEq a b = true) : b = copOf a := by cases a <;> cases b <;> first | rfl | cases h
theorem fine_noset {op : CmpOp} {e : Expr} (h : fineE e = true) : behindInMarks op e = false := by cases e <;> first | rfl | cases h
theorem fine_plainIx {e : Expr} (h : fineE e = true) : PlainIx e := by
  intro o i
  cases e <;> first | rfl | cases h
theorem fine_fold {e : Expr} (h : fineE e = true) (env : PySem.Env) : ∀ x, foldedSetIterable e env x = pure x := by
  intro x
  cases e <;> first | rfl | cases h
theorem last_two {o1 o2 : CmpOp} {b c : Expr} (h : fineE c = true) : lastMarks [o1, o2] [b, c] = false := by
  show behindInMarks o2 c = false
  exact fine_noset h
/-- a constant -/
theorem cst_ok {X : Cx} {c : Const} {v : Val} {k : Nat} {p : Pos} (h : cstEq c v = true) : PE X (.Constant c k p) (rdE X.K cf (.cst v)) := by
  have go : ∀ {x : V} {v : Val}, (∀ K m, RepV K m v x) → ∀ σ H Q, rdE X.K cf (.cst v) σ H Q → tC x σ H Q := fun {x v} rv σ H Q q => by
    obtain ⟨m, env, rfl, r, re, h⟩ := q
    exact PostV.ok h r (rv _ _)
  cases c <;> cases v <;> first | (cases h; done) | skip
  · exact PE.imp pe_non (go fun _ _ => .non)
  · have e : _ = _ := beq_iff_eq.mp h
    subst e
    exact PE.imp pe_bl (go fun _ _ => .bl _)
  · have e : _ = _ := beq_iff_eq.mp h
    subst e
    exact PE.imp pe_int (go fun _ _ => .int _)
  · have e : _ = _ := eq_of_beq h
    subst e
    exact PE.imp pe_str (go fun _ _ => .str _)
theorem valEq_of {v w : Val} (h : valEq v w = true) : v = w := by
  cases v <;> cases w <;> first
    | (cases h; done)
    | rfl
    | (have e : _ = _ := eq_of_beq h
       subst e; rfl)

theorem pick_rep {K : PySem.W.Frag} {m : M} {vs : List Val} {xs : List V} (h : RepVs K m vs xs) : ∀ {pm : List Nat} {us : List Val}, pm.mapM (fun i => vs[i]?) = some us → ∃ ys, pm.mapM (fun i => xs[i]?) = some ys ∧ RepVs K m us ys ∧ ys.length = pm.length
  | [], us, e => by
    simp at e; subst e
    exact ⟨[], by simp, .nil, rfl⟩
  | i :: pm, us, e => by
    rw [List.mapM_cons] at e
    cases e1 : vs[i]? with
    | none => rw [e1] at e; simp at e
    | some v =>
      cases e2 : pm.mapM (fun i => vs[i]?) with
      | none => rw [e1, e2] at e; simp at e
      | some ws =>
        rw [e1, e2] at e
        simp at e
        subst e
        obtain ⟨y, h1, h2⟩ := h.get e1
        obtain ⟨ys, h3, h4, h5⟩ := pick_rep h e2
        exact ⟨y :: ys, by rw [List.mapM_cons, h1, h3]; rfl, .cons h2 h4, by simp [h5]⟩
theorem pick_vals {xs : List V} {us : List Value} (h : Vals xs us) : ∀ {pm : List Nat} {ys : List V}, pm.mapM (fun i => xs[i]?) = some ys → ∃ ws, pm.mapM (fun i => us[i]?) = some ws ∧ Vals ys ws
  | [], ys, e => by
    simp at e; subst e
    exact ⟨[], by simp, .nil⟩
  | i :: pm, ys, e => by
    rw [List.mapM_cons] at e
    cases e1 : xs[i]? with
    | none => rw [e1] at e; simp at e
    | some v =>
      cases e2 : pm.mapM (fun i => xs[i]?) with
      | none => rw [e1, e2] at e; simp at e
      | some ws =>
        rw [e1, e2] at e
        simp at e
        subst e
        obtain ⟨y, h1, h2⟩ := h.get e1
        obtain ⟨zs, h3, h4⟩ := pick_vals h e2
        exact ⟨y :: zs, by rw [List.mapM_cons, h1, h3]; rfl, .cons h2 h4⟩

def exsLen : Exs → Nat
  | .nil => 0
  | .cons _ r => exsLen r + 1
theorem evalEs_len : ∀ (es : Exs) {env : Ev} {st st' : Store} {vs : List Val}, evalEs cf es env st = .ok vs st' → vs.length = exsLen es
  | .nil, env, st, st', vs, h => by
    simp only [evalEs, R.ok.injEq] at h
    rw [← h.1]; rfl
  | .cons e es, env, st, st', vs, h => by
    simp only [evalEs] at h
    cases e1 : evalE cf e env st with
    | ok v st1 =>
      rw [e1, R.bind_ok] at h
      cases e2 : evalEs cf es env st1 with
      | ok ws st2 =>
        rw [e2, R.bind_ok] at h
        cases h
        show ws.length + 1 = exsLen es + 1
        rw [evalEs_len es e2]
      | exc c xs st => rw [e2] at h; cases h
      | stuck => rw [e2] at h; cases h
    | exc c xs st => rw [e1] at h; cases h
    | stuck => rw [e1] at h; cases h
theorem rds_any {K : PySem.W.Frag} {m : M} {env : Ev} {σ : L2.St} {β : Type} {a : Exs} {f : List Val → Store → R β} {G : List V → Hp → Prop} (P : R β → Prop) (h0 : ¬ P .stuck) (h1 : ∀ c xs st, ¬ P (.exc c xs st)) (h : P ((evalEs cf a env m.st).bind f)) (r : RelS K m) (re : RelEnv K m env σ)
    (k : ∀ (m1 : M) (v : List Val) (x : List V), Ext m m1 → RelS K m1 → RelEnv K m1 env σ → RepVs K m1 v x → v.length = exsLen a → P (f v m1.st) → G x m1.H) : rdEs K cf a σ m.H G := by
  refine ⟨m, env, rfl, r, re, ?_⟩
  cases e : evalEs cf a env m.st with
  | ok v st1 =>
    rw [e] at h
    intro m1 x h1 h2 h3 h4
    subst h1
    exact k m1 v x h2 h3 (re.mono h2) h4 (evalEs_len a e) h
  | exc c xs st => rw [e] at h; exact h1 _ _ _ h
  | stuck => rw [e] at h; exact h0 h
theorem PostV.stuckF {K : PySem.W.Frag} {m : M} {Q : VK} : ¬ PostV K m .stuck Q := fun z => z
/-- a call of a def of the text -/
theorem call_ok {X : Cx} {sc : Scope} {f : Nat} {pm : List Nat} {es ks : Exs} {x : Str} {p pos : Pos} {as : List Expr} {kws : List Keyword} (c : CtxOk G N n cf X sc) (hg : isGl sc x = true) (hn : okN x = true)
    (hf : (G.fn.any fun q => decide (q.1 = f) && decide (q.2.1 = x)) = true) (hk : kws.all (·.arg.isSome) = true)
    (hp : (G.kw.any fun q => decide (q.1 = f) && decide (q.2.1 = as.length) && decide (q.2.2.1 = kws.filterMap (·.arg)) && decide (q.2.2.2 = pm)) = true)
    (ha : PA X as (rdEs X.K cf es)) (hfa : ∀ e ∈ as, fineE e = true) (hkw : PK X kws (rdEs X.K cf ks)) (hle : exsLen es = as.length) (hlk : exsLen ks = kws.length) : PE X (.Call (.Name x p) as kws pos) (rdE X.K cf (.call f pm es ks)) := by
  obtain ⟨⟨f', x', ps⟩, q1, q2⟩ := List.any_eq_true.mp hf
  simp only [Bool.and_eq_true, decide_eq_true_eq] at q2
  obtain ⟨rfl, rfl⟩ := q2
  obtain ⟨⟨f2, np, ks', pm'⟩, w1, w2⟩ := List.any_eq_true.mp hp
  simp only [Bool.and_eq_true, decide_eq_true_eq] at w2
  obtain ⟨⟨⟨rfl, rfl⟩, rfl⟩, rfl⟩ := w2
  obtain ⟨a, fd, hm, hkp, F, hb⟩ := c.fn _ _ _ q1
  obtain ⟨hpl, hbind⟩ := hb _ _ _ w1
  obtain ⟨n1, n2, n3⟩ := okN_of hn
  have hgl := isGl_of c.eS hg
  have klen : kws.length = (kws.filterMap (·.arg)).length := by
    clear hkw hbind hb hpl w1 hp hlk
    induction kws with
    | nil => rfl
    | cons q qs ih =>
      simp only [List.all_cons, Bool.and_eq_true] at hk
      obtain ⟨o, ho⟩ := Option.isSome_iff_exists.mp hk.1
      rw [List.filterMap_cons_some ho, List.length_cons, List.length_cons, ih hk.2]
  refine ⟨fun pins s σ H Q I h => ?_⟩
  refine PySem.wpAny_Call_Name_kw (ld_glob I hgl hm ?_ n1)
  obtain ⟨k1, k2⟩ := kws_some (env := X.env) (pos := pos) hk
  -- the reading
  obtain ⟨m, env, rfl, r, re, h⟩ := h
  simp only [evalE] at h
  have fin : ∀ (us ws : List Value) (s2 : Shared) (vs zs : List V) (m2 : M) (vv wv : List Val), L2.Inv X pins σ m2.H s2 → Vals vs us → Vals zs ws → vv.length = exsLen es → wv.length = exsLen ks → RelS X.K m2 → RepVs X.K m2 vv vs → RepVs X.K m2 wv zs →
      PostV X.K m2 (match pick pm' (vv ++ wv) with | some us => cf f2 us m2.st | none => .stuck) Q → wpAny (model X.prog X.w) X.A (call (.ref a) us ((kws.filterMap (·.arg)).zip ws)) (EP X pins σ Q) X.xe s2 := by
    intro us ws s2 vs zs m2 vv wv I2 rv rz lu lw r2 hv hw hq
    cases ep : pick pm' (vv ++ wv) with
    | none => rw [ep] at hq; exact hq.elim
    | some args =>
      rw [ep] at hq
      obtain ⟨ys, y1, y2, y3⟩ := pick_rep (hv.append hw) ep
      obtain ⟨all, z1, z2⟩ := pick_vals (rv.append rz) y1
      exact run_fnG F c.room c.gd I2 (.of_eq (hbind us ws all (by rw [← rv.length, hv.length, lu, hle]) (by rw [← rz.length, hw.length, lw, hlk, klen]) z1)) z2 ⟨by rw [y3, hpl], m2, args, rfl, r2, y2, hq⟩
  have h1 : rdEs X.K cf es σ m.H fun vs H1 => rdEs X.K cf ks σ H1 fun zs H2 => ∃ (m2 : M) (vv wv : List Val), m2.H = H2 ∧ vv.length = exsLen es ∧ wv.length = exsLen ks ∧ RelS X.K m2 ∧ RepVs X.K m2 vv vs ∧ RepVs X.K m2 wv zs ∧
      PostV X.K m2 (match pick pm' (vv ++ wv) with | some us => cf f2 us m2.st | none => .stuck) Q := by
    refine rds_any (P := fun q => PostV X.K m q Q) (fun z => z) (fun _ _ _ z => z) h r re fun m1 v x e1 r1 re1 hv l1 hp1 => ?_
    refine rds_any (P := fun q => PostV X.K m q Q) (fun z => z) (fun _ _ _ z => z) hp1 r1 re1 fun m2 w y e2 r2 re2 hw l2 hp2 => ?_
    exact ⟨m2, v, w, rfl, l1, l2, r2, hv.mono e2, hw, PostV.ext hp2 (e1.trans e2)⟩
  cases as with
  | nil =>
    cases es with
    | cons e es => simp [exsLen] at hle
    | nil =>
      refine PySem.W.callWith_KW0 (h₀ := X.base) I.ok.mod.kin hkp k1 ?_ (by rw [k2]; rfl)
      obtain ⟨m0, env0, e0, r0, re0, h1⟩ := h1
      simp only [evalEs] at h1
      have h2 := h1 m0 [] rfl (Ext.refl m0) r0 .nil
      rw [e0] at h2
      refine thn (hkw.run pos pins s σ _ _ I h2) fun ws s2 ⟨zs, H2, I2, rz, m2, vv, wv, eH, lv, lw, r2, hv, hw, hq⟩ => ⟨I2.kIn, ?_⟩
      subst eH
      rw [kws_names]
      exact fin [] ws s2 [] zs m2 vv wv I2 .nil rz lv lw r2 hv hw hq
  | cons e es' =>
    refine PySem.W.callWith_KW (h₀ := X.base) I.ok.mod.kin hkp k1 (thn (ha.run pos pins s σ _ _ I h1) fun us s1 ⟨vs, H1, I1, rv, q⟩ => ?_) ?_ (star_cons (hfa e (List.mem_cons_self ..)) _ _)
    · refine thn (hkw.run pos pins s1 σ H1 _ I1 q) fun ws s2 ⟨zs, H2, I2, rz, m2, vv, wv, eH, lv, lw, r2, hv, hw, hq⟩ => ⟨I2.kIn, ?_⟩
      subst eH
      rw [kws_names]
      exact fin us ws s2 vs zs m2 vv wv I2 rv rz lv lw r2 hv hw hq
    · rw [stars_any hfa, k2]; rfl
end
end Co

set_option Elab.async false
set_option linter.all false
set_option maxRecDepth 100000
set_option maxHeartbeats 16000000
/-! Co9: sorted over a tuple, isinstance, dict displays. -/
namespace Co9a
open PySem PySem.Spec PyProof.Rows SrtO Srt L2
section
variable {prog : Program} {w : World} {A : Around} {E : Value → Shared → Prop} {s : Shared}
theorem collect_tuple {l : Addr} {vs : List Value} {Q : List Value → Shared → Prop} (hl : IsTup s.heap l vs.toArray)
    (h : Q vs { s with heap := (s.heap.push (seqObj "list" #[] 0)).update s.heap.objs.size (Obj.mapSeq (· ++ vs.toArray)) }) (hsz : vs.length ≤ sizeLine) :
    wpAny (model prog w) A (collect (.ref l)) Q E s := by
  obtain ⟨o, ho, hc, n, hd⟩ := id hl
  unfold collect
  refine wpAny_bind (wpAny_runValue (codeAny_builtin entry_proto_collect' ?_))
  show wpAny _ _ (do again (.builtin "list.__iadd__" ⟨[← newList [], .ref l], []⟩)) _ _ s
  refine wpAny_bind (wpAny_newList (wpAny_pure ⟨Code.quiet_builtin _ (by decide +kernel), codeAny_builtin entry_list_iadd' ?_⟩))
  show wpAny _ _ (Builtin.List.listExtendWith (.ref s.heap.objs.size) (.ref l) (.ref s.heap.objs.size)) _ _ { s with heap := s.heap.push (seqObj "list" #[] 0) }
  unfold Builtin.List.listExtendWith
  have ho' : (s.heap.push (seqObj "list" #[] 0)).get? l = some o := Heap.get?_push_of_some _ ho
  refine wpAny_bind (wpAny_typeOf (T := "tuple") ⟨o, ho', hc⟩ ?_)
  have ht : (Value.type "tuple" == Value.type "tuple") = true := by rfl
  rw [if_pos (by rw [ht]; simp)]
  refine wpAny_bind (listItems_at ho' hd ?_)
  refine wpAny_bind (listItems_at (xs := #[]) (n := 0) (Heap.get?_push_size _ rfl) rfl ?_)
  rw [if_neg (by simp)]
  refine wpAny_bind (listUpdate_at (xs := #[]) (n := 0) (Heap.get?_push_size _ rfl) rfl ?_ (Nat.zero_le _) (by show (#[] ++ vs.toArray).size ≤ sizeLine + 1; simp only [Array.size_append, List.size_toArray, List.length_nil]; omega))
  refine wpAny_pure ?_
  show wpAny (model prog w) A (do
      let o ← load s.heap.objs.size
      match o.data with
      | .seq xs _ => pure xs.toList
      | _ => unsupported "internal:collect") Q E { s with heap := (s.heap.push (seqObj "list" #[] 0)).update s.heap.objs.size (Obj.mapSeq (· ++ vs.toArray)) }
  refine wpAny_bind (wpAny_load (get?_update_seq (Heap.get?_push_size _ rfl) _) ?_)
  show wpAny _ _ (pure ((#[] : Array Value) ++ vs.toArray).toList) Q E _
  rw [show ((#[] : Array Value) ++ vs.toArray).toList = vs by simp]
  exact wpAny_pure h
theorem sorted_ordT {l : Addr} {vs : List Value} {ltv : Value → Value → Bool} {Q : Value → Shared → Prop} (O : Swo ltv) (hl : IsTup s.heap l vs.toArray) (hz : vs.length ≤ sizeLine)
    (hS : 2 ≤ vs.length → ∀ (h₁ : Heap) (a : Addr), h₁.get? a = some (seqObj "list" vs.toArray 0) → (∀ b o, s.heap.get? b = some o → b ≠ a ∧ h₁.get? b = some o) → SortableO prog w A.in1.in1 { s with heap := h₁ } a vs ltv)
    (h : ∀ out : List Value, Srtd ltv out → Stb ltv out vs → Q (.ref (s.heap.objs.size + 1)) { s with heap := sortedAll s.heap vs out.toArray }) :
    wpAny (model prog w) A (call (.builtin "sorted") [.ref l]) Q E s := by
  refine Calls.call_function_entry kind_sorted plain_sorted entry_sorted (args_sorted1 _) ?_
  unfold Builtin.«sorted»
  refine wpAny_bind (m := checkCount "sorted" 1 1 _) (wpAny_pure ?_)
  refine wpAny_bind (collect_tuple hl ?_ hz)
  refine wpAny_bind (wpAny_newList ?_ hz)
  have hsz : ((s.heap.push (seqObj "list" #[] 0)).update s.heap.objs.size (Obj.mapSeq (· ++ vs.toArray))).objs.size = s.heap.objs.size + 1 := by
    rw [Heap.size_update, size_push']
  have hoL : (((s.heap.push (seqObj "list" #[] 0)).update s.heap.objs.size (Obj.mapSeq (· ++ vs.toArray))).push (seqObj "list" vs.toArray 0)).get? (s.heap.objs.size + 1) = some (seqObj "list" vs.toArray 0) := by
    rw [← hsz]; exact Heap.get?_push_size _ rfl
  have keep : ∀ b o, s.heap.get? b = some o → b ≠ s.heap.objs.size + 1 ∧ (((s.heap.push (seqObj "list" #[] 0)).update s.heap.objs.size (Obj.mapSeq (· ++ vs.toArray))).push (seqObj "list" vs.toArray 0)).get? b = some o := fun b o q => by
    have hlt : b < s.heap.objs.size := Heap.lt_size q
    refine ⟨Nat.ne_of_lt (Nat.lt_succ_of_lt hlt), Heap.get?_push_of_some _ ?_⟩
    rw [Heap.get?_update_ne _ _ _ _ (Nat.ne_of_lt hlt)]
    exact Heap.get?_push_of_some _ q
  show wpAny _ _ _ _ _ { s with heap := ((s.heap.push (seqObj "list" #[] 0)).update s.heap.objs.size (Obj.mapSeq (· ++ vs.toArray))).push (seqObj "list" vs.toArray 0) }
  rw [hsz]
  refine wpAny_bind (wpAny_holding (wpAny_call_entry slot_list_sort ⟨_, hoL, rfl⟩ entry_list_sort (list_sort_ord O hoL hz (fun h2 => hS h2 _ _ hoL keep) fun out hs hb => ⟨_, rfl, ?_⟩) (args_list_sort _)))
  exact wpAny_pure ⟨_, rfl, h out hs hb⟩
end
def rSortedT (K : PySem.W.Frag) : List V → Hp → VK → Prop := fun vs H Q => ∃ (a : Addr) (ns : List Int), vs = [V.ref a] ∧ SqT K H a (ns.map V.int) ∧
  ∀ (ns' : List Int) (p : Addr), ns'.Perm ns → ns'.Pairwise (· ≤ ·) → H p = none → Q (.ref p) (upd H p (.lst (ns'.map V.int)))
theorem cr_sortedT {X : Cx} : CallR X (.builtin "sorted") (rSortedT X.K) := by
  intro pins s σ H vs us Q I r h
  obtain ⟨a, ns, rfl, hs, q⟩ := h
  obtain ⟨its, rv, hl, hz⟩ := I.tuple hs
  rw [Vals.ref1 r]
  have hi := rv.ints
  refine sorted_ordT SrtO.swo_int hl (by rw [← rv.length]; exact hz) (fun h2 h₁ a' _ _ => SrtO.ints_sortable hi h2) fun out h1 h2 => ?_
  obtain ⟨k1, k2, k3⟩ := SrtO.ints_out hi h1 h2
  obtain ⟨ep, he'⟩ := PyProof.Rows.sortedAll_at s.heap its out.toArray
  have hlen : ((out.map SrtO.iv).map V.int).length ≤ sizeLine := by
    rw [List.length_map, k2.length_eq]
    rw [List.length_map] at hz
    exact hz
  exact ⟨.ref _, upd H (s.heap.objs.size + 1) (.lst ((out.map SrtO.iv).map V.int)), I.laid (t' := s.toks) (fun _ _ => PyProof.Rows.sortedAll_old) (Nat.le_succ _) ⟨hlen, out, ep, vals_of_ints k1, he'⟩, rfl, q _ _ k2 k3 (I.hok.fresh (Nat.le_succ _))⟩
end Co9a
namespace Co
open PySem PySem.Spec L2
section
variable {X : Cx}
theorem bi_sorted (lv : Bool) : CallR X (.builtin "sorted") (rBi X.K .sorted lv) := by
  intro pins s σ H xs us Q I r h
  obtain ⟨m, vs, eH, hr, hv, h⟩ := h
  subst eH
  match vs, hv, h with
  | [], hv, h => exact h.elim
  | _ :: _ :: _, hv, h => exact h.elim
  | [v], hv, h =>
    obtain ⟨x, rfl, hx⟩ := one_rep hv
    have d := dr_rep hr hx
    simp only [biv] at h
    generalize dr m.st v = D at d h
    cases D with
    | lst xs =>
      obtain ⟨a, ws, rfl, h1, h2⟩ := d
      simp only at h
      cases e : ints? xs with
      | none => rw [e] at h; exact h.elim
      | some ns =>
        rw [e] at h
        exact bi_sorted_lst lv I r hr (.inl (.inl h1)) h2 e h
    | tup xs =>
      obtain ⟨a, ws, rfl, h1, h2⟩ := d
      simp only at h
      cases e : ints? xs with
      | none => rw [e] at h; exact h.elim
      | some ns =>
        rw [e] at h
        have := h2.ofInts e
        subst this
        refine Co9a.cr_sortedT pins s σ _ _ us Q I r ⟨a, ns, rfl, h1, fun ns' p hp hs hn => ?_⟩
        rw [perm_sortI hp hs]
        exact h.mkL hr (RepVs.ints _) p hn
    | _ => exact h.elim
def tyS : Val → String
  | .non => "NoneType" | .bl _ => "bool" | .int _ => "int" | .str _ => "str" | .tup _ => "tuple" | .lst _ => "list" | .scr _ => "list" | .dct _ _ => "dict" | .ref _ => "object"
def tyT : Ty → String
  | .int => "int" | .bool => "bool" | .str => "str" | .tuple => "tuple" | .list => "list" | .dict => "dict" | .none => "NoneType"
theorem kit_all (K : PySem.W.Frag) (t : Ty) (ht : t ≠ .none) (v : Val) (hv : ∀ i, v ≠ .ref i) (hs : ∀ xs, v ≠ .scr xs) : PySem.W.kitOne K (.type (tyS v)) (.type (tyT t)) = some (isTy t v) := by
  cases v with
  | ref i => exact absurd rfl (hv i)
  | scr xs => exact absurd rfl (hs xs)
  | _ => cases t <;> first | exact absurd rfl ht | exact kit_ty (by first | (change kitB _ _ = some true; simp only [tyS, tyT]; decide +kernel) | (change kitB _ _ = some false; simp only [tyS, tyT]; decide +kernel))
theorem bi_isin (t : Ty) (ht : t ≠ .none) (lv : Bool) : CallR X (.builtin "isinstance") (fun xs H Q => ∃ x, xs = [x, .ty (tyT t)] ∧ rBi X.K (.isin t) lv [x] H Q) := by
  intro pins s σ H xs us Q I r h
  obtain ⟨x, rfl, m, vs, eH, hr, hv, h⟩ := h
  subst eH
  match vs, hv, h with
  | [], hv, h => exact h.elim
  | _ :: _ :: _, hv, h => exact h.elim
  | [v], hv, h =>
    obtain ⟨x', e', hx⟩ := one_rep hv
    cases e'
    have d := dr_rep hr hx
    simp only [biv] at h
    generalize dr m.st v = D at d h
    have go : (∀ i, D ≠ .ref i) → (∀ xs, D ≠ .scr xs) → TyX X.K m.H x (.type (tyS D)) → PostV X.K m (.ok (.bl (isTy t D)) m.st) Q → wpAny (model X.prog X.w) X.A (call (.builtin "isinstance") us) (EP X pins σ Q) X.xe s := fun h1 h2 h3 h4 =>
      call_isi pins s σ _ _ us Q I r ⟨x, _, _, _, isTy t D, rfl, .ty _, h3, kit_all _ t ht D h1 h2, h4.ok hr (.bl _)⟩
    cases D with
    | ref i => exact h.elim
    | scr xs => exact h.elim
    | non => cases d; exact go (fun _ => nofun) (fun _ => nofun) (.base .non) h
    | bl b => cases d; exact go (fun _ => nofun) (fun _ => nofun) (.base (.bl b)) h
    | int b => cases d; exact go (fun _ => nofun) (fun _ => nofun) (.base (.int b)) h
    | str b => cases d; exact go (fun _ => nofun) (fun _ => nofun) (.base (.str b)) h
    | tup xs =>
      obtain ⟨a, ws, rfl, h1, h2⟩ := d
      refine go (fun _ => nofun) (fun _ => nofun) ?_ h
      rcases h1 with (h1 | ⟨o, h1⟩) | ⟨o, its, n, h1, h3, _⟩
      · exact .base (.tup h1)
      · exact .fTuple h1
      · exact .kTuple h1 h3
    | lst xs =>
      obtain ⟨a, ws, rfl, h1, h2⟩ := d
      exact go (fun _ => nofun) (fun _ => nofun) (.base (.lst h1)) h
    | dct ks xs =>
      obtain ⟨a, kvs, rfl, h1, h2, h3⟩ := d
      exact go (fun _ => nofun) (fun _ => nofun) (.base (.dK h1)) h
end
end Co

set_option Elab.async false
set_option linter.all false
set_option maxRecDepth 100000
set_option maxHeartbeats 16000000
/-! CoM: max, min of a tuple or a list of ints. -/
namespace CoMx
open PySem PySem.Spec PyProof.Rows L2
section
variable {prog : Program} {w : World} {A : Around} {E : Value → Shared → Prop} {s : Shared} {l : Addr} {xs : Array (Int × Tok)}
theorem iter_intTup {Q : Value → Shared → Prop} (hl : s.heap.IsTuple l (intItems xs))
    (h : ∀ s₂ : Shared, s₂ = { s with heap := s.heap.push { cls := .type "tuple_iterator", data := .fields #[.ref l, .int 0 0] } } →
      (s₂.heap.IsTupleIter s.heap.objs.size l 0 ∧ s₂.heap.IsTuple l (intItems xs)) → (∀ b ∈ [s.heap.objs.size, l], b < s₂.heap.objs.size) → l ≠ s.heap.objs.size → Q (.ref s.heap.objs.size) s₂) :
    wpAny (model prog w) A (pyIter (.ref l)) Q E s := by
  have hlt : l < s.heap.objs.size := by obtain ⟨_, e, _⟩ := hl; exact Heap.lt_size e
  refine wpAny_pyIter_tuple hl (h _ rfl ⟨⟨_, Heap.get?_push_size _ rfl, rfl, rfl⟩, hl.push _⟩ (fun b hb => ?_) (Nat.ne_of_lt hlt))
  show b < (s.heap.push _).objs.size
  rw [Heap.size_push]
  rcases List.mem_cons.mp hb with rfl | hb
  · exact Nat.lt_succ_self _
  · rcases List.mem_cons.mp hb with rfl | hb
    · exact Nat.lt_succ_of_lt hlt
    · cases hb
theorem old_keptT {h' : Heap} (hk : ∀ b o, b ∉ [s.heap.objs.size] → (s.heap.push { cls := .type "tuple_iterator", data := .fields #[.ref l, .int 0 0] }).get? b = some o → h'.get? b = some o) :
    ∀ b o, s.heap.get? b = some o → h'.get? b = some o := fun b o e => by
  refine hk b o (fun hm => ?_) (Heap.get?_push_of_some _ e)
  rcases List.mem_cons.mp hm with e1 | hm
  · exact absurd (e1 ▸ Heap.lt_size e) (Nat.lt_irrefl _)
  · cases hm
theorem max_intTup {Q : Value → Shared → Prop} (hh : A.handled = none) (hl : s.heap.IsTuple l (intItems xs)) (hne : 0 < xs.size)
    (h : ∀ v h' tk, (intItems xs)[argBest (fun i j => decide (numAt xs i > numAt xs j)) (xs.size - 1)]? = some v → (∀ b o, s.heap.get? b = some o → h'.get? b = some o) → Q v { s with heap := h', toks := tk }) :
    wpAny (model prog w) A (call (.builtin "max") [.ref l]) Q E s := by
  refine call_max_walk (iter_intTup hl fun s₂ e st hfp hlI => ?_)
  subst e
  refine ⟨_, _, _, _, _, _, _, rfl, Walks.tuple (A := A.in1) hh _ l hlI (intItems xs), st, hfp, by simpa [intItems] using hne, CmpOf.ints_gt (numAt xs) (fun _ _ => intItems_at), fun v h' tk hP hk => ?_⟩
  exact h v h' tk (by simpa [intItems] using hP) (old_keptT hk)
theorem min_intTup {Q : Value → Shared → Prop} (hh : A.handled = none) (hl : s.heap.IsTuple l (intItems xs)) (hne : 0 < xs.size)
    (h : ∀ v h' tk, (intItems xs)[argBest (fun i j => decide (numAt xs i < numAt xs j)) (xs.size - 1)]? = some v → (∀ b o, s.heap.get? b = some o → h'.get? b = some o) → Q v { s with heap := h', toks := tk }) :
    wpAny (model prog w) A (call (.builtin "min") [.ref l]) Q E s := by
  refine call_min_walk (iter_intTup hl fun s₂ e st hfp hlI => ?_)
  subst e
  refine ⟨_, _, _, _, _, _, _, rfl, Walks.tuple (A := A.in1) hh _ l hlI (intItems xs), st, hfp, by simpa [intItems] using hne, CmpOf.ints_lt (numAt xs) (fun _ _ => intItems_at), fun v h' tk hP hk => ?_⟩
  exact h v h' tk (by simpa [intItems] using hP) (old_keptT hk)
variable {its : List Value} {ns : List Int}
theorem max_rawT {Q : Value → Shared → Prop} (hh : A.handled = none) (hl : IsTup s.heap l its.toArray) (hi : IntsAre its ns) (hne : 0 < ns.length)
    (h : ∀ h' tk M t', (∀ b o, s.heap.get? b = some o → h'.get? b = some o) → M ∈ ns → (∀ a, a ∈ ns → a ≤ M) → Q (.int M t') { s with heap := h', toks := tk }) : wpAny (model prog w) A (call (.builtin "max") [.ref l]) Q E s := by
  obtain ⟨xs, e⟩ := hi.allInts.items
  have hn : numsOf (intItems xs).toList = ns := by rw [← e]; exact hi.numsOf
  rw [nums_intItems] at hn
  subst hn
  rw [e] at hl
  have hsz : 0 < xs.size := by simpa using hne
  refine max_intTup hh hl hsz fun v h' tk hv hk => ?_
  obtain ⟨t, rfl⟩ := intItems_at hv
  obtain ⟨h1, h2⟩ := argBest_gt (numAt xs) (xs.size - 1)
  refine h h' tk _ t hk ?_ fun a ha => ?_
  · rw [numAt_eq]; exact PySem.getD_mem (by rw [List.length_map, Array.length_toList]; omega)
  · obtain ⟨j, hj, rfl⟩ := mem_getD ha
    rw [List.length_map, Array.length_toList] at hj
    rw [← numAt_eq]; exact h2 j (by omega)
theorem min_rawT {Q : Value → Shared → Prop} (hh : A.handled = none) (hl : IsTup s.heap l its.toArray) (hi : IntsAre its ns) (hne : 0 < ns.length)
    (h : ∀ h' tk M t', (∀ b o, s.heap.get? b = some o → h'.get? b = some o) → M ∈ ns → (∀ a, a ∈ ns → M ≤ a) → Q (.int M t') { s with heap := h', toks := tk }) : wpAny (model prog w) A (call (.builtin "min") [.ref l]) Q E s := by
  obtain ⟨xs, e⟩ := hi.allInts.items
  have hn : numsOf (intItems xs).toList = ns := by rw [← e]; exact hi.numsOf
  rw [nums_intItems] at hn
  subst hn
  rw [e] at hl
  have hsz : 0 < xs.size := by simpa using hne
  refine min_intTup hh hl hsz fun v h' tk hv hk => ?_
  obtain ⟨t, rfl⟩ := intItems_at hv
  obtain ⟨h1, h2⟩ := argBest_lt (numAt xs) (xs.size - 1)
  refine h h' tk _ t hk ?_ fun a ha => ?_
  · rw [numAt_eq]; exact PySem.getD_mem (by rw [List.length_map, Array.length_toList]; omega)
  · obtain ⟨j, hj, rfl⟩ := mem_getD ha
    rw [List.length_map, Array.length_toList] at hj
    rw [← numAt_eq]; exact h2 j (by omega)
end
def rMaxT (K : PySem.W.Frag) : List V → Hp → VK → Prop := fun vs H Q => ∃ (a : Addr) (ns : List Int), vs = [V.ref a] ∧ SqT K H a (ns.map V.int) ∧ 0 < ns.length ∧ ∀ m, m ∈ ns → (∀ y, y ∈ ns → y ≤ m) → Q (.int m) H
def rMinT (K : PySem.W.Frag) : List V → Hp → VK → Prop := fun vs H Q => ∃ (a : Addr) (ns : List Int), vs = [V.ref a] ∧ SqT K H a (ns.map V.int) ∧ 0 < ns.length ∧ ∀ m, m ∈ ns → (∀ y, y ∈ ns → m ≤ y) → Q (.int m) H
theorem cr_maxT {X : Cx} (hc : X.calm = true) : CallR X (.builtin "max") (rMaxT X.K) := by
  intro pins s σ H vs us Q I r h
  obtain ⟨a, ns, rfl, hs, hne, q⟩ := h
  obtain ⟨its, rv, hl, _⟩ := I.tuple hs
  rw [Vals.ref1 r]
  exact max_rawT (I.ok.hd hc) hl rv.ints hne fun h' tk m t' hk h1 h2 => ⟨.int _, H, I.kept hk, ⟨_, rfl⟩, q m h1 h2⟩
theorem cr_minT {X : Cx} (hc : X.calm = true) : CallR X (.builtin "min") (rMinT X.K) := by
  intro pins s σ H vs us Q I r h
  obtain ⟨a, ns, rfl, hs, hne, q⟩ := h
  obtain ⟨its, rv, hl, _⟩ := I.tuple hs
  rw [Vals.ref1 r]
  exact min_rawT (I.ok.hd hc) hl rv.ints hne fun h' tk m t' hk h1 h2 => ⟨.int _, H, I.kept hk, ⟨_, rfl⟩, q m h1 h2⟩
end CoMx
namespace Co
open PySem PySem.Spec L2
theorem maxI_ge : ∀ (ns : List Int) (a : Int), a ≤ maxI a ns ∧ ∀ y ∈ ns, y ≤ maxI a ns
  | [], a => ⟨Int.le_refl _, fun _ h => nomatch h⟩
  | x :: r, a => by
    obtain ⟨h1, h2⟩ := maxI_ge r (if a < x then x else a)
    simp only [maxI]
    have : a ≤ (if a < x then x else a) ∧ x ≤ (if a < x then x else a) := by split <;> omega
    refine ⟨by omega, fun y hy => ?_⟩
    rcases List.mem_cons.mp hy with rfl | hy
    · omega
    · exact h2 y hy
theorem maxI_mem : ∀ (ns : List Int) (a : Int), maxI a ns ∈ a :: ns
  | [], a => by simp [maxI]
  | x :: r, a => by
    have h := maxI_mem r (if a < x then x else a)
    simp only [maxI]
    rcases List.mem_cons.mp h with h | h
    · rw [h]; split <;> simp
    · simp [h]
theorem minI_le : ∀ (ns : List Int) (a : Int), minI a ns ≤ a ∧ ∀ y ∈ ns, minI a ns ≤ y
  | [], a => ⟨Int.le_refl _, fun _ h => nomatch h⟩
  | x :: r, a => by
    obtain ⟨h1, h2⟩ := minI_le r (if x < a then x else a)
    simp only [minI]
    have : (if x < a then x else a) ≤ a ∧ (if x < a then x else a) ≤ x := by split <;> omega
    refine ⟨by omega, fun y hy => ?_⟩
    rcases List.mem_cons.mp hy with rfl | hy
    · omega
    · exact h2 y hy
theorem minI_mem : ∀ (ns : List Int) (a : Int), minI a ns ∈ a :: ns
  | [], a => by simp [minI]
  | x :: r, a => by
    have h := minI_mem r (if x < a then x else a)
    simp only [minI]
    rcases List.mem_cons.mp h with h | h
    · rw [h]; split <;> simp
    · simp [h]
section
variable {X : Cx}
theorem bi_max2 (hc : X.calm = true) (lv : Bool) : CallR X (.builtin "max") (rBi X.K .max2 lv) := by
  intro pins s σ H xs us Q I r h
  obtain ⟨m, vs, eH, hr, hv, h⟩ := h
  subst eH
  match vs, hv, h with
  | [], hv, h => exact h.elim
  | [_], hv, h => simp only [biv] at h; exact h.elim
  | _ :: _ :: _ :: _, hv, h => simp only [biv] at h; exact h.elim
  | [v, w], hv, h =>
    obtain ⟨x, y, rfl, rx, ry⟩ := two_rep hv
    cases rx with
    | int i =>
      cases ry with
      | int j => exact call_max2 hc pins s σ _ _ us Q I r ⟨i, j, rfl, (show PostV X.K m (.ok (.int (if j > i then j else i)) m.st) Q from h).ok hr (.int _)⟩
      | _ => exact h.elim
    | _ => simp only [biv] at h; exact h.elim
theorem bi_abs (lv : Bool) : CallR X (.builtin "abs") (rBi X.K .abs lv) := by
  intro pins s σ H xs us Q I r h
  obtain ⟨m, vs, eH, hr, hv, h⟩ := h
  subst eH
  match vs, hv, h with
  | [], hv, h => exact h.elim
  | _ :: _ :: _, hv, h => simp only [biv] at h; exact h.elim
  | [v], hv, h =>
    obtain ⟨x, rfl, hx⟩ := one_rep hv
    cases hx with
    | int i => exact call_abs pins s σ _ _ us Q I r ⟨i, rfl, (show PostV X.K m (.ok (.int (if i < 0 then -i else i)) m.st) Q from h).ok hr (.int _)⟩
    | _ => simp only [biv] at h; exact h.elim
theorem bi_max1 (hc : X.calm = true) (lv : Bool) : CallR X (.builtin "max") (rBi X.K .max1 lv) := by
  intro pins s σ H xs us Q I r h
  obtain ⟨m, vs, eH, hr, hv, h⟩ := h
  subst eH
  match vs, hv, h with
  | [], hv, h => exact h.elim
  | _ :: _ :: _, hv, h => exact h.elim
  | [v], hv, h =>
    obtain ⟨x, rfl, hx⟩ := one_rep hv
    have d := dr_rep hr hx
    simp only [biv] at h
    generalize dr m.st v = D at d h
    cases D with
    | lst xs =>
      obtain ⟨a, ws, rfl, h1, h2⟩ := d
      simp only at h
      cases e : ints? xs with
      | none => rw [e] at h; exact h.elim
      | some ns =>
        rw [e] at h
        have := h2.ofInts e
        subst this
        cases ns with
        | nil => exact h.elim
        | cons n ns =>
          refine cr_max hc pins s σ _ _ us Q I r ⟨a, n :: ns, rfl, .inl (.inl h1), Nat.succ_pos _, fun k hk hy => ?_⟩
          obtain ⟨g1, g2⟩ := maxI_ge ns n
          have g3 := hy _ (maxI_mem ns n)
          have : k = maxI n ns := by
            rcases List.mem_cons.mp hk with rfl | hk
            · omega
            · have := g2 k hk; omega
          subst this
          exact h.ok hr (.int _)
    | tup xs =>
      obtain ⟨a, ws, rfl, h1, h2⟩ := d
      simp only at h
      cases e : ints? xs with
      | none => rw [e] at h; exact h.elim
      | some ns =>
        rw [e] at h
        have := h2.ofInts e
        subst this
        cases ns with
        | nil => exact h.elim
        | cons n ns =>
          refine CoMx.cr_maxT hc pins s σ _ _ us Q I r ⟨a, n :: ns, rfl, h1, Nat.succ_pos _, fun k hk hy => ?_⟩
          obtain ⟨g1, g2⟩ := maxI_ge ns n
          have g3 := hy _ (maxI_mem ns n)
          have : k = maxI n ns := by
            rcases List.mem_cons.mp hk with rfl | hk
            · omega
            · have := g2 k hk; omega
          subst this
          exact h.ok hr (.int _)
    | _ => exact h.elim
theorem bi_min1 (hc : X.calm = true) (lv : Bool) : CallR X (.builtin "min") (rBi X.K .min1 lv) := by
  intro pins s σ H xs us Q I r h
  obtain ⟨m, vs, eH, hr, hv, h⟩ := h
  subst eH
  match vs, hv, h with
  | [], hv, h => exact h.elim
  | _ :: _ :: _, hv, h => exact h.elim
  | [v], hv, h =>
    obtain ⟨x, rfl, hx⟩ := one_rep hv
    have d := dr_rep hr hx
    simp only [biv] at h
    generalize dr m.st v = D at d h
    cases D with
    | lst xs =>
      obtain ⟨a, ws, rfl, h1, h2⟩ := d
      simp only at h
      cases e : ints? xs with
      | none => rw [e] at h; exact h.elim
      | some ns =>
        rw [e] at h
        have := h2.ofInts e
        subst this
        cases ns with
        | nil => exact h.elim
        | cons n ns =>
          refine cr_min hc pins s σ _ _ us Q I r ⟨a, n :: ns, rfl, .inl (.inl h1), Nat.succ_pos _, fun k hk hy => ?_⟩
          obtain ⟨g1, g2⟩ := minI_le ns n
          have g3 := hy _ (minI_mem ns n)
          have : k = minI n ns := by
            rcases List.mem_cons.mp hk with rfl | hk
            · omega
            · have := g2 k hk; omega
          subst this
          exact h.ok hr (.int _)
    | tup xs =>
      obtain ⟨a, ws, rfl, h1, h2⟩ := d
      simp only at h
      cases e : ints? xs with
      | none => rw [e] at h; exact h.elim
      | some ns =>
        rw [e] at h
        have := h2.ofInts e
        subst this
        cases ns with
        | nil => exact h.elim
        | cons n ns =>
          refine CoMx.cr_minT hc pins s σ _ _ us Q I r ⟨a, n :: ns, rfl, h1, Nat.succ_pos _, fun k hk hy => ?_⟩
          obtain ⟨g1, g2⟩ := minI_le ns n
          have g3 := hy _ (minI_mem ns n)
          have : k = minI n ns := by
            rcases List.mem_cons.mp hk with rfl | hk
            · omega
            · have := g2 k hk; omega
          subst this
          exact h.ok hr (.int _)
    | _ => exact h.elim
end
end Co

set_option Elab.async false
set_option linter.all false
set_option maxRecDepth 100000
set_option maxHeartbeats 16000000
/-! Co10: the readings of the constructs, one by one. -/
namespace Co
open PySem PySem.Spec L2

section
variable {K : PySem.W.Frag} {m : M} {cf : CF} {env : Ev} {σ : L2.St} {H : Hp} {Q : VK}
theorem r_nil {Q : List V → Hp → Prop} (h : rdEs K cf .nil σ H Q) : Q [] H := by
  obtain ⟨m, env, rfl, r, re, h⟩ := h
  exact h m [] rfl (Ext.refl m) r .nil
theorem r_cons {x : Ex} {xs : Exs} {Q : List V → Hp → Prop} (h : rdEs K cf (.cons x xs) σ H Q) : tCons (rdE K cf x) (rdEs K cf xs) σ H Q := by
  obtain ⟨m, env, rfl, r, re, h⟩ := h
  simp only [evalEs] at h
  exact rds_bind1 h r re fun m1 v y e1 r1 re1 hv h1 => rdss_bind h1 r1 re1 fun m2 vs ys e2 r2 re2 hvs h2 => h2 m2 (y :: ys) rfl (Ext.refl m2) r2 (.cons (hv.mono e2) hvs)
theorem r_var {i : Nat} (h : rdE K cf (.var i) σ H Q) : tVar i σ H Q := by
  obtain ⟨m, env, rfl, r, re, h⟩ := h
  simp only [evalE] at h
  split at h
  · rename_i v e
    obtain ⟨x, h1, h2⟩ := re.at_ i v e
    exact ⟨x, h1, h.ok r h2⟩
  · exact h.elim
theorem r_cst {v : Val} {x : V} (hv : ∀ K m, RepV K m v x) (h : rdE K cf (.cst v) σ H Q) : tC x σ H Q := by
  obtain ⟨m, env, rfl, r, re, h⟩ := h
  exact PostV.ok h r (hv _ _)
theorem r_tup {es : Exs} (hl : exsLen es ≤ 1000) (h : rdE K cf (.tup es) σ H Q) : tTup (rdEs K cf es) σ H Q := by
  obtain ⟨m, env, rfl, r, re, h⟩ := h
  simp only [evalE] at h
  exact rds_any (P := fun q => PostV K m q Q) (fun z => z) (fun _ _ _ z => z) h r re fun m1 vs ys e1 r1 re1 hvs hl1 h1 => ⟨by
    rw [hvs.length, hl1]
    have : (1000 : Nat) ≤ sizeLine := by decide
    omega, fun p hp => (PostV.ext h1 e1).tup r1 hvs p hp⟩
theorem r_lst {lv : Bool} {es : Exs} (hl : exsLen es ≤ 1000) (h : rdE K cf (.lst lv es) σ H Q) : tLst (rdEs K cf es) σ H Q := by
  obtain ⟨m, env, rfl, r, re, h⟩ := h
  simp only [evalE] at h
  exact rds_any (P := fun q => PostV K m q Q) (fun z => z) (fun _ _ _ z => z) h r re fun m1 vs ys e1 r1 re1 hvs hl1 h1 => ⟨by
    rw [hvs.length, hl1]
    have : (1000 : Nat) ≤ sizeLine := by decide
    omega, fun p hp => (PostV.ext h1 e1).mkL r1 hvs p hp⟩
theorem r_bin {op : Bop} {lv : Bool} {a b : Ex} (h : rdE K cf (.bin op lv a b) σ H Q) : tOp (rB K op lv) (rdE K cf a) (rdE K cf b) σ H Q := by
  obtain ⟨m, env, rfl, r, re, h⟩ := h
  simp only [evalE] at h
  exact rd_bind h r re fun m1 v x e1 r1 re1 hv h1 => rd_bind h1 r1 re1 fun m2 w y e2 r2 re2 hw h2 => ⟨m2, v, w, rfl, r2, hv.mono e2, hw, h2⟩
theorem r_neg {a : Ex} (h : rdE K cf (.neg a) σ H Q) : tUn (rU fun i => .int (-i)) (rdE K cf a) σ H Q := by
  obtain ⟨m, env, rfl, r, re, h⟩ := h
  simp only [evalE] at h
  refine rd_bind h r re fun m1 v x e1 r1 re1 hv h1 => ?_
  cases v with
  | int i => cases hv; exact ⟨i, rfl, h1.ok r1 (.int _)⟩
  | _ => exact h1.elim
theorem r_not {a : Ex} (h : rdE K cf (.not_ a) σ H Q) : tNotV (rdE K cf a) σ H Q := by
  obtain ⟨m, env, rfl, r, re, h⟩ := h
  simp only [evalE] at h
  refine rd_bind h r re fun m1 v x e1 r1 re1 hv h1 => ?_
  cases etr : tru v with
  | none => rw [etr] at h1; exact h1.elim
  | some b => rw [etr] at h1; exact ⟨b, tru_rep hv etr, h1.ok r1 (.bl _)⟩
theorem r_notT {a : Ex} {Q : Bool → Hp → Prop} (h : rdT K cf (.not_ a) σ H Q) : tNot (rdT K cf a) σ H Q := by
  obtain ⟨m, env, rfl, r, re, h⟩ := h
  simp only [evalE] at h
  refine rd_bind h r re fun m1 v x e1 r1 re1 hv h1 => ?_
  cases etr : tru v with
  | none => rw [etr] at h1; exact h1.elim
  | some b =>
    rw [etr] at h1
    obtain ⟨k, e, q⟩ := PostV.ok h1 r1 (.bl _)
    cases e
    exact ⟨b, tru_rep hv etr, q⟩
theorem rep_empty {m : M} {xs : List Val} {ws : List V} (h : RepVs K m xs ws) : (!xs.isEmpty) = !ws.isEmpty := by
  cases h <;> rfl
theorem r_tst {a : Ex} {Q : Bool → Hp → Prop} (h : rdT K cf (.tst a) σ H Q) : rdE K cf a σ H (fun x H' => ∃ k, TruV K x H' k ∧ Q k H') := by
  obtain ⟨m, env, rfl, r, re, h⟩ := h
  simp only [evalE] at h
  refine rd_bind h r re fun m1 v x e1 r1 re1 hv h1 => ?_
  have d := dr_rep r1 hv
  generalize dr m1.st v = D at d h1
  cases D with
  | tup xs =>
    obtain ⟨a, ws, rfl, h3, h2⟩ := d
    simp only [trL] at h1
    obtain ⟨k, e, q⟩ := PostV.ok h1 r1 (.bl _)
    cases e
    exact ⟨_, .inr (.inl ⟨ws, h3, rep_empty h2⟩), q⟩
  | lst xs =>
    obtain ⟨a, ws, rfl, h3, h2⟩ := d
    simp only [trL] at h1
    obtain ⟨k, e, q⟩ := PostV.ok h1 r1 (.bl _)
    cases e
    exact ⟨_, .inl ⟨ws, .inl (.inl h3), rep_empty h2⟩, q⟩
  | _ => simp only [trL] at h1; exact h1.elim
theorem r_and {a b : Ex} (h : rdE K cf (.and_ a b) σ H Q) : tAndV (rdE K cf a) (rdE K cf b) σ H Q := by
  obtain ⟨m, env, rfl, r, re, h⟩ := h
  simp only [evalE] at h
  refine rd_bind h r re fun m1 v x e1 r1 re1 hv h1 => ?_
  cases etr : tru v with
  | none => rw [etr] at h1; exact h1.elim
  | some k =>
    rw [etr] at h1
    refine ⟨k, tru_rep hv etr, ?_⟩
    cases k with
    | true => exact iteT ⟨m1, env, rfl, r1, re1, h1⟩
    | false => exact iteF (h1.ok r1 (.bl _))
theorem r_andT {a b : Ex} {Q : Bool → Hp → Prop} (h : rdT K cf (.and_ a b) σ H Q) : tAnd (rdT K cf a) (rdT K cf b) σ H Q := by
  obtain ⟨m, env, rfl, r, re, h⟩ := h
  simp only [evalE] at h
  refine rd_bind h r re fun m1 v x e1 r1 re1 hv h1 => ?_
  cases etr : tru v with
  | none => rw [etr] at h1; exact h1.elim
  | some k =>
    rw [etr] at h1
    refine ⟨k, tru_rep hv etr, ?_⟩
    cases k with
    | true => exact iteT ⟨m1, env, rfl, r1, re1, h1⟩
    | false =>
      obtain ⟨k, e, q⟩ := PostV.ok h1 r1 (.bl _)
      cases e
      exact iteF q
theorem r_or {a b : Ex} (h : rdE K cf (.or_ a b) σ H Q) : tOrV (rdE K cf a) (rdE K cf b) σ H Q := by
  obtain ⟨m, env, rfl, r, re, h⟩ := h
  simp only [evalE] at h
  refine rd_bind h r re fun m1 v x e1 r1 re1 hv h1 => ?_
  cases etr : tru v with
  | none => rw [etr] at h1; exact h1.elim
  | some k =>
    rw [etr] at h1
    refine ⟨k, tru_rep hv etr, ?_⟩
    cases k with
    | false => exact iteF ⟨m1, env, rfl, r1, re1, h1⟩
    | true => exact iteT (h1.ok r1 (.bl _))
theorem r_orT {a b : Ex} {Q : Bool → Hp → Prop} (h : rdT K cf (.or_ a b) σ H Q) : tOr (rdT K cf a) (rdT K cf b) σ H Q := by
  obtain ⟨m, env, rfl, r, re, h⟩ := h
  simp only [evalE] at h
  refine rd_bind h r re fun m1 v x e1 r1 re1 hv h1 => ?_
  cases etr : tru v with
  | none => rw [etr] at h1; exact h1.elim
  | some k =>
    rw [etr] at h1
    refine ⟨k, tru_rep hv etr, ?_⟩
    cases k with
    | false => exact iteF ⟨m1, env, rfl, r1, re1, h1⟩
    | true =>
      obtain ⟨k, e, q⟩ := PostV.ok h1 r1 (.bl _)
      cases e
      exact iteT q
theorem r_ite {c a b : Ex} (h : rdE K cf (.ite c a b) σ H Q) : tIf (rdT K cf c) (rdE K cf a) (rdE K cf b) σ H Q := by
  obtain ⟨m, env, rfl, r, re, h⟩ := h
  simp only [evalE] at h
  refine rd_bind h r re fun m1 v x e1 r1 re1 hv h1 => ?_
  cases etr : tru v with
  | none => rw [etr] at h1; exact h1.elim
  | some k =>
    rw [etr] at h1
    refine ⟨k, tru_rep hv etr, ?_⟩
    cases k with
    | false => exact iteF ⟨m1, env, rfl, r1, re1, h1⟩
    | true => exact iteT ⟨m1, env, rfl, r1, re1, h1⟩
theorem r_cmp {op : Cop} {a b : Ex} (h : rdE K cf (.cmp op a b) σ H Q) : tOp (rC K op) (rdE K cf a) (rdE K cf b) σ H Q := by
  obtain ⟨m, env, rfl, r, re, h⟩ := h
  simp only [evalE] at h
  refine rd_bind h r re fun m1 v x e1 r1 re1 hv h1 => rd_bind h1 r1 re1 fun m2 w y e2 r2 re2 hw h2 => ?_
  cases ec : cmpv op (dr m2.st v) (dr m2.st w) with
  | none => rw [ec] at h2; exact h2.elim
  | some k => rw [ec] at h2; exact ⟨m2, v, w, k, rfl, r2, hv.mono e2, hw, ec, h2.ok r2 (.bl _)⟩
theorem r_chn {o1 o2 : Cop} {a b c : Ex} (h : rdE K cf (.chn o1 o2 a b c) σ H Q) : tChain (rC K o1) (rC K o2) (rdE K cf a) (rdE K cf b) (rdE K cf c) σ H Q := by
  obtain ⟨m, env, rfl, r, re, h⟩ := h
  simp only [evalE] at h
  refine rd_bind h r re fun m1 v x e1 r1 re1 hv h1 => rd_bind h1 r1 re1 fun m2 w y e2 r2 re2 hw h2 => ?_
  cases ec : cmpv o1 (dr m2.st v) (dr m2.st w) with
  | none => rw [ec] at h2; exact h2.elim
  | some k =>
    rw [ec] at h2
    refine ⟨m2, v, w, k, rfl, r2, hv.mono e2, hw, ec, k, rfl, ?_⟩
    cases k with
    | false => exact iteF (h2.ok r2 (.bl _))
    | true =>
      refine iteT (rd_bind h2 r2 re2 fun m3 z t e3 r3 re3 hz h3 => ?_)
      cases ed : cmpv o2 (dr m3.st w) (dr m3.st z) with
      | none => rw [ed] at h3; exact h3.elim
      | some k => rw [ed] at h3; exact ⟨m3, w, z, k, rfl, r3, hw.mono e3, hz, ed, h3.ok r3 (.bl _)⟩
theorem r_idx {a i : Ex} (h : rdE K cf (.idx a i) σ H Q) : tOp (rIdx K) (rdE K cf a) (rdE K cf i) σ H Q := by
  obtain ⟨m, env, rfl, r, re, h⟩ := h
  simp only [evalE] at h
  refine rd_bind h r re fun m1 v x e1 r1 re1 hv h1 => rd_bind h1 r1 re1 fun m2 w y e2 r2 re2 hw h2 => ?_
  cases ec : idx (dr m2.st v) w with
  | none => rw [ec] at h2; exact h2.elim
  | some k => rw [ec] at h2; exact ⟨m2, v, w, k, rfl, r2, hv.mono e2, hw, ec, h2⟩
def tP (K : PySem.W.Frag) (cf : CF) (lo : Ex) : TO := fun σ H Q => rdE K cf lo σ H fun x H1 => ∃ o, Q o H1 ∧ ((isNon lo = true ∧ o = none) ∨ (isNon lo = false ∧ ∃ i, x = .int i ∧ o = some i))
theorem partE_none {lo : Ex} {y : Val} {l : Option Int} (h : isNon lo = true) (e : partE lo y = some l) : l = none := by
  unfold partE at e
  rw [if_pos h] at e
  cases e; rfl
theorem partE_some {lo : Ex} {y : Val} {l : Option Int} (h : isNon lo = false) (e : partE lo y = some l) : ∃ i, y = .int i ∧ l = some i := by
  unfold partE at e
  rw [if_neg (by rw [h]; simp)] at e
  split at e
  · cases e; exact ⟨_, rfl, rfl⟩
  · cases e
theorem r_slc {lv : Bool} {a lo hi : Ex} (h : rdE K cf (.slc lv a lo hi) σ H Q) : tSl (rSlc K lv) (rdE K cf a) (tP K cf lo) (tP K cf hi) σ H Q := by
  obtain ⟨m, env, rfl, r, re, h⟩ := h
  simp only [evalE] at h
  refine rd_bind h r re fun m1 v x e1 r1 re1 hv h1 => rd_bind h1 r1 re1 fun m2 w y e2 r2 re2 hw h2 => ?_
  have part : ∀ {lo : Ex} {w : Val} {y : V} {m2 : M} {l : Option Int}, RepV K m2 w y → partE lo w = some l → (isNon lo = true ∧ l = none) ∨ (isNon lo = false ∧ ∃ i, y = .int i ∧ l = some i) := fun {lo w y m2 l} hw e => by
    cases hn : isNon lo with
    | true => exact .inl ⟨rfl, partE_none hn e⟩
    | false =>
      obtain ⟨i, rfl, rfl⟩ := partE_some hn e
      cases hw
      exact .inr ⟨rfl, i, rfl, rfl⟩
  cases el : partE lo w with
  | none =>
    refine absurd h2 ?_
    intro h2
    cases eh : evalE cf hi env m2.st with
    | ok z st3 => rw [eh, R.bind_ok, el] at h2; exact h2
    | _ => rw [eh] at h2; exact h2
  | some l =>
    refine ⟨l, rd_bind h2 r2 re2 fun m3 z t e3 r3 re3 hz h3 => ?_, part hw el⟩
    rw [el] at h3
    cases eh : partE hi z with
    | none => rw [eh] at h3; exact h3.elim
    | some u =>
      rw [eh] at h3
      refine ⟨u, ⟨m3, v, rfl, r3, (hv.mono e2).mono e3, ?_⟩, part hz eh⟩
      exact h3
theorem r_bi {b : Bi} {lv : Bool} {es : Exs} (h : rdE K cf (.bi b lv es) σ H Q) : tCB (rBi K b lv) (rdEs K cf es) σ H Q := by
  obtain ⟨m, env, rfl, r, re, h⟩ := h
  simp only [evalE] at h
  exact rds_bind h r re fun m1 v x e1 r1 re1 hv h1 => ⟨m1, v, rfl, r1, hv, h1⟩
theorem r_mth {mt : Mt} {lv : Bool} {o : Ex} {es : Exs} (hm : mtOk mt = true) (h : rdE K cf (.mth mt lv o es) σ H Q) : tBM K "list" (rMt K mt lv) (rdE K cf o) (rdEs K cf es) σ H Q := by
  obtain ⟨m, env, rfl, r, re, h⟩ := h
  simp only [evalE] at h
  refine rd_bind h r re fun m1 v x e1 r1 re1 hv h1 => ?_
  cases ec : mthOk mt v m1.st with
  | false => rw [ec] at h1; exact h1.elim
  | true =>
    rw [ec] at h1
    refine ⟨?_, rds_bind h1 r1 re1 fun m2 vs ys e2 r2 re2 hvs h2 => ⟨m2, v, vs, rfl, r2, hv.mono e2, hvs, h2⟩⟩
    have : ∃ i xs, v = .ref i ∧ m1.st[i]? = some (.lst xs) := by
      cases mt <;> first
        | (cases hm; done)
        | (cases v <;> first
            | (simp only [mthOk] at ec; cases ec; done)
            | (rename_i i
               simp only [mthOk] at ec
               split at ec
               · exact ⟨i, _, rfl, by assumption⟩
               · cases ec))
    obtain ⟨i, xs, rfl, e⟩ := this
    obtain ⟨a, ws, rfl, _, h3, _⟩ := ref_lst r1 hv e
    exact .inl ⟨rfl, ws, .inl (.inl h3)⟩
end
end Co

set_option Elab.async false
set_option linter.all false
set_option maxRecDepth 100000
set_option maxHeartbeats 16000000
/-! Co11: dict displays, what is walked, comprehensions, built-ins, methods: every checked expression. -/
namespace Co
open PySem PySem.Spec L2

/-! ### displays -/
section
variable {K : PySem.W.Frag} {cf : CF}
def pairsT (K : PySem.W.Frag) (cf : CF) : List Key → Exs → List (TE × TE)
  | k :: ks, .cons x es => (tC (kV k), rdE K cf x) :: pairsT K cf ks es
  | _, _ => []
theorem pairs_ok : ∀ (ks : List Key) (es : Exs) {m : M} {env : Ev} {σ : L2.St} {vs : List Val} {st' : Store} {G : List (V × V) → Hp → Prop}, ks.length = exsLen es → RelS K m → RelEnv K m env σ → evalEs cf es env m.st = .ok vs st' →
    (∀ (m' : M) (xs : List V), Ext m m' → m'.st = st' → RelS K m' → RepVs K m' vs xs → G ((ks.map kV).zip xs) m'.H) → tPairs (pairsT K cf ks es) σ m.H G
  | [], .nil, m, env, σ, vs, st', G, _, r, re, he, k => by
    simp only [evalEs, R.ok.injEq] at he
    obtain ⟨rfl, e⟩ := he
    exact k m [] (Ext.refl m) e r .nil
  | [], .cons _ _, _, _, _, _, _, _, hl, _, _, _, _ => by simp [exsLen] at hl
  | _ :: _, .nil, _, _, _, _, _, _, hl, _, _, _, _ => by simp [exsLen] at hl
  | key :: ks, .cons x es, m, env, σ, vs, st', G, hl, r, re, he, k => by
    simp only [evalEs] at he
    show tC (kV key) σ m.H fun x0 H1 => rdE K cf x σ H1 fun y H2 => tPairs (pairsT K cf ks es) σ H2 fun ps H3 => G ((x0, y) :: ps) H3
    show rdE K cf x σ m.H fun y H2 => tPairs (pairsT K cf ks es) σ H2 fun ps H3 => G ((kV key, y) :: ps) H3
    refine ⟨m, env, rfl, r, re, ?_⟩
    cases ex : evalE cf x env m.st with
    | ok v st1 =>
      rw [ex, R.bind_ok] at he
      intro m1 y es1 e1 r1 hv
      subst es1
      cases eq : evalEs cf es env m1.st with
      | ok ws st2 =>
        rw [eq, R.bind_ok] at he
        simp only [R.ok.injEq] at he
        obtain ⟨rfl, rfl⟩ := he
        refine pairs_ok ks es (by simpa [exsLen] using hl) r1 (re.mono e1) eq fun m2 xs e2 es2 r2 hvs => ?_
        exact k m2 (y :: xs) (e1.trans e2) es2 r2 (.cons (hv.mono e2) hvs)
      | exc c xs st => rw [eq] at he; cases he
      | stuck => rw [eq] at he; cases he
    | exc c xs st => rw [ex] at he; cases he
    | stuck => rw [ex] at he; cases he
theorem putK_new {kvs : List (Key × V)} {k : Key} {v : V} (h : k ∉ kvs.map (·.1)) : putK kvs k v = kvs ++ [(k, v)] := by
  unfold putK
  rw [if_neg]
  intro q
  obtain ⟨p, hp, e⟩ := List.any_eq_true.mp q
  exact h (List.mem_map.mpr ⟨p, hp, by simpa using e⟩)
theorem merge_new : ∀ {more kvs : List (Key × V)}, ((kvs ++ more).map (·.1)).Nodup → mergeK kvs more = kvs ++ more
  | [], kvs, _ => by simp [mergeK]
  | p :: more, kvs, h => by
    have h1 : p.1 ∉ kvs.map (·.1) := by
      rw [List.map_append, List.nodup_append] at h
      exact fun z => h.2.2 _ z _ (by simp) rfl
    show mergeK (putK kvs p.1 p.2) more = _
    rw [putK_new h1, merge_new (by simpa using h)]
    simp
theorem zip_kv : ∀ (ks : List Key) (xs : List V), xs.length = ks.length → (ks.map kV).zip xs = (ks.zip xs).map (fun kv => (kV kv.1, kv.2)) ∧ (ks.zip xs).map (·.1) = ks ∧ (ks.zip xs).map (·.2) = xs
  | [], [], _ => ⟨rfl, rfl, rfl⟩
  | k :: ks, x :: xs, h => by
    obtain ⟨h1, h2, h3⟩ := zip_kv ks xs (by simpa using h)
    refine ⟨by simp [h1], by simp [h2], by simp [h3]⟩
  | [], _ :: _, h => by simp at h
  | _ :: _, [], h => by simp at h
theorem r_dct {lv : Bool} {ks : List Key} {es : Exs} {σ : L2.St} {H : Hp} {Q : VK} (hk : ks.length = exsLen es) (h15 : ks.length ≤ 15) (nd : ks.Nodup) (h : rdE K cf (.dct lv ks es) σ H Q) : tDisp (pairsT K cf ks es) σ H Q := by
  obtain ⟨m, env, rfl, r, re, h⟩ := h
  simp only [evalE] at h
  cases he : evalEs cf es env m.st with
  | exc c xs st => rw [he] at h; exact h.elim
  | stuck => rw [he] at h; exact h.elim
  | ok vs st' =>
    rw [he, R.bind_ok] at h
    intro p hp
    have ns : ¬ HO.still (.dK []) := fun z => z
    have r0 := r.held hp (o := .dK []) ns
    have k0 := Keep.held r hp (.dK [])
    have re0 : RelEnv K ((m.write p (.dK [])).give (p :: m.hd)) env σ := ⟨re.len, fun j u hj => let ⟨z, z1, z2⟩ := re.at_ j u hj; ⟨z, z1, z2.kept k0⟩⟩
    refine pairs_ok ks es (m := (m.write p (.dK [])).give (p :: m.hd)) hk r0 re0 he fun m2 xs e2 es2 r2 hvs => ?_
    have ex0 : Ext m (((m.write p (.dK [])).give (p :: m.hd)).give m.hd) := Ext.new r hp (.dK [])
    have hh : m2.hd = p :: m.hd := e2.hd
    have ex : Ext m (m2.give m.hd) := ex0.through rfl hp e2
    have hin : p ∈ ((m.write p (.dK [])).give (p :: m.hd)).hd := List.mem_cons_self ..
    have hD : m2.H p = some (.dK []) := (e2.hold p hin).trans upd_same
    have hs1 : ∀ b ∈ m.hd, b ∈ m2.hd := fun b hb => by rw [hh]; exact List.mem_cons_of_mem _ hb
    have hs2 : p ∈ m2.hd := by rw [hh]; exact List.mem_cons_self ..
    have hs3 : p ∉ m.hd := r.freshH hp
    have lx : xs.length = ks.length := by rw [hvs.length, evalEs_len es he, hk]
    obtain ⟨z1, z2, z3⟩ := zip_kv ks xs lx
    refine ⟨hD, ks.zip xs, z1, by rw [List.length_zip]; omega, ?_⟩
    rw [merge_new (kvs := []) (by rw [List.nil_append, z2]; exact nd), List.nil_append]
    -- written
    have rw' := r2.write hs2 (o := .dK (ks.zip xs)) (fun z => z)
    have kw := Keep.write r2 hs2 (.dK (ks.zip xs))
    have exw : Ext m ((m2.write p (.dK (ks.zip xs))).give m.hd) := Ext.wrote r ex hp _
    have hv2 := hvs.kept kw
    subst es2
    cases lv with
    | false =>
      refine h ((m2.write p (.dK (ks.zip xs))).give m.hd) (.ref p) rfl exw (rw'.give hs1) (.dct (kvs := ks.zip xs) upd_same (fun l => ?_) z2 (by rw [z3]; exact hv2.kept (Keep.give (m := m2.write p (.dK (ks.zip xs))) hs1)))
      rcases l with l | ⟨j, c, q1, _, _⟩
      · exact hs3 l
      · exact (r2.hd p hs2).2 (List.mem_of_getElem? q1)
    | true =>
      have ka := Keep.adopt rw' (D := p) (.dct ks vs) (h := m.hd) hs2 hs1
      refine h ((m2.write p (.dK (ks.zip xs))).adopt p (.dct ks vs) m.hd) (.ref p) rfl (Ext.adopted rw' exw hh hp _) (rw'.adopt hs2 hs1 hs3 (.dct (kvs := ks.zip xs) upd_same z2 (by rw [z3]; exact hv2.kept ka))) (.ref ?_)
      show (m2.ρ ++ [p])[m2.st.length]? = some p
      rw [← r2.len, List.getElem?_append_right (Nat.le_refl _)]
      simp
end

/-! ### what is walked -/
section
variable {K : PySem.W.Frag} {cf : CF} {σ : L2.St} {H : Hp} {Rw : L2.It → Hp → Prop}
theorem r_seq {x : Ex} (h : rdI K cf (.seq x) σ H Rw) : iSeq K (rdE K cf x) σ H Rw := by
  obtain ⟨m, env, rfl, r, re, h⟩ := h
  simp only [evalI] at h
  refine rdi_bind h r re fun m1 v y e1 r1 re1 hv h1 => ?_
  cases hv with
  | tup a b => exact ⟨_, rfl, .inr ⟨⟨_, a⟩, h1 m1 _ rfl (Ext.refl m1) r1 (itt_ok a b)⟩⟩
  | lst a b c => exact ⟨_, rfl, .inl ⟨⟨_, .inl (.inl a)⟩, h1 m1 _ rfl (Ext.refl m1) r1 (itl_ok a b c)⟩⟩
  | _ => exact h1.elim
theorem r_rng1 {x : Ex} (h : rdI K cf (.rng1 x) σ H Rw) : iRng1 (rdEs K cf (.cons x .nil)) σ H Rw := by
  obtain ⟨m, env, rfl, r, re, h⟩ := h
  simp only [evalI] at h
  show rdEs K cf (.cons x .nil) σ m.H _
  refine ⟨m, env, rfl, r, re, ?_⟩
  simp only [evalEs]
  cases ex : evalE cf x env m.st with
  | exc c xs st => rw [ex] at h; exact h.elim
  | stuck => rw [ex] at h; exact h.elim
  | ok v st1 =>
    rw [ex, R.bind_ok] at h
    rw [R.bind_ok, R.bind_ok]
    intro m1 ys es1 e1 r1 hv
    subst es1
    obtain ⟨y, rfl, hz⟩ := one_rep hv
    clear hv
    cases v with
    | int n =>
      simp only at h
      split at h
      · rename_i hn
        cases hz
        exact ⟨n, rfl, by omega, by omega, h m1 _ rfl e1 r1 itr_ok⟩
      · exact h.elim
    | _ => exact h.elim
theorem r_rng2 {x x' : Ex} (h : rdI K cf (.rng2 x x') σ H Rw) : iRng2 (rdEs K cf (.cons x (.cons x' .nil))) σ H Rw := by
  obtain ⟨m, env, rfl, r, re, h⟩ := h
  simp only [evalI] at h
  show rdEs K cf (.cons x (.cons x' .nil)) σ m.H _
  refine ⟨m, env, rfl, r, re, ?_⟩
  simp only [evalEs]
  cases ex : evalE cf x env m.st with
  | exc c xs st => rw [ex] at h; exact h.elim
  | stuck => rw [ex] at h; exact h.elim
  | ok v st1 =>
    rw [ex, R.bind_ok] at h
    rw [R.bind_ok]
    cases ex2 : evalE cf x' env st1 with
    | exc c xs st => rw [ex2] at h; exact h.elim
    | stuck => rw [ex2] at h; exact h.elim
    | ok w st2 =>
      rw [ex2, R.bind_ok] at h
      rw [R.bind_ok, R.bind_ok, R.bind_ok]
      intro m1 ys es1 e1 r1 hv
      subst es1
      obtain ⟨y, y', rfl, hz, hw⟩ := two_rep hv
      clear hv
      split at h
      · rename_i i j
        split at h
        · rename_i hn
          cases hz; cases hw
          exact ⟨i, j, rfl, ⟨by omega, by omega, by omega, by omega⟩, h m1 _ rfl e1 r1 itr_ok⟩
        · exact h.elim
      · exact h.elim
theorem r_enm {x : Ex} (h : rdI K cf (.enm x) σ H Rw) : iEnumA K (rdEs K cf (.cons x .nil)) σ H Rw := by
  obtain ⟨m, env, rfl, r, re, h⟩ := h
  simp only [evalI] at h
  show rdEs K cf (.cons x .nil) σ m.H _
  refine ⟨m, env, rfl, r, re, ?_⟩
  simp only [evalEs]
  cases ex : evalE cf x env m.st with
  | exc c xs st => rw [ex] at h; exact h.elim
  | stuck => rw [ex] at h; exact h.elim
  | ok v st1 =>
    rw [ex, R.bind_ok] at h
    rw [R.bind_ok, R.bind_ok]
    intro m1 ys es1 e1 r1 hv
    subst es1
    obtain ⟨y, rfl, hz⟩ := one_rep hv
    clear hv
    cases hz with
    | tup a b => exact ⟨_, _, rfl, .inr ⟨a, h m1 _ rfl e1 r1 (itE_ok a b)⟩⟩
    | lst a b c => exact ⟨_, _, rfl, .inl ⟨.inl (.inl a), h m1 _ rfl e1 r1 (ite_ok a b c)⟩⟩
    | _ => exact h.elim
end
end Co

set_option Elab.async false
set_option linter.all false
set_option maxRecDepth 100000
set_option maxHeartbeats 32000000
/-! Co12: every checked expression is what the small language says. -/
namespace Co
open PySem PySem.Spec L2

section
variable {G : GI} {N : List Str} {n : Nat} {cf : CF} {X : Cx} {sc : Scope}
theorem CtxOk.u1 (c : CtxOk G N n cf X sc) : X.A.units + 1 < cLine := by have := c.room.un; omega
theorem CtxOk.u64 (c : CtxOk G N n cf X sc) : X.A.units + 64 < cLine := by have := c.room.un; omega
theorem CtxOk.u66 (c : CtxOk G N n cf X sc) : X.A.units + 66 < cLine := by have := c.room.un; omega
theorem chkEs_len : ∀ (es : Exs) (as : List Expr), chkEs G N es sc as = true → exsLen es = as.length
  | .nil, [], _ => rfl
  | .nil, _ :: _, h => by simp [chkEs] at h
  | .cons _ _, [], h => by simp [chkEs] at h
  | .cons x xs, e :: es, h => by
    simp only [chkEs, Bool.and_eq_true] at h
    show exsLen xs + 1 = _
    rw [chkEs_len xs es h.2]; rfl
theorem chkEs_fine : ∀ (es : Exs) (as : List Expr), chkEs G N es sc as = true → ∀ e ∈ as, fineE e = true
  | .nil, [], _, _, hm => nomatch hm
  | .nil, _ :: _, h, _, _ => by simp [chkEs] at h
  | .cons _ _, [], h, _, _ => by simp [chkEs] at h
  | .cons x xs, e :: es, h, e', hm => by
    simp only [chkEs, Bool.and_eq_true] at h
    rcases List.mem_cons.mp hm with rfl | hm
    · exact chkE_fine h.1
    · exact chkEs_fine xs es h.2 e' hm
/-- and, or: the test looks at no whole -/
theorem pw_bool {op : BoolOp} {vs : List Expr} {p : Pos} {t : TT} (h : PT X (.BoolOp op vs p) t) : PW X (.BoolOp op vs p) t := ⟨fun _ pins s σ H Q I q => h.run pins s σ H Q I q⟩
theorem pt_ifE {c a b : Expr} {pos : Pos} {tA ta tb : TT} (hc : PT X c tA) (ha : PT X a ta) (hb : PT X b tb) : PT X (.IfExp c a b pos) (fun σ H Q => tA σ H fun c H1 => if c = true then ta σ H1 Q else tb σ H1 Q) := by
  refine ⟨fun pins s σ H Q I h => ?_⟩
  refine PyProof.Rows.isTrue_IfExp (thn (hc.run pins s σ H _ I h) fun d s1 ⟨H1, I1, q1⟩ => ?_)
  cases d with
  | true => exact ha.run pins s1 σ H1 Q I1 q1
  | false => exact hb.run pins s1 σ H1 Q I1 q1
theorem few_args {cpos : Pos} {env : PySem.Env} {as : List Expr} (hf : ∀ e ∈ as, fineE e = true) (hl : as.length ≤ 2) :
    ((backTo cpos (starEach as env)).all (fun x => !x.1) && (backToKw cpos (keywordEach [] env)).all (fun x => x.1.isSome) && decide (as.length + ([] : List Keyword).length + (if ([] : List Keyword).isEmpty then 0 else 1) < 30)) = true := by
  rw [stars_all hf]
  show (true && true && decide (as.length + 0 + 0 < 30)) = true
  simp only [Bool.and_true, Bool.true_and, decide_eq_true_eq]
  omega
theorem biName_in (b : Bi) : biName b ∈ bltNames := by cases b <;> (simp only [biName]; decide)
theorem biName_ok (b : Bi) : okN (biName b) = true := by cases b <;> (simp only [biName]; decide)
theorem starC {env : PySem.Env} {es : List Expr} {e : Expr} (h : fineE e = true) : starEach (e :: es) env = (false, eval e env) :: starEach es env := star_cons h es env
/-- a call of a built-in -/
theorem bi_ok (c : CtxOk G N n cf X sc) {b : Bi} {lv : Bool} {es : Exs} {p pos : Pos} {e : Expr} {as : List Expr} (hb : biOk b = true) (hi : ∀ t, b ≠ .isin t) (hg : isGl sc (biName b) = true) (hf : ∀ a ∈ e :: as, fineE a = true) (ha : PA X (e :: as) (rdEs X.K cf es)) :
    PE X (.Call (.Name (biName b) p) (e :: as) [] pos) (rdE X.K cf (.bi b lv es)) := by
  obtain ⟨n1, n2, n3⟩ := okN_of (biName_ok b)
  have hgl := isGl_of c.eS hg
  have hm := c.blt _ (biName_in b)
  have hse := star_cons (hf e (List.mem_cons_self ..)) as X.env
  have hpl : (backTo pos (starEach as X.env)).any (·.1) = false := stars_any fun a h => hf a (List.mem_cons_of_mem _ h)
  have B : ∀ {id : String}, CallR X (.builtin id) (rBi X.K b lv) → bootBuiltins (biName b) = some (.builtin id) → PE X (.Call (.Name (biName b) p) (e :: as) [] pos) (rdE X.K cf (.bi b lv es)) := fun h hv =>
    PE.imp (pe_callB h hgl hm hv ha n3 n1 hse hpl) fun _ _ _ q => r_bi q
  have T : ∀ {id : String}, CallR X (.type id) (rBi X.K b lv) → bootBuiltins (biName b) = some (.type id) → PE X (.Call (.Name (biName b) p) (e :: as) [] pos) (rdE X.K cf (.bi b lv es)) := fun h hv =>
    PE.imp (pe_callTy h hgl hm hv ha n3 n1 hse hpl) fun _ _ _ q => r_bi q
  cases b with
  | len => exact B (bi_len lv) (by decide +kernel)
  | tuple => exact T (bi_tuple lv) (by decide +kernel)
  | list => exact T (bi_list lv) (by decide +kernel)
  | sum => exact B (bi_sum c.calm lv) (by decide +kernel)
  | any => exact B (bi_any c.calm lv) (by decide +kernel)
  | all => exact B (bi_all c.calm lv) (by decide +kernel)
  | sorted => exact B (bi_sorted lv) (by decide +kernel)
  | min2 => exact B (bi_min2 c.calm lv) (by decide +kernel)
  | int => exact T (bi_int lv) (by decide +kernel)
  | str => exact T (bi_str lv) (by decide +kernel)
  | repr => exact B (bi_repr c.gd c.u66 lv) (by decide +kernel)
  | isin t => exact absurd rfl (hi t)
  | max2 => exact B (bi_max2 c.calm lv) (by decide +kernel)
  | max1 => exact B (bi_max1 c.calm lv) (by decide +kernel)
  | abs => exact B (bi_abs lv) (by decide +kernel)
  | min1 => exact B (bi_min1 c.calm lv) (by decide +kernel)
  | sset => cases hb
theorem tyName_ok (t : Ty) (h : bltNames.contains (tyName t) = true) : t ≠ .none ∧ okN (tyName t) = true ∧ bootBuiltins (tyName t) = some (.type (tyT t)) := by
  cases t with
  | none => exact absurd h (by decide)
  | _ => exact ⟨by simp, by decide, by decide +kernel⟩
theorem r_isin {t : Ty} {lv : Bool} {x : Ex} {σ : L2.St} {H : Hp} {Q : VK} (h : rdE X.K cf (.bi (.isin t) lv (.cons x .nil)) σ H Q) :
    tCB (fun xs H Q => ∃ x, xs = [x, .ty (tyT t)] ∧ rBi X.K (.isin t) lv [x] H Q) (tCons (rdE X.K cf x) (tCons (tC (.ty (tyT t))) tNil)) σ H Q := by
  obtain ⟨m, env, rfl, r, re, h⟩ := h
  simp only [evalE, evalEs, R.bind_assoc, R.bind_ok] at h
  exact rd_bind h r re fun m1 v y e1 r1 re1 hv h1 => ⟨y, rfl, m1, [v], rfl, r1, .cons hv .nil, h1⟩
theorem isin_ok (c : CtxOk G N n cf X sc) {t : Ty} {lv : Bool} {x : Ex} {p pos q : Pos} {a : Expr} (hg : isGl sc "isinstance" = true) (ht : bltNames.contains (tyName t) = true) (hgt : isGl sc (tyName t) = true) (hf : fineE a = true) (ha : PE X a (rdE X.K cf x)) :
    PE X (.Call (.Name "isinstance" p) [a, .Name (tyName t) q] [] pos) (rdE X.K cf (.bi (.isin t) lv (.cons x .nil))) := by
  obtain ⟨h1, h2, h3⟩ := tyName_ok t ht
  obtain ⟨n1, n2, n3⟩ := okN_of h2
  have hpt : PE X (.Name (tyName t) q) (tC (.ty (tyT t))) := pe_bltn (isGl_of c.eS hgt) (c.blt _ (List.contains_iff_mem.mp ht)) h3 rfl n3 n1
  refine PE.imp (pe_callB (bi_isin t h1 lv) (isGl_of c.eS hg) (c.blt _ (by decide)) (by decide +kernel) (pa_cons ha (pa_cons hpt pa_nil rfl) (star_cons hf _ _)) (by decide) (by decide) (star_cons hf _ _) rfl) fun _ _ _ q => r_isin q
/-- a method of a list -/
theorem mth_ok (c : CtxOk G N n cf X sc) {mt : Mt} {lv : Bool} {o : Ex} {es : Exs} {o' : Expr} {ap cp : Pos} {as : List Expr} (hm : mtOk mt = true) (hp : plainO o' = true) (hl : (ap.endLine == cp.line) = true) (hn : as.length = mtAr mt) (hle : exsLen es = as.length) (ho : PE X o' (rdE X.K cf o)) (hf : ∀ a ∈ as, fineE a = true)
    (ha : PA X as (rdEs X.K cf es)) : PE X (.Call (.Attribute o' (mtName mt) ap) as [] cp) (rdE X.K cf (.mth mt lv o es)) := by
  have hb : ∀ nm, attributeBase o' nm X.env (eval o' X.env) = eval o' X.env := by
    intro nm
    cases o' <;> first | rfl | cases hp
  have one : ∀ {id : String}, Slot "list" (mtName mt) id → typeOf (.builtin id) = pure (.type "method_descriptor") → MtR X id (rMt X.K mt lv) → mtAr mt = 1 → PE X (.Call (.Attribute o' (mtName mt) ap) as [] cp) (rdE X.K cf (.mth mt lv o es)) := fun {id} slot ty h har => by
    match as, hn, hf, ha with
    | [], hn, _, _ => rw [har] at hn; cases hn
    | [a], hn, hf, ha =>
      exact PE.imp (pe_bm F.plainAttrs_list slot ty h ho ha (hb _) (few_args hf (by simp)) hl (star_cons (hf a (List.mem_cons_self ..)) _ _) (stars_any fun e he => nomatch he)) fun _ _ _ q => r_mth hm q
    | _ :: _ :: _, hn, _, _ => rw [har] at hn; simp at hn
  cases mt with
  | append => exact one F.slot_list_append F.type_list_append (mt_app lv) rfl
  | extend => exact one F.slot_list_extend F.type_list_extend (mt_ext lv) rfl
  | popAt => exact one F.slot_list_pop F.type_list_pop (mt_ppAt lv) rfl
  | pop =>
    match as, hn, ha with
    | [], _, ha =>
      refine PE.imp (pe_bm0 F.plainAttrs_list F.slot_list_pop F.type_list_pop (mt_pp lv) ho (hb _) hl) fun σ H Q q => ?_
      have e0 : es = .nil := by
        cases es with
        | nil => rfl
        | cons _ _ => simp [exsLen] at hle
      subst e0
      obtain ⟨m, env, rfl, r, re, h⟩ := r_mth hm q
      refine ⟨m, env, rfl, r, re, ?_⟩
      cases eo : evalE cf o env m.st with
      | ok v st1 =>
        rw [eo] at h
        intro m1 x es e1 r1 hv
        obtain ⟨h1, h2⟩ := h m1 x es e1 r1 hv
        exact ⟨h1, r_nil h2⟩
      | exc c xs st => rw [eo] at h; exact h.elim
      | stuck => rw [eo] at h; exact h.elim
    | _ :: _, hn, _ => simp [mtAr] at hn
  | index => cases hm
  | insert => cases hm
  | get => cases hm
end
end Co

set_option Elab.async false
set_option linter.all false
set_option maxRecDepth 100000
set_option maxHeartbeats 4000000
/-! CoS: set(list of ints), sorted(set(..)), list and tuple of a range. -/
namespace CoS
open PySem PySem.Spec PyProof.Rows L2
section
variable {P : Program} {w : World} {A : Around} {E : Value → Shared → Prop} {s : Shared}
set_option maxHeartbeats 6400000 in
theorem call_set_lstI {l : Addr} {items : Array Value} (ns : List Int) {Q : Value → Shared → Prop} (hh : A.handled = none) (hl : s.heap.IsList l items) (hit : IntsAre items.toList ns) (hb : ns.length + 1 < scanBound)
    (h : ∀ (h' : Heap) (tk c : Nat), SetR w h' s.heap.objs.size (fun j => decide (j ∈ ns)) c → c ≤ ns.length → (∀ b o, s.heap.get? b = some o → h'.get? b = some o) → Q (.ref s.heap.objs.size) { s with heap := h', toks := tk }) :
    wpAny (model P w) A (call (.type "set") [.ref l]) Q E s := by
  have hisz : items.size = ns.length := by
    have q := IntsAre.length hit
    rw [Array.length_toList] at q
    exact q
  obtain ⟨c, tl, hmro⟩ := F.called_set.mro
  have hmade := F.called_set.made
  have hsub := F.called_set.sub
  refine wpAny_call (codeAny_of_tree ?_)
  show wpAny _ _ (callAny (.type "set") _) _ _ _
  refine wpAny_pure ⟨Code.quiet_builtin _ (by decide +kernel), codeAny_builtin F.entry_type_call ?_⟩
  rw [Around.under_plain (weight_type_call_type "set" [.ref l] []) rfl]
  have h1 := F.called_set.notType
  have h2 := F.called_set.canCreate
  have hct := F.typeCall_set_1 (.ref l)
  repeat (any_goals (first | assumption | wp_step))

  refine codeAny_mono (code_set_led1 (.ref l) (E := E) (Q₁ := fun obj s₁ => obj = .ref s.heap.objs.size ∧ s₁ = { s with heap := s.heap.push { cls := .type "set", dict := none, data := .set #[] 0 (.fresh 0 0 (!w.params.followText "set-order")) } }) ⟨rfl, rfl⟩) fun r s₁ hr => ?_
  cases r with
  | error e => exact hr
  | ok fl =>
    cases fl with
    | ret obj =>
      obtain ⟨rfl, rfl⟩ := hr
      have hS : (s.heap.push { cls := .type "set", dict := none, data := .set #[] 0 (.fresh 0 0 (!w.params.followText "set-order")) }).get? s.heap.objs.size = some { cls := .type "set", dict := none, data := .set #[] 0 (.fresh 0 0 (!w.params.followText "set-order")) } := Heap.get?_push_size _ rfl
      have hT : Shared.TypeIs { s with heap := s.heap.push { cls := .type "set", dict := none, data := .set #[] 0 (.fresh 0 0 (!w.params.followText "set-order")) } } (.ref s.heap.objs.size) "set" := ⟨_, hS, rfl⟩
      have hli := F.called_set.init.lookup
      have hbi := F.called_set.init.bind (.ref s.heap.objs.size)
      repeat (any_goals (first | assumption | wp_step))

      refine codeAny_mono (codeAny_call_builtin (R := wants (fun r s₂ => r = .none ∧ ∃ h' tk c, s₂ = { s with heap := h', toks := tk } ∧ SetR w h' s.heap.objs.size (fun j => decide (j ∈ ns)) c ∧ c ≤ ns.length ∧
          (∀ b o, s.heap.get? b = some o → h'.get? b = some o)) E) F.called_set.init.plain F.entry_set_init (check_set_init_1 hT ?_)) fun r₂ s₂ hr₂ => ?_
      · obtain ⟨ol, hol, hcl, nl, hdl⟩ := hl
        obtain ⟨ocls, odict, odata, oslots⟩ := ol
        simp only at hcl hdl
        subst hcl; subst hdl
        have hol' : (s.heap.push { cls := .type "set", dict := none, data := .set #[] 0 (.fresh 0 0 (!w.params.followText "set-order")) }).get? l = some { cls := .type "list", dict := odict, data := .seq items nl, slots := oslots } := Heap.get?_push_of_some _ hol
        have hsls := F.sub_list_set
        have hslf := F.sub_list_frozenset
        have hne : (Value.type "tuple" == Value.type "dict") = false := by decide
        have hl1 : (s.heap.push { cls := .type "set", dict := none, data := .set #[] 0 (.fresh 0 0 (!w.params.followText "set-order")) }).IsList l items := ⟨_, hol', rfl, nl, rfl⟩
        unfold Builtin.«set.__init__» noKeywords Builtin.Frozenset.updateFrom
        generalize hPI : pyIter = PI
        wp_walk
        subst hPI

        refine wpAny_pyIter_list hl1 ?_
        refine wpAny_bind (wpAny_runValue ?_)
        have hlS : l < s.heap.objs.size := Heap.lt_size hol
        have hh3 : A.in1.in1.in1.handled = none := by simp [hh]
        have hz1 : (s.heap.push { cls := .type "set", dict := none, data := .set #[] 0 (.fresh 0 0 (!w.params.followText "set-order")) }).objs.size = s.heap.objs.size + 1 := Heap.size_push ..
        have hneI : l ≠ (s.heap.push { cls := .type "set", dict := none, data := .set #[] 0 (.fresh 0 0 (!w.params.followText "set-order")) }).objs.size := by
          rw [Heap.size_push]; exact Nat.ne_of_lt (Nat.lt_succ_of_lt hlS)
        have hSf : s.heap.objs.size ∉ [(s.heap.push { cls := .type "set", dict := none, data := .set #[] 0 (.fresh 0 0 (!w.params.followText "set-order")) }).objs.size, l] := by
          rw [Heap.size_push]; simp only [List.mem_cons, List.mem_singleton, List.not_mem_nil, or_false, not_or]
          exact ⟨Nat.ne_of_lt (Nat.lt_succ_self _), Nat.ne_of_gt hlS⟩
        have hval : ∀ (i : Nat) (v : Value), items[i]? = some v → ∃ k t, ns[i]? = some k ∧ v = .int k t := fun i v hv => by
          have hi : i < ns.length := by rw [← hisz]; exact (Array.getElem?_eq_some_iff.mp hv).1
          obtain ⟨t, e⟩ := PyProof.Rows.IntsAre.int_at hit i v (by rw [Array.getElem?_toList]; exact hv)
          refine ⟨ns[i], t, List.getElem?_eq_getElem hi, ?_⟩
          rw [e, List.getD_eq_getElem?_getD, List.getElem?_eq_getElem hi] <;> rfl
        refine set_update_ints ((Walks.list hh3 _ l hneI items).toS) s.heap.objs.size
          hSf ns hisz hb hval (items.size - 0) 0 _ (by omega) (Nat.zero_le _)
          ⟨⟨_, Heap.get?_push_size _ rfl, rfl, rfl⟩, (hl1.push _)⟩ ?hS0 ?hR
        case hS0 =>
          have hget : ((s.heap.push { cls := .type "set", dict := none, data := .set #[] 0 (.fresh 0 0 (!w.params.followText "set-order")) }).push { cls := .type "list_iterator", data := .fields #[.ref l, .int 0 0] }).get? s.heap.objs.size
              = some { cls := .type "set", dict := none, data := .set #[] 0 (.fresh 0 0 (!w.params.followText "set-order")) } := Heap.get?_push_of_some _ hS
          exact ⟨0, Nat.le_refl 0, setR_new_at hget⟩
        case hR =>
          intro s' c' hm hc' hS'
          obtain ⟨h', g2, d', tk', os'⟩ := s'
          have eg : g2 = s.gens := hm.gens
          have ed : d' = s.drawn := hm.drawn
          have eo : os' = s.os := hm.os
          subst eg; subst ed; subst eo
          show wpAny _ _ _ _ _ _
          refine wpAny_pure ?_
          show wpAny _ _ (ret Value.none) _ _ _
          rw [hisz] at hc'
          refine wpAny_pure ⟨rfl, h', tk', c', rfl, hS', hc', fun b o e => ?_⟩
          have hb0 : b < s.heap.objs.size := Heap.lt_size e
          have hb1 : b ≠ s.heap.objs.size := Nat.ne_of_lt hb0
          have hb2 : b ≠ (s.heap.push { cls := .type "set", dict := none, data := .set #[] 0 (.fresh 0 0 (!w.params.followText "set-order")) }).objs.size := by
            rw [Heap.size_push]; exact Nat.ne_of_lt (Nat.lt_succ_of_lt hb0)
          exact hm.heap b o (by simp only [List.mem_cons, List.mem_singleton, List.not_mem_nil, or_false, not_or]; exact ⟨hb1, hb2⟩) (Heap.get?_push_of_some _ (Heap.get?_push_of_some _ e))

      · cases r₂ with
        | error e => exact hr₂
        | ok fl₂ =>
          cases fl₂ with
          | ret r =>
            obtain ⟨rfl, h', tk, c', rfl, hS', hc', hk'⟩ := hr₂
            repeat (any_goals (first | assumption | wp_step))
            exact h _ _ _ hS' hc' hk'
          | _ => exact hr₂.elim
    | _ => exact hr.elim
end
end CoS
namespace Co
open PySem PySem.Spec L2
theorem dedup_mem (k : Int) : ∀ l : List Int, k ∈ dedup l ↔ k ∈ l
  | [] => Iff.rfl
  | x :: r => by
    have ih := dedup_mem k r
    unfold dedup
    split
    · rename_i hx
      rw [ih, List.mem_cons]
      exact ⟨.inr, fun h => h.elim (fun e => e ▸ hx) id⟩
    · rw [List.mem_cons, List.mem_cons, ih]
theorem dedup_nodup : ∀ l : List Int, (dedup l).Nodup
  | [] => List.nodup_nil
  | x :: r => by
    unfold dedup
    split
    · exact dedup_nodup r
    · rename_i hx
      exact List.nodup_cons.mpr ⟨fun h => hx ((dedup_mem x r).mp h), dedup_nodup r⟩
theorem lt_nodup : ∀ {l : List Int}, l.Pairwise (· < ·) → l.Nodup := fun h => h.imp fun hab e => by omega
theorem sort_dedup {ns l : List Int} (h : ns.Pairwise (· < ·)) (hm : ∀ k : Int, k ∈ ns ↔ k ∈ l) : ns = sortI (dedup l) := by
  refine sort_one ?_ (h.imp fun hab => by omega) (sortI_le _)
  refine List.Perm.trans ?_ (sortI_perm _).symm
  exact (List.perm_ext_iff_of_nodup (lt_nodup h) (dedup_nodup l)).mpr fun a => (hm a).trans (dedup_mem a l).symm
section
variable {X : Cx}
theorem sset_core {pins : List (Addr × Obj)} {σ : St} {s : Shared} {m1 : M} {a : Addr} {ns : List Int} {c : Nat} {lv : Bool} {Q : VK} (hc : X.calm = true) (I2 : Inv X pins σ m1.H s) (hS : SetR X.w s.heap a (fun j => decide (j ∈ ns)) c) (hl : c < 64) (rS : RelS X.K m1)
    (q : PostV X.K m1 (mkL lv ((sortI (dedup ns)).map .int) m1.st) Q) : wpAny (model X.prog X.w) X.A (call (.builtin "sorted") [.ref a]) (EP X pins σ Q) X.xe s := by
  refine sorted_set hS (I2.ok.hd hc) hl fun s' p out c2 ks k g o hp hg hi hs hmm hl2 => ?_
  have hlen : (ks.map V.int).length ≤ sizeLine := by rw [List.length_map, hl2, PySem.sizeLine_eq]; omega
  have hn : m1.H p = none := I2.hok.fresh hp
  have J0 : Inv X pins σ (upd m1.H p (.lst (ks.map V.int))) { s with heap := s'.heap, gens := s'.gens, drawn := s'.drawn, toks := s'.toks } :=
    I2.call (ch := []) (Un.laid k hp hn) (I2.hok.laid k hp ⟨hlen, out.toList, c2, vals_of_ints hi, hg⟩) (by rw [g]; exact I2.bare) (fun _ z => nomatch z)
  have e : s' = { s with heap := s'.heap, gens := s'.gens, drawn := s'.drawn, toks := s'.toks } := by
    cases s'
    cases s
    cases o
    rfl
  rw [e]
  have es : ks = sortI (dedup ns) := sort_dedup hs fun k => by rw [hmm k]; simp
  subst es
  exact ⟨.ref p, _, J0, rfl, q.mkL rS (RepVs.ints _) p hn⟩
/-- sorted(set(a)): a list or a tuple of at most 63 ints -/
theorem pe_sset {a : Expr} {x : Ex} {cf : CF} {lv : Bool} {p p2 q pos : Pos} (hc : X.calm = true) (hg : Gl X "sorted") (hm : X.mg "sorted" = none) (hg2 : Gl X "set") (hm2 : X.mg "set" = none) (hf : fineE a = true) (ha : PE X a (rdE X.K cf x)) :
    PE X (.Call (.Name "sorted" p) [.Call (.Name "set" p2) [a] [] q] [] pos) (rdE X.K cf (.sset lv x)) := by
  refine ⟨fun pins s σ H Q I h => ?_⟩
  have na := star_cons hf [] X.env
  refine PyProof.Rows.Call_ (ld_blt I hg hm PyProof.Rows.boot_sorted ?_)
  refine PyProof.Rows.callWith_builtin1 (PyProof.Rows.args_cons ?_ rfl) rfl rfl
  refine PyProof.Rows.Call_ (ld_blt I hg2 hm2 (by decide +kernel : bootBuiltins "set" = some (.type "set")) ?_)
  refine PyProof.Rows.callWith_type1 (PyProof.Rows.args_cons (?_ : wpAny _ _ _ _ _ _) na) na rfl
  obtain ⟨m, env, rfl, r, re, h⟩ := h
  simp only [evalE] at h
  have hx : rdE X.K cf x σ m.H fun y H1 => ∃ (m1 : M) (v : Val), m1.H = H1 ∧ RelS X.K m1 ∧ RepV X.K m1 v y ∧ PostV X.K m1 (biv .sset lv [v] m1.st) Q :=
    rd_bind h r re fun m1 v y e1 r1 re1 hv h1 => ⟨m1, v, rfl, r1, hv, h1⟩
  refine thn (ha.run pins s σ _ _ I hx) fun v s1 ⟨y, H1, I1, r1, m1, w, eH, rS, hw, h1⟩ => PyProof.Rows.args_nil ?_
  subst eH
  have d := dr_rep rS hw
  simp only [biv] at h1
  have fin : ∀ (ns : List Int) (h' : Heap) (tk c : Nat), SetR X.w h' s1.heap.objs.size (fun j => decide (j ∈ ns)) c → c ≤ ns.length → ns.length ≤ 63 → (∀ b o, s1.heap.get? b = some o → h'.get? b = some o) →
      PostV X.K m1 (mkL lv ((sortI (dedup ns)).map .int) m1.st) Q →
      wpAny (model X.prog X.w) X.A (spliced (backTo pos (starEach [] X.env))) (fun vs s₂ => wpAny (model X.prog X.w) X.A (call (.builtin "sorted") (Value.ref s1.heap.objs.size :: vs)) (EP X pins σ Q) X.xe s₂) X.xe { s1 with heap := h', toks := tk } := fun ns h' tk c hS hc' hl hk q => by
    refine PyProof.Rows.args_nil ?_
    exact sset_core hc (I1.kept hk) hS (by omega) rS q
  generalize dr m1.st w = D at d h1
  cases D with
  | lst xs =>
    obtain ⟨l, ws, rfl, g1, g2⟩ := d
    simp only at h1
    cases e : ints? xs with
    | none => rw [e] at h1; exact h1.elim
    | some ns =>
      rw [e] at h1
      simp only at h1
      split at h1
      · rename_i hl
        have := g2.ofInts e
        subst this
        cases r1
        obtain ⟨its, rr, pl, hz⟩ := I1.list (.inl (.inl g1))
        have hi := rr.ints
        refine CoS.call_set_lstI ns (I1.ok.hd hc) pl.isList (by simpa using hi) (by unfold scanBound; omega) fun h' tk c hS hc' hk => fin ns h' tk c hS hc' hl hk h1
      · exact h1.elim
  | tup xs =>
    obtain ⟨l, ws, rfl, g1, g2⟩ := d
    simp only at h1
    cases e : ints? xs with
    | none => rw [e] at h1; exact h1.elim
    | some ns =>
      rw [e] at h1
      simp only at h1
      split at h1
      · rename_i hl
        have := g2.ofInts e
        subst this
        cases r1
        obtain ⟨its, rr, pl, hz⟩ := I1.tuple g1
        have hi := rr.ints
        refine call_set_tupI ns (I1.ok.hd hc) (show s1.heap.IsTuple l its.toArray from pl) (by simpa using hi) (by unfold scanBound; omega) fun h' tk c hS hc' hk => fin ns h' tk c hS hc' hl hk h1
      · exact h1.elim
  | _ => exact h1.elim

theorem rgV_rep {K : PySem.W.Frag} {m : M} (lo hi : Int) : RepVs K m (rngV lo (hi - lo).toNat) (rgV lo hi) := by
  unfold rngV rgV
  induction List.range (hi - lo).toNat with
  | nil => exact .nil
  | cons k ks ih => exact .cons (.int _) ih
theorem r_rgl1 {cf : CF} {x : Ex} {tp lv : Bool} {σ : L2.St} {H : Hp} {Q : VK} (h : rdE X.K cf (.rgl tp lv (.rng1 x)) σ H Q) :
    (tp = true → tTupRg (tRg1 (rdE X.K cf x)) σ H Q) ∧ (tp = false → tLstRg (tRg1 (rdE X.K cf x)) σ H Q) := by
  obtain ⟨m, env, rfl, r, re, h⟩ := h
  simp only [evalE, evalI, R.bind_assoc] at h
  have go : ∀ G : Int → Int → Hp → Prop, (∀ (m1 : M) (n : Int), RelS X.K m1 → -1000000 ≤ n → n ≤ 1000000 → PostV X.K m1 (if tp = true then .ok (.tup (rngV 0 n.toNat)) m1.st else mkL lv (rngV 0 n.toNat) m1.st) Q → G 0 n m1.H) → tRg1 (rdE X.K cf x) σ m.H G := fun G k => by
    refine rd_bind h r re fun m1 v y e1 r1 re1 hv h1 => ?_
    cases v with
    | int n =>
      cases hv
      simp only at h1
      split at h1
      · rename_i hn
        exact ⟨n, rfl, k m1 n r1 hn.1 hn.2 h1⟩
      · exact h1.elim
    | _ => exact h1.elim
  have e0 : ∀ n : Int, n - 0 = n := fun n => by omega
  refine ⟨fun e => ?_, fun e => ?_⟩
  · subst e
    refine go _ fun m1 n r1 a b q => ⟨⟨by omega, by omega, by omega, by omega, by omega⟩, fun p hp => PostV.tup q r1 ?_ p hp⟩
    have := rgV_rep (K := X.K) (m := m1) 0 n
    rw [e0] at this
    exact this
  · subst e
    refine go _ fun m1 n r1 a b q => ⟨⟨by omega, by omega, by omega, by omega, by omega⟩, fun p hp => PostV.mkL q r1 ?_ p hp⟩
    have := rgV_rep (K := X.K) (m := m1) 0 n
    rw [e0] at this
    exact this
theorem r_rgl2 {cf : CF} {x x' : Ex} {tp lv : Bool} {σ : L2.St} {H : Hp} {Q : VK} (h : rdE X.K cf (.rgl tp lv (.rng2 x x')) σ H Q) :
    (tp = true → tTupRg (tRg2 (rdE X.K cf x) (rdE X.K cf x')) σ H Q) ∧ (tp = false → tLstRg (tRg2 (rdE X.K cf x) (rdE X.K cf x')) σ H Q) := by
  obtain ⟨m, env, rfl, r, re, h⟩ := h
  simp only [evalE, evalI, R.bind_assoc] at h
  have go : ∀ G : Int → Int → Hp → Prop, (∀ (m1 : M) (i j : Int), RelS X.K m1 → -1000000 ≤ i → i ≤ 1000000 → -1000000 ≤ j → j ≤ 1000000 → PostV X.K m1 (if tp = true then .ok (.tup (rngV i (j - i).toNat)) m1.st else mkL lv (rngV i (j - i).toNat) m1.st) Q → G i j m1.H) →
      tRg2 (rdE X.K cf x) (rdE X.K cf x') σ m.H G := fun G k => by
    refine rd_bind h r re fun m1 v y e1 r1 re1 hv h1 => rd_bind h1 r1 re1 fun m2 w z e2 r2 re2 hw h2 => ?_
    cases v with
    | int i =>
      cases w with
      | int j =>
        cases hv; cases hw
        simp only at h2
        split at h2
        · rename_i hn
          exact ⟨i, j, rfl, rfl, k m2 i j r2 hn.1 hn.2.1 hn.2.2.1 hn.2.2.2 h2⟩
        · exact h2.elim
      | _ => exact h2.elim
    | _ => exact h2.elim
  refine ⟨fun e => ?_, fun e => ?_⟩
  · subst e
    exact go _ fun m1 i j r1 a b c d q => ⟨⟨by omega, by omega, by omega, by omega, by omega⟩, fun p hp => PostV.tup q r1 (rgV_rep i j) p hp⟩
  · subst e
    exact go _ fun m1 i j r1 a b c d q => ⟨⟨by omega, by omega, by omega, by omega, by omega⟩, fun p hp => PostV.mkL q r1 (rgV_rep i j) p hp⟩
end
section
variable {K : PySem.W.Frag} {m : M} {cf : CF} {σ : L2.St} {H : Hp} {Q : VK}
theorem frzL_ok {f : Val → Store → Option (Val × Store)} (hf : ∀ (v : Val) {m : M} {x : V} {v' : Val} {st' : Store}, RelS K m → RepV K m v x → f v m.st = some (v', st') → ∃ m' : M, m'.st = st' ∧ m'.H = m.H ∧ Ext m m' ∧ RelS K m' ∧ RepV K m' v' x) :
    ∀ (vs : List Val) {m : M} {xs : List V} {vs' : List Val} {st' : Store}, RelS K m → RepVs K m vs xs → frzL f vs m.st = some (vs', st') →
    ∃ m' : M, m'.st = st' ∧ m'.H = m.H ∧ Ext m m' ∧ RelS K m' ∧ RepVs K m' vs' xs
  | [], m, xs, vs', st', r, hv, h => by
    cases hv
    simp only [frzL, Option.some.injEq, Prod.mk.injEq] at h
    obtain ⟨rfl, rfl⟩ := h
    exact ⟨m, rfl, rfl, Ext.refl m, r, .nil⟩
  | v :: vs, m, xs, vs', st', r, hv, h => by
    cases hv with
    | cons h1 h2 =>
    simp only [frzL] at h
    cases e1 : f v m.st with
    | none => rw [e1] at h; cases h
    | some q =>
      obtain ⟨y, st1⟩ := q
      rw [e1] at h
      simp only at h
      obtain ⟨m1, a1, a2, a3, a4, a5⟩ := hf v r h1 e1
      subst a1
      cases e2 : frzL f vs m1.st with
      | none => rw [e2] at h; cases h
      | some q =>
        obtain ⟨ys, st2⟩ := q
        rw [e2] at h
        simp only [Option.some.injEq, Prod.mk.injEq] at h
        obtain ⟨rfl, rfl⟩ := h
        obtain ⟨m2, b1, b2, b3, b4, b5⟩ := frzL_ok hf vs a4 (h2.mono a3) e2
        exact ⟨m2, b1, b2.trans a2, a3.trans b3, b4, .cons (a5.mono b3) b5⟩
theorem frz_ok : ∀ (n : Nat) (v : Val) {m : M} {x : V} {v' : Val} {st' : Store}, RelS K m → RepV K m v x → frzV n v m.st = some (v', st') →
    ∃ m' : M, m'.st = st' ∧ m'.H = m.H ∧ Ext m m' ∧ RelS K m' ∧ RepV K m' v' x
  | 0, v, m, x, v', st', r, hv, h => by
    simp only [frzV, Option.some.injEq, Prod.mk.injEq] at h
    obtain ⟨rfl, rfl⟩ := h
    exact ⟨m, rfl, rfl, Ext.refl m, r, hv⟩
  | n + 1, v, m, x, v', st', r, hv, h => by
    cases v with
    | ref i =>
      cases hv with
      | ref hi =>
      rename_i a
      simp only [frzV] at h
      cases e : m.st[i]? with
      | none => rw [e] at h; cases h
      | some c =>
        rw [e] at h
        obtain ⟨a', ha', hc⟩ := r.at e
        have : a' = a := Option.some.inj (ha'.symm.trans hi)
        subst this
        have r1 := r.kill i
        have e1 := Ext.kill m i
        have hdd : ¬ (m.kill i).Live a' := kill_dead r hi
        cases c with
        | dead => cases h
        | lst xs =>
          simp only at h
          cases el : frzL (frzV n) xs (m.st.set i .dead) with
          | none => rw [el] at h; cases h
          | some q =>
            obtain ⟨ys, st2⟩ := q
            rw [el] at h
            simp only [Option.some.injEq, Prod.mk.injEq] at h
            obtain ⟨rfl, rfl⟩ := h
            cases hc with
            | lst h1 h2 =>
              obtain ⟨m2, q1, q2, q3, q4, q5⟩ := frzL_ok (frz_ok n) xs (m := m.kill i) r1 (h2.mono e1) el
              have hm := (congrFun q2 a').trans h1
              exact ⟨m2, q1, q2, e1.trans q3, q4, .lst hm (q3.notLive (m := m.kill i) (o := .lst _) h1 hdd) q5⟩
        | dct ks xs =>
          simp only at h
          cases el : frzL (frzV n) xs (m.st.set i .dead) with
          | none => rw [el] at h; cases h
          | some q =>
            obtain ⟨ys, st2⟩ := q
            rw [el] at h
            simp only [Option.some.injEq, Prod.mk.injEq] at h
            obtain ⟨rfl, rfl⟩ := h
            cases hc with
            | dct h1 hk h2 =>
              obtain ⟨m2, q1, q2, q3, q4, q5⟩ := frzL_ok (frz_ok n) xs (m := m.kill i) r1 (h2.mono e1) el
              have hm := (congrFun q2 a').trans h1
              exact ⟨m2, q1, q2, e1.trans q3, q4, .dct hm (q3.notLive (m := m.kill i) (o := .dK _) h1 hdd) hk q5⟩
    | _ =>
      simp only [frzV, Option.some.injEq, Prod.mk.injEq] at h
      obtain ⟨rfl, rfl⟩ := h
      exact ⟨m, rfl, rfl, Ext.refl m, r, hv⟩
theorem r_frz {x : Ex} (h : rdE K cf (.frz x) σ H Q) : rdE K cf x σ H Q := by
  obtain ⟨m, env, rfl, r, re, h⟩ := h
  simp only [evalE] at h
  refine ⟨m, env, rfl, r, re, ?_⟩
  cases e : evalE cf x env m.st with
  | ok v st1 =>
    rw [e, R.bind_ok] at h
    intro m1 y es e1 r1 hv
    subst es
    cases ef : frzV 3 v m1.st with
    | none => rw [ef] at h; exact h.elim
    | some q =>
      obtain ⟨v', st2⟩ := q
      rw [ef] at h
      obtain ⟨m2, q1, q2, q3, q4, q5⟩ := frz_ok 3 v r1 hv ef
      have := h m2 y q1 (e1.trans q3) q4 q5
      rwa [q2] at this
  | exc c xs st => rw [e] at h; exact h.elim
  | stuck => rw [e] at h; exact h.elim
end
end Co

set_option Elab.async false
set_option linter.all false
set_option maxRecDepth 100000
set_option maxHeartbeats 64000000
/-! Co13: the theorem for all expressions. -/
namespace Co
open PySem PySem.Spec L2

section
variable {G : GI} {N : List Str} {n : Nat} {cf : CF}
def OkE (X : Cx) (cf : CF) (x : Ex) (e : Expr) : Prop := PE X e (rdE X.K cf x) ∧ PT X e (rdT X.K cf x)
theorem okE_plain {X : Cx} {e : Expr} {x : Ex} (h : PE X e (rdE X.K cf x)) (he : ∀ whole, isTrue e X.env whole = (do let v ← whole; standAt e.pos; holding [v] (truthy v)) := by intro _; rfl) : OkE X cf x e := ⟨h, pt_plain h he⟩
theorem canSet_blk {X : Cx} {scope : Scope} (s : Shared) (H : Hp) (C : Addr) (cl : List (Str × Addr)) (fp : List Addr) : CanSet (X.blk s H scope (compEnvC scope cl C X.env) fp) scope := by
  intro x h
  have hsc : (X.blk s H scope (compEnvC scope cl C X.env) fp).env.scope = relS scope X.env.scope := rfl
  unfold isOwn at h
  split at h
  · rename_i e
    have e2 : (relS scope X.env.scope).names.lookup x = some .local := lookup_relS_keep (by decide) e
    exact ⟨.inl (by rw [hsc]; exact e2), .inr (by rw [hsc]; exact e2)⟩
  · rename_i e
    have e2 : (relS scope X.env.scope).names.lookup x = some .cell := lookup_relS_keep (by decide) e
    exact ⟨.inr (by rw [hsc]; exact e2), .inl (by show (scope.names.lookup x == some .cell) = true; rw [e]; rfl)⟩
  · cases h
theorem keyC_pe {X : Cx} {k : Key} {c : Const} {j : Nat} {p : Pos} (h : keyC k c = true) : PE X (.Constant c j p) (tC (kV k)) := by
  cases k <;> cases c <;> first | (cases h; done) | skip
  · have e : _ = _ := beq_iff_eq.mp h
    subst e
    exact pe_int
  · have e : _ = _ := eq_of_beq h
    subst e
    exact pe_str
theorem yes_true {cnd : Ex} (h : isYes cnd = true) : cnd = .cst (.bl true) := by
  unfold isYes at h
  split at h
  · rfl
  · cases h
theorem isNon_eq {lo : Ex} (h : isNon lo = true) : lo = .cst .non := by
  unfold isNon at h
  split at h
  · rfl
  · cases h
theorem po_ok {X : Cx} {lo : Ex} {e : Option Expr} (h : ∀ l, e = some l → isNon lo = false ∧ PE X l (rdE X.K cf lo)) (h0 : e = none → isNon lo = true) : PO X e (tP X.K cf lo) := by
  cases e with
  | none =>
    have := isNon_eq (h0 rfl)
    subst this
    refine ⟨fun pins s σ H Q I q => po_none.run pins s σ H Q I ?_⟩
    obtain ⟨m, env, rfl, r, re, h⟩ := q
    obtain ⟨o, q, z⟩ := PostV.ok h r .non
    rcases z with ⟨_, rfl⟩ | ⟨z, _⟩
    · exact q
    · cases z
  | some l =>
    obtain ⟨h1, h2⟩ := h l rfl
    refine ⟨fun pins s σ H Q I q => (po_some h2).run pins s σ H Q I ?_⟩
    obtain ⟨m, env, rfl, r, re, h⟩ := q
    refine ⟨m, env, rfl, r, re, ?_⟩
    cases eo : evalE cf lo env m.st with
    | ok v st1 =>
      rw [eo] at h
      intro m1 x es e1 r1 hv
      obtain ⟨o, q, z⟩ := h m1 x es e1 r1 hv
      rcases z with ⟨z, _⟩ | ⟨_, i, rfl, rfl⟩
      · rw [h1] at z; cases z
      · exact ⟨i, rfl, q⟩
    | exc c xs st => rw [eo] at h; exact h.elim
    | stuck => rw [eo] at h; exact h.elim

theorem cons_nil {K : PySem.W.Frag} {x : Ex} {σ : L2.St} {H : Hp} {Q : List V → Hp → Prop} (h : rdEs K cf (.cons x .nil) σ H Q) : tCons (rdE K cf x) tNil σ H Q := by
  obtain ⟨m, env, rfl, r, re, h⟩ := r_cons h
  refine ⟨m, env, rfl, r, re, ?_⟩
  cases eo : evalE cf x env m.st with
  | ok v st1 =>
    rw [eo] at h
    exact fun m1 y es e1 r1 hv => r_nil (h m1 y es e1 r1 hv)
  | exc c xs st => rw [eo] at h; exact h.elim
  | stuck => rw [eo] at h; exact h.elim

mutual
theorem okE : ∀ (x : Ex) {X : Cx} {sc : Scope} {e : Expr}, CtxOk G N n cf X sc → chkE G N x sc e = true → OkE X cf x e
  | .var i, X, sc, e, c, h => by
    cases e with
    | Name y p =>
      simp only [chkE, Bool.and_eq_true, decide_eq_true_eq] at h
      obtain ⟨⟨h1, h2⟩, h3⟩ := h
      obtain ⟨n1, n2, _⟩ := okN_of h3
      exact okE_plain (PE.imp (pe_var (by rw [c.eN]; exact h1) (isVis_of c.eS h2) n1 n2) fun _ _ _ q => r_var q)
    | _ => simp [chkE] at h
  | .cst v, X, sc, e, c, h => by
    cases e with
    | Constant k j p => exact okE_plain (cst_ok (by simpa only [chkE] using h))
    | Name y p =>
      simp only [chkE, Bool.and_eq_true] at h
      obtain ⟨⟨h1, h2⟩, h3⟩ := h
      obtain ⟨n1, n2, _⟩ := okN_of h2
      split at h3
      · rename_i w ew
        have := valEq_of h3
        subst this
        obtain ⟨u, y', hm, rv, rp⟩ := c.cs _ _ ew
        exact okE_plain (PE.imp (pe_glob (isGl_of c.eS h1) hm rv n1) fun _ _ _ q => r_cst rp q)
      · cases h3
    | _ => simp [chkE] at h
  | .tup es, X, sc, e, c, h => by
    cases e with
    | Tuple as k p =>
      simp only [chkE, Bool.and_eq_true, decide_eq_true_eq] at h
      have hl := chkEs_len es as h.2
      exact okE_plain (PE.imp (pe_tup (okEs es c h.2)) fun _ _ _ q => r_tup (by omega) q)
    | _ => simp [chkE] at h
  | .lst lv es, X, sc, e, c, h => by
    cases e with
    | List as p =>
      simp only [chkE, Bool.and_eq_true, decide_eq_true_eq] at h
      have hl := chkEs_len es as h.2
      exact okE_plain (PE.imp (pe_lst (okEs es c h.2)) fun _ _ _ q => r_lst (by omega) q)
    | _ => simp [chkE] at h
  | .dct lv ks es, X, sc, e, c, h => by
    cases e with
    | Dict keys values p =>
      simp only [chkE, Bool.and_eq_true, decide_eq_true_eq] at h
      obtain ⟨⟨⟨⟨⟨h1, h2⟩, h3⟩, h4⟩, h5⟩, h6⟩ := h
      obtain ⟨q1, q2, q3⟩ := okPs es (ks := ks) (keys := keys) (pos := p) c h4 h1 h6
      have hl := chkEs_len es values h6
      refine okE_plain (PE.imp (pe_disp q1 q2 h1 (by intro z; rw [z] at h5; simp at h5) h2) fun _ _ _ q => r_dct (by omega) (by omega) h3 q)
    | _ => simp [chkE] at h
  | .bin op lv a b, X, sc, e, c, h => by
    cases e with
    | BinOp a' op' b' p =>
      simp only [chkE, Bool.and_eq_true] at h
      obtain ⟨⟨h1, h2⟩, h3⟩ := h
      have := bopEq_of h1
      subst this
      exact okE_plain (PE.imp (pe_op (op_bin op lv) (okE a c h2).1 (okE b c h3).1) fun _ _ _ q => r_bin q)
    | _ => simp [chkE] at h
  | .neg a, X, sc, e, c, h => by
    cases e with
    | UnaryOp op a' p =>
      cases op with
      | USub => exact okE_plain (PE.imp (pe_un un_neg (okE a c (by simpa only [chkE] using h)).1) fun _ _ _ q => r_neg q)
      | _ => simp [chkE] at h
    | _ => simp [chkE] at h
  | .tst a, X, sc, e, c, h => by simp [chkE] at h
  | .not_ a, X, sc, e, c, h => by
    cases e with
    | UnaryOp op a' p =>
      cases op with
      | Not =>
        have ih := okE a c (by simpa only [chkE] using h)
        exact ⟨PE.imp (pe_not ih.1) fun _ _ _ q => r_not q, PT.imp (pt_not ih.2) fun _ _ _ q => r_notT q⟩
      | _ => simp [chkE] at h
    | _ => simp [chkE] at h
  | .cmp op a b, X, sc, e, c, h => by
    cases e with
    | Compare a' ops bs p =>
      match ops, bs, h with
      | [op'], [b'], h =>
        simp only [chkE, Bool.and_eq_true] at h
        obtain ⟨⟨h1, h2⟩, h3⟩ := h
        have := copEq_of h1
        subst this
        have fb := fine_noset (op := copOf op) (chkE_fine h3)
        exact ⟨PE.imp (pe_cmpR (op_cmp c.u64 op) (okE a c h2).1 (okE b c h3).1 fb) fun _ _ _ q => r_cmp q,
          PT.imp (pt_cmpR (op_cmp c.u64 op) (okE a c h2).1 (okE b c h3).1 fb) fun _ _ _ q => r_cmp q⟩
      | [], _, h => simp [chkE] at h
      | [_], [], h => simp [chkE] at h
      | [_], _ :: _ :: _, h => simp [chkE] at h
      | _ :: _ :: _, _, h => simp [chkE] at h
    | _ => simp [chkE] at h
  | .chn o1 o2 a b d, X, sc, e, c, h => by
    cases e with
    | Compare a' ops bs p =>
      match ops, bs, h with
      | [p1, p2], [b', c'], h =>
        simp only [chkE, Bool.and_eq_true] at h
        obtain ⟨⟨⟨⟨h1, h2⟩, h3⟩, h4⟩, h5⟩ := h
        have := copEq_of h1
        subst this
        have := copEq_of h2
        subst this
        have fb := last_two (o1 := copOf o1) (o2 := copOf o2) (b := b') (chkE_fine h5)
        exact ⟨PE.imp (pe_chain (op_cmp c.u64 o1) (op_cmp c.u64 o2) (okE a c h3).1 (okE b c h4).1 (okE d c h5).1 fb) fun _ _ _ q => r_chn q,
          PT.imp (pt_chain (op_cmp c.u64 o1) (op_cmp c.u64 o2) (okE a c h3).1 (okE b c h4).1 (okE d c h5).1 fb) fun _ _ _ q => r_chn q⟩
      | [], _, h => simp [chkE] at h
      | [_], _, h => simp [chkE] at h
      | [_, _], [], h => simp [chkE] at h
      | [_, _], [_], h => simp [chkE] at h
      | [_, _], _ :: _ :: _ :: _, h => simp [chkE] at h
      | _ :: _ :: _ :: _, _, h => simp [chkE] at h
    | _ => simp [chkE] at h
  | .and_ a b, X, sc, e, c, h => by
    cases e with
    | BoolOp op vs p =>
      cases op with
      | And =>
        match vs, h with
        | v :: w :: [], h =>
          simp only [chkE, Bool.and_eq_true, List.isEmpty_nil, if_true] at h
          have h1 := okE a c h.1
          have h2 := okE b c h.2
          exact ⟨PE.imp (pe_and h1.1 (pe_one h2.1)) fun _ _ _ q => r_and q, PT.imp (pw_and h1.2 (pw_and1 h2.2)).pt fun _ _ _ q => r_andT q⟩
        | v :: w :: x :: r, h =>
          simp only [chkE, Bool.and_eq_true, List.isEmpty_cons, Bool.false_eq_true, if_false] at h
          have h1 := okE a c h.1
          have h2 := okE b c h.2
          exact ⟨PE.imp (pe_and h1.1 h2.1) fun _ _ _ q => r_and q, PT.imp (pw_and h1.2 (pw_bool h2.2)).pt fun _ _ _ q => r_andT q⟩
        | [], h => simp [chkE] at h
        | [_], h => simp [chkE] at h
      | Or => simp [chkE] at h
    | _ => simp [chkE] at h
  | .or_ a b, X, sc, e, c, h => by
    cases e with
    | BoolOp op vs p =>
      cases op with
      | Or =>
        match vs, h with
        | v :: w :: [], h =>
          simp only [chkE, Bool.and_eq_true, List.isEmpty_nil, if_true] at h
          have h1 := okE a c h.1
          have h2 := okE b c h.2
          exact ⟨PE.imp (pe_or h1.1 (pe_one h2.1)) fun _ _ _ q => r_or q, PT.imp (pw_or h1.2 (pw_or1 h2.2)).pt fun _ _ _ q => r_orT q⟩
        | v :: w :: x :: r, h =>
          simp only [chkE, Bool.and_eq_true, List.isEmpty_cons, Bool.false_eq_true, if_false] at h
          have h1 := okE a c h.1
          have h2 := okE b c h.2
          exact ⟨PE.imp (pe_or h1.1 h2.1) fun _ _ _ q => r_or q, PT.imp (pw_or h1.2 (pw_bool h2.2)).pt fun _ _ _ q => r_orT q⟩
        | [], h => simp [chkE] at h
        | [_], h => simp [chkE] at h
      | And => simp [chkE] at h
    | _ => simp [chkE] at h
  | .ite t a b, X, sc, e, c, h => by
    cases e with
    | IfExp t' a' b' p =>
      simp only [chkE, Bool.and_eq_true] at h
      obtain ⟨⟨h1, h2⟩, h3⟩ := h
      have i1 := okE t c h1
      have i2 := okE a c h2
      have i3 := okE b c h3
      refine ⟨PE.imp (pe_ifExp i1.2 i2.1 i3.1) fun _ _ _ q => r_ite q, PT.imp (pt_ifE i1.2 i2.2 i3.2) fun _ _ _ q => r_ite q⟩
    | _ => simp [chkE] at h
  | .call f pm es ks, X, sc, e, c, h => by
    cases e with
    | Call fn as kws p =>
      cases fn with
      | Name y q =>
        simp only [chkE, Bool.and_eq_true] at h
        obtain ⟨⟨⟨⟨⟨⟨h1, h2⟩, h3⟩, h4⟩, h5⟩, h6⟩, h7⟩ := h
        exact okE_plain (call_ok c h1 h2 h3 h4 (by simpa only [Bool.and_eq_true] using h5) (okEs es c h6) (chkEs_fine es as h6) (okKs ks c h7) (chkEs_len es as h6) (by rw [chkEs_len ks _ h7, List.length_map]))
      | _ => simp [chkE] at h
    | _ => simp [chkE] at h
  | .bi b lv es, X, sc, e, c, h => by
    cases e with
    | Call fn as kws p =>
      cases fn with
      | Name y q =>
        cases kws with
        | cons _ _ => simp [chkE] at h
        | nil =>
        simp only [chkE, Bool.and_eq_true, decide_eq_true_eq] at h
        obtain ⟨⟨⟨h1, h2⟩, rfl⟩, h4⟩ := h
        by_cases hi : ∃ t, b = .isin t
        · obtain ⟨t, rfl⟩ := hi
          match as, h4 with
          | [a, .Name z r], h4 =>
            simp only [Bool.and_eq_true, decide_eq_true_eq] at h4
            obtain ⟨⟨⟨g1, rfl⟩, g3⟩, g4⟩ := h4
            match es, g4 with
            | .cons x .nil, g4 =>
              simp only [chkEs, Bool.and_eq_true] at g4
              exact okE_plain (isin_ok c h1 g3 g1 (chkE_fine g4.1) (okE x c g4.1).1)
            | .nil, g4 => simp [chkEs] at g4
            | .cons _ (.cons _ _), g4 => simp [chkEs] at g4
          | [], h4 => simp at h4
          | [_], h4 => simp at h4
          | _ :: _ :: _ :: _, h4 => simp at h4
        · have hi' : ∀ t, b ≠ .isin t := fun t z => hi ⟨t, z⟩
          have h4' : as.length = biAr b ∧ chkEs G N es sc as = true := by
            cases b <;> first
              | exact absurd ⟨_, rfl⟩ hi
              | simpa only [Bool.and_eq_true, decide_eq_true_eq] using h4
          obtain ⟨h5, h6⟩ := h4'
          match as, h5, h6 with
          | [], h5, _ => cases b <;> simp [biAr] at h5
          | a :: as, h5, h6 => exact okE_plain (bi_ok c h2 hi' h1 (chkEs_fine es _ h6) (okEs es c h6))
      | _ => simp [chkE] at h
    | _ => simp [chkE] at h
  | .mth mt lv o es, X, sc, e, c, h => by
    cases e with
    | Call fn as kws p =>
      cases fn with
      | Attribute o' nm ap =>
        match kws, h with
        | [], h =>
          simp only [chkE, Bool.and_eq_true, decide_eq_true_eq] at h
          obtain ⟨⟨⟨⟨⟨⟨h1, rfl⟩, h3⟩, h4⟩, h5⟩, h6⟩, h7⟩ := h
          exact okE_plain (mth_ok c h1 h3 h4 h5 (chkEs_len es as h7) (okE o c h6).1 (chkEs_fine es as h7) (okEs es c h7))
        | _ :: _, h => simp [chkE] at h
      | _ => simp [chkE] at h
    | _ => simp [chkE] at h
  | .idx a i, X, sc, e, c, h => by
    cases e with
    | Subscript a' i' p =>
      simp only [chkE, Bool.and_eq_true] at h
      exact okE_plain (PE.imp (pe_ix (op_idx c.u1) (okE a c h.1).1 (okE i c h.2).1 (fine_plainIx (chkE_fine h.2))) fun _ _ _ q => r_idx q)
    | _ => simp [chkE] at h
  | .slc lv a lo hi, X, sc, e, c, h => by
    cases e with
    | Subscript a' i' p =>
      cases i' with
      | Slice lo' hi' st' p2 =>
        cases st' with
        | none =>
          simp only [chkE, Bool.and_eq_true] at h
          obtain ⟨⟨h1, h2⟩, h3⟩ := h
          refine okE_plain (PE.imp (pe_slice (op_slc lv) (okE a c h1).1 (po_ok (lo := lo) (fun l el => ?_) fun el => ?_) (po_ok (lo := hi) (fun l el => ?_) fun el => ?_)) fun _ _ _ q => r_slc q)
          · subst el
            simp only [Bool.and_eq_true, Bool.not_eq_true'] at h2
            exact ⟨h2.1, (okE lo c h2.2).1⟩
          · subst el; exact h2
          · subst el
            simp only [Bool.and_eq_true, Bool.not_eq_true'] at h3
            exact ⟨h3.1, (okE hi c h3.2).1⟩
          · subst el; exact h3
        | some _ => simp [chkE] at h
      | _ => simp [chkE] at h
    | _ => simp [chkE] at h
  | .lc lv elt tg it cnd own, X, sc, e, c, h => by
    cases e with
    | ListComp elt' gens scope p =>
      match gens, h with
      | [⟨tg', iter', ifs', kz⟩], h =>
        have hz : kz = 0 := by
          by_cases hz : kz = 0
          · exact hz
          · exfalso
            unfold chkE at h
            split at h
            · rename_i e
              simp only [Expr.ListComp.injEq, List.cons.injEq, Comprehension.mk.injEq] at e
              exact hz e.2.1.1.2.2.2
            · cases h
        subst hz
        simp only [chkE, Bool.and_eq_true, decide_eq_true_eq] at h
        obtain ⟨⟨⟨⟨⟨h1, h2⟩, h3⟩, h4⟩, h5⟩, h6⟩ := h
        have hi := okI it (tg := tg') c h2
        have eo : (ownP N own).map (·.2) = own := by simp [ownP, Function.comp_def]
        have ok : BlkOk X.N X.env.scope scope (ownP N own) := by
          rw [c.eN, c.eS]; exact blkOk_by h1
        refine okE_plain (PE.imp (pe_lc (own := ownP N own) (g := rdT' X.K tg) (tt := rdT X.K cf cnd) c.calm (by rw [c.eN]; exact c.nd) hi.1 ok (fun s H C cl fp => pg_ok (X := X.blk s H scope (compEnvC scope cl C X.env) fp) (sc := scope) c.eN c.nd c.calm (canSet_blk s H C cl fp) tg tg' h3) (fun s H C cl fp => ?_)
          (fun s H C cl fp => (okE elt (c.blk s H scope C cl fp) h5).1) hi.2) fun σ H Q q => by rw [eo]; exact lc_ok h4 q)
        match ifs', h6 with
        | [], h6 =>
          have := yes_true h6
          subst this
          refine ⟨fun pins s' σ H' Q I q => pts_nil.run pins s' σ H' Q I ?_⟩
          obtain ⟨m, env, rfl, r, re, h⟩ := q
          obtain ⟨k, e, q⟩ := PostV.ok h r (.bl true)
          cases e
          exact q
        | [cc], h6 => exact pts_one (okE cnd (c.blk s H scope C cl fp) h6).2
        | _ :: _ :: _, h6 => cases h6
      | [], h => simp [chkE] at h
      | _ :: _ :: _, h => simp [chkE] at h
    | _ => simp [chkE] at h
  | .sset lv a, X, sc, e, c, h => by
    unfold chkE at h
    split at h
    · simp only [Bool.and_eq_true, decide_eq_true_eq] at h
      obtain ⟨⟨⟨⟨h1, rfl⟩, h3⟩, rfl⟩, h5⟩ := h
      exact okE_plain (pe_sset c.calm (isGl_of c.eS h1) (c.blt _ (by decide)) (isGl_of c.eS h3) (c.blt _ (by decide)) (chkE_fine h5) (okE a c h5).1)
    · cases h
  | .frz a, X, sc, e, c, h => by
    have ih := okE a c (by simpa only [chkE] using h)
    exact ⟨PE.imp ih.1 fun _ _ _ q => r_frz q, PT.imp ih.2 fun _ _ _ q => r_frz q⟩
  | .rgl tp lv it, X, sc, e, c, h => by
    unfold chkE at h
    split at h
    · rename_i y py a' pp
      simp only [Bool.and_eq_true, decide_eq_true_eq] at h
      obtain ⟨⟨⟨h1, rfl⟩, h3⟩, h4⟩ := h
      cases it with
      | rng1 x =>
        unfold chkI at h4
        split at h4
        · simp only [Bool.and_eq_true, decide_eq_true_eq] at h4
          obtain ⟨⟨g1, rfl⟩, g3⟩ := h4
          cases tp with
          | true => exact okE_plain (PE.imp (pe_tupRg c.calm (isGl_of c.eS h1) (c.blt _ (by decide)) (prg_1 (isGl_of c.eS g1) (c.blt _ (by decide)) (okE x c g3).1 (star_cons (chkE_fine g3) _ _)) rfl) fun _ _ _ q => (r_rgl1 q).1 rfl)
          | false => exact okE_plain (PE.imp (pe_listRg c.calm (isGl_of c.eS h1) (c.blt _ (by decide)) (prg_1 (isGl_of c.eS g1) (c.blt _ (by decide)) (okE x c g3).1 (star_cons (chkE_fine g3) _ _)) rfl) fun _ _ _ q => (r_rgl1 q).2 rfl)
        · cases h4
      | rng2 x x' =>
        unfold chkI at h4
        split at h4
        · simp only [Bool.and_eq_true, decide_eq_true_eq] at h4
          obtain ⟨⟨⟨g1, rfl⟩, g3⟩, g4⟩ := h4
          cases tp with
          | true => exact okE_plain (PE.imp (pe_tupRg c.calm (isGl_of c.eS h1) (c.blt _ (by decide)) (prg_2 (isGl_of c.eS g1) (c.blt _ (by decide)) (okE x c g3).1 (okE x' c g4).1 (star_cons (chkE_fine g3) _ _) (star_cons (chkE_fine g4) _ _) (stars_any fun e he => (List.mem_singleton.mp he) ▸ chkE_fine g4)) rfl) fun _ _ _ q => (r_rgl2 q).1 rfl)
          | false => exact okE_plain (PE.imp (pe_listRg c.calm (isGl_of c.eS h1) (c.blt _ (by decide)) (prg_2 (isGl_of c.eS g1) (c.blt _ (by decide)) (okE x c g3).1 (okE x' c g4).1 (star_cons (chkE_fine g3) _ _) (star_cons (chkE_fine g4) _ _) (stars_any fun e he => (List.mem_singleton.mp he) ▸ chkE_fine g4)) rfl) fun _ _ _ q => (r_rgl2 q).2 rfl)
        · cases h4
      | seq _ => cases h3
      | enm _ => cases h3
    · cases h
theorem okEs : ∀ (es : Exs) {X : Cx} {sc : Scope} {as : List Expr}, CtxOk G N n cf X sc → chkEs G N es sc as = true → PA X as (rdEs X.K cf es)
  | .nil, X, sc, [], c, _ => PA.imp pa_nil fun _ _ _ q => r_nil q
  | .nil, X, sc, _ :: _, c, h => by simp [chkEs] at h
  | .cons _ _, X, sc, [], c, h => by simp [chkEs] at h
  | .cons x xs, X, sc, e :: es, c, h => by
    simp only [chkEs, Bool.and_eq_true] at h
    exact PA.imp (pa_cons (okE x c h.1).1 (okEs xs c h.2) (star_cons (chkE_fine h.1) _ _)) fun _ _ _ q => r_cons q
theorem okKs : ∀ (es : Exs) {X : Cx} {sc : Scope} {kws : List Keyword}, CtxOk G N n cf X sc → chkEs G N es sc (kws.map (·.value)) = true → PK X kws (rdEs X.K cf es)
  | .nil, X, sc, [], c, _ => PK.imp pk_nil fun _ _ _ q => r_nil q
  | .nil, X, sc, _ :: _, c, h => by simp [chkEs] at h
  | .cons _ _, X, sc, [], c, h => by simp [chkEs] at h
  | .cons x xs, X, sc, ⟨nm, e, kp⟩ :: es, c, h => by
    simp only [List.map_cons, chkEs, Bool.and_eq_true] at h
    exact PK.imp (pk_cons (okE x c h.1).1 (okKs xs c h.2)) fun _ _ _ q => r_cons q
theorem okPs : ∀ (es : Exs) {X : Cx} {sc : Scope} {ks : List Key} {keys : List (Option Expr)} {values : List Expr} {pos : Pos}, CtxOk G N n cf X sc → chkK ks keys = true → keys.length = values.length → chkEs G N es sc values = true →
    PPs X pos keys values (pairsT X.K cf ks es) ∧ keys.all (·.isSome) = true ∧ ks.length = keys.length
  | .nil, X, sc, ks, keys, vs, pos, c, h1, h2, h3 => by
    have : vs = [] := by simpa [chkEs] using h3
    subst this
    have : keys = [] := List.eq_nil_of_length_eq_zero h2
    subst this
    cases ks with
    | nil => exact ⟨pps_nil, rfl, rfl⟩
    | cons _ _ => simp [chkK] at h1
  | .cons x xs, X, sc, ks, keys, vs, pos, c, h1, h2, h3 => by
    cases vs with
    | nil => simp [chkEs] at h3
    | cons v vs =>
      cases keys with
      | nil => simp at h2
      | cons k' keys =>
        cases ks with
        | nil => simp [chkK] at h1
        | cons k ks =>
          cases k' with
          | none => simp [chkK] at h1
          | some ke =>
            cases ke with
            | Constant cc j p =>
              simp only [chkEs, Bool.and_eq_true] at h3
              simp only [chkK, Bool.and_eq_true] at h1
              obtain ⟨q1, q2, q3⟩ := okPs xs (pos := pos) c h1.2 (by simpa using h2) h3.2
              exact ⟨pps_cons (keyC_pe h1.1) (okE x c h3.1).1 q1, by simpa using q2, by simp [q3]⟩
            | _ => simp [chkK] at h1
theorem okI : ∀ (it : Ic) {X : Cx} {sc : Scope} {e tg : Expr}, CtxOk G N n cf X sc → chkI G N it sc e tg = true → PI X tg e (rdI X.K cf it) ∧ ∀ x, foldedSetIterable e X.env x = pure x
  | .seq x, X, sc, e, tg, c, h => by
    simp only [chkI, Bool.and_eq_true] at h
    exact ⟨PI.imp (pi_seq (okE x c h.1).1) fun _ _ _ q => r_seq q, fine_fold (chkE_fine h.1) _⟩
  | .rng1 x, X, sc, e, tg, c, h => by
    unfold chkI at h
    split at h
    · simp only [Bool.and_eq_true, decide_eq_true_eq] at h
      obtain ⟨⟨h1, rfl⟩, h3⟩ := h
      exact ⟨PI.imp (pi_range1 (isGl_of c.eS h1) (c.blt _ (by decide)) (PA.imp (pa_cons (okE x c h3).1 pa_nil (star_cons (chkE_fine h3) _ _)) fun _ _ _ q => cons_nil q) (by rw [star_cons (chkE_fine h3)]; rfl)) fun _ _ _ q => r_rng1 q, fun _ => rfl⟩
    · cases h
  | .rng2 x y, X, sc, e, tg, c, h => by
    unfold chkI at h
    split at h
    · simp only [Bool.and_eq_true, decide_eq_true_eq] at h
      obtain ⟨⟨⟨h1, rfl⟩, h3⟩, h4⟩ := h
      exact ⟨PI.imp (pi_range2 (isGl_of c.eS h1) (c.blt _ (by decide)) (PA.imp (pa_cons (okE x c h3).1 (PA.imp (pa_cons (okE y c h4).1 pa_nil (star_cons (chkE_fine h4) _ _)) fun _ _ _ q => cons_nil q) (star_cons (chkE_fine h3) _ _)) fun _ _ _ q => r_cons q) (by rw [star_cons (chkE_fine h3), star_cons (chkE_fine h4)]; rfl) (by rw [star_cons (chkE_fine h4)]; rfl)) fun _ _ _ q => r_rng2 q, fun _ => rfl⟩
    · cases h
  | .enm x, X, sc, e, tg, c, h => by
    unfold chkI at h
    split at h
    · simp only [Bool.and_eq_true, decide_eq_true_eq] at h
      obtain ⟨⟨⟨h1, rfl⟩, h3⟩, h4⟩ := h
      cases tg with
      | Tuple elts kk tp =>
        exact ⟨PI.imp (pi_enumA (isGl_of c.eS h1) (c.blt _ (by decide)) (PA.imp (pa_cons (okE x c h3).1 pa_nil (star_cons (chkE_fine h3) _ _)) fun _ _ _ q => cons_nil q) (by rw [star_cons (chkE_fine h3)]; rfl)) fun _ _ _ q => r_enm q, fun _ => rfl⟩
      | _ => cases h4
    · cases h
end
end
end Co

set_option Elab.async false
set_option linter.all false
set_option maxRecDepth 100000
set_option maxHeartbeats 32000000
/-! Co14: the check of statements, their readings. -/
namespace Co
open PySem PySem.Spec L2

/-! ### the check -/
def isFrz : Ex → Bool
  | .frz _ => true
  | _ => false
def isComp : Expr → Bool
  | .ListComp .. | .SetComp .. | .DictComp .. => true
  | _ => false
/-- name = [..]: the comprehension's own names are set aside -/
def swC (sc : Scope) : Expr → Expr → Bool
  | .Name x px, .ListComp _ _ s p => isLoc sc x && (px.line == p.line) && !(s.names.any fun y => y.1 == x && (y.2 == .local || y.2 == .cell))
  | _, _ => false
def lineOf : List Expr → Nat
  | e :: _ => e.pos.line
  | [] => 0
/-- a target that is no plain local name, or on another line -/
def tgFree (sc : Scope) (line : Nat) : Expr → Bool
  | .Name x p => !(isLoc sc x && (p.line == line))
  | _ => true
def noSw (sc : Scope) : Expr → Expr → Bool
  | .Tuple ts _ _, .Tuple vs _ _ => decide (3 < ts.length) || vs.all (foldedForSure 8) || ts.any (tgFree sc (lineOf ts))
  | _, _ => true
def chkP (N : List Str) (sc : Scope) (line : Nat) : List Nat → List Expr → Bool
  | [], [] => true
  | i :: is, .Name x p :: es => decide (N[i]? = some x) && isLoc sc x && (p.line == line) && chkP N sc line is es
  | _, _ => false
/-- a test -/
def chkC (G : GI) (N : List Str) : Ex → Scope → Expr → Bool
  | .tst a, sc, e => match e with
    | .Name _ _ => chkE G N a sc e
    | _ => false
  | .and_ a b, sc, e => match e with
    | .BoolOp .And (v :: w :: r) p => chkC G N a sc v && (if r.isEmpty then chkC G N b sc w else chkC G N b sc (.BoolOp .And (w :: r) p))
    | _ => false
  | .or_ a b, sc, e => match e with
    | .BoolOp .Or (v :: w :: r) p => chkC G N a sc v && (if r.isEmpty then chkC G N b sc w else chkC G N b sc (.BoolOp .Or (w :: r) p))
    | _ => false
  | .not_ a, sc, e => match e with
    | .UnaryOp .Not a' _ => chkC G N a sc a'
    | _ => false
  | x, sc, e => chkE G N x sc e
mutual
def chkS (G : GI) (N : List Str) : Sx → Scope → Stmt → Bool
  | .asg tg e, sc, s => match s with
    | .Assign [t] v _ => chkT N sc tg t && chkE G N e sc v && noSw sc t v && (!isFrz e || !isComp v)
    | _ => false
  | .par is es, sc, s => match s with
    | .Assign [.Tuple ts _ _] (.Tuple vs _ _) _ => (decide (is.length = 2) || decide (is.length = 3)) && decide (vs.length = is.length) && decide is.Nodup && chkP N sc (lineOf ts) is ts && !vs.all (foldedForSure 8) && !vs.all (constantsAlone 8) && chkEs G N es sc vs
    | _ => false
  | .seti o i e, sc, s => match s with
    | .Assign [.Subscript o' i' _] v _ => chkE G N o sc o' && chkE G N i sc i' && chkE G N e sc v
    | _ => false
  | .aug i op e, sc, s => match s with
    | .AugAssign (.Name x _) op' v _ => (match op with | .add => true | .sub => true | _ => false) && bopEq op op' && decide (N[i]? = some x) && isOwn sc x && chkE G N e sc v
    | _ => false
  | .ex e, sc, s => match s with
    | .Expr v _ => !isComp v && chkE G N e sc v
    | _ => false
  | .ret e, sc, s => match s with
    | .Return (some v) _ => chkE G N e sc v
    | .Return none _ => isNon e
    | _ => false
  | .iff c a b, sc, s => match s with
    | .If c' a' b' _ => chkC G N c sc c' && chkSs G N a sc a' && chkSs G N b sc b'
    | _ => false
  | .fr tg it body _, sc, s => match s with
    | .For t i b [] _ => chkI G N it sc i t && chkT N sc tg t && chkSs G N body sc b
    | _ => false
  | .whl c body _, sc, s => match s with
    | .While t b [] _ => chkC G N c sc t && chkSs G N body sc b
    | _ => false
  | .brk, _, s => match s with
    | .Break _ => true
    | _ => false
  | .cont, _, s => match s with
    | .Continue _ => true
    | _ => false
  | .pass, _, s => match s with
    | .Pass _ => true
    | .Expr (.Constant (.str _) _ _) _ => true
    | _ => false
  | .sw o1 i1 o2 i2 e, sc, s => match s with
    | .Assign [.Tuple [.Subscript o1' i1' _, .Subscript o2' i2' _] _ _] v _ => chkE G N o1 sc o1' && chkE G N i1 sc i1' && chkE G N o2 sc o2' && chkE G N i2 sc i2' && chkE G N e sc v && !isFrz e
    | _ => false
  | .rse, _, s => match s with
    | .Raise _ _ _ => true
    | _ => false
  | .clr _, _, _ => false
  | .frz _, _, _ => false
def chkSs (G : GI) (N : List Str) : Sxs → Scope → List Stmt → Bool
  | .nil, _, ss => ss.isEmpty
  | .cons s r, sc, ss => match s with
    | .clr _ => chkSs G N r sc ss
    | .frz _ => chkSs G N r sc ss
    | s => (match ss with
      | st :: rest => chkS G N s sc st && chkSs G N r sc rest
      | [] => false)
end
structure CtxS (X : Cx) (sc : Scope) : Prop where
  kf : X.env.scope.kind = .function
  own : PassesOwn (model X.prog X.w) X.A X.env X.xe
  cs : CanSet X sc

/-! ### readings -/
def PostS (K : PySem.W.Frag) (m : M) (r : RS) (D : Ends) : Prop :=
  match r with
  | .nx env st' => ∀ (m' : M) (σ' : L2.St), m'.st = st' → Ext m m' → RelS K m' → RelEnv K m' env σ' → D.nx σ' m'.H
  | .ret v st' => ∀ (m' : M) (x : V), m'.st = st' → Ext m m' → RelS K m' → RepV K m' v x → D.rt x m'.H
  | .bk env st' => ∀ (m' : M) (σ' : L2.St), m'.st = st' → Ext m m' → RelS K m' → RelEnv K m' env σ' → D.bk σ' m'.H
  | .ct env st' => ∀ (m' : M) (σ' : L2.St), m'.st = st' → Ext m m' → RelS K m' → RelEnv K m' env σ' → D.ct σ' m'.H
  | _ => False
def rdS (K : PySem.W.Frag) (cf : CF) (x : Sx) : TS := fun D σ H => ∃ (m : M) (env : Ev), m.H = H ∧ RelS K m ∧ RelEnv K m env σ ∧ PostS K m (execS cf x env m.st) D
def rdSs (K : PySem.W.Frag) (cf : CF) (x : Sxs) : TS := fun D σ H => ∃ (m : M) (env : Ev), m.H = H ∧ RelS K m ∧ RelEnv K m env σ ∧ PostS K m (execSs cf x env m.st) D
section
variable {K : PySem.W.Frag} {m m' : M} {cf : CF} {env : Ev} {σ : L2.St} {D : Ends}
theorem PostS.ext {r : RS} (h : PostS K m r D) (e : Ext m m') : PostS K m' r D := by
  cases r with
  | nx env st' => exact fun m2 x h1 h2 h3 h4 => h m2 x h1 (e.trans h2) h3 h4
  | ret v st' => exact fun m2 x h1 h2 h3 h4 => h m2 x h1 (e.trans h2) h3 h4
  | bk env st' => exact fun m2 x h1 h2 h3 h4 => h m2 x h1 (e.trans h2) h3 h4
  | ct env st' => exact fun m2 x h1 h2 h3 h4 => h m2 x h1 (e.trans h2) h3 h4
  | exc c xs st => exact h
  | stuck => exact h
theorem PostS.nx (h : PostS K m (.nx env m.st) D) (r : RelS K m) (re : RelEnv K m env σ) : D.nx σ m.H := h m σ rfl (Ext.refl m) r re
theorem rdS_bind {a : Ex} {f : Val → Store → RS} {G : V → Hp → Prop} (h : PostS K m ((evalE cf a env m.st).toS f) D) (r : RelS K m) (re : RelEnv K m env σ)
    (k : ∀ (m1 : M) (v : Val) (x : V), Ext m m1 → RelS K m1 → RelEnv K m1 env σ → RepV K m1 v x → PostS K m1 (f v m1.st) D → G x m1.H) : rdE K cf a σ m.H G := by
  refine ⟨m, env, rfl, r, re, ?_⟩
  cases e : evalE cf a env m.st with
  | ok v st1 =>
    rw [e] at h
    intro m1 x h1 h2 h3 h4
    subst h1
    exact k m1 v x h2 h3 (re.mono h2) h4 (PostS.ext h h2)
  | exc c xs st => rw [e] at h; exact h.elim
  | stuck => rw [e] at h; exact h.elim
theorem rdSs_bind {a : Exs} {f : List Val → Store → RS} {G : List V → Hp → Prop} (h : PostS K m ((evalEs cf a env m.st).toS f) D) (r : RelS K m) (re : RelEnv K m env σ)
    (k : ∀ (m1 : M) (v : List Val) (x : List V), Ext m m1 → RelS K m1 → RelEnv K m1 env σ → RepVs K m1 v x → PostS K m1 (f v m1.st) D → G x m1.H) : rdEs K cf a σ m.H G := by
  refine ⟨m, env, rfl, r, re, ?_⟩
  cases e : evalEs cf a env m.st with
  | ok v st1 =>
    rw [e] at h
    intro m1 x h1 h2 h3 h4
    subst h1
    exact k m1 v x h2 h3 (re.mono h2) h4 (PostS.ext h h2)
  | exc c xs st => rw [e] at h; exact h.elim
  | stuck => rw [e] at h; exact h.elim
/-- what follows -/
theorem PostS.seq {r : RS} {f : Ev → Store → RS} {B : L2.St → Hp → Prop} (h : PostS K m (r.bind f) D) (k : ∀ (m1 : M) (env1 : Ev) (σ1 : L2.St), Ext m m1 → RelS K m1 → RelEnv K m1 env1 σ1 → PostS K m1 (f env1 m1.st) D → B σ1 m1.H) : PostS K m r { D with nx := B } := by
  cases r with
  | nx env1 st' =>
    intro m1 σ1 es e1 r1 re1
    subst es
    exact k m1 env1 σ1 e1 r1 re1 (PostS.ext h e1)
  | ret v st' => exact h
  | bk env st' => exact h
  | ct env st' => exact h
  | exc c xs st => exact h
  | stuck => exact h
theorem s_cons {s : Sx} {rest : Sxs} {H : Hp} (h : rdSs K cf (.cons s rest) D σ H) : tSeq (rdS K cf s) (rdSs K cf rest) D σ H := by
  obtain ⟨m, env, rfl, r, re, h⟩ := h
  simp only [execSs] at h
  exact ⟨m, env, rfl, r, re, PostS.seq h fun m1 env1 σ1 e1 r1 re1 h1 => ⟨m1, env1, rfl, r1, re1, h1⟩⟩
theorem s_nil {H : Hp} (h : rdSs K cf .nil D σ H) : tNext D σ H := by
  obtain ⟨m, env, rfl, r, re, h⟩ := h
  exact PostS.nx h r re
theorem s_clr {is : List Nat} {rest : Sxs} {H : Hp} (h : rdSs K cf (.cons (.clr is) rest) D σ H) : rdSs K cf rest D σ H := by
  obtain ⟨m, env, rfl, r, re, h⟩ := h
  simp only [execSs, execS, RS.bind_nx] at h
  exact ⟨m, wipe env is, rfl, r, re.clear is, h⟩
theorem set_self {σ : L2.St} {i : Nat} {x : Option V} (h : σ[i]? = some x) : σ.set i x = σ := by
  obtain ⟨hl, e⟩ := List.getElem?_eq_some_iff.mp h
  rw [← e, List.set_getElem_self]
theorem s_frz {i : Nat} {rest : Sxs} {H : Hp} (h : rdSs K cf (.cons (.frz i) rest) D σ H) : rdSs K cf rest D σ H := by
  obtain ⟨m, env, rfl, r, re, h⟩ := h
  simp only [execSs, execS] at h
  split at h
  · rename_i v hv
    split at h
    · rename_i v' st' hz
      obtain ⟨x, e1, e2⟩ := re.at_ i v hv
      obtain ⟨m', q1, q2, q3, q4, q5⟩ := frz_ok 3 v r e2 hz
      have re' := (re.mono q3).set i q5
      rw [set_self e1] at re'
      refine ⟨m', env.set i (some v'), q2, q4, re', ?_⟩
      rw [RS.bind_nx, ← q1] at h
      exact PostS.ext h q3
    · exact h.elim
  · exact h.elim
theorem s_asg {tg : Tg} {e : Ex} {H : Hp} (h : rdS K cf (.asg tg e) D σ H) : tAsg (rdE K cf e) (rdT' K tg) D σ H := by
  obtain ⟨m, env, rfl, r, re, h⟩ := h
  simp only [execS] at h
  refine rdS_bind h r re fun m1 v x e1 r1 re1 hv h1 => ?_
  cases eb : bindT tg v env with
  | none => rw [eb] at h1; exact h1.elim
  | some env' =>
    rw [eb] at h1
    exact ⟨m1, env, env', v, rfl, r1, re1, hv, eb, fun σ' re' _ => PostS.nx h1 r1 re'⟩
theorem s_seti {o i e : Ex} {H : Hp} (h : rdS K cf (.seti o i e) D σ H) : tAsg (rdE K cf e) (gSub (rdE K cf o) (rdE K cf i) (rSet K)) D σ H := by
  obtain ⟨m, env, rfl, r, re, h⟩ := h
  simp only [execS] at h
  refine rdS_bind h r re fun m1 v x e1 r1 re1 hv h1 => rdS_bind h1 r1 re1 fun m2 w y e2 r2 re2 hw h2 => rdS_bind h2 r2 re2 fun m3 u z e3 r3 re3 hu h3 => ?_
  refine ⟨m3, w, u, v, rfl, r3, hw.mono e3, hu, (hv.mono e2).mono e3, ?_⟩
  cases es : setv w u v m3.st with
  | ok k st4 =>
    rw [es] at h3
    intro m4 es4 e4 r4
    subst es4
    exact PostS.nx (PostS.ext h3 e4) r4 (re3.mono e4)
  | exc c xs st => rw [es] at h3; exact h3.elim
  | stuck => rw [es] at h3; exact h3.elim
theorem s_rse {H : Hp} (h : rdS K cf .rse D σ H) : False := by
  obtain ⟨m, env, rfl, r, re, h⟩ := h
  exact h
theorem s_sw {o1 i1 o2 i2 e : Ex} {H : Hp} (h : rdS K cf (.sw o1 i1 o2 i2 e) D σ H) : tAsg (rdE K cf e) (gTup K 2 (gCons (gSub (rdE K cf o1) (rdE K cf i1) (rSet K)) (gCons (gSub (rdE K cf o2) (rdE K cf i2) (rSet K)) gNil))) D σ H := by
  obtain ⟨m, env, rfl, r, re, h⟩ := h
  simp only [execS] at h
  refine rdS_bind h r re fun m1 v x e1 r1 re1 hv h1 => ?_
  split at h1
  · rename_i v1 v2
    cases hv with
    | tup q1 q2 =>
      cases q2 with
      | cons p1 q2 =>
        cases q2 with
        | cons p2 q2 =>
          cases q2
          refine ⟨_, _, rfl, q1, rfl, _, _, rfl, ?_⟩
          refine rdS_bind h1 r1 re1 fun m2 w y e2 r2 re2 hw h2 => rdS_bind h2 r2 re2 fun m3 u z e3 r3 re3 hu h3 => ?_
          refine ⟨m3, w, u, v1, rfl, r3, hw.mono e3, hu, (p1.mono e2).mono e3, ?_⟩
          cases es : setv w u v1 m3.st with
          | exc c xs st => rw [es] at h3; exact h3.elim
          | stuck => rw [es] at h3; exact h3.elim
          | ok k st4 =>
            rw [es] at h3
            intro m4 es4 e4 r4
            subst es4
            refine ⟨_, _, rfl, ?_⟩
            have h4 := PostS.ext h3 e4
            refine rdS_bind h4 r4 (re3.mono e4) fun m5 w2 y2 e5 r5 re5 hw2 h5 => rdS_bind h5 r5 re5 fun m6 u2 z2 e6 r6 re6 hu2 h6 => ?_
            refine ⟨m6, w2, u2, v2, rfl, r6, hw2.mono e6, hu2, (((((p2.mono e2).mono e3).mono e4).mono e5).mono e6), ?_⟩
            cases es2 : setv w2 u2 v2 m6.st with
            | exc c xs st => rw [es2] at h6; exact h6.elim
            | stuck => rw [es2] at h6; exact h6.elim
            | ok k2 st7 =>
              rw [es2] at h6
              intro m7 es7 e7 r7
              subst es7
              exact ⟨rfl, PostS.nx (PostS.ext h6 e7) r7 (re6.mono e7)⟩
  · exact h1.elim
theorem s_aug {i : Nat} {op : Bop} {e : Ex} {f : Int → Int → Int} (hop : op = .add ∧ f = (fun i j => i + j) ∨ op = .sub ∧ f = (fun i j => i - j)) {H : Hp} (h : rdS K cf (.aug i op e) D σ H) : tAug i (rdE K cf e) (ipI f) D σ H := by
  obtain ⟨m, env, rfl, r, re, h⟩ := h
  simp only [execS] at h
  split at h
  · rename_i v hv
    obtain ⟨x, q1, q2⟩ := re.at_ i v hv
    refine ⟨x, q1, rdS_bind h r re fun m1 w y e1 r1 re1 hw h1 => ?_⟩
    split at h1
    · rename_i a b
      cases q2; cases hw
      refine ⟨a, b, rfl, rfl, ?_⟩
      rcases hop with ⟨rfl, rfl⟩ | ⟨rfl, rfl⟩
      · exact PostS.nx h1 r1 (re1.set i (.int _))
      · exact PostS.nx h1 r1 (re1.set i (.int _))
    · exact h1.elim
  · exact h.elim
theorem s_ex {e : Ex} {H : Hp} (h : rdS K cf (.ex e) D σ H) : tDrop (rdE K cf e) D σ H := by
  obtain ⟨m, env, rfl, r, re, h⟩ := h
  simp only [execS] at h
  exact rdS_bind h r re fun m1 v x e1 r1 re1 hv h1 => PostS.nx h1 r1 re1
theorem s_ret {e : Ex} {H : Hp} (h : rdS K cf (.ret e) D σ H) : tRet (rdE K cf e) D σ H := by
  obtain ⟨m, env, rfl, r, re, h⟩ := h
  simp only [execS] at h
  exact rdS_bind h r re fun m1 v x e1 r1 re1 hv h1 => h1 m1 x rfl (Ext.refl m1) r1 hv
theorem s_iff {c : Ex} {a b : Sxs} {H : Hp} (h : rdS K cf (.iff c a b) D σ H) : tIfS (rdT K cf c) (rdSs K cf a) (rdSs K cf b) D σ H := by
  obtain ⟨m, env, rfl, r, re, h⟩ := h
  simp only [execS] at h
  refine rdS_bind h r re fun m1 v x e1 r1 re1 hv h1 => ?_
  cases etr : tru v with
  | none => rw [etr] at h1; exact h1.elim
  | some k =>
    rw [etr] at h1
    refine ⟨k, tru_rep hv etr, ?_⟩
    cases k with
    | true => exact iteT ⟨m1, env, rfl, r1, re1, h1⟩
    | false => exact iteF ⟨m1, env, rfl, r1, re1, h1⟩
end
end Co

set_option Elab.async false
set_option linter.all false
set_option maxRecDepth 100000
set_option maxHeartbeats 32000000
/-! Co15: loops, swapped stores; every checked statement. -/
namespace Co
open PySem PySem.Spec L2

section
variable {K : PySem.W.Frag} {cf : CF} {σ : L2.St} {D : Ends}
/-- a turn's body -/
theorem PostS.turn {m : M} {r : RS} {nx : Ev → Store → RS} {bk : Ev → Ev} {N : L2.St → Hp → Prop} (h : PostS K m (match r with
    | .nx env' st' => nx env' st'
    | .ct env' st' => nx env' st'
    | .bk env' st' => .nx (bk env') st'
    | r => r) D) (hb : ∀ (m1 : M) (env : Ev) (σ1 : L2.St), RelEnv K m1 env σ1 → RelEnv K m1 (bk env) σ1) (k : ∀ (m1 : M) (env1 : Ev) (σ1 : L2.St), Ext m m1 → RelS K m1 → RelEnv K m1 env1 σ1 → PostS K m1 (nx env1 m1.st) D → N σ1 m1.H) : PostS K m r { D with nx := N, ct := N, bk := D.nx } := by
  cases r with
  | nx env1 st' =>
    intro m1 σ1 es e1 r1 re1
    subst es
    exact k m1 env1 σ1 e1 r1 re1 (PostS.ext h e1)
  | ct env1 st' =>
    intro m1 σ1 es e1 r1 re1
    subst es
    exact k m1 env1 σ1 e1 r1 re1 (PostS.ext h e1)
  | bk env1 st' =>
    intro m1 σ1 es e1 r1 re1
    subst es
    exact PostS.nx (PostS.ext h e1) r1 (hb m1 env1 σ1 re1)
  | ret v st' => exact h
  | exc c xs st => exact h
  | stuck => exact h
theorem s_fr {tg : Tg} {it : Ic} {body : Sxs} {clr : List Nat} {H : Hp} (h : rdS K cf (.fr tg it body clr) D σ H) : tFor (rdI K cf it) (rdT' K tg) (rdSs K cf body) D σ H := by
  obtain ⟨m, env, rfl, r, re, h⟩ := h
  simp only [execS] at h
  refine ⟨m, env, rfl, r, re, ?_⟩
  cases ei : evalI cf it env m.st with
  | exc c xs st => rw [ei] at h; exact h.elim
  | stuck => rw [ei] at h; exact h.elim
  | ok xs st1 =>
    rw [ei, R.toS_ok] at h
    intro m1 J es e1 r1 hJ
    subst es
    replace h := PostS.ext h e1
    let f : Val → Ev → Store → RS := fun x env' st' => match bindT tg x env' with
      | some env2 => execSs cf body env2 st'
      | none => .stuck
    let Wp : Nat → L2.St → Hp → Prop := fun i σ H => i ≤ xs.length ∧ ∃ (mm : M) (env' : Ev), mm.H = H ∧ RelS K mm ∧ Ext m1 mm ∧ RelEnv K mm env' σ ∧ PostS K mm (forL f clr (xs.drop i) env' mm.st) D
    refine ⟨fun i k σ H => k = xs.length - i ∧ Wp i σ H, ⟨xs.length, by simp, Nat.zero_le _, m1, env, rfl, r1, Ext.refl m1, re.mono e1, h⟩, ?_⟩
    rintro i k σ H ⟨rfl, hi, mm, env', rfl, rr, ex, re', hp⟩
    obtain ⟨j1, j2, j3⟩ := hJ mm rr ex.kp i
    by_cases hlt : i < xs.length
    · refine .inr ⟨j1 hlt, Wp (i + 1), fun σ' H' w => ⟨xs.length - (i + 1), by omega, rfl, w⟩, fun x H' hy => ?_⟩
      have hx : xs[i]? = some xs[i] := by simp [hlt]
      obtain ⟨m2, rfl, es2, ex2, r2, hv⟩ := j3 x H' hy _ hx
      have ed : xs.drop i = xs[i] :: xs.drop (i + 1) := List.drop_eq_getElem_cons hlt
      rw [ed] at hp
      generalize xs[i] = v0 at hp hv
      simp only [forL] at hp
      rw [← es2] at hp
      replace hp := PostS.ext hp ex2
      cases eb : bindT tg v0 env' with
      | none =>
        exfalso
        have : f v0 env' m2.st = .stuck := by show (match bindT tg v0 env' with | some env2 => execSs cf body env2 m2.st | none => .stuck) = _; rw [eb]
        rw [this] at hp
        exact hp
      | some env2 =>
        have ef : f v0 env' m2.st = execSs cf body env2 m2.st := by show (match bindT tg v0 env' with | some env2 => execSs cf body env2 m2.st | none => .stuck) = _; rw [eb]
        rw [ef] at hp
        refine ⟨m2, env', env2, v0, rfl, r2, re'.mono ex2, hv, eb, fun σ2 re3 _ => ?_⟩
        refine ⟨m2, env2, rfl, r2, re3, ?_⟩
        refine PostS.turn (nx := fun env' st' => forL f clr (xs.drop (i + 1)) (wipe env' clr) st') (bk := fun env' => wipe env' clr) hp (fun m1 env σ1 q => q.clear clr) fun m3 env3 σ3 e3 r3 re4 h3 => ?_
        exact ⟨hlt, m3, wipe env3 clr, rfl, r3, (ex.trans ex2).trans e3, re4.clear clr, h3⟩
    · have hz : i = xs.length := by omega
      refine .inl ⟨j2 (by omega), ?_⟩
      rw [hz, List.drop_length] at hp
      exact PostS.nx hp rr re'
theorem s_whl {c : Ex} {body : Sxs} {clr : List Nat} {H : Hp} (h : rdS K cf (.whl c body clr) D σ H) : tWhile (rdT K cf c) (rdSs K cf body) D σ H := by
  obtain ⟨m, env, rfl, r, re, h⟩ := h
  simp only [execS] at h
  let t : Ev → Store → R Val := fun env' st' => evalE cf c env' st'
  let f : Ev → Store → RS := fun env' st' => execSs cf body env' st'
  let Wp : Nat → L2.St → Hp → Prop := fun k σ H => ∃ (mm : M) (env' : Ev), mm.H = H ∧ RelS K mm ∧ RelEnv K mm env' σ ∧ PostS K mm (whlL t f clr k env' mm.st) D
  refine ⟨Wp, ⟨WF, m, env, rfl, r, re, h⟩, ?_⟩
  rintro k σ H ⟨mm, env', rfl, rr, re', hp⟩
  cases k with
  | zero => exact hp.elim
  | succ k =>
    simp only [whlL] at hp
    refine rdS_bind (a := c) hp rr re' fun m1 v x e1 r1 re1 hv h1 => ?_
    cases etr : tru v with
    | none => rw [etr] at h1; exact h1.elim
    | some b =>
      rw [etr] at h1
      refine ⟨b, tru_rep hv etr, ?_⟩
      cases b with
      | false => exact iteF (PostS.nx h1 r1 (re1.clear clr))
      | true =>
        refine iteT ⟨Wp k, fun σ' H' w => ⟨k, by omega, w⟩, m1, env', rfl, r1, re1, ?_⟩
        refine PostS.turn (nx := fun env' st' => whlL t f clr k (wipe env' clr) st') (bk := fun env' => wipe env' clr) h1 (fun m1 env σ1 q => q.clear clr) fun m3 env3 σ3 e3 r3 re4 h3 => ?_
        exact ⟨m3, wipe env3 clr, rfl, r3, re4.clear clr, h3⟩
/-- a, b = x, y -/
theorem s_par {is : List Nat} {es : Exs} {H : Hp} (h : rdS K cf (.par is es) D σ H) : rdEs K cf es σ H fun vs H1 => vs.length = is.length ∧ D.nx ((is.zip vs).foldl (fun s p => s.set p.1 (some p.2)) σ) H1 := by
  obtain ⟨m, env, rfl, r, re, h⟩ := h
  simp only [execS] at h
  refine rdSs_bind h r re fun m1 v x e1 r1 re1 hv h1 => ?_
  cases eb : setAll is v env with
  | none => rw [eb] at h1; exact h1.elim
  | some env' =>
    rw [eb] at h1
    exact ⟨by rw [hv.length, setAll_len _ _ _ _ eb], PostS.nx h1 r1 (RelEnv.setAll is v x env σ env' re1 hv eb)⟩
end

/-! ### side conditions -/
section
variable {X : Cx} {sc : Scope}
theorem sw_plain {t v : Expr} {line : Nat} (h : isComp v = false) : swapsWithSole [t] v line X.env = pure false := by
  cases v <;> first | rfl | cases h
theorem sw_sub {o i v : Expr} {p : Pos} {line : Nat} : swapsWithSole [.Subscript o i p] v line X.env = pure false := by
  cases v <;> rfl
theorem sw_tup {v : Expr} {as : List Expr} {k : Nat} {p : Pos} {line : Nat} : swapsWithSole [.Tuple as k p] v line X.env = pure false := by
  cases v <;> rfl
theorem ss_name {x : Str} {p : Pos} {v : Expr} : swappedStores [.Name x p] v X.env = pure none := by
  cases v <;> rfl
theorem ss_sub {o i v : Expr} {p : Pos} : swappedStores [.Subscript o i p] v X.env = pure none := by
  cases v <;> rfl
theorem blockKind_of (hf : X.env.scope.kind = .function) : X.env.blockKind = .function := by
  unfold Env.blockKind
  rw [hf]
  split <;> rfl
theorem filterMap_lt {α β : Type} (g : α → Option β) : ∀ (l : List α), (∃ x ∈ l, g x = none) → (l.filterMap g).length < l.length
  | [], h => by obtain ⟨x, hx, _⟩ := h; cases hx
  | y :: r, h => by
    obtain ⟨x, hx, hg⟩ := h
    rw [List.filterMap_cons]
    rcases List.mem_cons.mp hx with rfl | hx
    · rw [hg]
      have := List.length_filterMap_le g r
      simp only [List.length_cons]
      omega
    · have ih := filterMap_lt g r ⟨x, hx, hg⟩
      cases g y with
      | none => simp only [List.length_cons]; omega
      | some z => simp only [List.length_cons]; omega
theorem ss_tup {ts : List Expr} {k : Nat} {p : Pos} {v : Expr} (hS : X.env.scope = sc) (h : noSw sc (.Tuple ts k p) v = true) : swappedStores [.Tuple ts k p] v X.env = pure none := by
  cases v with
  | Tuple vs k2 p2 =>
    simp only [noSw, Bool.or_eq_true, decide_eq_true_eq] at h
    unfold swappedStores
    simp only
    split
    · rfl
    split
    · rfl
    split
    · rfl
    rcases h with (h | h) | h
    · rename_i h1 _ _
      exfalso
      apply h1
      have e2 : (ts.length == 2) = false := by simp; omega
      have e3 : (ts.length == 3) = false := by simp; omega
      rw [e2, e3]; rfl
    · rw [if_pos h]
    · rename_i _ _ hc
      exfalso
      apply hc
      rw [List.any_eq_true] at h
      obtain ⟨t, ht, hf⟩ := h
      have hl : ((ts.head?.map (·.pos.line)).getD 0) = lineOf ts := by cases ts <;> rfl
      have := filterMap_lt (fun t : Expr => match t with
        | .Name id pos => if (X.env.kindOf id == some .local && pos.line == (ts.head?.map (·.pos.line)).getD 0) = true then some id else none
        | _ => none) ts ⟨t, ht, by
          cases t with
          | Name x q =>
            simp only [tgFree, Bool.not_eq_true'] at hf
            have e2 : (X.env.kindOf x == some .local) = isLoc sc x := by
              show (X.env.scope.names.lookup x == some .local) = _
              rw [hS]
              unfold isLoc
              split
              · rename_i e; rw [e]; rfl
              · rename_i e
                cases q : sc.names.lookup x == some NameKind.local with
                | false => rfl
                | true => exact absurd (eq_of_beq q) e
            simp only [e2, hl, hf]
            rfl
          | _ => rfl⟩
      rw [Bool.or_eq_true]
      left
      rw [bne_iff_ne]
      exact fun e => absurd e (Nat.ne_of_lt this)
  | _ => rfl
end
end Co

set_option Elab.async false
set_option linter.all false
set_option maxRecDepth 100000
set_option maxHeartbeats 32000000
/-! Co16: every checked statement is what the small language says. -/
namespace Co
open PySem PySem.Spec L2

section
variable {X : Cx} {sc : Scope} {G : GI} {N : List Str} {n : Nat} {cf : CF}
theorem fine_noStar : ∀ {e : Expr}, fineE e = true → (match e with | .Starred .. => true | _ => false) = false := by
  intro e h
  cases e <;> first | rfl | cases h
theorem ss_two {x y : Str} {px py kp pt2 : Pos} {kt k2 : Nat} {a b : Expr} (hf : X.env.scope.kind = .function) (hx : X.env.kindOf x = some .local) (hy : X.env.kindOf y = some .local) (hl : (py.line == px.line) = true) (hne : x ≠ y) (ha : fineE a = true) (hb : fineE b = true)
    (h1 : [a, b].all (foldedForSure 8) = false) (h2 : [a, b].all (constantsAlone 8) = false) : swappedStores [.Tuple [.Name x px, .Name y py] kt kp] (.Tuple [a, b] k2 pt2) X.env = pure (some [x, y]) := by
  have ed : ([x, y] : List Str).eraseDups.length = 2 := by
    have : (y == x) = false := by
      cases q : y == x with
      | false => rfl
      | true => exact absurd (eq_of_beq q).symm hne
    simp [List.eraseDups_cons, this]
  have bk := blockKind_of hf
  have ex : (X.env.kindOf x == some .local && px.line == px.line) = true := by rw [hx]; simp
  have ey : (X.env.kindOf y == some .local && py.line == px.line) = true := by rw [hy, hl]; rfl
  unfold swappedStores
  simp only [List.length_cons, List.length_nil, List.any_cons, List.any_nil, List.filterMap_cons, List.filterMap_nil, List.head?_cons, Option.map_some, Option.getD_some, Expr.pos, ex, ey, if_true, bk, h1, h2]
  rw [if_neg (by decide), if_neg, if_neg, if_neg (by simp), if_neg (by simp)]
  · rw [ed]; simp
  · simp only [Bool.or_false, Bool.or_eq_true, not_or, Bool.not_eq_true]
    exact ⟨fine_noStar ha, fine_noStar hb⟩
theorem ss_three {x y z : Str} {px py pz kp pt2 : Pos} {kt k2 : Nat} {a b c : Expr} (hf : X.env.scope.kind = .function) (hx : X.env.kindOf x = some .local) (hy : X.env.kindOf y = some .local) (hz : X.env.kindOf z = some .local) (hl : (py.line == px.line) = true) (hl2 : (pz.line == px.line) = true) (hne : x ≠ y) (hne2 : x ≠ z) (hne3 : y ≠ z)
    (ha : fineE a = true) (hb : fineE b = true) (hc : fineE c = true)
    (h1 : [a, b, c].all (foldedForSure 8) = false) (h2 : [a, b, c].all (constantsAlone 8) = false) : swappedStores [.Tuple [.Name x px, .Name y py, .Name z pz] kt kp] (.Tuple [a, b, c] k2 pt2) X.env = pure (some [x, y, z]) := by
  have bf : ∀ {u v : Str}, u ≠ v → (v == u) = false := fun {u v} h => by
    cases q : v == u with
    | false => rfl
    | true => exact absurd (eq_of_beq q).symm h
  have ed : ([x, y, z] : List Str).eraseDups.length = 3 := by
    simp [List.eraseDups_cons, bf hne, bf hne2, bf hne3]
  have bk := blockKind_of hf
  have ex : (X.env.kindOf x == some .local && px.line == px.line) = true := by rw [hx]; simp
  have ey : (X.env.kindOf y == some .local && py.line == px.line) = true := by rw [hy, hl]; rfl
  have ez : (X.env.kindOf z == some .local && pz.line == px.line) = true := by rw [hz, hl2]; rfl
  unfold swappedStores
  simp only [List.length_cons, List.length_nil, List.any_cons, List.any_nil, List.filterMap_cons, List.filterMap_nil, List.head?_cons, Option.map_some, Option.getD_some, Expr.pos, ex, ey, ez, if_true, bk, h1, h2]
  rw [if_neg (by decide), if_neg, if_neg, if_neg (by simp), if_neg (by simp)]
  · rw [ed]; simp
  · simp only [Bool.or_false, Bool.or_eq_true, not_or, Bool.not_eq_true]
    exact ⟨fine_noStar ha, fine_noStar hb, fine_noStar hc⟩
theorem isLoc_of {x : Str} (h : isLoc sc x = true) : sc.names.lookup x = some .local := by
  unfold isLoc at h
  split at h
  · assumption
  · cases h
theorem PS.imp {s : Stmt} {t t' : TS} (h : PS X s t) (i : ∀ D σ H, t' D σ H → t D σ H) : PS X s t' := ⟨fun pins s σ H D I q => h.run pins s σ H D I (i D σ H q)⟩
theorem PSs.imp {s : List Stmt} {t t' : TS} (h : PSs X s t) (i : ∀ D σ H, t' D σ H → t D σ H) : PSs X s t' := ⟨fun pins s σ H D I q => h.run pins s σ H D I (i D σ H q)⟩
/-- name = [..] on one line -/
theorem lc_set (c : CtxOk G N n cf X sc) (d : CtxS X sc) {i : Nat} {x : Str} {px : Pos} {e : Ex} (hz : isFrz e = false) {elt : Expr} {gens : List Comprehension} {scope : Scope} {p pos : Pos} (hi : N[i]? = some x) (hsw : swC sc (.Name x px) (.ListComp elt gens scope p) = true) (h : chkE G N e sc (.ListComp elt gens scope p) = true) :
    PS X (.Assign [.Name x px] (.ListComp elt gens scope p) pos) (rdS X.K cf (.asg (.nm i) e)) := by
  simp only [swC, Bool.and_eq_true, Bool.not_eq_true'] at hsw
  obtain ⟨⟨w1, w2⟩, w3⟩ := hsw
  have hl : X.env.scope.names.lookup x = some .local := by rw [c.eS]; exact isLoc_of w1
  have hsw : swapsWith (.ListComp elt gens scope p) (some (.Name x px)) pos.line X.env = pure true := by
    have e1 : (X.env.blockKind == .function) = true := by rw [blockKind_of d.kf]; rfl
    have e2 : (X.env.kindOf x == some .local) = true := by
      have : X.env.kindOf x = some .local := hl
      rw [this]; rfl
    show (pure (X.env.blockKind == .function && X.env.kindOf x == some .local && px.line == p.line && !(scope.names.any fun y => y.1 == x && (y.2 == .local || y.2 == .cell))) : Sem Bool) = pure true
    rw [e1, e2, w2, w3]; rfl
  cases e with
  | lc lv elt0 tg it cnd own =>
    match gens, h, hsw with
    | [⟨tg', iter', ifs', kz⟩], h, hsw =>
      have hz : kz = 0 := by
        by_cases hz : kz = 0
        · exact hz
        · exfalso
          unfold chkE at h
          split at h
          · rename_i e
            simp only [Expr.ListComp.injEq, List.cons.injEq, Comprehension.mk.injEq] at e
            exact hz e.2.1.1.2.2.2
          · cases h
      subst hz
      simp only [chkE, Bool.and_eq_true, decide_eq_true_eq] at h
      obtain ⟨⟨⟨⟨⟨h1, h2⟩, h3⟩, h4⟩, h5⟩, h6⟩ := h
      have hi' := okI it (tg := tg') c h2
      have eo : (ownP N own).map (·.2) = own := by simp [ownP, Function.comp_def]
      have ok : BlkOk X.N X.env.scope scope (ownP N own) := by
        rw [c.eN, c.eS]; exact blkOk_by h1
      refine PS.imp (ps_setLc (own := ownP N own) (g := rdT' X.K tg) (tt := rdT X.K cf cnd) (te := rdE X.K cf elt0) c.calm (by rw [c.eN]; exact c.nd) (by rw [c.eN]; exact hi) hl hsw hi'.1 ok (fun s H C cl fp => pg_ok (X := X.blk s H scope (compEnvC scope cl C X.env) fp) (sc := scope) c.eN c.nd c.calm (canSet_blk s H C cl fp) tg tg' h3) (fun s H C cl fp => ?_)
        (fun s H C cl fp => (okE elt0 (c.blk s H scope C cl fp) h5).1) hi'.2) fun D σ H q => ?_
      · match ifs', h6 with
        | [], h6 =>
          have := yes_true h6
          subst this
          refine ⟨fun pins s' σ H' Q I q => pts_nil.run pins s' σ H' Q I ?_⟩
          obtain ⟨m, env, rfl, r, re, h⟩ := q
          obtain ⟨k, e, q⟩ := PostV.ok h r (.bl true)
          cases e
          exact q
        | [cc], h6 => exact pts_one (okE cnd (c.blk s H scope C cl fp) h6).2
        | _ :: _ :: _, h6 => cases h6
      · rw [eo]
        obtain ⟨m, env, rfl, r, re, q⟩ := q
        simp only [execS] at q
        refine lc_ok h4 (rdS_bind q r re fun m1 v x e1 r1 re1 hv h1 => ?_)
        simp only [bindT] at h1
        exact PostS.nx h1 r1 (re1.set i hv)
    | [], h, _ => simp [chkE] at h
    | _ :: _ :: _, h, _ => simp [chkE] at h
  | frz _ => cases hz
  | _ => simp [chkE] at h
theorem asg_ok (c : CtxOk G N n cf X sc) (d : CtxS X sc) {tg : Tg} {e : Ex} {t v : Expr} {pos : Pos} (h1 : chkT N sc tg t = true) (h2 : chkE G N e sc v = true) (h3 : noSw sc t v = true) (h4 : (!isFrz e || !isComp v) = true) : PS X (.Assign [t] v pos) (rdS X.K cf (.asg tg e)) := by
  have hg := pg_ok (X := X) c.eN c.nd c.calm d.cs tg t h1
  have hv := (okE e c h2).1
  cases tg with
  | nm i =>
    cases t with
    | Name x px =>
      by_cases hw : swC sc (.Name x px) v = true
      · have hi : N[i]? = some x := by
          simp only [chkT, Bool.and_eq_true, decide_eq_true_eq] at h1
          exact h1.1
        cases v with
        | ListComp elt gens scope p => exact lc_set c d (by simpa [isComp] using h4) hi hw h2
        | _ => simp [swC] at hw
      · refine PS.imp (ps_asg hv hg ?_ ss_name rfl) fun _ _ _ q => s_asg q
        cases v with
        | ListComp elt gens scope p =>
          show (pure (X.env.blockKind == .function && X.env.kindOf x == some .local && px.line == p.line && !(scope.names.any fun y => y.1 == x && (y.2 == .local || y.2 == .cell))) : Sem Bool) = pure false
          have e2 : (X.env.kindOf x == some .local) = isLoc sc x := by
            show (X.env.scope.names.lookup x == some .local) = _
            rw [c.eS]
            unfold isLoc
            split
            · rename_i e; rw [e]; rfl
            · rename_i e
              cases q : sc.names.lookup x == some NameKind.local with
              | false => rfl
              | true => exact absurd (eq_of_beq q) e
          have : (X.env.kindOf x == some .local && px.line == p.line && !(scope.names.any fun y => y.1 == x && (y.2 == .local || y.2 == .cell))) = false := by
            rw [e2]
            simpa only [swC, Bool.not_eq_true] using hw
          rw [Bool.and_assoc, Bool.and_assoc] 
          rw [Bool.and_assoc] at this
          rw [this, Bool.and_false]
        | SetComp _ _ _ _ => exact absurd (chkE_fine h2) (by simp [fineE])
        | DictComp _ _ _ _ _ => exact absurd (chkE_fine h2) (by simp [fineE])
        | _ => rfl
    | _ => simp [chkT] at h1
  | tp is =>
    cases t with
    | Tuple ts k p => exact PS.imp (ps_asg hv hg sw_tup (ss_tup c.eS h3) rfl) fun _ _ _ q => s_asg q
    | _ => simp [chkT] at h1
theorem len2 {α : Type} : ∀ {l : List α}, l.length = 2 → ∃ a b, l = [a, b]
  | [a, b], _ => ⟨a, b, rfl⟩
theorem len3 {α : Type} : ∀ {l : List α}, l.length = 3 → ∃ a b c, l = [a, b, c]
  | [a, b, c], _ => ⟨a, b, c, rfl⟩
theorem par_ok (c : CtxOk G N n cf X sc) (d : CtxS X sc) {is : List Nat} {es : Exs} {ts vs : List Expr} {kt k2 : Nat} {p p2 pos : Pos} (hl : is.length = 2 ∨ is.length = 3) (hv : vs.length = is.length) (nd : is.Nodup) (hp : chkP N sc (lineOf ts) is ts = true) (f1 : vs.all (foldedForSure 8) = false) (f2 : vs.all (constantsAlone 8) = false) (he : chkEs G N es sc vs = true) :
    PS X (.Assign [.Tuple ts kt p] (.Tuple vs k2 p2) pos) (rdS X.K cf (.par is es)) := by
  have ha := okEs es c he
  have hfe := chkEs_fine es vs he
  have nk : ∀ {i j : Nat} {x y : Str}, N[i]? = some x → N[j]? = some y → i ≠ j → x ≠ y := fun {i j x y} h1 h2 hij e => hij (ixInj c.nd (e ▸ h1) h2)
  have name : ∀ {line : Nat} {i : Nat} {is : List Nat} {ts : List Expr}, chkP N sc line (i :: is) ts = true → ∃ x p r, ts = .Name x p :: r ∧ N[i]? = some x ∧ isLoc sc x = true ∧ (p.line == line) = true ∧ chkP N sc line is r = true := fun {line i is ts} h => by
    cases ts with
    | nil => simp [chkP] at h
    | cons t r =>
      cases t with
      | Name x p =>
        simp only [chkP, Bool.and_eq_true, decide_eq_true_eq] at h
        exact ⟨x, p, r, rfl, h.1.1.1, h.1.1.2, h.1.2, h.2⟩
      | _ => simp [chkP] at h
  have done : ∀ {line : Nat} {ts : List Expr}, chkP N sc line [] ts = true → ts = [] := fun {line ts} h => by
    cases ts with
    | nil => rfl
    | cons t r => simp [chkP] at h
  rcases hl with hl | hl
  · obtain ⟨i, j, rfl⟩ := len2 hl
    obtain ⟨a, b, rfl⟩ := len2 (hv.trans hl)
    obtain ⟨x, px, r, rfl, a1, a2, a3, hp⟩ := name hp
    obtain ⟨y, py, r, rfl, b1, b2, b3, hp⟩ := name hp
    cases done hp
    simp only [lineOf, Expr.pos] at b3
    have hij : i ≠ j := by simpa using nd
    have hx : X.env.scope.names.lookup x = some .local := by rw [c.eS]; exact isLoc_of a2
    have hy : X.env.scope.names.lookup y = some .local := by rw [c.eS]; exact isLoc_of b2
    have hfa := hfe a (by simp)
    have hfb := hfe b (by simp)
    refine PS.imp (ps_par c.calm (by rw [c.eN]; exact c.nd) (by rw [c.eN]; exact a1) (by rw [c.eN]; exact b1) hij hx hy ha (ss_two d.kf hx hy b3 (nk a1 b1 hij) hfa hfb f1 f2) sw_tup) fun D σ H q => ?_
    have q' := s_par q
    obtain ⟨m, env, rfl, r, re, h⟩ := q'
    refine ⟨m, env, rfl, r, re, ?_⟩
    cases eo : evalEs cf es env m.st with
    | ok v st1 =>
      rw [eo] at h
      intro m1 xs es' e1 r1 hv
      obtain ⟨z1, z2⟩ := h m1 xs es' e1 r1 hv
      match xs, z1, z2 with
      | [u, w], _, z2 => exact ⟨u, w, rfl, z2⟩
    | exc c xs st => rw [eo] at h; exact h.elim
    | stuck => rw [eo] at h; exact h.elim
  · obtain ⟨i, j, l, rfl⟩ := len3 hl
    obtain ⟨a, b, e, rfl⟩ := len3 (hv.trans hl)
    obtain ⟨x, px, r, rfl, a1, a2, a3, hp⟩ := name hp
    obtain ⟨y, py, r, rfl, b1, b2, b3, hp⟩ := name hp
    obtain ⟨z, pz, r, rfl, c1, c2, c3, hp⟩ := name hp
    cases done hp
    simp only [lineOf, Expr.pos] at b3 c3
    have hnd : (i ≠ j ∧ i ≠ l) ∧ j ≠ l := by simpa using nd
    have hx : X.env.scope.names.lookup x = some .local := by rw [c.eS]; exact isLoc_of a2
    have hy : X.env.scope.names.lookup y = some .local := by rw [c.eS]; exact isLoc_of b2
    have hz : X.env.scope.names.lookup z = some .local := by rw [c.eS]; exact isLoc_of c2
    have hfa := hfe a (by simp)
    have hfb := hfe b (by simp)
    have hfc := hfe e (by simp)
    refine PS.imp (ps_par3 c.calm (by rw [c.eN]; exact c.nd) (by rw [c.eN]; exact a1) (by rw [c.eN]; exact b1) (by rw [c.eN]; exact c1) hnd.1.1 hnd.1.2 hnd.2 hx hy hz ha (ss_three d.kf hx hy hz b3 c3 (nk a1 b1 hnd.1.1) (nk a1 c1 hnd.1.2) (nk b1 c1 hnd.2) hfa hfb hfc f1 f2) sw_tup) fun D σ H q => ?_
    have q' := s_par q
    obtain ⟨m, env, rfl, r, re, h⟩ := q'
    refine ⟨m, env, rfl, r, re, ?_⟩
    cases eo : evalEs cf es env m.st with
    | ok v st1 =>
      rw [eo] at h
      intro m1 xs es' e1 r1 hv
      obtain ⟨z1, z2⟩ := h m1 xs es' e1 r1 hv
      match xs, z1, z2 with
      | [u, w, t], _, z2 => exact ⟨u, w, t, rfl, z2⟩
    | exc c xs st => rw [eo] at h; exact h.elim
    | stuck => rw [eo] at h; exact h.elim
/-- every checked test -/
theorem okC : ∀ (x : Ex) {e : Expr}, CtxOk G N n cf X sc → chkC G N x sc e = true → PT X e (rdT X.K cf x)
  | .tst a, e, c, h => by
    cases e with
    | Name y p =>
      simp only [chkC] at h
      exact PT.imp (pt_truth (okE a c h).1 fun _ => rfl) fun _ _ _ q => r_tst q
    | _ => simp [chkC] at h
  | .and_ a b, e, c, h => by
    cases e with
    | BoolOp op vs p =>
      cases op with
      | And =>
        match vs, h with
        | v :: w :: [], h =>
          simp only [chkC, Bool.and_eq_true, List.isEmpty_nil, if_true] at h
          exact PT.imp (pw_and (okC a c h.1) (pw_and1 (okC b c h.2))).pt fun _ _ _ q => r_andT q
        | v :: w :: x :: r, h =>
          simp only [chkC, Bool.and_eq_true, List.isEmpty_cons, Bool.false_eq_true, if_false] at h
          exact PT.imp (pw_and (okC a c h.1) (pw_bool (okC b c h.2))).pt fun _ _ _ q => r_andT q
        | [], h => simp [chkC] at h
        | [_], h => simp [chkC] at h
      | Or => simp [chkC] at h
    | _ => simp [chkC] at h
  | .or_ a b, e, c, h => by
    cases e with
    | BoolOp op vs p =>
      cases op with
      | Or =>
        match vs, h with
        | v :: w :: [], h =>
          simp only [chkC, Bool.and_eq_true, List.isEmpty_nil, if_true] at h
          exact PT.imp (pw_or (okC a c h.1) (pw_or1 (okC b c h.2))).pt fun _ _ _ q => r_orT q
        | v :: w :: x :: r, h =>
          simp only [chkC, Bool.and_eq_true, List.isEmpty_cons, Bool.false_eq_true, if_false] at h
          exact PT.imp (pw_or (okC a c h.1) (pw_bool (okC b c h.2))).pt fun _ _ _ q => r_orT q
        | [], h => simp [chkC] at h
        | [_], h => simp [chkC] at h
      | And => simp [chkC] at h
    | _ => simp [chkC] at h
  | .not_ a, e, c, h => by
    cases e with
    | UnaryOp op a' p =>
      cases op with
      | Not =>
        simp only [chkC] at h
        exact PT.imp (pt_not (okC a c h)) fun _ _ _ q => r_notT q
      | _ => simp [chkC] at h
    | _ => simp [chkC] at h
  | .var _, _, c, h => (okE _ c (by simpa only [chkC] using h)).2
  | .cst _, _, c, h => (okE _ c (by simpa only [chkC] using h)).2
  | .tup _, _, c, h => (okE _ c (by simpa only [chkC] using h)).2
  | .lst _ _, _, c, h => (okE _ c (by simpa only [chkC] using h)).2
  | .dct _ _ _, _, c, h => (okE _ c (by simpa only [chkC] using h)).2
  | .bin _ _ _ _, _, c, h => (okE _ c (by simpa only [chkC] using h)).2
  | .neg _, _, c, h => (okE _ c (by simpa only [chkC] using h)).2
  | .cmp _ _ _, _, c, h => (okE _ c (by simpa only [chkC] using h)).2
  | .chn _ _ _ _ _, _, c, h => (okE _ c (by simpa only [chkC] using h)).2
  | .ite _ _ _, _, c, h => (okE _ c (by simpa only [chkC] using h)).2
  | .call _ _ _ _, _, c, h => (okE _ c (by simpa only [chkC] using h)).2
  | .bi _ _ _, _, c, h => (okE _ c (by simpa only [chkC] using h)).2
  | .mth _ _ _ _, _, c, h => (okE _ c (by simpa only [chkC] using h)).2
  | .idx _ _, _, c, h => (okE _ c (by simpa only [chkC] using h)).2
  | .slc _ _ _ _, _, c, h => (okE _ c (by simpa only [chkC] using h)).2
  | .lc _ _ _ _ _ _, _, c, h => (okE _ c (by simpa only [chkC] using h)).2
  | .sset _ _, _, c, h => (okE _ c (by simpa only [chkC] using h)).2
  | .rgl _ _ _, _, c, h => (okE _ c (by simpa only [chkC] using h)).2
  | .frz _, _, c, h => (okE _ c (by simpa only [chkC] using h)).2
end
end Co

set_option Elab.async false
set_option linter.all false
set_option maxRecDepth 100000
set_option maxHeartbeats 32000000
/-! Co17: every checked suite; every def of a checked table. -/
namespace Co
open PySem PySem.Spec L2

section
variable {X : Cx} {sc : Scope} {G : GI} {N : List Str} {n : Nat} {cf : CF}
mutual
theorem okS : ∀ (x : Sx) {s : Stmt}, CtxOk G N n cf X sc → CtxS X sc → chkS G N x sc s = true → PS X s (rdS X.K cf x)
  | .asg tg e, s, c, d, h => by
    unfold chkS at h
    split at h
    · simp only [Bool.and_eq_true] at h
      exact asg_ok c d h.1.1.1 h.1.1.2 h.1.2 h.2
    · cases h
  | .par is es, s, c, d, h => by
    unfold chkS at h
    split at h
    · simp only [Bool.and_eq_true, Bool.or_eq_true, decide_eq_true_eq, Bool.not_eq_true'] at h
      obtain ⟨⟨⟨⟨⟨⟨h1, h2⟩, h3⟩, h4⟩, h5⟩, h6⟩, h7⟩ := h
      exact par_ok c d h1 h2 h3 h4 h5 h6 h7
    · cases h
  | .seti o i e, s, c, d, h => by
    unfold chkS at h
    split at h
    · rename_i o' i' p v q
      simp only [Bool.and_eq_true] at h
      have fi := chkE_fine h.1.2
      exact PS.imp (ps_asg (okE e c h.2).1 (pg_sub (okE o c h.1.1).1 (okE i c h.1.2).1 (op_set c.u1) (by intro v'; cases i' <;> first | rfl | cases fi)) sw_sub ss_sub rfl) fun _ _ _ q => s_seti q
    · cases h
  | .sw o1 i1 o2 i2 e, s, c, d, h => by
    unfold chkS at h
    split at h
    · rename_i o1' i1' p1 o2' i2' p2 kt pt v q
      simp only [Bool.and_eq_true] at h
      obtain ⟨⟨⟨⟨⟨h1, h2⟩, h3⟩, h4⟩, h5⟩, h6⟩ := h
      have f1 := chkE_fine h2
      have f2 := chkE_fine h4
      have hn : noSw sc (.Tuple [.Subscript o1' i1' p1, .Subscript o2' i2' p2] kt pt) v = true := by
        cases v <;> simp [noSw, tgFree]
      exact PS.imp (ps_asg (okE e c h5).1 (pg_tup c.calm (pgs_cons (pg_sub (okE o1 c h1).1 (okE i1 c h2).1 (op_set c.u1) (by intro v'; cases i1' <;> first | rfl | cases f1)) (pgs_cons (pg_sub (okE o2 c h3).1 (okE i2 c h4).1 (op_set c.u1) (by intro v'; cases i2' <;> first | rfl | cases f2)) pgs_nil))) sw_tup (ss_tup c.eS hn) rfl) fun _ _ _ q => s_sw q
    · cases h
  | .rse, s, c, d, h => by
    unfold chkS at h
    split at h
    · exact ⟨fun pins s σ H D I h => (s_rse h).elim⟩
    · cases h
  | .aug i op e, s, c, d, h => by
    unfold chkS at h
    split at h
    · rename_i y py op' v q
      simp only [Bool.and_eq_true, decide_eq_true_eq] at h
      obtain ⟨⟨⟨⟨h1, h2⟩, h3⟩, h4⟩, h5⟩ := h
      obtain ⟨c1, c2⟩ := d.cs y h4
      have := bopEq_of h2
      subst this
      cases op with
      | add => exact PS.imp (ps_aug (by rw [c.eN]; exact c.nd) (by rw [c.eN]; exact h3) c1 (okE e c h5).1 ip_add c2) fun _ _ _ q => s_aug (.inl ⟨rfl, rfl⟩) q
      | sub => exact PS.imp (ps_aug (by rw [c.eN]; exact c.nd) (by rw [c.eN]; exact h3) c1 (okE e c h5).1 ip_sub c2) fun _ _ _ q => s_aug (.inr ⟨rfl, rfl⟩) q
      | _ => cases h1
    · cases h
  | .ex e, s, c, d, h => by
    unfold chkS at h
    split at h
    · rename_i v q
      simp only [Bool.and_eq_true, Bool.not_eq_true'] at h
      exact PS.imp (ps_expr (okE e c h.2).1 (by have := h.1; cases v <;> first | rfl | cases this)) fun _ _ _ q => s_ex q
    · cases h
  | .ret e, s, c, d, h => by
    unfold chkS at h
    split at h
    · exact PS.imp (ps_ret (okE e c h).1) fun _ _ _ q => s_ret q
    · have := isNon_eq h
      subst this
      refine PS.imp ps_retN fun D σ H q => ?_
      obtain ⟨m, env, rfl, r, re, h⟩ := q
      exact h m .non rfl (Ext.refl m) r .non
    · cases h
  | .iff t a b, s, c, d, h => by
    unfold chkS at h
    split at h
    · simp only [Bool.and_eq_true] at h
      exact PS.imp (ps_if (okC t c h.1.1) (okSs a c d h.1.2) (okSs b c d h.2)) fun _ _ _ q => s_iff q
    · cases h
  | .fr tg it body clr, s, c, d, h => by
    unfold chkS at h
    split at h
    · simp only [Bool.and_eq_true] at h
      have hi := okI it c h.1.1
      exact PS.imp (ps_for d.own c.calm hi.1 (pg_ok c.eN c.nd c.calm d.cs tg _ h.1.2) (okSs body c d h.2) hi.2) fun _ _ _ q => s_fr q
    · cases h
  | .whl t body clr, s, c, d, h => by
    unfold chkS at h
    split at h
    · simp only [Bool.and_eq_true] at h
      exact PS.imp (ps_while d.own (okC t c h.1) (okSs body c d h.2)) fun _ _ _ q => s_whl q
    · cases h
  | .brk, s, c, d, h => by
    unfold chkS at h
    split at h
    · refine PS.imp ps_break fun D σ H q => ?_
      obtain ⟨m, env, rfl, r, re, h⟩ := q
      exact h m σ rfl (Ext.refl m) r re
    · cases h
  | .cont, s, c, d, h => by
    unfold chkS at h
    split at h
    · refine PS.imp ps_continue fun D σ H q => ?_
      obtain ⟨m, env, rfl, r, re, h⟩ := q
      exact h m σ rfl (Ext.refl m) r re
    · cases h
  | .pass, s, c, d, h => by
    unfold chkS at h
    split at h
    · refine PS.imp ps_pass fun D σ H q => ?_
      obtain ⟨m, env, rfl, r, re, h⟩ := q
      exact h m σ rfl (Ext.refl m) r re
    · refine PS.imp ps_doc fun D σ H q => ?_
      obtain ⟨m, env, rfl, r, re, h⟩ := q
      exact h m σ rfl (Ext.refl m) r re
    · cases h
  | .clr _, s, c, d, h => by simp [chkS] at h
  | .frz _, s, c, d, h => by simp [chkS] at h
theorem okSs : ∀ (x : Sxs) {ss : List Stmt}, CtxOk G N n cf X sc → CtxS X sc → chkSs G N x sc ss = true → PSs X ss (rdSs X.K cf x)
  | .nil, ss, c, d, h => by
    have : ss = [] := by simpa [chkSs] using h
    subst this
    exact PSs.imp pss_nil fun _ _ _ q => s_nil q
  | .cons s r, ss, c, d, h => by
    have plain : (∀ st rest, ss = st :: rest → chkS G N s sc st = true ∧ chkSs G N r sc rest = true) → ss ≠ [] → PSs X ss (rdSs X.K cf (.cons s r)) := fun hh h0 => by
      cases ss with
      | nil => exact absurd rfl h0
      | cons st rest =>
        obtain ⟨h1, h2⟩ := hh st rest rfl
        exact PSs.imp (pss_cons (okS s c d h1) (okSs r c d h2)) fun _ _ _ q => s_cons q
    cases s with
    | clr is => exact PSs.imp (okSs r c d (by simpa only [chkSs] using h)) fun _ _ _ q => s_clr q
    | frz i => exact PSs.imp (okSs r c d (by simpa only [chkSs] using h)) fun _ _ _ q => s_frz q
    | _ =>
      refine plain (fun st rest e => ?_) (fun e => ?_)
      · subst e
        simpa only [chkSs, Bool.and_eq_true] using h
      · subst e
        simp [chkSs] at h
end
end

/-! ### defs -/
def scopeC (N ps : List Str) (sc : Scope) : Bool :=
  (match sc.kind with | .function => true | _ => false) && !sc.isCoroutine && !sc.isGenerator && decide N.Nodup && decide (N.take ps.length = ps) && (ps.all fun x => isOwn sc x) && (sc.names.all fun y => match y.2 with | .free => false | _ => true)
theorem scope_of {N ps : List Str} {sc : Scope} (h : scopeC N ps sc = true) : FnScope N ps sc := by
  simp only [scopeC, Bool.and_eq_true, decide_eq_true_eq, Bool.not_eq_true'] at h
  obtain ⟨⟨⟨⟨⟨⟨h1, h2⟩, h3⟩, h4⟩, h5⟩, h6⟩, h7⟩ := h
  refine ⟨?_, h2, h3, h4, h5, fun x hx => ?_, fun y hy e => ?_⟩
  · split at h1
    · assumption
    · cases h1
  · have q := List.all_eq_true.mp h6 x hx
    unfold isOwn at q
    split at q
    · exact .inl (by assumption)
    · exact .inr (by assumption)
    · cases q
  · have q := List.all_eq_true.mp h7 y hy
    rw [e] at q
    cases q
theorem canSet_fn {X : Cx} {sc : Scope} (hs : X.env.scope = sc) (hf : ∀ x, X.fn x = true) : CanSet X sc := by
  intro x h
  refine ⟨?_, .inl (hf x)⟩
  unfold isOwn at h
  rw [hs]
  split at h
  · exact .inl (by assumption)
  · exact .inr (by assumption)
  · cases h
theorem fin_ok {K : PySem.W.Frag} {m : M} {r : RS} {Q : VK} (hr : RelS K m) (h : PostV K m (fin m.st.length r) Q) : PostS K m r { nx := fun _ H' => Q .non H', rt := Q } := by
  have cutOk : ∀ {v : Val} {x : V} {m' : M}, Ext m m' → RelS K m' → RepV K m' v x → PostV K m (.ok v (trunc m.st.length v m'.st)) Q → Q x m'.H := by
    intro v x m' e r' hv h
    unfold trunc at h
    split at h
    · exact h m' x rfl e r' hv
    · split at h
      · rename_i h1 h2
        simp only [Bool.and_eq_true] at h2
        exact h (m'.cut m.st.length) x rfl (e.cut hr) (r'.cut h2.2) (hv.cut h2.1)
      · exact h m' x rfl e r' hv
  cases r with
  | nx env st' =>
    intro m' σ' es e r' re
    subst es
    exact cutOk (v := .non) e r' .non h
  | ret v st' =>
    intro m' x es e r' hv
    subst es
    exact cutOk e r' hv h
  | bk env st' => exact h.elim
  | ct env st' => exact h.elim
  | exc c xs st => exact h.elim
  | stuck => exact h.elim
theorem start_rel {K : PySem.W.Frag} {m : M} {vs : List V} {args : List Val} {N : List Str} {ns : Nat} (h : RepVs K m args vs) (hN : N.length = ns) : RelEnv K m (args.map some ++ List.replicate (ns - args.length) none) (L2.start N vs) := by
  have hl := h.length
  refine ⟨by simp [L2.start, hl, hN], fun i v e => ?_⟩
  by_cases hi : i < args.length
  · rw [List.getElem?_append_left (by simpa using hi), List.getElem?_map] at e
    cases ea : args[i]? with
    | none => rw [ea] at e; cases e
    | some w =>
      rw [ea] at e
      cases e
      obtain ⟨x, h1, h2⟩ := h.get ea
      refine ⟨x, ?_, h2⟩
      unfold L2.start
      rw [List.getElem?_append_left (by simpa [hl] using hi), List.getElem?_map, h1]; rfl
  · rw [List.getElem?_append_right (by simpa using hi), List.getElem?_replicate] at e
    split at e <;> cases e
/-- a def as it stands in the module -/
structure DefAt (K : PySem.W.Frag) (a : Addr) (fd : FuncData) (ps : List Str) (sc : Scope) (body : List Stmt) : Prop where
  at_ : ∃ (name qual : Str) (params : Arguments) (dV kV doc pm cdv ct oc : Value) (an od : Option Addr) (osl : Array (Option Value)), fd = PySem.W.fnOf name qual params body sc dV kV doc pm an cdv ct ∧
    K.lookup a = some ⟨oc, od, .func (PySem.W.fnOf name qual params body sc dV kV doc pm an cdv ct), osl⟩ ∧ PySem.W.codeIn K cdv qual = true
/-- a row of the table: the slots' names, the parameters, the text -/
structure Row where
  N : List Str
  ps : List Str
  sc : Scope
  body : List Stmt
def rowC (G : GI) (r : Row) (d : FD) : Bool := scopeC r.N r.ps r.sc && decide (r.N.length = d.ns) && decide (r.ps.length = d.np) && chkSs G r.N d.body r.sc r.body
theorem def_ok {P : Program} {w : World} {K : PySem.W.Frag} {mg : Str → Option Value} {base : Heap} {G : GI} {F : Nat → Option FD} {n : Nat} {f : Nat} {a : Addr} {fd : FuncData} {r : Row} {d : FD} (hF : F f = some d) (hd : DefAt K a fd r.ps r.sc r.body) (hr : rowC G r d = true)
    (blt : ∀ x ∈ bltNames, mg x = none) (cs : ∀ x v, G.cs.lookup x = some v → ∃ u y, mg x = some u ∧ RelV y u ∧ ∀ K m, RepV K m v y)
    (fn : ∀ g x ps, (g, x, ps) ∈ G.fn → ∃ a fd, mg x = some (.ref a) ∧ PySem.W.keepIn K (.ref a) = true ∧ FnG P w K mg base n a fd ps (spF K ps.length (runF F n) g) ∧
      ∀ np ks pm, (g, np, ks, pm) ∈ G.kw → pm.length = ps.length ∧ ∀ (us ws all : List Value), us.length = np → ws.length = ks.length → pm.mapM (fun i => (us ++ ws)[i]?) = some all → bindArgs fd ⟨us, ks.zip ws⟩ = pure (ps.zip all))
    (fn1 : ∀ f x ps x' ps', (f, x, ps) ∈ G.fn → (f, x', ps') ∈ G.fn → x = x' ∧ ps = ps') :
    FnG P w K mg base (n + 1) a fd r.ps (spF K r.ps.length (runF F (n + 1)) f) := by
  obtain ⟨name, qual, params, dV, kV, doc, pm, cdv, ct, oc, an, od, osl, rfl, lk, hcd⟩ := hd
  simp only [rowC, Bool.and_eq_true, decide_eq_true_eq] at hr
  obtain ⟨⟨⟨h1, h2⟩, h3⟩, h4⟩ := hr
  refine fn_ofG lk hcd (scope_of h1) (fun vs H Q E h => h.1) fun A outer s H vs Q E hroom hgd hsp => ?_
  have c : CtxOk G r.N n (runF F n) (cxOf CX0 P w K mg base r.N qual r.sc a cdv A outer s H E) r.sc := ⟨rfl, rfl, (scope_of h1).nd, rfl, hgd, hroom, blt, cs, fn, fn1⟩
  have dS : CtxS (cxOf CX0 P w K mg base r.N qual r.sc a cdv A outer s H E) r.sc := ⟨(scope_of h1).kind, passes_of rfl, canSet_fn rfl fun _ => rfl⟩
  refine ⟨_, okSs d.body c dS h4, ?_⟩
  obtain ⟨hl, m, args, rfl, hrel, hargs, hq⟩ := hsp
  have hal : args.length = d.np := by rw [← hargs.length, hl, h3]
  refine ⟨m, args.map some ++ List.replicate (d.ns - d.np) none, rfl, hrel, by rw [← hal]; exact start_rel hargs h2, ?_⟩
  simp only [runF, hF, hal, if_true] at hq
  exact fin_ok hrel hq
end Co

set_option Elab.async false
set_option linter.all false
set_option maxRecDepth 100000
set_option maxHeartbeats 16000000
/-! Co18: all defs of a table; the law's end. -/
namespace Co
open PySem PySem.Spec PyProof.Rows L2
theorem law_callG {P : Program} {w : World} {K : PySem.W.Frag} {mg mb : Str → Option Value} {k : Nat} {fa a : Addr} {fd : FuncData} {x : Str} {sp : Sp} {s₁ : Shared} {vs : List Value} {ns : List Int}
    (KX : K.In s₁.heap) (hns : s₁.heap.Ns mainGlobals mg) (hb : s₁.heap.Ns builtinsNs mb) (hbb : ∀ x : Str, x ≠ "__name__" → mb x = bootBuiltins x) (hlim : s₁.heap.NoLimit) (hg : s₁.gens = #[])
    (ha : s₁.heap.get? a = some { cls := .type "list", data := .seq vs.toArray }) (hi : IntsAre vs ns) (hl : ns.length ≤ sizeLine) (hr : Room k callerA)
    (F : ∀ base : Heap, K.In base → base.Ns mainGlobals mg → FnG P w K mg base k fa fd [x] sp) (hbind : ∀ (s : Shared) (u : Value), BindsTo s fd ⟨[u], []⟩ [(x, u)])
    (hsp : ∀ H : Hp, Only H → SqL K H a (ns.map V.int) → sp [.ref a] H (fun v _ => v = .bl true) fun _ _ _ => False)
    :
    codeAny (model P w) callerA (.call (.ref fa) ⟨[.ref a], []⟩) (fun r s' => r = .ok (.ret (.bool true)) ∧ OldK s₁.heap s'.heap ∧ s'.os = s₁.os ∧ AllBare s'.gens) s₁ := by
  have rv := vals_ints hi
  have lenV := hi.length
  -- from an abstract heap in which nothing but the script may be tracked
  have core : ∀ H : Hp, Only H → SqL K H a (ns.map V.int) → HOk P w H s₁.heap → (∀ b, H b ≠ none → b = a) → (H a ≠ none → K.lookup a = none) →
      codeAny (model P w) callerA (.call (.ref fa) ⟨[.ref a], []⟩) (fun r s' => r = .ok (.ret (.bool true)) ∧ OldK s₁.heap s'.heap ∧ s'.os = s₁.os ∧ AllBare s'.gens) s₁ := by
    intro H hO hS hok hA hK
    have base_of : ∀ {b : Addr} {o : Obj}, s₁.heap.get? b = some o → H b = none → (hidT s₁.heap H).get? b = some o := fun e n => hidT_get e n
    have noA : ∀ {b : Addr} {o : Obj} {es : Array DictEntry} {ep : Nat}, s₁.heap.get? b = some o → o.data = .dict es ep → H b = none := fun {b o es ep} e d => by
      cases q : H b with
      | none => rfl
      | some u =>
        have e' : b = a := hA b (by rw [q]; simp)
        subst e'
        rw [ha] at e; cases e
        have d' : Data.seq vs.toArray _ = Data.dict es ep := d
        cases d'
    have nsK : ∀ {b : Addr} {m : Str → Option Value}, s₁.heap.Ns b m → (hidT s₁.heap H).Ns b m := fun {b m} ⟨o, es, ep, e, d, r⟩ => ⟨o, es, ep, base_of e (noA e d), d, r⟩
    have hKb : K.In (hidT s₁.heap H) := fun b o e => base_of (KX b o e) (by
      cases q : H b with
      | none => rfl
      | some u =>
        have e' : b = a := hA b (by rw [q]; simp)
        subst e'
        rw [hK (by rw [q]; simp)] at e; cases e)
    have hM : Mod K mg (hidT s₁.heap H) := ⟨hKb, nsK hns, ⟨mb, nsK hb, hbb⟩, let ⟨mc, h1, h2⟩ := hlim; ⟨mc, nsK h1, h2⟩⟩
    have e0 : Env0 P w K mg (hidT s₁.heap H) callerA [] s₁ H := ⟨rfl, hM, fun b o e => of_hidT e, Nat.le_of_eq (hidT_size _ _), trivial, fun b hb => absurd (show b ∈ ([] : List Addr) from hb) (by simp), hok, .of_eq hg⟩
    refine codeAny_mono ((F _ hKb (nsK hns)).run callerA [] s₁ H ⟨[.ref a], []⟩ [.ref a] [.ref a] _ _ hr rfl e0 (hbind s₁ (.ref a)) (.cons rfl .nil) (hsp H hO hS)) fun r s' h => ?_
    cases r with
    | error e => exact h.elim
    | ok fl =>
      cases fl with
      | next => exact False.elim h
      | brk => exact False.elim h
      | cont => exact False.elim h
      | ret u =>
        obtain ⟨v, H', os, bare, un, hok', r', q⟩ := h
        have q' : v = .bl true := q
        subst q'
        obtain rfl : u = Value.bool true := r'
        refine ⟨rfl, OldK.of_keep fun b o e => ?_, os, bare⟩
        cases q : H b with
        | none => exact un.keep b o e q (by intro z; exact absurd (show b ∈ ([] : List Addr) from z) (by simp)) (by simp)
        | some u =>
          rcases hO b with z | ⟨ob, xs, z⟩
          · rw [q] at z; cases z
          · have z2 := un.frzs b ob _ z
            obtain ⟨e1, _⟩ := hok b _ z
            obtain ⟨e2, _⟩ := hok' b _ z2
            rw [e] at e1; cases e1
            exact e2
  cases hk : K.lookup a with
  | some o =>
    -- the script is one of the module's own objects
    have e := KX a o hk
    rw [ha] at e
    cases e
    refine core (fun _ => none) (fun _ => .inl rfl) (.inr ⟨_, vs.toArray, _, hk, rfl, rfl, rfl, by rw [List.size_toArray, lenV]; exact hl, by simpa using rv⟩) (fun b u z => by have z' : (none : Option HO) = some u := z; cases z') (fun b z => absurd rfl z) fun z => absurd rfl z
  | none =>
    refine core (fun b => if b = a then some (.frz { cls := .type "list", data := .seq vs.toArray } (.lst (ns.map V.int))) else none) (fun b => ?_) (.inl (.inr ⟨{ cls := .type "list", data := .seq vs.toArray }, if_pos rfl⟩)) (fun b u z => ?_) (fun b z => ?_) fun _ => hk
    · by_cases hb : b = a
      · exact .inr ⟨_, _, if_pos hb⟩
      · exact .inl (if_neg hb)
    · by_cases hb : b = a
      · have z' := (if_pos hb).symm.trans z
        cases z'
        subst hb
        exact ⟨ha, by rw [List.length_map]; exact hl, vs, _, rv, ha⟩
      · have z' := (if_neg hb).symm.trans z
        cases z'
    · by_cases hb : b = a
      · exact hb
      · exact absurd (if_neg hb) z
theorem walk_ofG {l : PySem.W.OpenLaw} {n k : Nat} {q : Program} {loose : List Str} {XP : (Str → Option Value) → Heap → Prop} {YP : World → Heap → Prop} {d : DefRec} {K : Params → PySem.W.Frag} {sp : World → Sp} {x : Str}
    (hn : l.most = some n) (hn2 : n ≤ sizeLine) (hdf : d.params.defaults = []) (hr : Room k callerA) (hY : ∀ (w : World) (h : Heap), YP w h → (K w.params).In h)
    (F : ∀ (w : World) (mg : Str → Option Value) (fa : Addr) (h : Heap), (K w.params).In h → h.Ns mainGlobals mg → mg d.name = some (.ref fa) →
      ∃ fd : FuncData, (∀ (s : Shared) (u : Value), BindsTo s fd ⟨[u], []⟩ [(x, u)]) ∧ ∀ base : Heap, (K w.params).In base → base.Ns mainGlobals mg → FnG l.prog w (K w.params) mg base k fa fd [x] (sp w))
    (hsp : ∀ (w : World) (H : Hp) (a : Addr) (ns : List Int), ns.length ≤ n → Only H → SqL (K w.params) H a (ns.map V.int) → sp w [.ref a] H (fun v _ => v = .bl true) fun _ _ _ => False) :
    PySem.W.WalkO q loose XP YP l.row.toRowW d [] (fun f vs => PySem.call f vs) := by
  refine Att.attach_call hn hdf fun w s₀ s₁ mg mb fa o pm cd doc a vs ns G Y ho hd hcd hmg hobj hints hlen hg => ?_
  obtain ⟨fd, hb, hF⟩ := F w mg fa _ (hY w _ Y) G.T.g hmg
  exact law_callG (hY w _ Y) G.T.g G.T.b G.T.builtins G.T.nolimit hg hobj hints (Nat.le_trans hlen hn2) hr hF hb fun H hO hS => hsp w H a ns hlen hO hS

/-- what is known of a def of the table -/
structure TabRow (K : PySem.W.Frag) (mg : Str → Option Value) (G : GI) (F : Nat → Option FD) (f : Nat) (x : Str) (ps : List Str) : Prop where
  ex : ∃ (a : Addr) (fd : FuncData) (r : Row) (d : FD), mg x = some (.ref a) ∧ PySem.W.keepIn K (.ref a) = true ∧ DefAt K a fd r.ps r.sc r.body ∧ F f = some d ∧ rowC G r d = true ∧ r.ps = ps ∧
    ∀ np ks pm, (f, np, ks, pm) ∈ G.kw → pm.length = ps.length ∧ ∀ (us ws all : List Value), us.length = np → ws.length = ks.length → pm.mapM (fun i => (us ++ ws)[i]?) = some all → bindArgs fd ⟨us, ks.zip ws⟩ = pure (ps.zip all)
theorem all_fn {P : Program} {w : World} {K : PySem.W.Frag} {mg : Str → Option Value} {base : Heap} {G : GI} {F : Nat → Option FD} (blt : ∀ x ∈ bltNames, mg x = none)
    (cs : ∀ x v, G.cs.lookup x = some v → ∃ u y, mg x = some u ∧ RelV y u ∧ ∀ K m, RepV K m v y) (fn1 : ∀ f x ps x' ps', (f, x, ps) ∈ G.fn → (f, x', ps') ∈ G.fn → x = x' ∧ ps = ps') (tab : ∀ f x ps, (f, x, ps) ∈ G.fn → TabRow K mg G F f x ps) :
    ∀ (n : Nat) (f : Nat) (x : Str) (ps : List Str), (f, x, ps) ∈ G.fn → ∃ a fd, mg x = some (.ref a) ∧ PySem.W.keepIn K (.ref a) = true ∧ FnG P w K mg base n a fd ps (spF K ps.length (runF F n) f) ∧
      ∀ np ks pm, (f, np, ks, pm) ∈ G.kw → pm.length = ps.length ∧ ∀ (us ws all : List Value), us.length = np → ws.length = ks.length → pm.mapM (fun i => (us ++ ws)[i]?) = some all → bindArgs fd ⟨us, ks.zip ws⟩ = pure (ps.zip all)
  | 0, f, x, ps, h => by
    obtain ⟨a, fd, r, d, h1, h2, h3, h4, h5, h6, h7⟩ := (tab f x ps h).ex
    refine ⟨a, fd, h1, h2, ⟨fun vs H Q E q => q.1, fun A outer s H args us vs Q E _ _ _ _ _ q => ?_⟩, h7⟩
    obtain ⟨_, m, as, _, _, _, q⟩ := q
    exact q.elim
  | n + 1, f, x, ps, h => by
    obtain ⟨a, fd, r, d, h1, h2, h3, h4, h5, h6, h7⟩ := (tab f x ps h).ex
    subst h6
    exact ⟨a, fd, h1, h2, def_ok h4 h3 h5 blt cs (all_fn blt cs fn1 tab n) fn1, h7⟩
/-- the law's promise: plain -/
theorem sp_law {K : PySem.W.Frag} {F : Nat → Option FD} {n most : Nat} {f : Nat} (law : ∀ ns : List Int, ns.length ≤ most → ∃ st, runF F n f [.scr (ns.map .int)] [] = .ok (.bl true) st) (H : Hp) (a : Addr) (ns : List Int) (hl : ns.length ≤ most) (hO : Only H) (hS : SqL K H a (ns.map V.int)) :
    spF K 1 (runF F n) f [.ref a] H (fun v _ => v = .bl true) fun _ _ _ => False := by
  obtain ⟨st, e⟩ := law ns hl
  refine ⟨rfl, ⟨[], [], H, []⟩, [.scr (ns.map .int)], rfl, ⟨rfl, List.nodup_nil, fun i c b h => by simp at h, fun b hb => nomatch hb⟩, .cons (.scr ?_ (RepVs.ints ns)) .nil, ?_⟩
  · rcases hS with (h | ⟨o, h⟩) | h
    · rcases hO a with z | ⟨o, xs, z⟩
      · rw [h] at z; cases z
      · rw [h] at z; cases z
    · exact .inl ⟨o, h⟩
    · exact .inr h
  · show PostV K _ (runF F n f [.scr (ns.map .int)] []) _
    rw [e]
    intro m' x _ _ _ hv
    cases hv
    rfl
end Co

set_option maxRecDepth 100000
namespace Kx
open PySem PySem.Spec PyProof.Rows L2 Co
def sT (i : Nat) : Stmt := PySem.Challenge.pw_piecetrees_k19_is_firm_by_all_lots_as_pi.main.body.getD i (.Pass ⟨0, 0, 0, 0⟩)
/-- _fills(rows, lot, one, other); slots 0:rows 1:lot 2:one 3:other 4:left 5:waiting 6:own 7:told 8:thing 9:z -/
def d0 : FD := ⟨4, 10,
    (.cons (.asg (.nm 4) (.lc false (.var 8) (.nm 8) (.seq (.var 1)) (.and_ (.cmp .ne (.var 8) (.var 2)) (.cmp .ne (.var 8) (.var 3))) [8]))
    (.cons (.asg (.nm 5) (.lst true (.cons (.var 3) .nil)))
    (.cons (.whl (.and_ (.tst (.var 5)) (.tst (.var 4))) (.cons (.asg (.nm 6) (.mth .pop false (.var 5) .nil))
    (.cons (.asg (.nm 7) (.lc false (.var 9) (.nm 9) (.seq (.var 4)) (.or_ (.cmp .ne (.idx (.idx (.var 0) (.var 9)) (.var 6)) (.idx (.idx (.var 0) (.var 9)) (.var 2))) (.cmp .ne (.idx (.idx (.var 0) (.var 6)) (.var 9)) (.idx (.idx (.var 0) (.var 2)) (.var 9)))) [9]))
    (.cons (.asg (.nm 4) (.lc false (.var 9) (.nm 9) (.seq (.var 4)) (.cmp .notin (.var 9) (.var 7)) [9]))
    (.cons (.ex (.mth .extend false (.var 5) (.cons (.var 7) .nil)))
    .nil)))) [])
    (.cons (.frz 5)
    (.cons (.ret (.cmp .eq (.var 4) (.lst false .nil)))
    .nil)))))⟩
def r0 : Co.Row := ⟨["rows", "lot", "one", "other", "left", "waiting", "own", "told", "thing", "z"], ["rows", "lot", "one", "other"], defScope (sT 1), defBody (sT 1)⟩
/-- _is_firm_lot(rows, lot); slots 0:rows 1:lot 2:at 3:one 4:other -/
def d1 : FD := ⟨2, 5,
    (.cons (.iff (.cmp .lt (.bi .len false (.cons (.var 1) .nil)) (.cst (.int 3))) (.cons (.ret (.cst (.bl false)))
    .nil) .nil)
    (.cons (.fr (.tp [2, 3]) (.enm (.var 1)) (.cons (.fr (.nm 4) (.seq (.slc false (.var 1) (.bin .add false (.var 2) (.cst (.int 1))) (.cst .non))) (.cons (.iff (.not_ (.call 0 [0, 1, 2, 3] (.cons (.var 0) (.cons (.var 1) (.cons (.var 3) (.cons (.var 4) .nil)))) .nil)) (.cons (.ret (.cst (.bl false)))
    .nil) .nil)
    .nil) [])
    .nil) [])
    (.cons (.ret (.cst (.bl true)))
    .nil)))⟩
def r1 : Co.Row := ⟨["rows", "lot", "at", "one", "other"], ["rows", "lot"], defScope (sT 2), defBody (sT 2)⟩
/-- is_firm(table); slots 0:table -/
def d2 : FD := ⟨1, 1,
    (.cons (.ret (.call 1 [0, 1] (.cons (.idx (.var 0) (.cst (.int 1))) (.cons (.rgl true false (.rng1 (.idx (.var 0) (.cst (.int 0))))) .nil)) .nil))
    .nil)⟩
def r2 : Co.Row := ⟨["table"], ["table"], defScope (sT 3), defBody (sT 3)⟩
/-- parts_two(rows, outer, thing, other); slots 0:rows 1:outer 2:thing 3:other -/
def d3 : FD := ⟨4, 4,
    (.cons (.ret (.or_ (.cmp .ne (.idx (.idx (.var 0) (.var 1)) (.var 2)) (.idx (.idx (.var 0) (.var 1)) (.var 3))) (.cmp .ne (.idx (.idx (.var 0) (.var 2)) (.var 1)) (.idx (.idx (.var 0) (.var 3)) (.var 1)))))
    .nil)⟩
def r3 : Co.Row := ⟨["rows", "outer", "thing", "other"], ["rows", "outer", "thing", "other"], defScope (sT 5), defBody (sT 5)⟩
/-- is_piece(table, lot); slots 0:table 1:lot 2:outer 3:size 4:rows 5:other -/
def d4 : FD := ⟨2, 6,
    (.cons (.asg (.tp [3, 4]) (.var 0))
    (.cons (.fr (.nm 2) (.rng1 (.var 3)) (.cons (.iff (.and_ (.cmp .notin (.var 2) (.var 1)) (.bi .any false (.cons (.lc false (.call 3 [0, 1, 2, 3] (.cons (.var 4) (.cons (.var 2) (.cons (.idx (.var 1) (.cst (.int 0))) (.cons (.var 5) .nil)))) .nil) (.nm 5) (.seq (.slc false (.var 1) (.cst (.int 1)) (.cst .non))) (.cst (.bl true)) [5]) .nil))) (.cons (.ret (.cst (.bl false)))
    .nil) .nil)
    .nil) [])
    (.cons (.ret (.cst (.bl true)))
    .nil)))⟩
def r4 : Co.Row := ⟨["table", "lot", "outer", "size", "rows", "other"], ["table", "lot"], defScope (sT 6), defBody (sT 6)⟩
/-- _law_deck(_law_script); slots 0:_law_script 1:_law_folds 2:_law_whole 3:_law_fold 4:_law_cell -/
def d5 : FD := ⟨1, 5,
    (.cons (.asg (.nm 1) (.lc false (.ite (.cmp .ge (.var 4) (.cst (.int 0))) (.bin .mul false (.cst (.int 2)) (.var 4)) (.bin .sub false (.bin .mul false (.neg (.cst (.int 2))) (.var 4)) (.cst (.int 1)))) (.nm 4) (.seq (.slc false (.var 0) (.cst .non) (.cst (.int 63)))) (.cst (.bl true)) [4]))
    (.cons (.asg (.nm 2) (.bin .add false (.cst (.int 12762)) (.bi .len false (.cons (.var 1) .nil))))
    (.cons (.fr (.nm 3) (.seq (.var 1)) (.cons (.asg (.nm 2) (.bin .mod false (.bi .int false (.cons (.bin .add false (.bin .mul false (.var 2) (.cst (.int 1000033))) (.var 3)) .nil)) (.cst (.int 2305843009213693951))))
    .nil) [])
    (.cons (.ret (.lst true (.cons (.lc true (.var 3) (.nm 3) (.seq (.var 1)) (.cmp .gt (.var 3) (.bin .pow false (.cst (.int 10)) (.cst (.int 18)))) [3]) (.cons (.var 2) (.cons (.cst (.int 0)) .nil)))))
    .nil))))⟩
def r5 : Co.Row := ⟨["_law_script", "_law_folds", "_law_whole", "_law_fold", "_law_cell"], ["_law_script"], defScope (sT 8), defBody (sT 8)⟩
/-- _law_draw(_law_deck_here, _law_many); slots 0:_law_deck_here 1:_law_many 2:_law_mixed_here 3:_law_rest -/
def d6 : FD := ⟨2, 4,
    (.cons (.iff (.cmp .ne (.idx (.var 0) (.cst (.int 0))) (.lst false .nil)) (.cons (.asg (.nm 3) (.idx (.idx (.var 0) (.cst (.int 0))) (.cst (.int 0))))
    (.cons (.seti (.idx (.var 0) (.cst (.int 0))) (.cst (.int 0)) (.bin .fdiv false (.var 3) (.var 1)))
    (.cons (.iff (.cmp .lt (.var 3) (.var 1)) (.cons (.ex (.mth .popAt false (.idx (.var 0) (.cst (.int 0))) (.cons (.cst (.int 0)) .nil)))
    .nil) .nil)
    (.cons (.ret (.bin .mod false (.bi .int false (.cons (.var 3) .nil)) (.var 1)))
    .nil)))) .nil)
    (.cons (.seti (.var 0) (.cst (.int 2)) (.bin .add false (.idx (.var 0) (.cst (.int 2))) (.cst (.int 1))))
    (.cons (.asg (.nm 2) (.bin .mod false (.bi .int false (.cons (.bin .add false (.idx (.var 0) (.cst (.int 1))) (.bin .mul false (.idx (.var 0) (.cst (.int 2))) (.cst (.int 6364136223846793005)))) .nil)) (.cst (.int 2305843009213693951))))
    (.cons (.asg (.nm 2) (.bin .mod false (.bi .int false (.cons (.bin .add false (.bin .mul false (.var 2) (.var 2)) (.bin .mul false (.idx (.var 0) (.cst (.int 2))) (.cst (.int 1442695040888963407)))) .nil)) (.cst (.int 2305843009213693921))))
    (.cons (.asg (.nm 2) (.bin .mod false (.bi .int false (.cons (.bin .add false (.bin .add false (.bin .mul false (.var 2) (.var 2)) (.bin .mul false (.cst (.int 3)) (.var 2))) (.idx (.var 0) (.cst (.int 1)))) .nil)) (.cst (.int 2305843009213693951))))
    (.cons (.ret (.bin .mod false (.bi .int false (.cons (.bin .fdiv false (.var 2) (.cst (.int 8192))) .nil)) (.var 1)))
    .nil))))))⟩
def r6 : Co.Row := ⟨["_law_deck_here", "_law_many", "_law_mixed_here", "_law_rest"], ["_law_deck_here", "_law_many"], defScope (sT 9), defBody (sT 9)⟩
/-- _law_one(_law_deck_here, _law_items); slots 0:_law_deck_here 1:_law_items -/
def d7 : FD := ⟨2, 2,
    (.cons (.ret (.idx (.var 1) (.call 6 [0, 1] (.cons (.var 0) (.cons (.bi .len false (.cons (.var 1) .nil)) .nil)) .nil)))
    .nil)⟩
def r7 : Co.Row := ⟨["_law_deck_here", "_law_items"], ["_law_deck_here", "_law_items"], defScope (sT 10), defBody (sT 10)⟩
/-- _law_mixed(_law_deck_here, _law_items); slots 0:_law_deck_here 1:_law_items 2:_law_turn 3:_law_rest 4:_law_found -/
def d8 : FD := ⟨2, 5,
    (.cons (.par [3, 4] (.cons (.bi .list true (.cons (.var 1) .nil)) (.cons (.lst true .nil) .nil)))
    (.cons (.fr (.nm 2) (.rng1 (.bi .len false (.cons (.var 1) .nil))) (.cons (.ex (.mth .append false (.var 4) (.cons (.mth .popAt false (.var 3) (.cons (.call 6 [0, 1] (.cons (.var 0) (.cons (.bi .len false (.cons (.var 3) .nil)) .nil)) .nil) .nil)) .nil)))
    .nil) [])
    (.cons (.frz 4)
    (.cons (.frz 3)
    (.cons (.ret (.frz (.var 4)))
    .nil)))))⟩
def r8 : Co.Row := ⟨["_law_deck_here", "_law_items", "_law_turn", "_law_rest", "_law_found"], ["_law_deck_here", "_law_items"], defScope (sT 11), defBody (sT 11)⟩
/-- _law_table(_law_rows_here); slots 0:_law_rows_here 1:_law_row -/
def d9 : FD := ⟨1, 2,
    (.cons (.ret (.tup (.cons (.bi .len false (.cons (.var 0) .nil)) (.cons (.bi .tuple false (.cons (.lc false (.bi .tuple false (.cons (.var 1) .nil)) (.nm 1) (.seq (.var 0)) (.cst (.bl true)) [1]) .nil)) .nil))))
    .nil)⟩
def r9 : Co.Row := ⟨["_law_rows_here", "_law_row"], ["_law_rows_here"], defScope (sT 12), defBody (sT 12)⟩
/-- _law_lots(_law_size); slots 0:_law_size 1:_law_many 2:_law_found 3:_law_level 4:_law_longer 5:_law_lot 6:_law_begin 7:_law_thing -/
def d10 : FD := ⟨1, 8,
    (.cons (.par [2, 3] (.cons (.lst false (.cons (.tup .nil) .nil)) (.cons (.lst false (.cons (.tup .nil) .nil)) .nil)))
    (.cons (.fr (.nm 1) (.rng1 (.var 0)) (.cons (.asg (.nm 4) (.lst false .nil))
    (.cons (.fr (.nm 5) (.seq (.var 3)) (.cons (.asg (.nm 6) (.ite (.cmp .ne (.var 5) (.tup .nil)) (.bin .add false (.idx (.var 5) (.neg (.cst (.int 1)))) (.cst (.int 1))) (.cst (.int 0))))
    (.cons (.asg (.nm 4) (.bin .add false (.var 4) (.lc false (.bin .add false (.var 5) (.tup (.cons (.var 7) .nil))) (.nm 7) (.rng2 (.var 6) (.var 0)) (.cst (.bl true)) [7])))
    .nil)) [])
    (.cons (.asg (.nm 3) (.var 4))
    (.cons (.asg (.nm 2) (.bin .add false (.var 2) (.var 3)))
    .nil)))) [])
    (.cons (.ret (.var 2))
    .nil)))⟩
def r10 : Co.Row := ⟨["_law_size", "_law_many", "_law_found", "_law_level", "_law_longer", "_law_lot", "_law_begin", "_law_thing"], ["_law_size"], defScope (sT 13), defBody (sT 13)⟩
/-- _law_is_piece(_law_rows_here, _law_lot); slots 0:_law_rows_here 1:_law_lot 2:_law_thing 3:_law_own -/
def d11 : FD := ⟨2, 4,
    (.cons (.fr (.nm 2) (.rng1 (.bi .len false (.cons (.var 0) .nil))) (.cons (.iff (.cmp .notin (.var 2) (.var 1)) (.cons (.fr (.nm 3) (.seq (.var 1)) (.cons (.iff (.or_ (.cmp .ne (.idx (.idx (.var 0) (.var 2)) (.var 3)) (.idx (.idx (.var 0) (.var 2)) (.idx (.var 1) (.cst (.int 0))))) (.cmp .ne (.idx (.idx (.var 0) (.var 3)) (.var 2)) (.idx (.idx (.var 0) (.idx (.var 1) (.cst (.int 0)))) (.var 2)))) (.cons (.ret (.cst (.bl false)))
    .nil) .nil)
    .nil) [])
    .nil) .nil)
    .nil) [])
    (.cons (.ret (.cst (.bl true)))
    .nil))⟩
def r11 : Co.Row := ⟨["_law_rows_here", "_law_lot", "_law_thing", "_law_own"], ["_law_rows_here", "_law_lot"], defScope (sT 14), defBody (sT 14)⟩
/-- _law_spread(_law_rows_here, _law_lot, _law_first, _law_second); slots 0:_law_rows_here 1:_law_lot 2:_law_first 3:_law_second 4:_law_turn 5:_law_found 6:_law_rest 7:_law_come 8:_law_thing 9:_law_look 10:_law_back 11:_law_own -/
def d12 : FD := ⟨4, 12,
    (.cons (.par [5, 6] (.cons (.lst false (.cons (.var 2) (.cons (.var 3) .nil))) (.cons (.lc false (.var 8) (.nm 8) (.seq (.var 1)) (.cmp .notin (.var 8) (.tup (.cons (.var 2) (.cons (.var 3) .nil)))) [8]) .nil)))
    (.cons (.fr (.nm 4) (.rng1 (.bi .len false (.cons (.var 1) .nil))) (.cons (.asg (.nm 7) (.lst true .nil))
    (.cons (.fr (.nm 8) (.seq (.var 6)) (.cons (.asg (.tp [9, 10]) (.tup (.cons (.idx (.idx (.var 0) (.var 8)) (.var 2)) (.cons (.idx (.idx (.var 0) (.var 2)) (.var 8)) .nil))))
    (.cons (.iff (.cmp .ne (.lc false (.var 11) (.nm 11) (.seq (.var 5)) (.or_ (.cmp .ne (.idx (.idx (.var 0) (.var 8)) (.var 11)) (.var 9)) (.cmp .ne (.idx (.idx (.var 0) (.var 11)) (.var 8)) (.var 10))) [11]) (.lst false .nil)) (.cons (.ex (.mth .append false (.var 7) (.cons (.var 8) .nil)))
    .nil) .nil)
    .nil)) [])
    (.cons (.frz 7)
    (.cons (.iff (.cmp .eq (.var 7) (.lst false .nil)) (.cons (.ret (.var 5))
    .nil) .nil)
    (.cons (.asg (.nm 5) (.bin .add false (.var 5) (.var 7)))
    (.cons (.asg (.nm 6) (.lc false (.var 8) (.nm 8) (.seq (.var 6)) (.cmp .notin (.var 8) (.var 7)) [8]))
    .nil)))))) [])
    (.cons (.ret (.var 5))
    .nil)))⟩
def r12 : Co.Row := ⟨["_law_rows_here", "_law_lot", "_law_first", "_law_second", "_law_turn", "_law_found", "_law_rest", "_law_come", "_law_thing", "_law_look", "_law_back", "_law_own"], ["_law_rows_here", "_law_lot", "_law_first", "_law_second"], defScope (sT 15), defBody (sT 15)⟩
/-- _law_is_firm(_law_rows_here, _law_lot); slots 0:_law_rows_here 1:_law_lot 2:_law_at 3:_law_first 4:_law_second -/
def d13 : FD := ⟨2, 5,
    (.cons (.fr (.tp [2, 3]) (.enm (.var 1)) (.cons (.fr (.nm 4) (.seq (.slc false (.var 1) (.bin .add false (.var 2) (.cst (.int 1))) (.cst .non))) (.cons (.iff (.cmp .lt (.bi .len false (.cons (.call 12 [0, 1, 2, 3] (.cons (.var 0) (.cons (.var 1) (.cons (.var 3) (.cons (.var 4) .nil)))) .nil) .nil)) (.bi .len false (.cons (.var 1) .nil))) (.cons (.ret (.cst (.bl false)))
    .nil) .nil)
    .nil) [])
    .nil) [])
    (.cons (.ret (.cmp .gt (.bi .len false (.cons (.var 1) .nil)) (.cst (.int 2))))
    .nil))⟩
def r13 : Co.Row := ⟨["_law_rows_here", "_law_lot", "_law_at", "_law_first", "_law_second"], ["_law_rows_here", "_law_lot"], defScope (sT 16), defBody (sT 16)⟩
/-- _law_menu(_law_deck_here); slots 0:_law_deck_here 1:_law_low -/
def d14 : FD := ⟨1, 2,
    (.cons (.asg (.nm 1) (.call 6 [0, 1] (.cons (.var 0) (.cons (.cst (.int 99)) .nil)) .nil))
    (.cons (.ret (.call 7 [0, 1] (.cons (.var 0) (.cons (.lst false (.cons (.lst false (.cons (.cst (.int 0)) (.cons (.cst (.int 1)) .nil))) (.cons (.lst false (.cons (.cst (.int 0)) (.cons (.cst (.int 1)) .nil))) (.cons (.lst false (.cons (.cst (.int 1)) (.cons (.cst (.int 0)) (.cons (.cst (.int 2)) .nil)))) (.cons (.lst false (.cons (.var 1) (.cons (.cst (.int 99)) .nil))) (.cons (.lst false (.cons (.cst (.int 0)) (.cons (.bin .add false (.var 1) (.cst (.int 1))) (.cons (.cst (.int 7)) .nil)))) (.cons (.lst false (.cons (.cst (.int 5)) (.cons (.cst (.int 6)) (.cons (.bin .add false (.var 1) (.cst (.int 1))) (.cons (.cst (.int 0)) .nil))))) .nil))))))) .nil)) .nil))
    .nil))⟩
def r14 : Co.Row := ⟨["_law_deck_here", "_law_low"], ["_law_deck_here"], defScope (sT 17), defBody (sT 17)⟩
/-- _law_rows(_law_deck_here, _law_size, _law_menu_here); slots 0:_law_deck_here 1:_law_size 2:_law_menu_here 3:_law_y 4:_law_way 5:_law_rows_here 6:_law_one_here 7:_law_other 8:_law_x 9:_law_pair 10:_law_thing -/
def d15 : FD := ⟨3, 11,
    (.cons (.par [4, 5] (.cons (.call 6 [0, 1] (.cons (.var 0) (.cons (.cst (.int 5)) .nil)) .nil) (.cons (.lc true (.bin .mul true (.lst false (.cons (.cst (.int 0)) .nil)) (.var 1)) (.nm 10) (.rng1 (.var 1)) (.cst (.bl true)) [10]) .nil)))
    (.cons (.par [6, 7] (.cons (.call 8 [0, 1] (.cons (.var 0) (.cons (.rgl false false (.rng1 (.var 1))) .nil)) .nil) (.cons (.call 8 [0, 1] (.cons (.var 0) (.cons (.rgl false false (.rng1 (.var 1))) .nil)) .nil) .nil)))
    (.cons (.fr (.nm 3) (.rng1 (.var 1)) (.cons (.fr (.nm 8) (.rng1 (.var 3)) (.cons (.asg (.nm 9) (.lst false (.cons (.call 7 [0, 1] (.cons (.var 0) (.cons (.var 2) .nil)) .nil) (.cons (.call 7 [0, 1] (.cons (.var 0) (.cons (.var 2) .nil)) .nil) .nil))))
    (.cons (.iff (.cmp .eq (.var 4) (.cst (.int 1))) (.cons (.asg (.nm 9) (.lst false (.cons (.idx (.var 9) (.cst (.int 0))) (.cons (.idx (.var 9) (.cst (.int 0))) .nil))))
    .nil) .nil)
    (.cons (.iff (.cmp .eq (.var 4) (.cst (.int 2))) (.cons (.asg (.nm 9) (.ite (.cmp .eq (.idx (.var 9) (.cst (.int 0))) (.idx (.var 2) (.cst (.int 0)))) (.lst false (.cons (.idx (.var 2) (.cst (.int 0))) (.cons (.idx (.var 2) (.cst (.int 1))) .nil))) (.lst false (.cons (.idx (.var 2) (.cst (.int 1))) (.cons (.idx (.var 2) (.cst (.int 0))) .nil)))))
    .nil) .nil)
    (.cons (.iff (.cmp .eq (.var 4) (.cst (.int 3))) (.cons (.asg (.nm 9) (.lst false (.cons (.bi .int false (.cons (.and_ (.cmp .lt (.idx (.var 6) (.var 8)) (.idx (.var 6) (.var 3))) (.cmp .lt (.idx (.var 7) (.var 8)) (.idx (.var 7) (.var 3)))) .nil)) (.cons (.bi .int false (.cons (.and_ (.cmp .lt (.idx (.var 6) (.var 3)) (.idx (.var 6) (.var 8))) (.cmp .lt (.idx (.var 7) (.var 3)) (.idx (.var 7) (.var 8)))) .nil)) .nil))))
    .nil) .nil)
    (.cons (.seti (.idx (.var 5) (.var 8)) (.var 3) (.idx (.var 9) (.cst (.int 0))))
    (.cons (.seti (.idx (.var 5) (.var 3)) (.var 8) (.idx (.var 9) (.cst (.int 1))))
    .nil)))))) [])
    .nil) [])
    (.cons (.ret (.var 5))
    .nil))))⟩
def r15 : Co.Row := ⟨["_law_deck_here", "_law_size", "_law_menu_here", "_law_y", "_law_way", "_law_rows_here", "_law_one_here", "_law_other", "_law_x", "_law_pair", "_law_thing"], ["_law_deck_here", "_law_size", "_law_menu_here"], defScope (sT 18), defBody (sT 18)⟩
/-- _law_core(_law_deck_here, _law_size, _law_menu_here); slots 0:_law_deck_here 1:_law_size 2:_law_menu_here 3:_law_turn 4:_law_rows_here 5:_law_x 6:_law_thing -/
def d16 : FD := ⟨3, 7,
    (.cons (.fr (.nm 3) (.rng1 (.cst (.int 5))) (.cons (.asg (.nm 4) (.frz (.call 15 [0, 1, 2] (.cons (.var 0) (.cons (.var 1) (.cons (.var 2) .nil))) .nil)))
    (.cons (.iff (.call 13 [0, 1] (.cons (.var 4) (.cons (.rgl true false (.rng1 (.var 1))) .nil)) .nil) (.cons (.ret (.frz (.var 4)))
    .nil) .nil)
    .nil)) [])
    (.cons (.asg (.nm 4) (.lc true (.bin .mul true (.lst false (.cons (.idx (.var 2) (.cst (.int 0))) .nil)) (.var 1)) (.nm 6) (.rng1 (.var 1)) (.cst (.bl true)) [6]))
    (.cons (.fr (.nm 5) (.rng1 (.var 1)) (.cons (.seti (.idx (.var 4) (.var 5)) (.var 5) (.cst (.int 0)))
    (.cons (.iff (.cmp .lt (.bin .add false (.var 5) (.cst (.int 1))) (.var 1)) (.cons (.seti (.idx (.var 4) (.var 5)) (.bin .add false (.var 5) (.cst (.int 1))) (.idx (.var 2) (.cst (.int 1))))
    .nil) .nil)
    .nil)) [])
    (.cons (.frz 4)
    (.cons (.ret (.frz (.var 4)))
    .nil)))))⟩
def r16 : Co.Row := ⟨["_law_deck_here", "_law_size", "_law_menu_here", "_law_turn", "_law_rows_here", "_law_x", "_law_thing"], ["_law_deck_here", "_law_size", "_law_menu_here"], defScope (sT 19), defBody (sT 19)⟩
/-- _law_named(_law_rows_here, _law_naming); slots 0:_law_rows_here 1:_law_naming 2:_law_found 3:_law_x 4:_law_y 5:_law_row -/
def d17 : FD := ⟨2, 6,
    (.cons (.asg (.nm 2) (.lc true (.bi .list true (.cons (.var 5) .nil)) (.nm 5) (.seq (.var 0)) (.cst (.bl true)) [5]))
    (.cons (.fr (.nm 3) (.rng1 (.bi .len false (.cons (.var 0) .nil))) (.cons (.fr (.nm 4) (.rng1 (.bi .len false (.cons (.var 0) .nil))) (.cons (.seti (.idx (.var 2) (.idx (.var 1) (.var 3))) (.idx (.var 1) (.var 4)) (.idx (.idx (.var 0) (.var 3)) (.var 4)))
    .nil) [])
    .nil) [])
    (.cons (.frz 2)
    (.cons (.ret (.frz (.var 2)))
    .nil))))⟩
def r17 : Co.Row := ⟨["_law_rows_here", "_law_naming", "_law_found", "_law_x", "_law_y", "_law_row"], ["_law_rows_here", "_law_naming"], defScope (sT 20), defBody (sT 20)⟩
/-- _law_set_in(_law_rows_here, _law_thing, _law_other); slots 0:_law_rows_here 1:_law_thing 2:_law_other 3:_law_whole 4:_law_found 5:_law_x 6:_law_own 7:_law_y 8:_law_its -/
def d18 : FD := ⟨3, 9,
    (.cons (.par [3, 4] (.cons (.bin .add false (.lc false (.tup (.cons (.var 5) (.cons (.cst (.int 0)) .nil))) (.nm 5) (.rng1 (.var 1)) (.cst (.bl true)) [5]) (.lc false (.tup (.cons (.var 1) (.cons (.var 7) .nil))) (.nm 7) (.rng1 (.bi .len false (.cons (.var 2) .nil))) (.cst (.bl true)) [7])) (.cons (.lst true .nil) .nil)))
    (.cons (.asg (.nm 3) (.bin .add false (.var 3) (.lc false (.tup (.cons (.var 5) (.cons (.cst (.int 0)) .nil))) (.nm 5) (.rng2 (.bin .add false (.var 1) (.cst (.int 1))) (.bi .len false (.cons (.var 0) .nil))) (.cst (.bl true)) [5])))
    (.cons (.fr (.tp [5, 6]) (.seq (.var 3)) (.cons (.ex (.mth .append false (.var 4) (.cons (.lc false (.ite (.and_ (.cmp .eq (.var 5) (.var 1)) (.cmp .eq (.var 7) (.var 1))) (.idx (.idx (.var 2) (.var 6)) (.var 8)) (.idx (.idx (.var 0) (.var 5)) (.var 7))) (.tp [7, 8]) (.seq (.var 3)) (.cst (.bl true)) [7, 8]) .nil)))
    .nil) [])
    (.cons (.frz 4)
    (.cons (.ret (.frz (.var 4)))
    .nil)))))⟩
def r18 : Co.Row := ⟨["_law_rows_here", "_law_thing", "_law_other", "_law_whole", "_law_found", "_law_x", "_law_own", "_law_y", "_law_its"], ["_law_rows_here", "_law_thing", "_law_other"], defScope (sT 21), defBody (sT 21)⟩
/-- _law_small(_law_deck_here, _law_size, _law_menu_here); slots 0:_law_deck_here 1:_law_size 2:_law_menu_here 3:_law_way 4:_law_rows_here 5:_law_looks 6:_law_y 7:_law_x -/
def d19 : FD := ⟨3, 8,
    (.cons (.par [3, 4] (.cons (.call 6 [0, 1] (.cons (.var 0) (.cons (.cst (.int 4)) .nil)) .nil) (.cons (.call 15 [0, 1, 2] (.cons (.var 0) (.cons (.var 1) (.cons (.var 2) .nil))) .nil) .nil)))
    (.cons (.iff (.and_ (.cmp .eq (.var 3) (.cst (.int 2))) (.cmp .gt (.var 1) (.cst (.int 2)))) (.cons (.ret (.call 16 [0, 1, 2] (.cons (.var 0) (.cons (.var 1) (.cons (.var 2) .nil))) .nil))
    .nil) .nil)
    (.cons (.iff (.cmp .lt (.var 3) (.cst (.int 2))) (.cons (.asg (.nm 5) (.lst false (.cons (.call 7 [0, 1] (.cons (.var 0) (.cons (.var 2) .nil)) .nil) (.cons (.call 7 [0, 1] (.cons (.var 0) (.cons (.var 2) .nil)) .nil) .nil))))
    (.cons (.fr (.nm 6) (.rng1 (.var 1)) (.cons (.fr (.nm 7) (.rng1 (.var 6)) (.cons (.seti (.idx (.var 4) (.var 7)) (.var 6) (.idx (.var 5) (.cst (.int 0))))
    (.cons (.seti (.idx (.var 4) (.var 6)) (.var 7) (.idx (.var 5) (.var 3)))
    .nil)) [])
    .nil) [])
    .nil)) .nil)
    (.cons (.frz 4)
    (.cons (.ret (.frz (.var 4)))
    .nil)))))⟩
def r19 : Co.Row := ⟨["_law_deck_here", "_law_size", "_law_menu_here", "_law_way", "_law_rows_here", "_law_looks", "_law_y", "_law_x"], ["_law_deck_here", "_law_size", "_law_menu_here"], defScope (sT 22), defBody (sT 22)⟩
/-- _law_made(_law_deck_here, _law_size, _law_menu_here); slots 0:_law_deck_here 1:_law_size 2:_law_menu_here 3:_law_rows_here 4:_law_turn 5:_law_room 6:_law_thing 7:_law_wide -/
def d20 : FD := ⟨3, 8,
    (.cons (.asg (.nm 3) (.lc false (.lst false (.cons (.cst (.int 0)) .nil)) (.nm 6) (.rng1 (.bi .min2 false (.cons (.var 1) (.cons (.cst (.int 1)) .nil)))) (.cst (.bl true)) [6]))
    (.cons (.fr (.nm 4) (.rng1 (.var 1)) (.cons (.asg (.nm 5) (.bin .sub false (.var 1) (.bi .len false (.cons (.var 3) .nil))))
    (.cons (.iff (.cmp .gt (.var 5) (.cst (.int 0))) (.cons (.asg (.nm 7) (.bin .add false (.cst (.int 2)) (.call 6 [0, 1] (.cons (.var 0) (.cons (.bi .min2 false (.cons (.var 5) (.cons (.cst (.int 3)) .nil))) .nil)) .nil)))
    (.cons (.asg (.nm 3) (.call 18 [0, 1, 2] (.cons (.var 3) (.cons (.call 6 [0, 1] (.cons (.var 0) (.cons (.bi .len false (.cons (.var 3) .nil)) .nil)) .nil) (.cons (.call 19 [0, 1, 2] (.cons (.var 0) (.cons (.var 7) (.cons (.var 2) .nil))) .nil) .nil))) .nil))
    .nil)) .nil)
    .nil)) [])
    (.cons (.ret (.call 17 [0, 1] (.cons (.var 3) (.cons (.call 8 [0, 1] (.cons (.var 0) (.cons (.rgl false false (.rng1 (.var 1))) .nil)) .nil) .nil)) .nil))
    .nil)))⟩
def r20 : Co.Row := ⟨["_law_deck_here", "_law_size", "_law_menu_here", "_law_rows_here", "_law_turn", "_law_room", "_law_thing", "_law_wide"], ["_law_deck_here", "_law_size", "_law_menu_here"], defScope (sT 23), defBody (sT 23)⟩
/-- _law_any(_law_deck_here, _law_size, _law_menu_here); slots 0:_law_deck_here 1:_law_size 2:_law_menu_here 3:_law_way -/
def d21 : FD := ⟨3, 4,
    (.cons (.asg (.nm 3) (.call 6 [0, 1] (.cons (.var 0) (.cons (.cst (.int 5)) .nil)) .nil))
    (.cons (.iff (.and_ (.cmp .eq (.var 3) (.cst (.int 0))) (.cmp .gt (.var 1) (.cst (.int 2)))) (.cons (.ret (.call 16 [0, 1, 2] (.cons (.var 0) (.cons (.var 1) (.cons (.var 2) .nil))) .nil))
    .nil) .nil)
    (.cons (.ret (.ite (.cmp .eq (.var 3) (.cst (.int 1))) (.frz (.call 15 [0, 1, 2] (.cons (.var 0) (.cons (.var 1) (.cons (.var 2) .nil))) .nil)) (.call 20 [0, 1, 2] (.cons (.var 0) (.cons (.var 1) (.cons (.var 2) .nil))) .nil)))
    .nil)))⟩
def r21 : Co.Row := ⟨["_law_deck_here", "_law_size", "_law_menu_here", "_law_way"], ["_law_deck_here", "_law_size", "_law_menu_here"], defScope (sT 24), defBody (sT 24)⟩
/-- _law_turned(_law_rows_here); slots 0:_law_rows_here 1:_law_x 2:_law_y -/
def d22 : FD := ⟨1, 3,
    (.cons (.ret (.lc false (.lc false (.idx (.idx (.var 0) (.var 2)) (.var 1)) (.nm 2) (.rng1 (.bi .len false (.cons (.var 0) .nil))) (.cst (.bl true)) [2]) (.nm 1) (.rng1 (.bi .len false (.cons (.var 0) .nil))) (.cst (.bl true)) [1]))
    .nil)⟩
def r22 : Co.Row := ⟨["_law_rows_here", "_law_x", "_law_y"], ["_law_rows_here"], defScope (sT 25), defBody (sT 25)⟩
/-- _law_changed(_law_deck_here, _law_rows_here, _law_menu_here); slots 0:_law_deck_here 1:_law_rows_here 2:_law_menu_here 3:_law_found 4:_law_size 5:_law_x 6:_law_step 7:_law_row -/
def d23 : FD := ⟨3, 8,
    (.cons (.par [3, 4] (.cons (.lc true (.bi .list true (.cons (.var 7) .nil)) (.nm 7) (.seq (.var 1)) (.cst (.bl true)) [7]) (.cons (.bi .len false (.cons (.var 1) .nil)) .nil)))
    (.cons (.iff (.cmp .gt (.var 4) (.cst (.int 1))) (.cons (.par [5, 6] (.cons (.call 6 [0, 1] (.cons (.var 0) (.cons (.var 4) .nil)) .nil) (.cons (.bin .add false (.cst (.int 1)) (.call 6 [0, 1] (.cons (.var 0) (.cons (.bin .sub false (.var 4) (.cst (.int 1))) .nil)) .nil)) .nil)))
    (.cons (.seti (.idx (.var 3) (.var 5)) (.bin .mod false (.bi .int false (.cons (.bin .add false (.var 5) (.var 6)) .nil)) (.var 4)) (.call 7 [0, 1] (.cons (.var 0) (.cons (.bin .add false (.var 2) (.lst false (.cons (.cst (.int 99)) (.cons (.cst (.int 0)) .nil)))) .nil)) .nil))
    .nil)) .nil)
    (.cons (.frz 3)
    (.cons (.ret (.frz (.var 3)))
    .nil))))⟩
def r23 : Co.Row := ⟨["_law_deck_here", "_law_rows_here", "_law_menu_here", "_law_found", "_law_size", "_law_x", "_law_step", "_law_row"], ["_law_deck_here", "_law_rows_here", "_law_menu_here"], defScope (sT 26), defBody (sT 26)⟩
/-- _law_doubled(_law_deck_here, _law_rows_here, _law_menu_here); slots 0:_law_deck_here 1:_law_rows_here 2:_law_menu_here 3:_law_size 4:_law_pair 5:_law_found 6:_law_naming 7:_law_one_here 8:_law_other -/
def d24 : FD := ⟨3, 9,
    (.cons (.asg (.nm 3) (.bi .len false (.cons (.var 1) .nil)))
    (.cons (.iff (.cmp .eq (.var 3) (.cst (.int 0))) (.cons (.ret (.lst false (.cons (.lst false (.cons (.cst (.int 0)) .nil)) .nil)))
    .nil) .nil)
    (.cons (.par [7, 8] (.cons (.call 6 [0, 1] (.cons (.var 0) (.cons (.var 3) .nil)) .nil) (.cons (.call 6 [0, 1] (.cons (.var 0) (.cons (.bin .add false (.var 3) (.cst (.int 1))) .nil)) .nil) .nil)))
    (.cons (.asg (.nm 4) (.lst false (.cons (.lst false (.cons (.cst (.int 0)) (.cons (.call 7 [0, 1] (.cons (.var 0) (.cons (.var 2) .nil)) .nil) .nil))) (.cons (.lst false (.cons (.call 7 [0, 1] (.cons (.var 0) (.cons (.var 2) .nil)) .nil) (.cons (.cst (.int 0)) .nil))) .nil))))
    (.cons (.asg (.nm 5) (.call 18 [0, 1, 2] (.cons (.var 1) (.cons (.var 7) (.cons (.var 4) .nil))) .nil))
    (.cons (.asg (.nm 6) (.rgl false true (.rng1 (.bin .add false (.var 3) (.cst (.int 1))))))
    (.cons (.sw (.var 6) (.var 8) (.var 6) (.var 7) (.tup (.cons (.idx (.var 6) (.var 7)) (.cons (.idx (.var 6) (.var 8)) .nil))))
    (.cons (.frz 6)
    (.cons (.ret (.call 17 [0, 1] (.cons (.var 5) (.cons (.var 6) .nil)) .nil))
    .nil)))))))))⟩
def r24 : Co.Row := ⟨["_law_deck_here", "_law_rows_here", "_law_menu_here", "_law_size", "_law_pair", "_law_found", "_law_naming", "_law_one_here", "_law_other"], ["_law_deck_here", "_law_rows_here", "_law_menu_here"], defScope (sT 27), defBody (sT 27)⟩
/-- _law_is_right(_law_rows_here); slots 0:_law_rows_here 1:_law_holes 2:_law_table_here 3:_law_size 4:_law_due 5:_law_told 6:_law_lot -/
def d25 : FD := ⟨1, 7,
    (.cons (.asg (.tp [2, 3]) (.tup (.cons (.call 9 [0] (.cons (.var 0) .nil) .nil) (.cons (.bi .len false (.cons (.var 0) .nil)) .nil))))
    (.cons (.asg (.nm 1) (.lc false (.var 6) (.nm 6) (.seq (.call 10 [0] (.cons (.var 3) .nil) .nil)) (.and_ (.chn .lt .lt (.cst (.int 1)) (.bi .len false (.cons (.var 6) .nil)) (.var 3)) (.call 11 [0, 1] (.cons (.var 0) (.cons (.var 6) .nil)) .nil)) [6]))
    (.cons (.par [4, 5] (.cons (.and_ (.cmp .gt (.var 3) (.cst (.int 2))) (.cmp .eq (.var 1) (.lst false .nil))) (.cons (.call 2 [0] (.cons (.var 2) .nil) .nil) .nil)))
    (.cons (.iff (.and_ (.cmp .lt (.var 3) (.cst (.int 7))) (.cmp .ne (.bi .repr false (.cons (.call 2 [0] .nil (.cons (.var 2) .nil)) .nil)) (.bi .repr false (.cons (.var 4) .nil)))) (.cons (.ret (.cst (.bl false)))
    .nil) .nil)
    (.cons (.ret (.cmp .eq (.bi .repr false (.cons (.lst false (.cons (.var 5) (.cons (.lc false (.call 4 [0, 1] (.cons (.var 2) (.cons (.var 6) .nil)) .nil) (.nm 6) (.seq (.slc false (.var 1) (.cst .non) (.cst (.int 6)))) (.cst (.bl true)) [6]) .nil))) .nil)) (.bi .repr false (.cons (.lst false (.cons (.var 4) (.cons (.bin .mul false (.lst false (.cons (.cst (.bl true)) .nil)) (.bi .len false (.cons (.slc false (.var 1) (.cst .non) (.cst (.int 6))) .nil))) .nil))) .nil))))
    .nil)))))⟩
def r25 : Co.Row := ⟨["_law_rows_here", "_law_holes", "_law_table_here", "_law_size", "_law_due", "_law_told", "_law_lot"], ["_law_rows_here"], defScope (sT 28), defBody (sT 28)⟩
/-- law(_law_script); slots 0:_law_script 1:_law_deck_here 2:_law_turn 3:_law_menu_here 4:_law_pair 5:_law_some 6:_law_told 7:_law_size 8:_law_rows_here 9:_law_ring 10:_law_path 11:_law_line 12:_law_fan 13:_law_own -/
def d26 : FD := ⟨1, 14,
    (.cons (.asg (.nm 1) (.call 5 [0] (.cons (.var 0) .nil) .nil))
    (.cons (.fr (.nm 2) (.rng1 (.cst (.int 4))) (.cons (.asg (.nm 3) (.call 14 [0] (.cons (.var 1) .nil) .nil))
    (.cons (.asg (.nm 7) (.ite (.cmp .gt (.var 2) (.cst (.int 0))) (.call 7 [0, 1] (.cons (.var 1) (.cons (.lst false (.cons (.cst (.int 0)) (.cons (.cst (.int 1)) (.cons (.cst (.int 2)) (.cons (.cst (.int 3)) (.cons (.cst (.int 3)) (.cons (.cst (.int 4)) (.cons (.cst (.int 5)) (.cons (.cst (.int 6)) .nil))))))))) .nil)) .nil) (.call 7 [0, 1] (.cons (.var 1) (.cons (.lst false (.cons (.cst (.int 4)) (.cons (.cst (.int 5)) (.cons (.cst (.int 6)) (.cons (.cst (.int 8)) .nil))))) .nil)) .nil)))
    (.cons (.asg (.nm 8) (.call 21 [0, 1, 2] (.cons (.var 1) (.cons (.var 7) (.cons (.var 3) .nil))) .nil))
    (.cons (.asg (.nm 5) (.lst true (.cons (.var 8) .nil)))
    (.cons (.iff (.cmp .lt (.var 7) (.cst (.int 7))) (.cons (.ex (.mth .append false (.var 5) (.cons (.call 23 [0, 1, 2] (.cons (.var 1) (.cons (.var 8) (.cons (.var 3) .nil))) .nil) .nil)))
    .nil) .nil)
    (.cons (.iff (.cmp .lt (.var 7) (.cst (.int 6))) (.cons (.asg (.nm 5) (.bin .add true (.var 5) (.lst false (.cons (.call 22 [0] (.cons (.var 8) .nil) .nil) (.cons (.call 24 [0, 1, 2] (.cons (.var 1) (.cons (.var 8) (.cons (.var 3) .nil))) .nil) .nil)))))
    .nil) .nil)
    (.cons (.frz 5)
    (.cons (.iff (.cmp .ne (.lc false (.cst (.int 1)) (.nm 13) (.seq (.var 5)) (.not_ (.call 25 [0] (.cons (.var 13) .nil) .nil)) [13]) (.lst false .nil)) (.cons (.ret (.cst (.bl false)))
    .nil) .nil)
    .nil)))))))) [])
    (.cons (.asg (.nm 3) (.call 14 [0] (.cons (.var 1) .nil) .nil))
    (.cons (.asg (.nm 4) (.lst false (.cons (.lst false (.cons (.cst (.int 0)) (.cons (.call 7 [0, 1] (.cons (.var 1) (.cons (.var 3) .nil)) .nil) .nil))) (.cons (.lst false (.cons (.call 7 [0, 1] (.cons (.var 1) (.cons (.var 3) .nil)) .nil) (.cons (.cst (.int 0)) .nil))) .nil))))
    (.cons (.asg (.nm 5) (.lst true (.cons (.call 18 [0, 1, 2] (.cons (.var 4) (.cons (.call 6 [0, 1] (.cons (.var 1) (.cons (.cst (.int 2)) .nil)) .nil) (.cons (.call 16 [0, 1, 2] (.cons (.var 1) (.cons (.call 7 [0, 1] (.cons (.var 1) (.cons (.lst false (.cons (.cst (.int 3)) (.cons (.cst (.int 4)) .nil))) .nil)) .nil) (.cons (.var 3) .nil))) .nil) .nil))) .nil) .nil)))
    (.cons (.ex (.mth .append false (.var 5) (.cons (.call 18 [0, 1, 2] (.cons (.call 16 [0, 1, 2] (.cons (.var 1) (.cons (.cst (.int 3)) (.cons (.var 3) .nil))) .nil) (.cons (.call 6 [0, 1] (.cons (.var 1) (.cons (.cst (.int 3)) .nil)) .nil) (.cons (.call 16 [0, 1, 2] (.cons (.var 1) (.cons (.cst (.int 3)) (.cons (.var 3) .nil))) .nil) .nil))) .nil) .nil)))
    (.cons (.frz 5)
    (.cons (.iff (.cmp .ne (.lc false (.cst (.int 1)) (.nm 13) (.seq (.var 5)) (.not_ (.call 25 [0] (.cons (.var 13) .nil) .nil)) [13]) (.lst false .nil)) (.cons (.ret (.cst (.bl false)))
    .nil) .nil)
    (.cons (.asg (.tp [9, 10]) (.tup (.cons (.tup (.cons (.cst (.int 3)) (.cons (.tup (.cons (.tup (.cons (.cst (.int 0)) (.cons (.cst (.int 1)) (.cons (.cst (.int 0)) .nil)))) (.cons (.tup (.cons (.cst (.int 0)) (.cons (.cst (.int 0)) (.cons (.cst (.int 1)) .nil)))) (.cons (.tup (.cons (.cst (.int 1)) (.cons (.cst (.int 0)) (.cons (.cst (.int 0)) .nil)))) .nil)))) .nil))) (.cons (.tup (.cons (.cst (.int 4)) (.cons (.tup (.cons (.tup (.cons (.cst (.int 0)) (.cons (.cst (.int 1)) (.cons (.cst (.int 0)) (.cons (.cst (.int 0)) .nil))))) (.cons (.tup (.cons (.cst (.int 1)) (.cons (.cst (.int 0)) (.cons (.cst (.int 1)) (.cons (.cst (.int 0)) .nil))))) (.cons (.tup (.cons (.cst (.int 0)) (.cons (.cst (.int 1)) (.cons (.cst (.int 0)) (.cons (.cst (.int 1)) .nil))))) (.cons (.tup (.cons (.cst (.int 0)) (.cons (.cst (.int 0)) (.cons (.cst (.int 1)) (.cons (.cst (.int 0)) .nil))))) .nil))))) .nil))) .nil))))
    (.cons (.asg (.tp [11, 12]) (.tup (.cons (.tup (.cons (.cst (.int 3)) (.cons (.tup (.cons (.tup (.cons (.cst (.int 0)) (.cons (.cst (.int 1)) (.cons (.cst (.int 1)) .nil)))) (.cons (.tup (.cons (.cst (.int 0)) (.cons (.cst (.int 0)) (.cons (.cst (.int 1)) .nil)))) (.cons (.tup (.cons (.cst (.int 0)) (.cons (.cst (.int 0)) (.cons (.cst (.int 0)) .nil)))) .nil)))) .nil))) (.cons (.tup (.cons (.cst (.int 3)) (.cons (.tup (.cons (.tup (.cons (.cst (.int 0)) (.cons (.cst (.int 0)) (.cons (.cst (.int 1)) .nil)))) (.cons (.tup (.cons (.cst (.int 0)) (.cons (.cst (.int 0)) (.cons (.cst (.int 1)) .nil)))) (.cons (.tup (.cons (.cst (.int 1)) (.cons (.cst (.int 1)) (.cons (.cst (.int 0)) .nil)))) .nil)))) .nil))) .nil))))
    (.cons (.asg (.nm 6) (.lst false (.cons (.call 2 [0] (.cons (.var 9) .nil) .nil) (.cons (.call 2 [0] (.cons (.var 10) .nil) .nil) (.cons (.call 2 [0] (.cons (.var 11) .nil) .nil) (.cons (.call 2 [0] (.cons (.var 12) .nil) .nil) (.cons (.call 2 [0] (.cons (.tup (.cons (.cst (.int 0)) (.cons (.tup .nil) .nil))) .nil) .nil) (.cons (.call 2 [0] (.cons (.tup (.cons (.cst (.int 1)) (.cons (.tup (.cons (.tup (.cons (.cst (.int 0)) .nil)) .nil)) .nil))) .nil) .nil) .nil))))))))
    (.cons (.ret (.cmp .eq (.bi .repr false (.cons (.bin .add false (.var 6) (.lst false (.cons (.call 2 [0] (.cons (.tup (.cons (.cst (.int 2)) (.cons (.tup (.cons (.tup (.cons (.cst (.int 0)) (.cons (.cst (.int 1)) .nil))) (.cons (.tup (.cons (.cst (.int 0)) (.cons (.cst (.int 0)) .nil))) .nil))) .nil))) .nil) .nil) .nil))) .nil)) (.bi .repr false (.cons (.bin .add false (.lst false (.cons (.cst (.bl true)) (.cons (.cst (.bl true)) .nil))) (.bin .mul false (.lst false (.cons (.cst (.bl false)) .nil)) (.cst (.int 5)))) .nil))))
    .nil))))))))))))⟩
def r26 : Co.Row := ⟨["_law_script", "_law_deck_here", "_law_turn", "_law_menu_here", "_law_pair", "_law_some", "_law_told", "_law_size", "_law_rows_here", "_law_ring", "_law_path", "_law_line", "_law_fan", "_law_own"], ["_law_script"], defScope (sT 29), defBody (sT 29)⟩
def G : GI := ⟨[(0, "_fills", ["rows", "lot", "one", "other"]), (1, "_is_firm_lot", ["rows", "lot"]), (2, "is_firm", ["table"]), (3, "parts_two", ["rows", "outer", "thing", "other"]), (4, "is_piece", ["table", "lot"]), (5, "_law_deck", ["_law_script"]), (6, "_law_draw", ["_law_deck_here", "_law_many"]), (7, "_law_one", ["_law_deck_here", "_law_items"]), (8, "_law_mixed", ["_law_deck_here", "_law_items"]), (9, "_law_table", ["_law_rows_here"]), (10, "_law_lots", ["_law_size"]), (11, "_law_is_piece", ["_law_rows_here", "_law_lot"]), (12, "_law_spread", ["_law_rows_here", "_law_lot", "_law_first", "_law_second"]), (13, "_law_is_firm", ["_law_rows_here", "_law_lot"]), (14, "_law_menu", ["_law_deck_here"]), (15, "_law_rows", ["_law_deck_here", "_law_size", "_law_menu_here"]), (16, "_law_core", ["_law_deck_here", "_law_size", "_law_menu_here"]), (17, "_law_named", ["_law_rows_here", "_law_naming"]), (18, "_law_set_in", ["_law_rows_here", "_law_thing", "_law_other"]), (19, "_law_small", ["_law_deck_here", "_law_size", "_law_menu_here"]), (20, "_law_made", ["_law_deck_here", "_law_size", "_law_menu_here"]), (21, "_law_any", ["_law_deck_here", "_law_size", "_law_menu_here"]), (22, "_law_turned", ["_law_rows_here"]), (23, "_law_changed", ["_law_deck_here", "_law_rows_here", "_law_menu_here"]), (24, "_law_doubled", ["_law_deck_here", "_law_rows_here", "_law_menu_here"]), (25, "_law_is_right", ["_law_rows_here"]), (26, "law", ["_law_script"])],
  [(0, 4, [], [0, 1, 2, 3]), (1, 2, [], [0, 1]), (3, 4, [], [0, 1, 2, 3]), (6, 2, [], [0, 1]), (12, 4, [], [0, 1, 2, 3]), (7, 2, [], [0, 1]), (8, 2, [], [0, 1]), (15, 3, [], [0, 1, 2]), (13, 2, [], [0, 1]), (16, 3, [], [0, 1, 2]), (18, 3, [], [0, 1, 2]), (19, 3, [], [0, 1, 2]), (17, 2, [], [0, 1]), (20, 3, [], [0, 1, 2]), (9, 1, [], [0]), (10, 1, [], [0]), (11, 2, [], [0, 1]), (2, 1, [], [0]), (2, 0, ["table"], [0]), (4, 2, [], [0, 1]), (5, 1, [], [0]), (14, 1, [], [0]), (21, 3, [], [0, 1, 2]), (23, 3, [], [0, 1, 2]), (24, 3, [], [0, 1, 2]), (22, 1, [], [0]), (25, 1, [], [0]), (26, 1, [], [0])],
  []⟩
def F : Nat → Option FD
  | 0 => some d0
  | 1 => some d1
  | 2 => some d2
  | 3 => some d3
  | 4 => some d4
  | 5 => some d5
  | 6 => some d6
  | 7 => some d7
  | 8 => some d8
  | 9 => some d9
  | 10 => some d10
  | 11 => some d11
  | 12 => some d12
  | 13 => some d13
  | 14 => some d14
  | 15 => some d15
  | 16 => some d16
  | 17 => some d17
  | 18 => some d18
  | 19 => some d19
  | 20 => some d20
  | 21 => some d21
  | 22 => some d22
  | 23 => some d23
  | 24 => some d24
  | 25 => some d25
  | 26 => some d26
  | _ => none
set_option maxRecDepth 1000000 in
set_option maxHeartbeats 0 in
theorem c0 : rowC G r0 d0 = true := by decide +kernel
theorem c1 : rowC G r1 d1 = true := by decide +kernel
theorem c2 : rowC G r2 d2 = true := by decide +kernel
theorem c3 : rowC G r3 d3 = true := by decide +kernel
theorem c4 : rowC G r4 d4 = true := by decide +kernel
theorem c5 : rowC G r5 d5 = true := by decide +kernel
theorem c6 : rowC G r6 d6 = true := by decide +kernel
theorem c7 : rowC G r7 d7 = true := by decide +kernel
theorem c8 : rowC G r8 d8 = true := by decide +kernel
theorem c9 : rowC G r9 d9 = true := by decide +kernel
theorem c10 : rowC G r10 d10 = true := by decide +kernel
theorem c11 : rowC G r11 d11 = true := by decide +kernel
theorem c12 : rowC G r12 d12 = true := by decide +kernel
theorem c13 : rowC G r13 d13 = true := by decide +kernel
theorem c14 : rowC G r14 d14 = true := by decide +kernel
theorem c15 : rowC G r15 d15 = true := by decide +kernel
theorem c16 : rowC G r16 d16 = true := by decide +kernel
theorem c17 : rowC G r17 d17 = true := by decide +kernel
theorem c18 : rowC G r18 d18 = true := by decide +kernel
theorem c19 : rowC G r19 d19 = true := by decide +kernel
theorem c20 : rowC G r20 d20 = true := by decide +kernel
theorem c21 : rowC G r21 d21 = true := by decide +kernel
theorem c22 : rowC G r22 d22 = true := by decide +kernel
theorem c23 : rowC G r23 d23 = true := by decide +kernel
theorem c24 : rowC G r24 d24 = true := by decide +kernel
theorem c25 : rowC G r25 d25 = true := by decide +kernel
theorem c26 : rowC G r26 d26 = true := by decide +kernel
/-- a def that the head has written -/
def Wr (K : PySem.W.Frag) (x : Str) (st : Stmt) : Prop := ∃ (f : Addr) (od an : Option Addr) (sl : Array (Option Value)) (oc kV doc pm cd ct : Value), PySem.W.nsIn K mainGlobals x = some (some (.ref f)) ∧
  K.lookup f = some ⟨oc, od, .func (PySem.W.fnOf x x (defArgs st) (defBody st) (defScope st) .none kV doc pm an cd ct), sl⟩ ∧ PySem.W.codeIn K cd x = true ∧ PySem.W.keepIn K (.ref f) = true
theorem t0 {K : PySem.W.Frag} {h : Heap} {mg : Str → Option Value} (X : K.In h) (H : h.Ns mainGlobals mg) (w : Wr K "_fills" (sT 1)) : TabRow K mg G F 0 "_fills" ["rows", "lot", "one", "other"] := by
  obtain ⟨f, od, an, sl, oc, kV, doc, pm, cd, ct, a, l, c, k⟩ := w
  refine ⟨f, _, r0, d0, PySem.W.mg_of X H a, k, ⟨_, _, _, _, _, _, _, _, _, _, _, _, _, rfl, l, c⟩, rfl, c0, rfl, fun np ks pm' hm => ?_⟩
  simp only [G, List.mem_cons, Prod.mk.injEq, List.not_mem_nil, or_false] at hm
  have hm : (np = 4 ∧ ks = ([] : List Str) ∧ pm' = [0, 1, 2, 3]) := by
    rcases hm with hm | hm | hm | hm | hm | hm | hm | hm | hm | hm | hm | hm | hm | hm | hm | hm | hm | hm | hm | hm | hm | hm | hm | hm | hm | hm | hm | hm <;> simp_all
  rcases hm with ⟨rfl, rfl, rfl⟩
  · exact ⟨rfl, (fun us ws all h1 h2 h3 => match us, ws, h1, h2 with | [u0, u1, u2, u3], [], _, _ => by cases h3; rfl)⟩
theorem t1 {K : PySem.W.Frag} {h : Heap} {mg : Str → Option Value} (X : K.In h) (H : h.Ns mainGlobals mg) (w : Wr K "_is_firm_lot" (sT 2)) : TabRow K mg G F 1 "_is_firm_lot" ["rows", "lot"] := by
  obtain ⟨f, od, an, sl, oc, kV, doc, pm, cd, ct, a, l, c, k⟩ := w
  refine ⟨f, _, r1, d1, PySem.W.mg_of X H a, k, ⟨_, _, _, _, _, _, _, _, _, _, _, _, _, rfl, l, c⟩, rfl, c1, rfl, fun np ks pm' hm => ?_⟩
  simp only [G, List.mem_cons, Prod.mk.injEq, List.not_mem_nil, or_false] at hm
  have hm : (np = 2 ∧ ks = ([] : List Str) ∧ pm' = [0, 1]) := by
    rcases hm with hm | hm | hm | hm | hm | hm | hm | hm | hm | hm | hm | hm | hm | hm | hm | hm | hm | hm | hm | hm | hm | hm | hm | hm | hm | hm | hm | hm <;> simp_all
  rcases hm with ⟨rfl, rfl, rfl⟩
  · exact ⟨rfl, (fun us ws all h1 h2 h3 => match us, ws, h1, h2 with | [u0, u1], [], _, _ => by cases h3; rfl)⟩
theorem t2 {K : PySem.W.Frag} {h : Heap} {mg : Str → Option Value} (X : K.In h) (H : h.Ns mainGlobals mg) (w : Wr K "is_firm" (sT 3)) : TabRow K mg G F 2 "is_firm" ["table"] := by
  obtain ⟨f, od, an, sl, oc, kV, doc, pm, cd, ct, a, l, c, k⟩ := w
  refine ⟨f, _, r2, d2, PySem.W.mg_of X H a, k, ⟨_, _, _, _, _, _, _, _, _, _, _, _, _, rfl, l, c⟩, rfl, c2, rfl, fun np ks pm' hm => ?_⟩
  simp only [G, List.mem_cons, Prod.mk.injEq, List.not_mem_nil, or_false] at hm
  have hm : (np = 1 ∧ ks = ([] : List Str) ∧ pm' = [0]) ∨ (np = 0 ∧ ks = (["table"] : List Str) ∧ pm' = [0]) := by
    rcases hm with hm | hm | hm | hm | hm | hm | hm | hm | hm | hm | hm | hm | hm | hm | hm | hm | hm | hm | hm | hm | hm | hm | hm | hm | hm | hm | hm | hm <;> simp_all
  rcases hm with ⟨rfl, rfl, rfl⟩ | ⟨rfl, rfl, rfl⟩
  · exact ⟨rfl, (fun us ws all h1 h2 h3 => match us, ws, h1, h2 with | [u0], [], _, _ => by cases h3; rfl)⟩
  · exact ⟨rfl, (fun us ws all h1 h2 h3 => match us, ws, h1, h2 with | [], [w0], _, _ => by cases h3; rfl)⟩
theorem t3 {K : PySem.W.Frag} {h : Heap} {mg : Str → Option Value} (X : K.In h) (H : h.Ns mainGlobals mg) (w : Wr K "parts_two" (sT 5)) : TabRow K mg G F 3 "parts_two" ["rows", "outer", "thing", "other"] := by
  obtain ⟨f, od, an, sl, oc, kV, doc, pm, cd, ct, a, l, c, k⟩ := w
  refine ⟨f, _, r3, d3, PySem.W.mg_of X H a, k, ⟨_, _, _, _, _, _, _, _, _, _, _, _, _, rfl, l, c⟩, rfl, c3, rfl, fun np ks pm' hm => ?_⟩
  simp only [G, List.mem_cons, Prod.mk.injEq, List.not_mem_nil, or_false] at hm
  have hm : (np = 4 ∧ ks = ([] : List Str) ∧ pm' = [0, 1, 2, 3]) := by
    rcases hm with hm | hm | hm | hm | hm | hm | hm | hm | hm | hm | hm | hm | hm | hm | hm | hm | hm | hm | hm | hm | hm | hm | hm | hm | hm | hm | hm | hm <;> simp_all
  rcases hm with ⟨rfl, rfl, rfl⟩
  · exact ⟨rfl, (fun us ws all h1 h2 h3 => match us, ws, h1, h2 with | [u0, u1, u2, u3], [], _, _ => by cases h3; rfl)⟩
theorem t4 {K : PySem.W.Frag} {h : Heap} {mg : Str → Option Value} (X : K.In h) (H : h.Ns mainGlobals mg) (w : Wr K "is_piece" (sT 6)) : TabRow K mg G F 4 "is_piece" ["table", "lot"] := by
  obtain ⟨f, od, an, sl, oc, kV, doc, pm, cd, ct, a, l, c, k⟩ := w
  refine ⟨f, _, r4, d4, PySem.W.mg_of X H a, k, ⟨_, _, _, _, _, _, _, _, _, _, _, _, _, rfl, l, c⟩, rfl, c4, rfl, fun np ks pm' hm => ?_⟩
  simp only [G, List.mem_cons, Prod.mk.injEq, List.not_mem_nil, or_false] at hm
  have hm : (np = 2 ∧ ks = ([] : List Str) ∧ pm' = [0, 1]) := by
    rcases hm with hm | hm | hm | hm | hm | hm | hm | hm | hm | hm | hm | hm | hm | hm | hm | hm | hm | hm | hm | hm | hm | hm | hm | hm | hm | hm | hm | hm <;> simp_all
  rcases hm with ⟨rfl, rfl, rfl⟩
  · exact ⟨rfl, (fun us ws all h1 h2 h3 => match us, ws, h1, h2 with | [u0, u1], [], _, _ => by cases h3; rfl)⟩
theorem t5 {K : PySem.W.Frag} {h : Heap} {mg : Str → Option Value} (X : K.In h) (H : h.Ns mainGlobals mg) (w : Wr K "_law_deck" (sT 8)) : TabRow K mg G F 5 "_law_deck" ["_law_script"] := by
  obtain ⟨f, od, an, sl, oc, kV, doc, pm, cd, ct, a, l, c, k⟩ := w
  refine ⟨f, _, r5, d5, PySem.W.mg_of X H a, k, ⟨_, _, _, _, _, _, _, _, _, _, _, _, _, rfl, l, c⟩, rfl, c5, rfl, fun np ks pm' hm => ?_⟩
  simp only [G, List.mem_cons, Prod.mk.injEq, List.not_mem_nil, or_false] at hm
  have hm : (np = 1 ∧ ks = ([] : List Str) ∧ pm' = [0]) := by
    rcases hm with hm | hm | hm | hm | hm | hm | hm | hm | hm | hm | hm | hm | hm | hm | hm | hm | hm | hm | hm | hm | hm | hm | hm | hm | hm | hm | hm | hm <;> simp_all
  rcases hm with ⟨rfl, rfl, rfl⟩
  · exact ⟨rfl, (fun us ws all h1 h2 h3 => match us, ws, h1, h2 with | [u0], [], _, _ => by cases h3; rfl)⟩
theorem t6 {K : PySem.W.Frag} {h : Heap} {mg : Str → Option Value} (X : K.In h) (H : h.Ns mainGlobals mg) (w : Wr K "_law_draw" (sT 9)) : TabRow K mg G F 6 "_law_draw" ["_law_deck_here", "_law_many"] := by
  obtain ⟨f, od, an, sl, oc, kV, doc, pm, cd, ct, a, l, c, k⟩ := w
  refine ⟨f, _, r6, d6, PySem.W.mg_of X H a, k, ⟨_, _, _, _, _, _, _, _, _, _, _, _, _, rfl, l, c⟩, rfl, c6, rfl, fun np ks pm' hm => ?_⟩
  simp only [G, List.mem_cons, Prod.mk.injEq, List.not_mem_nil, or_false] at hm
  have hm : (np = 2 ∧ ks = ([] : List Str) ∧ pm' = [0, 1]) := by
    rcases hm with hm | hm | hm | hm | hm | hm | hm | hm | hm | hm | hm | hm | hm | hm | hm | hm | hm | hm | hm | hm | hm | hm | hm | hm | hm | hm | hm | hm <;> simp_all
  rcases hm with ⟨rfl, rfl, rfl⟩
  · exact ⟨rfl, (fun us ws all h1 h2 h3 => match us, ws, h1, h2 with | [u0, u1], [], _, _ => by cases h3; rfl)⟩
theorem t7 {K : PySem.W.Frag} {h : Heap} {mg : Str → Option Value} (X : K.In h) (H : h.Ns mainGlobals mg) (w : Wr K "_law_one" (sT 10)) : TabRow K mg G F 7 "_law_one" ["_law_deck_here", "_law_items"] := by
  obtain ⟨f, od, an, sl, oc, kV, doc, pm, cd, ct, a, l, c, k⟩ := w
  refine ⟨f, _, r7, d7, PySem.W.mg_of X H a, k, ⟨_, _, _, _, _, _, _, _, _, _, _, _, _, rfl, l, c⟩, rfl, c7, rfl, fun np ks pm' hm => ?_⟩
  simp only [G, List.mem_cons, Prod.mk.injEq, List.not_mem_nil, or_false] at hm
  have hm : (np = 2 ∧ ks = ([] : List Str) ∧ pm' = [0, 1]) := by
    rcases hm with hm | hm | hm | hm | hm | hm | hm | hm | hm | hm | hm | hm | hm | hm | hm | hm | hm | hm | hm | hm | hm | hm | hm | hm | hm | hm | hm | hm <;> simp_all
  rcases hm with ⟨rfl, rfl, rfl⟩
  · exact ⟨rfl, (fun us ws all h1 h2 h3 => match us, ws, h1, h2 with | [u0, u1], [], _, _ => by cases h3; rfl)⟩
theorem t8 {K : PySem.W.Frag} {h : Heap} {mg : Str → Option Value} (X : K.In h) (H : h.Ns mainGlobals mg) (w : Wr K "_law_mixed" (sT 11)) : TabRow K mg G F 8 "_law_mixed" ["_law_deck_here", "_law_items"] := by
  obtain ⟨f, od, an, sl, oc, kV, doc, pm, cd, ct, a, l, c, k⟩ := w
  refine ⟨f, _, r8, d8, PySem.W.mg_of X H a, k, ⟨_, _, _, _, _, _, _, _, _, _, _, _, _, rfl, l, c⟩, rfl, c8, rfl, fun np ks pm' hm => ?_⟩
  simp only [G, List.mem_cons, Prod.mk.injEq, List.not_mem_nil, or_false] at hm
  have hm : (np = 2 ∧ ks = ([] : List Str) ∧ pm' = [0, 1]) := by
    rcases hm with hm | hm | hm | hm | hm | hm | hm | hm | hm | hm | hm | hm | hm | hm | hm | hm | hm | hm | hm | hm | hm | hm | hm | hm | hm | hm | hm | hm <;> simp_all
  rcases hm with ⟨rfl, rfl, rfl⟩
  · exact ⟨rfl, (fun us ws all h1 h2 h3 => match us, ws, h1, h2 with | [u0, u1], [], _, _ => by cases h3; rfl)⟩
theorem t9 {K : PySem.W.Frag} {h : Heap} {mg : Str → Option Value} (X : K.In h) (H : h.Ns mainGlobals mg) (w : Wr K "_law_table" (sT 12)) : TabRow K mg G F 9 "_law_table" ["_law_rows_here"] := by
  obtain ⟨f, od, an, sl, oc, kV, doc, pm, cd, ct, a, l, c, k⟩ := w
  refine ⟨f, _, r9, d9, PySem.W.mg_of X H a, k, ⟨_, _, _, _, _, _, _, _, _, _, _, _, _, rfl, l, c⟩, rfl, c9, rfl, fun np ks pm' hm => ?_⟩
  simp only [G, List.mem_cons, Prod.mk.injEq, List.not_mem_nil, or_false] at hm
  have hm : (np = 1 ∧ ks = ([] : List Str) ∧ pm' = [0]) := by
    rcases hm with hm | hm | hm | hm | hm | hm | hm | hm | hm | hm | hm | hm | hm | hm | hm | hm | hm | hm | hm | hm | hm | hm | hm | hm | hm | hm | hm | hm <;> simp_all
  rcases hm with ⟨rfl, rfl, rfl⟩
  · exact ⟨rfl, (fun us ws all h1 h2 h3 => match us, ws, h1, h2 with | [u0], [], _, _ => by cases h3; rfl)⟩
theorem t10 {K : PySem.W.Frag} {h : Heap} {mg : Str → Option Value} (X : K.In h) (H : h.Ns mainGlobals mg) (w : Wr K "_law_lots" (sT 13)) : TabRow K mg G F 10 "_law_lots" ["_law_size"] := by
  obtain ⟨f, od, an, sl, oc, kV, doc, pm, cd, ct, a, l, c, k⟩ := w
  refine ⟨f, _, r10, d10, PySem.W.mg_of X H a, k, ⟨_, _, _, _, _, _, _, _, _, _, _, _, _, rfl, l, c⟩, rfl, c10, rfl, fun np ks pm' hm => ?_⟩
  simp only [G, List.mem_cons, Prod.mk.injEq, List.not_mem_nil, or_false] at hm
  have hm : (np = 1 ∧ ks = ([] : List Str) ∧ pm' = [0]) := by
    rcases hm with hm | hm | hm | hm | hm | hm | hm | hm | hm | hm | hm | hm | hm | hm | hm | hm | hm | hm | hm | hm | hm | hm | hm | hm | hm | hm | hm | hm <;> simp_all
  rcases hm with ⟨rfl, rfl, rfl⟩
  · exact ⟨rfl, (fun us ws all h1 h2 h3 => match us, ws, h1, h2 with | [u0], [], _, _ => by cases h3; rfl)⟩
theorem t11 {K : PySem.W.Frag} {h : Heap} {mg : Str → Option Value} (X : K.In h) (H : h.Ns mainGlobals mg) (w : Wr K "_law_is_piece" (sT 14)) : TabRow K mg G F 11 "_law_is_piece" ["_law_rows_here", "_law_lot"] := by
  obtain ⟨f, od, an, sl, oc, kV, doc, pm, cd, ct, a, l, c, k⟩ := w
  refine ⟨f, _, r11, d11, PySem.W.mg_of X H a, k, ⟨_, _, _, _, _, _, _, _, _, _, _, _, _, rfl, l, c⟩, rfl, c11, rfl, fun np ks pm' hm => ?_⟩
  simp only [G, List.mem_cons, Prod.mk.injEq, List.not_mem_nil, or_false] at hm
  have hm : (np = 2 ∧ ks = ([] : List Str) ∧ pm' = [0, 1]) := by
    rcases hm with hm | hm | hm | hm | hm | hm | hm | hm | hm | hm | hm | hm | hm | hm | hm | hm | hm | hm | hm | hm | hm | hm | hm | hm | hm | hm | hm | hm <;> simp_all
  rcases hm with ⟨rfl, rfl, rfl⟩
  · exact ⟨rfl, (fun us ws all h1 h2 h3 => match us, ws, h1, h2 with | [u0, u1], [], _, _ => by cases h3; rfl)⟩
theorem t12 {K : PySem.W.Frag} {h : Heap} {mg : Str → Option Value} (X : K.In h) (H : h.Ns mainGlobals mg) (w : Wr K "_law_spread" (sT 15)) : TabRow K mg G F 12 "_law_spread" ["_law_rows_here", "_law_lot", "_law_first", "_law_second"] := by
  obtain ⟨f, od, an, sl, oc, kV, doc, pm, cd, ct, a, l, c, k⟩ := w
  refine ⟨f, _, r12, d12, PySem.W.mg_of X H a, k, ⟨_, _, _, _, _, _, _, _, _, _, _, _, _, rfl, l, c⟩, rfl, c12, rfl, fun np ks pm' hm => ?_⟩
  simp only [G, List.mem_cons, Prod.mk.injEq, List.not_mem_nil, or_false] at hm
  have hm : (np = 4 ∧ ks = ([] : List Str) ∧ pm' = [0, 1, 2, 3]) := by
    rcases hm with hm | hm | hm | hm | hm | hm | hm | hm | hm | hm | hm | hm | hm | hm | hm | hm | hm | hm | hm | hm | hm | hm | hm | hm | hm | hm | hm | hm <;> simp_all
  rcases hm with ⟨rfl, rfl, rfl⟩
  · exact ⟨rfl, (fun us ws all h1 h2 h3 => match us, ws, h1, h2 with | [u0, u1, u2, u3], [], _, _ => by cases h3; rfl)⟩
theorem t13 {K : PySem.W.Frag} {h : Heap} {mg : Str → Option Value} (X : K.In h) (H : h.Ns mainGlobals mg) (w : Wr K "_law_is_firm" (sT 16)) : TabRow K mg G F 13 "_law_is_firm" ["_law_rows_here", "_law_lot"] := by
  obtain ⟨f, od, an, sl, oc, kV, doc, pm, cd, ct, a, l, c, k⟩ := w
  refine ⟨f, _, r13, d13, PySem.W.mg_of X H a, k, ⟨_, _, _, _, _, _, _, _, _, _, _, _, _, rfl, l, c⟩, rfl, c13, rfl, fun np ks pm' hm => ?_⟩
  simp only [G, List.mem_cons, Prod.mk.injEq, List.not_mem_nil, or_false] at hm
  have hm : (np = 2 ∧ ks = ([] : List Str) ∧ pm' = [0, 1]) := by
    rcases hm with hm | hm | hm | hm | hm | hm | hm | hm | hm | hm | hm | hm | hm | hm | hm | hm | hm | hm | hm | hm | hm | hm | hm | hm | hm | hm | hm | hm <;> simp_all
  rcases hm with ⟨rfl, rfl, rfl⟩
  · exact ⟨rfl, (fun us ws all h1 h2 h3 => match us, ws, h1, h2 with | [u0, u1], [], _, _ => by cases h3; rfl)⟩
theorem t14 {K : PySem.W.Frag} {h : Heap} {mg : Str → Option Value} (X : K.In h) (H : h.Ns mainGlobals mg) (w : Wr K "_law_menu" (sT 17)) : TabRow K mg G F 14 "_law_menu" ["_law_deck_here"] := by
  obtain ⟨f, od, an, sl, oc, kV, doc, pm, cd, ct, a, l, c, k⟩ := w
  refine ⟨f, _, r14, d14, PySem.W.mg_of X H a, k, ⟨_, _, _, _, _, _, _, _, _, _, _, _, _, rfl, l, c⟩, rfl, c14, rfl, fun np ks pm' hm => ?_⟩
  simp only [G, List.mem_cons, Prod.mk.injEq, List.not_mem_nil, or_false] at hm
  have hm : (np = 1 ∧ ks = ([] : List Str) ∧ pm' = [0]) := by
    rcases hm with hm | hm | hm | hm | hm | hm | hm | hm | hm | hm | hm | hm | hm | hm | hm | hm | hm | hm | hm | hm | hm | hm | hm | hm | hm | hm | hm | hm <;> simp_all
  rcases hm with ⟨rfl, rfl, rfl⟩
  · exact ⟨rfl, (fun us ws all h1 h2 h3 => match us, ws, h1, h2 with | [u0], [], _, _ => by cases h3; rfl)⟩
theorem t15 {K : PySem.W.Frag} {h : Heap} {mg : Str → Option Value} (X : K.In h) (H : h.Ns mainGlobals mg) (w : Wr K "_law_rows" (sT 18)) : TabRow K mg G F 15 "_law_rows" ["_law_deck_here", "_law_size", "_law_menu_here"] := by
  obtain ⟨f, od, an, sl, oc, kV, doc, pm, cd, ct, a, l, c, k⟩ := w
  refine ⟨f, _, r15, d15, PySem.W.mg_of X H a, k, ⟨_, _, _, _, _, _, _, _, _, _, _, _, _, rfl, l, c⟩, rfl, c15, rfl, fun np ks pm' hm => ?_⟩
  simp only [G, List.mem_cons, Prod.mk.injEq, List.not_mem_nil, or_false] at hm
  have hm : (np = 3 ∧ ks = ([] : List Str) ∧ pm' = [0, 1, 2]) := by
    rcases hm with hm | hm | hm | hm | hm | hm | hm | hm | hm | hm | hm | hm | hm | hm | hm | hm | hm | hm | hm | hm | hm | hm | hm | hm | hm | hm | hm | hm <;> simp_all
  rcases hm with ⟨rfl, rfl, rfl⟩
  · exact ⟨rfl, (fun us ws all h1 h2 h3 => match us, ws, h1, h2 with | [u0, u1, u2], [], _, _ => by cases h3; rfl)⟩
theorem t16 {K : PySem.W.Frag} {h : Heap} {mg : Str → Option Value} (X : K.In h) (H : h.Ns mainGlobals mg) (w : Wr K "_law_core" (sT 19)) : TabRow K mg G F 16 "_law_core" ["_law_deck_here", "_law_size", "_law_menu_here"] := by
  obtain ⟨f, od, an, sl, oc, kV, doc, pm, cd, ct, a, l, c, k⟩ := w
  refine ⟨f, _, r16, d16, PySem.W.mg_of X H a, k, ⟨_, _, _, _, _, _, _, _, _, _, _, _, _, rfl, l, c⟩, rfl, c16, rfl, fun np ks pm' hm => ?_⟩
  simp only [G, List.mem_cons, Prod.mk.injEq, List.not_mem_nil, or_false] at hm
  have hm : (np = 3 ∧ ks = ([] : List Str) ∧ pm' = [0, 1, 2]) := by
    rcases hm with hm | hm | hm | hm | hm | hm | hm | hm | hm | hm | hm | hm | hm | hm | hm | hm | hm | hm | hm | hm | hm | hm | hm | hm | hm | hm | hm | hm <;> simp_all
  rcases hm with ⟨rfl, rfl, rfl⟩
  · exact ⟨rfl, (fun us ws all h1 h2 h3 => match us, ws, h1, h2 with | [u0, u1, u2], [], _, _ => by cases h3; rfl)⟩
theorem t17 {K : PySem.W.Frag} {h : Heap} {mg : Str → Option Value} (X : K.In h) (H : h.Ns mainGlobals mg) (w : Wr K "_law_named" (sT 20)) : TabRow K mg G F 17 "_law_named" ["_law_rows_here", "_law_naming"] := by
  obtain ⟨f, od, an, sl, oc, kV, doc, pm, cd, ct, a, l, c, k⟩ := w
  refine ⟨f, _, r17, d17, PySem.W.mg_of X H a, k, ⟨_, _, _, _, _, _, _, _, _, _, _, _, _, rfl, l, c⟩, rfl, c17, rfl, fun np ks pm' hm => ?_⟩
  simp only [G, List.mem_cons, Prod.mk.injEq, List.not_mem_nil, or_false] at hm
  have hm : (np = 2 ∧ ks = ([] : List Str) ∧ pm' = [0, 1]) := by
    rcases hm with hm | hm | hm | hm | hm | hm | hm | hm | hm | hm | hm | hm | hm | hm | hm | hm | hm | hm | hm | hm | hm | hm | hm | hm | hm | hm | hm | hm <;> simp_all
  rcases hm with ⟨rfl, rfl, rfl⟩
  · exact ⟨rfl, (fun us ws all h1 h2 h3 => match us, ws, h1, h2 with | [u0, u1], [], _, _ => by cases h3; rfl)⟩
theorem t18 {K : PySem.W.Frag} {h : Heap} {mg : Str → Option Value} (X : K.In h) (H : h.Ns mainGlobals mg) (w : Wr K "_law_set_in" (sT 21)) : TabRow K mg G F 18 "_law_set_in" ["_law_rows_here", "_law_thing", "_law_other"] := by
  obtain ⟨f, od, an, sl, oc, kV, doc, pm, cd, ct, a, l, c, k⟩ := w
  refine ⟨f, _, r18, d18, PySem.W.mg_of X H a, k, ⟨_, _, _, _, _, _, _, _, _, _, _, _, _, rfl, l, c⟩, rfl, c18, rfl, fun np ks pm' hm => ?_⟩
  simp only [G, List.mem_cons, Prod.mk.injEq, List.not_mem_nil, or_false] at hm
  have hm : (np = 3 ∧ ks = ([] : List Str) ∧ pm' = [0, 1, 2]) := by
    rcases hm with hm | hm | hm | hm | hm | hm | hm | hm | hm | hm | hm | hm | hm | hm | hm | hm | hm | hm | hm | hm | hm | hm | hm | hm | hm | hm | hm | hm <;> simp_all
  rcases hm with ⟨rfl, rfl, rfl⟩
  · exact ⟨rfl, (fun us ws all h1 h2 h3 => match us, ws, h1, h2 with | [u0, u1, u2], [], _, _ => by cases h3; rfl)⟩
theorem t19 {K : PySem.W.Frag} {h : Heap} {mg : Str → Option Value} (X : K.In h) (H : h.Ns mainGlobals mg) (w : Wr K "_law_small" (sT 22)) : TabRow K mg G F 19 "_law_small" ["_law_deck_here", "_law_size", "_law_menu_here"] := by
  obtain ⟨f, od, an, sl, oc, kV, doc, pm, cd, ct, a, l, c, k⟩ := w
  refine ⟨f, _, r19, d19, PySem.W.mg_of X H a, k, ⟨_, _, _, _, _, _, _, _, _, _, _, _, _, rfl, l, c⟩, rfl, c19, rfl, fun np ks pm' hm => ?_⟩
  simp only [G, List.mem_cons, Prod.mk.injEq, List.not_mem_nil, or_false] at hm
  have hm : (np = 3 ∧ ks = ([] : List Str) ∧ pm' = [0, 1, 2]) := by
    rcases hm with hm | hm | hm | hm | hm | hm | hm | hm | hm | hm | hm | hm | hm | hm | hm | hm | hm | hm | hm | hm | hm | hm | hm | hm | hm | hm | hm | hm <;> simp_all
  rcases hm with ⟨rfl, rfl, rfl⟩
  · exact ⟨rfl, (fun us ws all h1 h2 h3 => match us, ws, h1, h2 with | [u0, u1, u2], [], _, _ => by cases h3; rfl)⟩
theorem t20 {K : PySem.W.Frag} {h : Heap} {mg : Str → Option Value} (X : K.In h) (H : h.Ns mainGlobals mg) (w : Wr K "_law_made" (sT 23)) : TabRow K mg G F 20 "_law_made" ["_law_deck_here", "_law_size", "_law_menu_here"] := by
  obtain ⟨f, od, an, sl, oc, kV, doc, pm, cd, ct, a, l, c, k⟩ := w
  refine ⟨f, _, r20, d20, PySem.W.mg_of X H a, k, ⟨_, _, _, _, _, _, _, _, _, _, _, _, _, rfl, l, c⟩, rfl, c20, rfl, fun np ks pm' hm => ?_⟩
  simp only [G, List.mem_cons, Prod.mk.injEq, List.not_mem_nil, or_false] at hm
  have hm : (np = 3 ∧ ks = ([] : List Str) ∧ pm' = [0, 1, 2]) := by
    rcases hm with hm | hm | hm | hm | hm | hm | hm | hm | hm | hm | hm | hm | hm | hm | hm | hm | hm | hm | hm | hm | hm | hm | hm | hm | hm | hm | hm | hm <;> simp_all
  rcases hm with ⟨rfl, rfl, rfl⟩
  · exact ⟨rfl, (fun us ws all h1 h2 h3 => match us, ws, h1, h2 with | [u0, u1, u2], [], _, _ => by cases h3; rfl)⟩
theorem t21 {K : PySem.W.Frag} {h : Heap} {mg : Str → Option Value} (X : K.In h) (H : h.Ns mainGlobals mg) (w : Wr K "_law_any" (sT 24)) : TabRow K mg G F 21 "_law_any" ["_law_deck_here", "_law_size", "_law_menu_here"] := by
  obtain ⟨f, od, an, sl, oc, kV, doc, pm, cd, ct, a, l, c, k⟩ := w
  refine ⟨f, _, r21, d21, PySem.W.mg_of X H a, k, ⟨_, _, _, _, _, _, _, _, _, _, _, _, _, rfl, l, c⟩, rfl, c21, rfl, fun np ks pm' hm => ?_⟩
  simp only [G, List.mem_cons, Prod.mk.injEq, List.not_mem_nil, or_false] at hm
  have hm : (np = 3 ∧ ks = ([] : List Str) ∧ pm' = [0, 1, 2]) := by
    rcases hm with hm | hm | hm | hm | hm | hm | hm | hm | hm | hm | hm | hm | hm | hm | hm | hm | hm | hm | hm | hm | hm | hm | hm | hm | hm | hm | hm | hm <;> simp_all
  rcases hm with ⟨rfl, rfl, rfl⟩
  · exact ⟨rfl, (fun us ws all h1 h2 h3 => match us, ws, h1, h2 with | [u0, u1, u2], [], _, _ => by cases h3; rfl)⟩
theorem t22 {K : PySem.W.Frag} {h : Heap} {mg : Str → Option Value} (X : K.In h) (H : h.Ns mainGlobals mg) (w : Wr K "_law_turned" (sT 25)) : TabRow K mg G F 22 "_law_turned" ["_law_rows_here"] := by
  obtain ⟨f, od, an, sl, oc, kV, doc, pm, cd, ct, a, l, c, k⟩ := w
  refine ⟨f, _, r22, d22, PySem.W.mg_of X H a, k, ⟨_, _, _, _, _, _, _, _, _, _, _, _, _, rfl, l, c⟩, rfl, c22, rfl, fun np ks pm' hm => ?_⟩
  simp only [G, List.mem_cons, Prod.mk.injEq, List.not_mem_nil, or_false] at hm
  have hm : (np = 1 ∧ ks = ([] : List Str) ∧ pm' = [0]) := by
    rcases hm with hm | hm | hm | hm | hm | hm | hm | hm | hm | hm | hm | hm | hm | hm | hm | hm | hm | hm | hm | hm | hm | hm | hm | hm | hm | hm | hm | hm <;> simp_all
  rcases hm with ⟨rfl, rfl, rfl⟩
  · exact ⟨rfl, (fun us ws all h1 h2 h3 => match us, ws, h1, h2 with | [u0], [], _, _ => by cases h3; rfl)⟩
theorem t23 {K : PySem.W.Frag} {h : Heap} {mg : Str → Option Value} (X : K.In h) (H : h.Ns mainGlobals mg) (w : Wr K "_law_changed" (sT 26)) : TabRow K mg G F 23 "_law_changed" ["_law_deck_here", "_law_rows_here", "_law_menu_here"] := by
  obtain ⟨f, od, an, sl, oc, kV, doc, pm, cd, ct, a, l, c, k⟩ := w
  refine ⟨f, _, r23, d23, PySem.W.mg_of X H a, k, ⟨_, _, _, _, _, _, _, _, _, _, _, _, _, rfl, l, c⟩, rfl, c23, rfl, fun np ks pm' hm => ?_⟩
  simp only [G, List.mem_cons, Prod.mk.injEq, List.not_mem_nil, or_false] at hm
  have hm : (np = 3 ∧ ks = ([] : List Str) ∧ pm' = [0, 1, 2]) := by
    rcases hm with hm | hm | hm | hm | hm | hm | hm | hm | hm | hm | hm | hm | hm | hm | hm | hm | hm | hm | hm | hm | hm | hm | hm | hm | hm | hm | hm | hm <;> simp_all
  rcases hm with ⟨rfl, rfl, rfl⟩
  · exact ⟨rfl, (fun us ws all h1 h2 h3 => match us, ws, h1, h2 with | [u0, u1, u2], [], _, _ => by cases h3; rfl)⟩
theorem t24 {K : PySem.W.Frag} {h : Heap} {mg : Str → Option Value} (X : K.In h) (H : h.Ns mainGlobals mg) (w : Wr K "_law_doubled" (sT 27)) : TabRow K mg G F 24 "_law_doubled" ["_law_deck_here", "_law_rows_here", "_law_menu_here"] := by
  obtain ⟨f, od, an, sl, oc, kV, doc, pm, cd, ct, a, l, c, k⟩ := w
  refine ⟨f, _, r24, d24, PySem.W.mg_of X H a, k, ⟨_, _, _, _, _, _, _, _, _, _, _, _, _, rfl, l, c⟩, rfl, c24, rfl, fun np ks pm' hm => ?_⟩
  simp only [G, List.mem_cons, Prod.mk.injEq, List.not_mem_nil, or_false] at hm
  have hm : (np = 3 ∧ ks = ([] : List Str) ∧ pm' = [0, 1, 2]) := by
    rcases hm with hm | hm | hm | hm | hm | hm | hm | hm | hm | hm | hm | hm | hm | hm | hm | hm | hm | hm | hm | hm | hm | hm | hm | hm | hm | hm | hm | hm <;> simp_all
  rcases hm with ⟨rfl, rfl, rfl⟩
  · exact ⟨rfl, (fun us ws all h1 h2 h3 => match us, ws, h1, h2 with | [u0, u1, u2], [], _, _ => by cases h3; rfl)⟩
theorem t25 {K : PySem.W.Frag} {h : Heap} {mg : Str → Option Value} (X : K.In h) (H : h.Ns mainGlobals mg) (w : Wr K "_law_is_right" (sT 28)) : TabRow K mg G F 25 "_law_is_right" ["_law_rows_here"] := by
  obtain ⟨f, od, an, sl, oc, kV, doc, pm, cd, ct, a, l, c, k⟩ := w
  refine ⟨f, _, r25, d25, PySem.W.mg_of X H a, k, ⟨_, _, _, _, _, _, _, _, _, _, _, _, _, rfl, l, c⟩, rfl, c25, rfl, fun np ks pm' hm => ?_⟩
  simp only [G, List.mem_cons, Prod.mk.injEq, List.not_mem_nil, or_false] at hm
  have hm : (np = 1 ∧ ks = ([] : List Str) ∧ pm' = [0]) := by
    rcases hm with hm | hm | hm | hm | hm | hm | hm | hm | hm | hm | hm | hm | hm | hm | hm | hm | hm | hm | hm | hm | hm | hm | hm | hm | hm | hm | hm | hm <;> simp_all
  rcases hm with ⟨rfl, rfl, rfl⟩
  · exact ⟨rfl, (fun us ws all h1 h2 h3 => match us, ws, h1, h2 with | [u0], [], _, _ => by cases h3; rfl)⟩
theorem t26 {K : PySem.W.Frag} {h : Heap} {mg : Str → Option Value} (X : K.In h) (H : h.Ns mainGlobals mg) (w : Wr K "law" (sT 29)) : TabRow K mg G F 26 "law" ["_law_script"] := by
  obtain ⟨f, od, an, sl, oc, kV, doc, pm, cd, ct, a, l, c, k⟩ := w
  refine ⟨f, _, r26, d26, PySem.W.mg_of X H a, k, ⟨_, _, _, _, _, _, _, _, _, _, _, _, _, rfl, l, c⟩, rfl, c26, rfl, fun np ks pm' hm => ?_⟩
  simp only [G, List.mem_cons, Prod.mk.injEq, List.not_mem_nil, or_false] at hm
  have hm : (np = 1 ∧ ks = ([] : List Str) ∧ pm' = [0]) := by
    rcases hm with hm | hm | hm | hm | hm | hm | hm | hm | hm | hm | hm | hm | hm | hm | hm | hm | hm | hm | hm | hm | hm | hm | hm | hm | hm | hm | hm | hm <;> simp_all
  rcases hm with ⟨rfl, rfl, rfl⟩
  · exact ⟨rfl, (fun us ws all h1 h2 h3 => match us, ws, h1, h2 with | [u0], [], _, _ => by cases h3; rfl)⟩
theorem wr_mk {K : PySem.W.Frag} {x : Str} {st : Stmt} {f : Addr} {od an : Option Addr} {sl : Array (Option Value)} {oc kV doc pm cd ct : Value} (a : PySem.W.nsIn K mainGlobals x = some (some (.ref f)))
    (l : K.lookup f = some ⟨oc, od, .func (PySem.W.fnOf x x (defArgs st) (defBody st) (defScope st) .none kV doc pm an cd ct), sl⟩) (c : PySem.W.codeIn K cd x = true) (k : PySem.W.keepIn K (.ref f) = true) : Wr K x st := ⟨f, od, an, sl, oc, kV, doc, pm, cd, ct, a, l, c, k⟩
theorem fn1 : ∀ f x ps x' ps', (f, x, ps) ∈ G.fn → (f, x', ps') ∈ G.fn → x = x' ∧ ps = ps' := by
  have h : ∀ a ∈ G.fn, ∀ b ∈ G.fn, a.1 = b.1 → a = b := by decide +kernel
  intro f x ps x' ps' h1 h2
  have := h _ h1 _ h2 rfl
  simp only [Prod.mk.injEq, true_and] at this
  exact this
theorem all_mk {w : World} {K : PySem.W.Frag} {h : Heap} {mg : Str → Option Value} {fa : Addr} (X : K.In h) (H : h.Ns mainGlobals mg) (hfa : mg "law" = some (.ref fa)) (w0 : Wr K "_fills" (sT 1)) (w1 : Wr K "_is_firm_lot" (sT 2)) (w2 : Wr K "is_firm" (sT 3)) (w3 : Wr K "parts_two" (sT 5)) (w4 : Wr K "is_piece" (sT 6)) (w5 : Wr K "_law_deck" (sT 8)) (w6 : Wr K "_law_draw" (sT 9)) (w7 : Wr K "_law_one" (sT 10)) (w8 : Wr K "_law_mixed" (sT 11)) (w9 : Wr K "_law_table" (sT 12)) (w10 : Wr K "_law_lots" (sT 13)) (w11 : Wr K "_law_is_piece" (sT 14)) (w12 : Wr K "_law_spread" (sT 15)) (w13 : Wr K "_law_is_firm" (sT 16)) (w14 : Wr K "_law_menu" (sT 17)) (w15 : Wr K "_law_rows" (sT 18)) (w16 : Wr K "_law_core" (sT 19)) (w17 : Wr K "_law_named" (sT 20)) (w18 : Wr K "_law_set_in" (sT 21)) (w19 : Wr K "_law_small" (sT 22)) (w20 : Wr K "_law_made" (sT 23)) (w21 : Wr K "_law_any" (sT 24)) (w22 : Wr K "_law_turned" (sT 25)) (w23 : Wr K "_law_changed" (sT 26)) (w24 : Wr K "_law_doubled" (sT 27)) (w25 : Wr K "_law_is_right" (sT 28)) (w26 : Wr K "law" (sT 29))
    (z0 : PySem.W.nsIn K mainGlobals "len" = some none) (z1 : PySem.W.nsIn K mainGlobals "tuple" = some none) (z2 : PySem.W.nsIn K mainGlobals "list" = some none) (z3 : PySem.W.nsIn K mainGlobals "sum" = some none) (z4 : PySem.W.nsIn K mainGlobals "any" = some none) (z5 : PySem.W.nsIn K mainGlobals "all" = some none) (z6 : PySem.W.nsIn K mainGlobals "sorted" = some none) (z7 : PySem.W.nsIn K mainGlobals "min" = some none) (z8 : PySem.W.nsIn K mainGlobals "max" = some none) (z9 : PySem.W.nsIn K mainGlobals "int" = some none) (z10 : PySem.W.nsIn K mainGlobals "str" = some none) (z11 : PySem.W.nsIn K mainGlobals "repr" = some none) (z12 : PySem.W.nsIn K mainGlobals "isinstance" = some none) (z13 : PySem.W.nsIn K mainGlobals "range" = some none) (z14 : PySem.W.nsIn K mainGlobals "enumerate" = some none) (z15 : PySem.W.nsIn K mainGlobals "zip" = some none) (z16 : PySem.W.nsIn K mainGlobals "set" = some none) (z17 : PySem.W.nsIn K mainGlobals "bool" = some none) (z18 : PySem.W.nsIn K mainGlobals "dict" = some none) (z19 : PySem.W.nsIn K mainGlobals "abs" = some none)  : ∃ fd : FuncData, (∀ (s : Shared) (u : Value), BindsTo s fd ⟨[u], []⟩ [("_law_script", u)]) ∧ ∀ base : Heap, K.In base → base.Ns mainGlobals mg → FnG PySem.Challenge.pw_piecetrees_k19_is_firm_by_all_lots_as_pi w K mg base 24 fa fd ["_law_script"] (spF K 1 (runF F 24) 26) := by
  have tab : ∀ f x ps, (f, x, ps) ∈ G.fn → TabRow K mg G F f x ps := by
    intro f x ps hm
    simp only [G, List.mem_cons, Prod.mk.injEq, List.not_mem_nil, or_false] at hm
    rcases hm with ⟨rfl, rfl, rfl⟩ | ⟨rfl, rfl, rfl⟩ | ⟨rfl, rfl, rfl⟩ | ⟨rfl, rfl, rfl⟩ | ⟨rfl, rfl, rfl⟩ | ⟨rfl, rfl, rfl⟩ | ⟨rfl, rfl, rfl⟩ | ⟨rfl, rfl, rfl⟩ | ⟨rfl, rfl, rfl⟩ | ⟨rfl, rfl, rfl⟩ | ⟨rfl, rfl, rfl⟩ | ⟨rfl, rfl, rfl⟩ | ⟨rfl, rfl, rfl⟩ | ⟨rfl, rfl, rfl⟩ | ⟨rfl, rfl, rfl⟩ | ⟨rfl, rfl, rfl⟩ | ⟨rfl, rfl, rfl⟩ | ⟨rfl, rfl, rfl⟩ | ⟨rfl, rfl, rfl⟩ | ⟨rfl, rfl, rfl⟩ | ⟨rfl, rfl, rfl⟩ | ⟨rfl, rfl, rfl⟩ | ⟨rfl, rfl, rfl⟩ | ⟨rfl, rfl, rfl⟩ | ⟨rfl, rfl, rfl⟩ | ⟨rfl, rfl, rfl⟩ | ⟨rfl, rfl, rfl⟩
    · exact t0 X H w0
    · exact t1 X H w1
    · exact t2 X H w2
    · exact t3 X H w3
    · exact t4 X H w4
    · exact t5 X H w5
    · exact t6 X H w6
    · exact t7 X H w7
    · exact t8 X H w8
    · exact t9 X H w9
    · exact t10 X H w10
    · exact t11 X H w11
    · exact t12 X H w12
    · exact t13 X H w13
    · exact t14 X H w14
    · exact t15 X H w15
    · exact t16 X H w16
    · exact t17 X H w17
    · exact t18 X H w18
    · exact t19 X H w19
    · exact t20 X H w20
    · exact t21 X H w21
    · exact t22 X H w22
    · exact t23 X H w23
    · exact t24 X H w24
    · exact t25 X H w25
    · exact t26 X H w26
  have blt : ∀ x ∈ bltNames, mg x = none := by
    intro x hm
    simp only [bltNames, List.mem_cons, List.not_mem_nil, or_false] at hm
    rcases hm with rfl | rfl | rfl | rfl | rfl | rfl | rfl | rfl | rfl | rfl | rfl | rfl | rfl | rfl | rfl | rfl | rfl | rfl | rfl | rfl
    · exact PySem.W.mg_none_of X H z0
    · exact PySem.W.mg_none_of X H z1
    · exact PySem.W.mg_none_of X H z2
    · exact PySem.W.mg_none_of X H z3
    · exact PySem.W.mg_none_of X H z4
    · exact PySem.W.mg_none_of X H z5
    · exact PySem.W.mg_none_of X H z6
    · exact PySem.W.mg_none_of X H z7
    · exact PySem.W.mg_none_of X H z8
    · exact PySem.W.mg_none_of X H z9
    · exact PySem.W.mg_none_of X H z10
    · exact PySem.W.mg_none_of X H z11
    · exact PySem.W.mg_none_of X H z12
    · exact PySem.W.mg_none_of X H z13
    · exact PySem.W.mg_none_of X H z14
    · exact PySem.W.mg_none_of X H z15
    · exact PySem.W.mg_none_of X H z16
    · exact PySem.W.mg_none_of X H z17
    · exact PySem.W.mg_none_of X H z18
    · exact PySem.W.mg_none_of X H z19
  have cs : ∀ x v, G.cs.lookup x = some v → ∃ u y, mg x = some u ∧ RelV y u ∧ ∀ K m, RepV K m v y := by
    intro x v hm
    have hm := PySem.mem_of_lookup hm
    simp only [G, List.mem_cons, Prod.mk.injEq, List.not_mem_nil, or_false] at hm
  obtain ⟨a, fd, r, d, h1, h2, h3, h4, h5, h6, h7⟩ := (tab 26 "law" ["_law_script"] (by simp [G])).ex
  have ea : fa = a := by
    rw [h1] at hfa
    cases hfa
    rfl
  subst ea
  subst_vars
  refine ⟨fd, fun s u => .of_eq ?_, fun base _ _ => ?_⟩
  · exact (h7 1 [] [0] (by simp [G])).2 [u] [] [u] rfl rfl rfl
  · have q := def_ok (n := 23) (base := base) (P := PySem.Challenge.pw_piecetrees_k19_is_firm_by_all_lots_as_pi) (w := w) h4 h3 h5 blt cs (all_fn blt cs fn1 tab 23) fn1
    rw [h6] at q
    exact q
section
open Cp
theorem law_holds : ∀ ns : List Int, ns.length ≤ 63 → ∃ st, runF F 24 26 [.scr (ns.map .int)] [] = .ok (.bl true) st := fun ns hl =>
  Cd.law19_ok (F := F) (f := 26) (dk := 5) (me := 14) (on := 7) (an := 21) (ch := 23) (tu := 22) (db := 24) (ir := 25) (si := 18) (dr := 6) (co := 16) (ma := 20) (sm := 19) (na := 17) (rw' := 15) (fi := 13) (sp := 12) (m := 8) (tb := 9) (lo := 10) (ip := 11) (qf := 2) (ql := 1) (qs := 0) (qp := 4) (q := 3)
    rfl rfl rfl rfl rfl rfl rfl rfl rfl rfl rfl rfl rfl rfl rfl rfl rfl rfl rfl rfl rfl rfl rfl rfl rfl rfl rfl 15 ns hl
end
end Kx
open PySem PySem.W PyProof.Rows Co in
set_option maxHeartbeats 0 in
theorem PySem.Challenge.cw_piecetrees_k19_is_firm_by_all_lots_as_pi_holds : PySem.Challenge.rw_piecetrees_k19_is_firm_by_all_lots_as_pi.Holds := by
  w_on; o_law; k_head; (case hw => w_witness2)
  k_fill
  refine Co.walk_ofG (l := PySem.Challenge.rw_piecetrees_k19_is_firm_by_all_lots_as_pi) (n := 63) (k := 24) (x := "_law_script") (sp := fun w => Co.spF _ 1 (Co.runF Kx.F 24) 26) rfl (by decide) rfl ⟨rfl, by decide, by decide⟩ (fun w h Y => PySem.W.kIn_of Y) ?F (fun w H a ns hl hO hS => Co.sp_law Kx.law_holds H a ns hl hO hS)
  case F =>
    intro w mg fa h KX G hmg
    refine' Kx.all_mk KX G hmg ?w0 ?w1 ?w2 ?w3 ?w4 ?w5 ?w6 ?w7 ?w8 ?w9 ?w10 ?w11 ?w12 ?w13 ?w14 ?w15 ?w16 ?w17 ?w18 ?w19 ?w20 ?w21 ?w22 ?w23 ?w24 ?w25 ?w26 ?z0 ?z1 ?z2 ?z3 ?z4 ?z5 ?z6 ?z7 ?z8 ?z9 ?z10 ?z11 ?z12 ?z13 ?z14 ?z15 ?z16 ?z17 ?z18 ?z19
    (case w0 => (refine' Kx.wr_mk ?a ?l ?c ?k; (case a => k_is); (case l => k_is); (case c => k_is); (case k => k_is)))
    (case w1 => (refine' Kx.wr_mk ?a ?l ?c ?k; (case a => k_is); (case l => k_is); (case c => k_is); (case k => k_is)))
    (case w2 => (refine' Kx.wr_mk ?a ?l ?c ?k; (case a => k_is); (case l => k_is); (case c => k_is); (case k => k_is)))
    (case w3 => (refine' Kx.wr_mk ?a ?l ?c ?k; (case a => k_is); (case l => k_is); (case c => k_is); (case k => k_is)))
    (case w4 => (refine' Kx.wr_mk ?a ?l ?c ?k; (case a => k_is); (case l => k_is); (case c => k_is); (case k => k_is)))
    (case w5 => (refine' Kx.wr_mk ?a ?l ?c ?k; (case a => k_is); (case l => k_is); (case c => k_is); (case k => k_is)))
    (case w6 => (refine' Kx.wr_mk ?a ?l ?c ?k; (case a => k_is); (case l => k_is); (case c => k_is); (case k => k_is)))
    (case w7 => (refine' Kx.wr_mk ?a ?l ?c ?k; (case a => k_is); (case l => k_is); (case c => k_is); (case k => k_is)))
    (case w8 => (refine' Kx.wr_mk ?a ?l ?c ?k; (case a => k_is); (case l => k_is); (case c => k_is); (case k => k_is)))
    (case w9 => (refine' Kx.wr_mk ?a ?l ?c ?k; (case a => k_is); (case l => k_is); (case c => k_is); (case k => k_is)))
    (case w10 => (refine' Kx.wr_mk ?a ?l ?c ?k; (case a => k_is); (case l => k_is); (case c => k_is); (case k => k_is)))
    (case w11 => (refine' Kx.wr_mk ?a ?l ?c ?k; (case a => k_is); (case l => k_is); (case c => k_is); (case k => k_is)))
    (case w12 => (refine' Kx.wr_mk ?a ?l ?c ?k; (case a => k_is); (case l => k_is); (case c => k_is); (case k => k_is)))
    (case w13 => (refine' Kx.wr_mk ?a ?l ?c ?k; (case a => k_is); (case l => k_is); (case c => k_is); (case k => k_is)))
    (case w14 => (refine' Kx.wr_mk ?a ?l ?c ?k; (case a => k_is); (case l => k_is); (case c => k_is); (case k => k_is)))
    (case w15 => (refine' Kx.wr_mk ?a ?l ?c ?k; (case a => k_is); (case l => k_is); (case c => k_is); (case k => k_is)))
    (case w16 => (refine' Kx.wr_mk ?a ?l ?c ?k; (case a => k_is); (case l => k_is); (case c => k_is); (case k => k_is)))
    (case w17 => (refine' Kx.wr_mk ?a ?l ?c ?k; (case a => k_is); (case l => k_is); (case c => k_is); (case k => k_is)))
    (case w18 => (refine' Kx.wr_mk ?a ?l ?c ?k; (case a => k_is); (case l => k_is); (case c => k_is); (case k => k_is)))
    (case w19 => (refine' Kx.wr_mk ?a ?l ?c ?k; (case a => k_is); (case l => k_is); (case c => k_is); (case k => k_is)))
    (case w20 => (refine' Kx.wr_mk ?a ?l ?c ?k; (case a => k_is); (case l => k_is); (case c => k_is); (case k => k_is)))
    (case w21 => (refine' Kx.wr_mk ?a ?l ?c ?k; (case a => k_is); (case l => k_is); (case c => k_is); (case k => k_is)))
    (case w22 => (refine' Kx.wr_mk ?a ?l ?c ?k; (case a => k_is); (case l => k_is); (case c => k_is); (case k => k_is)))
    (case w23 => (refine' Kx.wr_mk ?a ?l ?c ?k; (case a => k_is); (case l => k_is); (case c => k_is); (case k => k_is)))
    (case w24 => (refine' Kx.wr_mk ?a ?l ?c ?k; (case a => k_is); (case l => k_is); (case c => k_is); (case k => k_is)))
    (case w25 => (refine' Kx.wr_mk ?a ?l ?c ?k; (case a => k_is); (case l => k_is); (case c => k_is); (case k => k_is)))
    (case w26 => (refine' Kx.wr_mk ?a ?l ?c ?k; (case a => k_is); (case l => k_is); (case c => k_is); (case k => k_is)))
    (case z0 => k_is)
    (case z1 => k_is)
    (case z2 => k_is)
    (case z3 => k_is)
    (case z4 => k_is)
    (case z5 => k_is)
    (case z6 => k_is)
    (case z7 => k_is)
    (case z8 => k_is)
    (case z9 => k_is)
    (case z10 => k_is)
    (case z11 => k_is)
    (case z12 => k_is)
    (case z13 => k_is)
    (case z14 => k_is)
    (case z15 => k_is)
    (case z16 => k_is)
    (case z17 => k_is)
    (case z18 => k_is)
    (case z19 => k_is)
