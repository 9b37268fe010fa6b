import PyProof.Rows.All
import Wide.All
import OpenK.AllK
import Wide.FinOn
import HandS.ForMost
import HandS.Lambda
import HandS.Exc
import HandS.ExcOwn
import HandS.IsInst
import HandS.CallSlots
import HandS.SortInts
import KE.KStar
import HandS.Iter
import HandS.Zip
import HandS.Comp
import KE.GoesEnum
import PyProof.InstNe
import HandS.SetFor
import PyProof.Rows.SetFrom
import KE.GoesMore
import KE.KDictZip
import PyProof.ListNew
import PyProof.AttrMiss
import HandS.Small
import HandS.ExcInit
import HandS.TryOnly
import HandS.ExcField
import HandS.HeadHook4
import HandS.HeadWalk
import HandS.Head0
import HandS.Head1
import HandS.Head2
import Lean
import PySem.Challenge.RW_zonebooks_k35_books_of_many_turns
section
set_option Elab.async false
set_option linter.all false
set_option maxRecDepth 100000
set_option maxHeartbeats 4000000
/-! Z: data, a small language, what it computes. -/
namespace Z
open PySem
abbrev Key := L2.Key
/-- data of a program, the heap forgotten -/
inductive D where
  | non | bl (b : Bool) | int (i : Int) | str (s : Str)
  | tup (xs : List D) | lst (xs : List D)
  | ins (c : Nat) (fs : List D)
  | dic (ks : List Key) (vs : List D)
  | ref (n : Nat)
  | lam (n : Nat)
  deriving Inhabited
abbrev Mu := List D
/-- what comes out: a value; an exception of the program's own, its fields, the objects then; nothing that is spoken of -/
inductive R (α : Type) where
  | ok (a : α)
  | ex (c : Nat) (fs : List D) (m : Mu)
  | bad
def R.bind {α β : Type} (r : R α) (f : α → R β) : R β := match r with
  | .ok a => f a
  | .ex c fs m => .ex c fs m
  | .bad => .bad
@[simp] theorem R.bind_ok {α β : Type} (a : α) (f : α → R β) : (R.ok a).bind f = f a := rfl
@[simp] theorem R.bind_ex {α β : Type} (c : Nat) (fs : List D) (m : Mu) (f : α → R β) : (R.ex c fs m : R α).bind f = .ex c fs m := rfl
@[simp] theorem R.bind_bad {α β : Type} (f : α → R β) : (R.bad : R α).bind f = .bad := rfl
def R.of {α : Type} : Option α → R α
  | some a => .ok a
  | none => .bad
@[simp] theorem R.of_some {α : Type} (a : α) : R.of (some a) = .ok a := rfl
@[simp] theorem R.of_none {α : Type} : (R.of (none : Option α)) = .bad := rfl
/-- an exception isn't spoken of -/
def R.tame {α : Type} : R α → R α
  | .ex _ _ _ => .bad
  | r => r
@[simp] theorem R.tame_ok {α : Type} (a : α) : (R.ok a).tame = .ok a := rfl
/-- a def: its arguments, the objects that change -/
abbrev Fn := List D → Mu → R (D × Mu)
/-- a slot: nothing; a value; a list or dict that is the frame's alone; .. that is only read; the instance that __init__ fills; an exception that is handled -/
inductive Sl where
  | un
  | va (d : D)
  | ow (d : D)
  | ro (d : D)
  | me (c : Nat) (fs : List (Str × D))
  | xc (c : Nat) (fs : List D)
abbrev Env := List Sl
inductive BO where | add | sub | mul | fdiv | mod | pow
  deriving DecidableEq
inductive CO where | eq | ne | lt | le | gt | ge | is_ | isnot | in_ | notin
  deriving DecidableEq
/-- built-ins, by values -/
inductive Bi where
  | len | abs | int | boolp | min1 | max1 | min2 | max2 | sum | any | all | list | tuple | sorted | sset | dict | zip3 | str
  deriving DecidableEq
inductive Ty where | bt (n : String) | own (x : Str) (c : Nat)
mutual
/-- a target -/
inductive Pat where
  | name (i : Nat)
  | tup (ps : Pats)
inductive Pats where
  | nil
  | cons (p : Pat) (ps : Pats)
end
mutual
inductive Ex where
  | var (i : Nat)
  | con (d : D)
  | glo (x : Str) (d : D)
  | tup (es : Exs) | lst (es : Exs)
  | bin (op : BO) (a b : Ex)
  | neg (a : Ex)
  | cmp (op : CO) (a b : Ex)
  | cmp2 (o1 o2 : CO) (a b c : Ex)
  | and (a b : Ex) | or (a b : Ex) | not (a : Ex)
  | ife (c a b : Ex)
  | idx (a i : Ex)
  | slc (a lo hi : Ex)
  | att (a : Ex) (f : Str) (tab : List (Nat × Nat))
  | xat (i : Nat) (f : Str) (tab : List (Nat × Nat))
  | call (x : Str) (f : Fn) (args : Exs)
  | make (x : Str) (c : Nat) (f : Fn) (args : Exs)
  | meth (o : Ex) (m : Str) (tab : List (Nat × Fn)) (args : Exs)
  | bi (b : Bi) (args : Exs)
  | dget (d k x : Ex)
  | isi (a : Ex) (ts : List Ty) (wrap : Bool)
  | lc (p : Pat) (src : Src) (c e : Ex)
  | act (i : Nat) (ls : Exs)
  | lam (n : Nat)
  | tru (tab : List (Nat × Fn)) (e : Ex)
  | eqi (neg : Bool) (tab : List (Nat × Fn)) (a b : Ex)
inductive Exs where
  | nil
  | cons (e : Ex) (es : Exs)
  | star (e : Ex) (es : Exs)
inductive Src where
  | seq (e : Ex)
  | rng1 (a : Ex) | rng2 (a b : Ex) | rng3 (a b : Ex) (c : Int)
  | enu (e : Ex)
  | zip (a b : Ex)
end
/-! ### values -/
def lookN {α : Type} : List (Nat × α) → Nat → Option α
  | [], _ => none
  | (k, a) :: r, n => if k = n then some a else lookN r n
/-- the longest list -/
abbrev line : Nat := 16777216
/-- data that == and in may meet, at most so deep -/
def pln : Nat → D → Bool
  | 0, _ => false
  | _ + 1, .non => true
  | _ + 1, .bl _ => true
  | _ + 1, .int _ => true
  | _ + 1, .str s => PyData.strOk s
  | n + 1, .tup xs => xs.all (pln n)
  | n + 1, .lst xs => xs.all (pln n)
  | _ + 1, _ => false
mutual
/-- == of plain data -/
def deq : D → D → Bool
  | .non, .non => true
  | .bl a, .bl b => a == b
  | .bl a, .int j => (if a then (1 : Int) else 0) == j
  | .int i, .bl b => i == (if b then (1 : Int) else 0)
  | .int i, .int j => i == j
  | .str x, .str y => x == y
  | .tup xs, .tup ys => deqs xs ys
  | .lst xs, .lst ys => deqs xs ys
  | _, _ => false
def deqs : List D → List D → Bool
  | [], [] => true
  | x :: xs, y :: ys => deq x y && deqs xs ys
  | _, _ => false
end
abbrev deep : Nat := 40
abbrev deep1 : Nat := 39
def ofInts : List D → Option (List Int)
  | [] => some []
  | .int i :: r => (ofInts r).map (i :: ·)
  | _ :: _ => none
def ofBools : List D → Option (List Bool)
  | [] => some []
  | .bl i :: r => (ofBools r).map (i :: ·)
  | _ :: _ => none
def minI : Int → List Int → Int
  | a, [] => a
  | a, b :: r => minI (if b < a then b else a) r
def maxI : Int → List Int → Int
  | a, [] => a
  | a, b :: r => maxI (if b > a then b else a) r
/-- into an ascending list -/
def insI (a : Int) : List Int → List Int
  | [] => [a]
  | b :: r => if a ≤ b then a :: b :: r else b :: insI a r
def sortI : List Int → List Int
  | [] => []
  | a :: r => insI a (sortI r)
/-- into an ascending list, once -/
def insS (a : Int) : List Int → List Int
  | [] => [a]
  | b :: r => if a < b then a :: b :: r else if a = b then b :: r else b :: insS a r
def setI : List Int → List Int
  | [] => []
  | a :: r => insS a (setI r)
def zip3 : List D → List D → List D → List D
  | a :: as, b :: bs, c :: cs => .tup [a, b, c] :: zip3 as bs cs
  | _, _, _ => []
def zip2 : List D → List D → List D
  | a :: as, b :: bs => .tup [a, b] :: zip2 as bs
  | _, _ => []
def enuF : Nat → List D → List D
  | _, [] => []
  | n, a :: as => .tup [.int n, a] :: enuF (n + 1) as
def items? : D → Option (List D)
  | .lst xs => some xs
  | .tup xs => some xs
  | _ => none
def list? : D → Option (List D)
  | .lst xs => some xs
  | _ => none
def key? : D → Option Key
  | .int i => some (.inl i)
  | .str s => some (.inr s)
  | _ => none
/-- a dict's pairs -/
def dpairs : List D → Option (List (Key × D))
  | [] => some []
  | .tup [k, v] :: r => match key? k, dpairs r with
    | some k, some q => some ((k, v) :: q)
    | _, _ => none
  | _ :: _ => none
def repl (k : Key) (v : D) : List Key → List D → List D
  | j :: js, w :: ws => (if j = k then v else w) :: repl k v js ws
  | _, _ => []
def dput (k : Key) (v : D) (ks : List Key) (vs : List D) : List Key × List D :=
  if (ks.any fun j => decide (j = k)) = true then (ks, repl k v ks vs) else (ks ++ [k], vs ++ [v])
def dget? (k : Key) : List Key → List D → Option D
  | j :: js, w :: ws => if j = k then some w else dget? k js ws
  | _, _ => none
def dputs : List (Key × D) → List Key → List D → List Key × List D
  | [], ks, vs => (ks, vs)
  | (k, v) :: r, ks, vs => let p := dput k v ks vs; dputs r p.1 p.2
/-- an int within machine words -/
def word (i : Int) : Prop := -(2 ^ 64) < i ∧ i < 2 ^ 64
instance (i : Int) : Decidable (word i) := by unfold word; infer_instance
def biSem : Bi → List D → Option D
  | .len, [.lst xs] => some (.int xs.length)
  | .len, [.tup xs] => some (.int xs.length)
  | .abs, [.int i] => some (.int (if i < 0 then -i else i))
  | .int, [.int i] => some (.int i)
  | .int, [.bl b] => some (.int (if b then 1 else 0))
  | .boolp, [.bl b] => some (.bl b)
  | .boolp, [.int i] => some (.bl (i != 0))
  | .min1, [.lst xs] => match ofInts xs with
    | some (a :: r) => some (.int (minI a r))
    | _ => none
  | .max1, [.lst xs] => match ofInts xs with
    | some (a :: r) => some (.int (maxI a r))
    | _ => none
  | .min2, [.int i, .int j] => some (.int (if j < i then j else i))
  | .max2, [.int i, .int j] => some (.int (if j > i then j else i))
  | .sum, [.lst xs] => (ofInts xs).map fun ns => .int ns.sum
  | .any, [.lst xs] => (ofBools xs).map fun bs => .bl (bs.any id)
  | .all, [.lst xs] => (ofBools xs).map fun bs => .bl (bs.all id)
  | .list, [.lst xs] => some (.lst xs)
  | .list, [.tup xs] => some (.lst xs)
  | .tuple, [.lst xs] => some (.tup xs)
  | .tuple, [.tup xs] => some (.tup xs)
  | .sorted, [.lst xs] => (ofInts xs).map fun ns => .lst ((sortI ns).map .int)
  | .sset, [.lst xs] => match ofInts xs with
    | some ns => if (setI ns).length < 64 ∧ ns.length < 4000 then some (.lst ((setI ns).map .int)) else none
    | none => none
  | .zip3, [.lst a, .lst b, .lst c] => if a.length = b.length ∧ b.length = c.length then some (.lst (zip3 a b c)) else none
  | .dict, [.lst xs] => (dpairs xs).map fun ps => let p := dputs ps [] []; .dic p.1 p.2
  | _, _ => none
def boSem : BO → D → D → Option D
  | .add, .int i, .int j => some (.int (i + j))
  | .sub, .int i, .int j => some (.int (i - j))
  | .mul, .int i, .int j => if word i ∨ word j then some (.int (i * j)) else none
  | .fdiv, .int i, .int j => if 0 < j ∧ j < 1073741824 then some (.int (i / j)) else none
  | .mod, .int i, .int j => if 0 < j then some (.int (i % j)) else none
  | .pow, .int i, .int j => if 0 ≤ j ∧ j ≤ 1000000 ∧ i.natAbs < 2 ^ 64 then some (.int (i ^ j.toNat)) else none
  | .add, .lst a, .lst b => if a.length + b.length ≤ line then some (.lst (a ++ b)) else none
  | _, _, _ => none
/-- a comparison by values -/
def coSem : CO → D → D → Option Bool
  | .eq, a, b => if pln deep a ∧ pln deep b then some (deq a b) else none
  | .ne, a, b => if pln deep a ∧ pln deep b then some (!deq a b) else none
  | .lt, .int i, .int j => some (decide (i < j))
  | .le, .int i, .int j => some (decide (i ≤ j))
  | .gt, .int i, .int j => some (decide (j < i))
  | .ge, .int i, .int j => some (decide (j ≤ i))
  | .is_, a, .non => some (match a with | .non => true | _ => false)
  | .isnot, a, .non => some (match a with | .non => false | _ => true)
  | .in_, a, b => match items? b with
    | some xs => if pln deep1 a ∧ pln deep b then some (xs.any fun x => deq x a) else none
    | none => none
  | .notin, a, b => match items? b with
    | some xs => if pln deep1 a ∧ pln deep b then some (!xs.any fun x => deq x a) else none
    | none => none
  | _, _, _ => none
/-- truth of a value -/
def truth : D → Option Bool
  | .bl b => some b
  | _ => none
def atD (xs : List D) (i : Int) : Option D := L2.atI xs i
/-- xs[a:b] -/
def cutD (xs : List D) (lo hi : Option Int) : List D := (xs.drop (_root_.HT.sIx xs.length 0 lo)).take (_root_.HT.sIx xs.length xs.length hi - _root_.HT.sIx xs.length 0 lo)
def isTy : D → Ty → Bool
  | .int _, .bt n => n == "int"
  | .bl _, .bt n => n == "int" || n == "bool"
  | .str _, .bt n => n == "str"
  | .lst _, .bt n => n == "list"
  | .tup _, .bt n => n == "tuple"
  | .dic _ _, .bt n => n == "dict"
  | .ins c _, .own _ k => c == k
  | _, _ => false
/-! ### what it computes -/
def slotAt (ρ : Env) (i : Nat) : Sl := (ρ[i]?).getD .un
/-- a name's value -/
def getV (ρ : Env) (i : Nat) : Option D := match slotAt ρ i with
  | .va d => some d
  | _ => none
/-- .. or what a list of the frame's own holds -/
def getR (ρ : Env) (i : Nat) : Option D := match slotAt ρ i with
  | .va d => some d
  | .ow d => some d
  | .ro d => some d
  | _ => none
def deref (m : Mu) : D → D
  | .ref n => (m[n]?).getD .non
  | d => d
mutual
def bindP : Pat → D → Env → Option Env
  | .name i, d, ρ => some (ρ.set i (.va d))
  | .tup ps, .tup ds, ρ => bindPs ps ds ρ
  | .tup _, _, _ => none
def bindPs : Pats → List D → Env → Option Env
  | .nil, [], ρ => some ρ
  | .cons p ps, d :: ds, ρ => match bindP p d ρ with
    | some ρ' => bindPs ps ds ρ'
    | none => none
  | _, _, _ => none
end
mutual
def pnames : Pat → List Nat
  | .name i => [i]
  | .tup ps => pnamess ps
def pnamess : Pats → List Nat
  | .nil => []
  | .cons p ps => pnames p ++ pnamess ps
end
def clear (ρ : Env) : List Nat → Env
  | [] => ρ
  | i :: is => clear (ρ.set i .un) is
/-- a slot, seen from a comprehension: what the frame alone owns is read -/
def Sl.ro' : Sl → Sl
  | .ow d => .ro d
  | .me _ _ => .un
  | s => s
/-- the slots, seen from a comprehension -/
def roE (ρ : Env) (is : List Nat) : Env := clear (ρ.map Sl.ro') is
/-- what is taken of a source, turn by turn -/
def lcL (bnd : D → Option Env) (tc : Env → Mu → R (Bool × Mu)) (te : Env → Mu → R (D × Mu)) : List D → Mu → R (List D × Mu)
  | [], m => .ok ([], m)
  | d :: ds, m => (R.of (bnd d)).bind fun ρ => (tc ρ m).bind fun p => match p.1 with
    | true => (te ρ p.2).bind fun q => (lcL bnd tc te ds q.2).bind fun r => .ok (q.1 :: r.1, r.2)
    | false => lcL bnd tc te ds p.2
/-- the value of a made instance: __init__ gives the instance itself back -/
def callTab (tab : List (Nat × Fn)) (o : D) (ds : List D) (m : Mu) : R (D × Mu) := match o with
  | .ins c fs => match lookN tab c with
    | some f => f (.ins c fs :: ds) m
    | none => .bad
  | _ => .bad
def inTab (tab : List (Nat × Fn)) : D → Bool
  | .ins c _ => (lookN tab c).isSome
  | _ => false
def isRL : D → Bool
  | .ref _ => true
  | .lam _ => true
  | _ => false
def isIns : D → Bool
  | .ins _ _ => true
  | _ => false
def attOf (m : Mu) (tab : List (Nat × Nat)) (d : D) : Option D := match deref m d with
  | .ins c fs => (lookN tab c).bind fun k => fs[k]?
  | _ => none
def rngI (lo : Int) (n : Nat) (c : Int) : List D := (List.range n).map fun (k : Nat) => .int (lo + (k : Int) * c)
/-- how many turns range(i, j, c) has -/
def rngN (i j c : Int) : Nat := (if 0 < c then (if i < j then (j - i - 1) / c + 1 else 0) else (if j < i then (i - j - 1) / (-c) + 1 else 0)).toNat
def small (i : Int) : Prop := -(2 ^ 62) ≤ i ∧ i < 2 ^ 62
instance (i : Int) : Decidable (small i) := by unfold small; infer_instance
def cmpR (op : CO) (m : Mu) (a b : D) : R (D × Mu) := (R.of (coSem op a b)).bind fun k => .ok (.bl k, m)
/-- a thing that is only read: a name may be a list of the frame's own; else the value r -/
def rdv (e : Ex) (ρ : Env) (m : Mu) (r : R (D × Mu)) : R (D × Mu) := match e with
  | .var i => (R.of (getR ρ i)).bind fun d => .ok (d, m)
  | _ => r
/-- .. (o) or not -/
def rdo (o : Bool) (e : Ex) (ρ : Env) (m : Mu) (r : R (D × Mu)) : R (D × Mu) := match o with
  | true => rdv e ρ m r
  | false => r
/-- a part of a slice: none is written, or an int -/
def prt (e : Ex) (m : Mu) (r : R (D × Mu)) : R (Option Int × Mu) := match e with
  | .con .non => .ok (none, m)
  | _ => r.bind fun p => match p.1 with
    | .int i => .ok (some i, p.2)
    | _ => .bad
/-- a test -/
def tst (r : R (D × Mu)) : R (Bool × Mu) := r.bind fun p => (R.of (truth p.1)).bind fun k => .ok (k, p.2)
mutual
def ev : Ex → Env → Mu → R (D × Mu)
  | .var i, ρ, m => (R.of (getV ρ i)).bind fun d => .ok (d, m)
  | .con d, _, m => .ok (d, m)
  | .glo _ d, _, m => .ok (d, m)
  | .tup es, ρ, m => (evs es ρ m).bind fun p => if p.1.length ≤ line then .ok (.tup p.1, p.2) else .bad
  | .lst es, ρ, m => (evs es ρ m).bind fun p => if p.1.length ≤ line then .ok (.lst p.1, p.2) else .bad
  | .bin op a b, ρ, m => (rdv a ρ m (ev a ρ m)).bind fun p => (rdv b ρ p.2 (ev b ρ p.2)).bind fun q => (R.of (boSem op p.1 q.1)).bind fun d => .ok (d, q.2)
  | .neg a, ρ, m => (ev a ρ m).bind fun p => match p.1 with
    | .int i => .ok (.int (-i), p.2)
    | _ => .bad
  | .cmp op a b, ρ, m => (rdv a ρ m (ev a ρ m)).bind fun p => (rdv b ρ p.2 (ev b ρ p.2)).bind fun q => cmpR op q.2 p.1 q.1
  | .cmp2 o1 o2 a b c, ρ, m => (ev a ρ m).bind fun p => (ev b ρ p.2).bind fun q => (R.of (coSem o1 p.1 q.1)).bind fun k => match k with
    | true => (ev c ρ q.2).bind fun r => cmpR o2 r.2 q.1 r.1
    | false => .ok (.bl false, q.2)
  | .and a b, ρ, m => (ev a ρ m).bind fun p => match p.1 with
    | .bl true => ev b ρ p.2
    | .bl false => .ok (.bl false, p.2)
    | _ => .bad
  | .or a b, ρ, m => (ev a ρ m).bind fun p => match p.1 with
    | .bl true => .ok (.bl true, p.2)
    | .bl false => ev b ρ p.2
    | _ => .bad
  | .not a, ρ, m => (tst (ev a ρ m)).bind fun p => .ok (.bl (!p.1), p.2)
  | .ife c a b, ρ, m => (tst (ev c ρ m)).bind fun p => match p.1 with
    | true => ev a ρ p.2
    | false => ev b ρ p.2
  | .idx a i, ρ, m => (rdv a ρ m (ev a ρ m)).bind fun p => (ev i ρ p.2).bind fun q => match deref q.2 p.1, q.1 with
    | .lst xs, .int i => (R.of (atD xs i)).bind fun d => .ok (d, q.2)
    | .tup xs, .int i => (R.of (atD xs i)).bind fun d => .ok (d, q.2)
    | .dic ks vs, k => (R.of ((key? k).bind fun k => dget? k ks vs)).bind fun d => .ok (d, q.2)
    | _, _ => .bad
  | .slc a lo hi, ρ, m => (rdv a ρ m (ev a ρ m)).bind fun p => (prt lo p.2 (ev lo ρ p.2)).bind fun q => (prt hi q.2 (ev hi ρ q.2)).bind fun r => match p.1 with
    | .lst xs => .ok (.lst (cutD xs q.1 r.1), r.2)
    | _ => .bad
  | .att a _ tab, ρ, m => (ev a ρ m).bind fun p => (R.of (attOf p.2 tab p.1)).bind fun d => .ok (d, p.2)
  | .xat i _ tab, ρ, m => match slotAt ρ i with
    | .xc c fs => (R.of ((lookN tab c).bind fun k => fs[k]?)).bind fun d => .ok (d, m)
    | _ => .bad
  | .call _ f args, ρ, m => (evs args ρ m).bind fun p => f p.1 p.2
  | .make _ _ f args, ρ, m => (evs args ρ m).bind fun p => f p.1 p.2
  | .meth o _ tab args, ρ, m => (ev o ρ m).bind fun p => match inTab tab p.1 with
    | true => (evs args ρ p.2).bind fun q => callTab tab p.1 q.1 q.2
    | false => .bad
  | .bi b args, ρ, m => (evrs args ρ m).bind fun p => (R.of (biSem b p.1)).bind fun d => .ok (d, p.2)
  | .dget d k x, ρ, m => (rdv d ρ m (ev d ρ m)).bind fun p => match p.1 with
    | .dic ks vs => (ev k ρ p.2).bind fun q => (ev x ρ q.2).bind fun r => (R.of (key? q.1)).bind fun k => .ok ((dget? k ks vs).getD r.1, r.2)
    | _ => .bad
  | .isi a ts _, ρ, m => (ev a ρ m).bind fun p => if isRL p.1 = true then .bad else .ok (.bl (ts.any (isTy p.1)), p.2)
  | .lc p src c e, ρ, m => (evSrc src true ρ m).bind fun q => (lcL (fun d => bindP p d (roE ρ (pnames p))) (fun ρ m => tst (ev c ρ m)) (ev e) q.1 q.2).tame.bind fun r => .ok (.lst r.1, r.2)
  | .act i ls, ρ, m => match getV ρ i with
    | some (.lam n) => evN ls n ρ m
    | _ => .bad
  | .lam n, _, m => .ok (.lam n, m)
  | .tru tab e, ρ, m => (ev e ρ m).bind fun p => (callTab tab p.1 [] p.2).bind fun q => match q.1 with
    | .bl k => .ok (.bl k, q.2)
    | _ => .bad
  | .eqi neg tab a b, ρ, m => (ev a ρ m).bind fun p => (ev b ρ p.2).bind fun q => match isIns q.1 with
    | true => (callTab tab p.1 [q.1] q.2).bind fun r => match r.1 with
      | .bl k => .ok (.bl (if neg then !k else k), r.2)
      | _ => .bad
    | false => .bad
def evs : Exs → Env → Mu → R (List D × Mu)
  | .nil, _, m => .ok ([], m)
  | .cons e es, ρ, m => (ev e ρ m).bind fun p => (evs es ρ p.2).bind fun q => .ok (p.1 :: q.1, q.2)
  | .star e es, ρ, m => (rdv e ρ m (ev e ρ m)).bind fun p => match items? p.1 with
    | some xs => (evs es ρ p.2).bind fun q => .ok (xs ++ q.1, q.2)
    | none => .bad
def evrs : Exs → Env → Mu → R (List D × Mu)
  | .nil, _, m => .ok ([], m)
  | .cons e es, ρ, m => (rdv e ρ m (ev e ρ m)).bind fun p => (evrs es ρ p.2).bind fun q => .ok (p.1 :: q.1, q.2)
  | .star _ _, _, _ => .bad
def evN : Exs → Nat → Env → Mu → R (D × Mu)
  | .cons e _, 0, ρ, m => ev e ρ m
  | .cons _ es, n + 1, ρ, m => evN es n ρ m
  | _, _, _, _ => .bad
def evSrc : Src → Bool → Env → Mu → R (List D × Mu)
  | .seq e, o, ρ, m => (rdo o e ρ m (ev e ρ m)).bind fun p => (R.of (items? p.1)).bind fun xs => .ok (xs, p.2)
  | .rng1 a, _, ρ, m => (ev a ρ m).bind fun p => match p.1 with
    | .int j => if small j ∧ j ≤ (line : Int) then .ok (rngI 0 j.toNat 1, p.2) else .bad
    | _ => .bad
  | .rng2 a b, _, ρ, m => (ev a ρ m).bind fun p => (ev b ρ p.2).bind fun q => match p.1, q.1 with
    | .int i, .int j => if small i ∧ small j ∧ j - i ≤ (line : Int) then .ok (rngI i (j - i).toNat 1, q.2) else .bad
    | _, _ => .bad
  | .rng3 a b c, _, ρ, m => (ev a ρ m).bind fun p => (ev b ρ p.2).bind fun q => match p.1, q.1 with
    | .int i, .int j => if small i ∧ small j ∧ rngN i j c ≤ line ∧ c ≠ 0 ∧ c.natAbs < 1000000 then .ok (rngI i (rngN i j c) c, q.2) else .bad
    | _, _ => .bad
  | .enu e, o, ρ, m => (rdo o e ρ m (ev e ρ m)).bind fun p => (R.of (items? p.1)).bind fun xs => .ok (enuF 0 xs, p.2)
  | .zip a b, o, ρ, m => (rdo o a ρ m (ev a ρ m)).bind fun p => (rdo o b ρ p.2 (ev b ρ p.2)).bind fun q => match p.1, q.1 with
    | .lst xs, .lst ys => .ok (zip2 xs ys, q.2)
    | .tup xs, .tup ys => .ok (zip2 xs ys, q.2)
    | _, _ => .bad
end
abbrev evr (e : Ex) (ρ : Env) (m : Mu) : R (D × Mu) := rdv e ρ m (ev e ρ m)
abbrev evT (e : Ex) (ρ : Env) (m : Mu) : R (Bool × Mu) := tst (ev e ρ m)
/-! ### statements -/
mutual
inductive Sm where
  | asg (i : Nat) (e : Ex)
  | asgF (i : Nat) (e : Ex)
  | asgT (p : Pat) (e : Ex)
  | par (i j : Nat) (fi fj : Bool) (a b : Ex)
  | aug (i : Nat) (op : BO) (e : Ex)
  | ext (i : Nat) (e : Ex)
  | app (i : Nat) (e : Ex)
  | setI (i : Nat) (k e : Ex)
  | augI (i : Nat) (k : Ex) (op : BO) (e : Ex)
  | setA (f : Str) (e : Ex)
  | expr (e : Ex)
  | ifs (c : Ex) (a b : Sms)
  | fors (p : Pat) (s : Src) (body : Sms) (clr : List Nat)
  | whl (c : Ex) (body : Sms) (clr : List Nat)
  | ret (e : Ex) | retN
  | raise (x : Str) (c n : Nat) (args : Exs)
  | newr (i : Nat) (e : Ex)
  | tryx (body : Sms) (x : Str) (cs : List Nat) (i : Nat) (h : Sms)
  | tryo (body : Sms) (x : Str) (cs : List Nat) (h : Sms)
  | pass | cont
  | frz (is : List Nat)
inductive Sms where
  | nil
  | cons (s : Sm) (ss : Sms)
end
inductive S where
  | nx (ρ : Env) (m : Mu)
  | rt (d : D) (m : Mu)
  | ct (ρ : Env) (m : Mu)
  | ex (c : Nat) (fs : List D) (ρ : Env) (m : Mu)
  | bad
def S.of {α : Type} (r : R α) (ρ : Env) (f : α → S) : S := match r with
  | .ok a => f a
  | .ex c fs m => .ex c fs ρ m
  | .bad => .bad
@[simp] theorem S.of_ok {α : Type} (a : α) (ρ : Env) (f : α → S) : S.of (.ok a) ρ f = f a := rfl
@[simp] theorem S.of_ex {α : Type} (c : Nat) (fs : List D) (m : Mu) (ρ : Env) (f : α → S) : S.of (.ex c fs m : R α) ρ f = .ex c fs ρ m := rfl
@[simp] theorem S.of_bad {α : Type} (ρ : Env) (f : α → S) : S.of (.bad : R α) ρ f = .bad := rfl
def S.then (r : S) (f : Env → Mu → S) : S := match r with
  | .nx ρ m => f ρ m
  | r => r
@[simp] theorem S.then_nx (ρ : Env) (m : Mu) (f : Env → Mu → S) : (S.nx ρ m).then f = f ρ m := rfl
@[simp] theorem S.then_rt (d : D) (m : Mu) (f : Env → Mu → S) : (S.rt d m).then f = .rt d m := rfl
@[simp] theorem S.then_ct (ρ : Env) (m : Mu) (f : Env → Mu → S) : (S.ct ρ m).then f = .ct ρ m := rfl
@[simp] theorem S.then_ex (c : Nat) (fs : List D) (ρ : Env) (m : Mu) (f : Env → Mu → S) : (S.ex c fs ρ m).then f = .ex c fs ρ m := rfl
@[simp] theorem S.then_bad (f : Env → Mu → S) : S.bad.then f = .bad := rfl
def freeze (ρ : Env) : List Nat → Env
  | [] => ρ
  | i :: is => freeze (match slotAt ρ i with | .ow d => ρ.set i (.va d) | _ => ρ) is
/-- a for over its items -/
def forL (bnd : D → Env → Option Env) (body : Env → Mu → S) (clr : List Nat) : List D → Env → Mu → S
  | [], ρ, m => .nx ρ m
  | d :: ds, ρ, m => match bnd d ρ with
    | none => .bad
    | some ρ' => match body ρ' m with
      | .nx ρ2 m2 => forL bnd body clr ds (clear ρ2 clr) m2
      | .ct ρ2 m2 => forL bnd body clr ds (clear ρ2 clr) m2
      | r => r
def whlL (c : Env → Mu → R (Bool × Mu)) (body : Env → Mu → S) (clr : List Nat) : Nat → Env → Mu → S
  | 0, _, _ => .bad
  | n + 1, ρ, m => S.of (c ρ m) ρ fun p => match p.1 with
    | false => .nx ρ p.2
    | true => match body ρ p.2 with
      | .nx ρ2 m2 => whlL c body clr n (clear ρ2 clr) m2
      | .ct ρ2 m2 => whlL c body clr n (clear ρ2 clr) m2
      | r => r
/-- the most turns of a while that are spoken of -/
def turns : Nat := 1000000
def putS (f : Str) (d : D) : List (Str × D) → List (Str × D)
  | [] => [(f, d)]
  | (g, e) :: r => if g = f then (g, d) :: r else (g, e) :: putS f d r
/-- a list, a dict with a place stored -/
def storeD : D → D → D → Option D
  | .lst xs, .int k, d => (L2.ixN xs.length k).map fun j => .lst (xs.set j d)
  | .dic ks vs, k, d => match key? k with
    | some k => if ks.length < line then let p := dput k d ks vs; some (.dic p.1 p.2) else none
    | none => none
  | _, _, _ => none
def fetchD : D → D → Option D
  | .lst xs, .int k => atD xs k
  | .dic ks vs, k => (key? k).bind fun k => dget? k ks vs
  | _, _ => none
def isC : D → Bool
  | .lst _ => true
  | .dic _ _ => true
  | _ => false
/-- a handled exception's name is gone -/
def killX (ρ : Env) : Env := ρ.map fun s => match s with
  | .xc _ _ => .un
  | s => s
/-- x op= y, of ints -/
def augO : BO → D → D → Option D
  | .add, .int x, .int y => some (.int (x + y))
  | .sub, .int x, .int y => some (.int (x - y))
  | _, _, _ => none
mutual
def run : Sm → Env → Mu → S
  | .asg i e, ρ, m => S.of (ev e ρ m) ρ fun p => .nx (ρ.set i (.va p.1)) p.2
  | .asgF i e, ρ, m => S.of (ev e ρ m) ρ fun p => if isC p.1 then .nx (ρ.set i (.ow p.1)) p.2 else .bad
  | .asgT p e, ρ, m => S.of (ev e ρ m) ρ fun q => match bindP p q.1 ρ with
    | some ρ' => .nx ρ' q.2
    | none => .bad
  | .par i j fi fj a b, ρ, m => S.of (ev a ρ m) ρ fun p => if (fi && !isC p.1) = true then .bad else S.of (ev b (if fi then roE ρ [] else ρ) p.2) ρ fun q => if (fj && !isC q.1) = true then .bad else
      .nx ((ρ.set i (if fi then .ow p.1 else .va p.1)).set j (if fj then .ow q.1 else .va q.1)) q.2
  | .aug i op e, ρ, m => match getV ρ i with
    | some (.int x) => S.of (ev e ρ m) ρ fun p => match op, p.1 with
      | .add, .int y => .nx (ρ.set i (.va (.int (x + y)))) p.2
      | .sub, .int y => .nx (ρ.set i (.va (.int (x - y)))) p.2
      | _, _ => .bad
    | _ => .bad
  | .ext i e, ρ, m => match slotAt ρ i with
    | .ow (.lst xs) => S.of (evr e ρ m) ρ fun p => match p.1 with
      | .lst ys => if xs.length + ys.length ≤ line then .nx (ρ.set i (.ow (.lst (xs ++ ys)))) p.2 else .bad
      | _ => .bad
    | _ => .bad
  | .app i e, ρ, m => match slotAt ρ i with
    | .ow (.lst xs) => S.of (ev e ρ m) ρ fun p => if xs.length < line then .nx (ρ.set i (.ow (.lst (xs ++ [p.1])))) p.2 else .bad
    | _ => .bad
  | .setI i k e, ρ, m => match slotAt ρ i with
    | .ow d => S.of (ev e ρ m) ρ fun p => S.of (ev k ρ p.2) ρ fun q => match storeD d q.1 p.1 with
      | some d' => .nx (ρ.set i (.ow d')) q.2
      | none => .bad
    | _ => .bad
  | .augI i k op e, ρ, m => match slotAt ρ i with
    | .ow d => S.of (ev k ρ m) ρ fun q => S.of (R.of (fetchD d q.1)) ρ fun x => S.of (ev e ρ q.2) ρ fun p => S.of (R.of (augO op x p.1)) ρ fun y => match storeD d q.1 y with
      | some d' => .nx (ρ.set i (.ow d')) p.2
      | none => .bad
    | .va (.ref n) => S.of (ev k ρ m) ρ fun q => S.of (R.of ((q.2[n]?).bind fun d => fetchD d q.1)) ρ fun x => S.of (ev e ρ q.2) ρ fun p => S.of (R.of (augO op x p.1)) ρ fun y =>
      match (p.2[n]?).bind fun d => storeD d q.1 y with
      | some d' => .nx ρ (p.2.set n d')
      | none => .bad
    | _ => .bad
  | .setA f e, ρ, m => match slotAt ρ 0 with
    | .me c fs => if fs.length < 1000 then S.of (ev e ρ m) ρ fun p => .nx (ρ.set 0 (.me c (putS f p.1 fs))) p.2 else .bad
    | _ => .bad
  | .expr e, ρ, m => S.of (ev e ρ m) ρ fun p => .nx ρ p.2
  | .ifs c a b, ρ, m => S.of (evT c ρ m) ρ fun p => match p.1 with
    | true => runs a ρ p.2
    | false => runs b ρ p.2
  | .fors p s body clr, ρ, m => S.of (evSrc s false ρ m) ρ fun q => forL (bindP p) (runs body) clr q.1 ρ q.2
  | .whl c body clr, ρ, m => whlL (evT c) (runs body) clr turns ρ m
  | .ret e, ρ, m => S.of (ev e ρ m) ρ fun p => .rt p.1 p.2
  | .retN, _, m => .rt .non m
  | .raise _ c n args, ρ, m => S.of (evs args ρ m) ρ fun p => if p.1.length = n then .ex c p.1 ρ p.2 else .bad
  | .newr i e, ρ, m => S.of (ev e ρ m) ρ fun p => if isC p.1 then .nx (ρ.set i (.va (.ref p.2.length))) (p.2 ++ [p.1]) else .bad
  | .tryx body _ cs i h, ρ, m => match runs body ρ m with
    | .ex c' fs ρ' m' => if cs.contains c' = true then (match runs h (ρ'.set i (.xc c' fs)) m' with
      | .nx ρ2 m2 => .nx ((killX ρ2).set i .un) m2
      | .ct ρ2 m2 => .ct ((killX ρ2).set i .un) m2
      | .rt d m2 => .rt d m2
      | _ => .bad) else .ex c' fs ρ' m'
    | r => r
  | .tryo body _ cs h, ρ, m => match runs body ρ m with
    | .ex c' fs ρ' m' => if cs.contains c' = true then (match runs h ρ' m' with
      | .ex _ _ _ _ => .bad
      | r => r) else .ex c' fs ρ' m'
    | r => r
  | .pass, ρ, m => .nx ρ m
  | .cont, ρ, m => .ct ρ m
  | .frz is, ρ, m => .nx (freeze ρ is) m
def runs : Sms → Env → Mu → S
  | .nil, ρ, m => .nx ρ m
  | .cons s ss, ρ, m => (run s ρ m).then fun ρ m => runs ss ρ m
end
/-- a def of np parameters, n names -/
def fn (np n : Nat) (body : Sms) : Fn := fun ds m => if ds.length = np then (match runs body (ds.map .va ++ List.replicate (n - np) .un) m with
  | .nx _ m => .ok (.non, m)
  | .rt d m => .ok (d, m)
  | .ex c fs _ m => .ex c fs m
  | _ => .bad) else .bad
def fieldsOf : List Str → List (Str × D) → Option (List D)
  | [], [] => some []
  | x :: xs, (f, d) :: r => if x = f then (fieldsOf xs r).map (d :: ·) else none
  | _, _ => none
/-- C(..) by its __init__ of np parameters behind self -/
def init (c : Nat) (names : List Str) (np n : Nat) (body : Sms) : Fn := fun ds m => if ds.length = np then (match runs body (.me c [] :: ds.map .va ++ List.replicate (n - np - 1) .un) m with
  | .nx ρ m => match slotAt ρ 0 with
    | .me c' fs => if c' = c then (R.of (fieldsOf names fs)).bind fun ds => .ok (.ins c ds, m) else .bad
    | _ => .bad
  | .ex c fs _ m => .ex c fs m
  | _ => .bad) else .bad
end Z
end
section
set_option Elab.async false
set_option linter.all false
set_option maxRecDepth 100000
set_option maxHeartbeats 4000000
set_option autoImplicit false
/-! Z: how data lie in the layer's heap. -/
namespace Z
open PySem PySem.Spec PyProof.Rows L2
/-- what stands behind the top: the program, the written part, own classes and exceptions by number -/
structure Tab where
  P : Program
  w : World
  K : PySem.W.Frag
  mg : Str → Option Value
  base : Heap
  cls : Nat → Option (Addr × List Str)
  xcl : Nat → Option (Addr × List Str)
  lam : Nat → Addr → HO → Addr → HO → Prop
  xo : Addr → Value → Option Addr → Prop
  tb : Option (Addr × Str)
variable {T : Tab}
mutual
/-- v is the datum, as far as F tells: F holds what never changes any more -/
def Rep (T : Tab) (M : List Addr) (F : Hp) : D → V → Prop
  | .non, v => v = .non
  | .bl b, v => v = .bl b
  | .int i, v => v = .int i
  | .str s, v => v = .str s
  | .tup ds, v => ∃ a vs, v = .ref a ∧ SqT T.K F a vs ∧ ds.length ≤ line ∧ Reps T M F ds vs
  | .lst ds, v => ∃ a vs, v = .ref a ∧ SqL T.K F a vs ∧ ds.length ≤ line ∧ Reps T M F ds vs
  | .ins c ds, v => ∃ a C dx fs names, v = .ref a ∧ T.cls c = some (C, names) ∧ F a = some (.ins C dx fs) ∧ fs.map (·.1) = names ∧ Reps T M F ds (fs.map (·.2))
  | .dic ks ds, v => ∃ a kvs, v = .ref a ∧ F a = some (.dK kvs) ∧ kvs.map (·.1) = ks ∧ Reps T M F ds (kvs.map (·.2))
  | .ref n, v => ∃ a, M[n]? = some a ∧ v = .ref a
  | .lam n, v => ∃ f o c u, v = .ref f ∧ F f = some o ∧ F c = some u ∧ T.lam n f o c u
def Reps (T : Tab) (M : List Addr) (F : Hp) : List D → List V → Prop
  | [], vs => vs = []
  | d :: ds, vs => ∃ v ws, vs = v :: ws ∧ Rep T M F d v ∧ Reps T M F ds ws
end
def Le (F H : Hp) : Prop := ∀ a o, F a = some o → H a = some o
theorem Le.rfl' {F : Hp} : Le F F := fun _ _ h => h
theorem Le.trans {F G H : Hp} (a : Le F G) (b : Le G H) : Le F H := fun c o h => b c o (a c o h)
theorem Le.upd {F : Hp} {p : Addr} {o : HO} (h : F p = none) : Le F (upd F p o) := fun a u e => by rw [upd_ne (ne_of_none e h)]; exact e
theorem SqL.le {K : PySem.W.Frag} {F H : Hp} {a : Addr} {xs : List V} (h : SqL K F a xs) (e : Le F H) : SqL K H a xs := by
  rcases h with (h | ⟨o, h⟩) | h
  · exact .inl (.inl (e _ _ h))
  · exact .inl (.inr ⟨o, e _ _ h⟩)
  · exact .inr h
theorem SqT.le {K : PySem.W.Frag} {F H : Hp} {a : Addr} {xs : List V} (h : SqT K F a xs) (e : Le F H) : SqT K H a xs := by
  rcases h with (h | ⟨o, h⟩) | h
  · exact .inl (.inl (e _ _ h))
  · exact .inl (.inr ⟨o, e _ _ h⟩)
  · exact .inr h
theorem pre_get {M M' : List Addr} (h : M <+: M') {n : Nat} {a : Addr} (e : M[n]? = some a) : M'[n]? = some a := by
  obtain ⟨l, rfl⟩ := h
  obtain ⟨h1, h2⟩ := List.getElem?_eq_some_iff.mp e
  rw [List.getElem?_append_left h1]
  exact e
mutual
theorem Rep.mono {M M' : List Addr} {F F' : Hp} (hm : M <+: M') (hf : Le F F') : ∀ (d : D) (v : V), Rep T M F d v → Rep T M' F' d v
  | .non, v, h => h
  | .bl b, v, h => h
  | .int i, v, h => h
  | .str s, v, h => h
  | .tup ds, v, ⟨a, vs, e, h1, h2, h3⟩ => ⟨a, vs, e, SqT.le h1 hf, h2, Reps.mono hm hf ds vs h3⟩
  | .lst ds, v, ⟨a, vs, e, h1, h2, h3⟩ => ⟨a, vs, e, SqL.le h1 hf, h2, Reps.mono hm hf ds vs h3⟩
  | .ins c ds, v, ⟨a, C, dx, fs, names, e, h1, h2, h3, h4⟩ => ⟨a, C, dx, fs, names, e, h1, hf _ _ h2, h3, Reps.mono hm hf ds _ h4⟩
  | .dic ks ds, v, ⟨a, kvs, e, h1, h2, h3⟩ => ⟨a, kvs, e, hf _ _ h1, h2, Reps.mono hm hf ds _ h3⟩
  | .ref n, v, ⟨a, h1, h2⟩ => ⟨a, pre_get hm h1, h2⟩
  | .lam n, v, ⟨f, o, c, u, e, h1, h2, h3⟩ => ⟨f, o, c, u, e, hf _ _ h1, hf _ _ h2, h3⟩
theorem Reps.mono {M M' : List Addr} {F F' : Hp} (hm : M <+: M') (hf : Le F F') : ∀ (ds : List D) (vs : List V), Reps T M F ds vs → Reps T M' F' ds vs
  | [], vs, h => h
  | d :: ds, vs, ⟨v, ws, e, h1, h2⟩ => ⟨v, ws, e, Rep.mono hm hf d v h1, Reps.mono hm hf ds ws h2⟩
end
section
variable {M : List Addr} {F : Hp}
theorem Reps.nil : Reps T M F [] [] := rfl
theorem Reps.cons {d : D} {v : V} {ds : List D} {vs : List V} (h : Rep T M F d v) (r : Reps T M F ds vs) : Reps T M F (d :: ds) (v :: vs) := ⟨v, vs, rfl, h, r⟩
theorem Reps.length : ∀ {ds : List D} {vs : List V}, Reps T M F ds vs → ds.length = vs.length
  | [], vs, h => by
    have e : vs = [] := h
    subst e
    rfl
  | d :: ds, vs, ⟨v, ws, e, h1, h2⟩ => by
    subst e
    simp only [List.length_cons]
    rw [Reps.length h2]
theorem Reps.get : ∀ {ds : List D} {vs : List V} {i : Nat} {d : D}, Reps T M F ds vs → ds[i]? = some d → ∃ v, vs[i]? = some v ∧ Rep T M F d v
  | [], vs, i, d, h, e => by simp at e
  | x :: ds, vs, 0, d, ⟨v, ws, e, h1, h2⟩, e2 => by
    subst e
    have e3 : x = d := by simpa using e2
    subst e3
    exact ⟨v, rfl, h1⟩
  | x :: ds, vs, i + 1, d, ⟨v, ws, e, h1, h2⟩, e2 => by
    subst e
    exact Reps.get (i := i) h2 (by simpa using e2)
theorem Reps.get' : ∀ {ds : List D} {vs : List V} {i : Nat} {v : V}, Reps T M F ds vs → vs[i]? = some v → ∃ d, ds[i]? = some d ∧ Rep T M F d v
  | [], vs, i, v, h, e => by
    have e2 : vs = [] := h
    subst e2
    simp at e
  | x :: ds, vs, 0, d, ⟨v, ws, e, h1, h2⟩, e2 => by
    subst e
    have e3 : v = d := by simpa using e2
    subst e3
    exact ⟨x, rfl, h1⟩
  | x :: ds, vs, i + 1, d, ⟨v, ws, e, h1, h2⟩, e2 => by
    subst e
    exact Reps.get' (i := i) h2 (by simpa using e2)
theorem Reps.append : ∀ {ds es : List D} {vs ws : List V}, Reps T M F ds vs → Reps T M F es ws → Reps T M F (ds ++ es) (vs ++ ws)
  | [], es, vs, ws, h, r => by
    have e : vs = [] := h
    subst e
    exact r
  | d :: ds, es, vs, ws, ⟨v, us, e, h1, h2⟩, r => by
    subst e
    exact ⟨v, us ++ ws, rfl, h1, Reps.append h2 r⟩
theorem Reps.set : ∀ {ds : List D} {vs : List V} {i : Nat} {d : D} {v : V}, Reps T M F ds vs → Rep T M F d v → Reps T M F (ds.set i d) (vs.set i v)
  | [], vs, i, d, v, h, r => by
    have e : vs = [] := h
    subst e
    exact rfl
  | x :: ds, vs, 0, d, v, ⟨w, us, e, h1, h2⟩, r => by
    subst e
    exact ⟨v, us, rfl, r, h2⟩
  | x :: ds, vs, i + 1, d, v, ⟨w, us, e, h1, h2⟩, r => by
    subst e
    exact ⟨w, us.set i v, rfl, h1, Reps.set h2 r⟩
theorem Reps.take : ∀ {ds : List D} {vs : List V} (n : Nat), Reps T M F ds vs → Reps T M F (ds.take n) (vs.take n)
  | [], vs, n, h => by
    have e : vs = [] := h
    subst e
    simpa using h
  | x :: ds, vs, 0, h => rfl
  | x :: ds, vs, n + 1, ⟨w, us, e, h1, h2⟩ => by
    subst e
    exact ⟨w, us.take n, rfl, h1, Reps.take n h2⟩
theorem Reps.drop : ∀ {ds : List D} {vs : List V} (n : Nat), Reps T M F ds vs → Reps T M F (ds.drop n) (vs.drop n)
  | [], vs, n, h => by
    have e : vs = [] := h
    subst e
    simpa using h
  | x :: ds, vs, 0, h => h
  | x :: ds, vs, n + 1, ⟨w, us, e, h1, h2⟩ => by
    subst e
    exact Reps.drop n h2
theorem Reps.ints : ∀ {ds : List D} {vs : List V} {ns : List Int}, Reps T M F ds vs → ofInts ds = some ns → vs = ns.map V.int ∧ ds = ns.map D.int
  | [], vs, ns, h, e => by
    have e2 : vs = [] := h
    have e3 : ns = [] := by simpa [ofInts] using e.symm
    subst e2 e3
    exact ⟨rfl, rfl⟩
  | .int i :: ds, vs, ns, ⟨v, ws, e1, h1, h2⟩, e => by
    simp only [ofInts, Option.map_eq_some_iff] at e
    obtain ⟨ms, e3, e4⟩ := e
    obtain ⟨q1, q2⟩ := Reps.ints h2 e3
    have hv : v = .int i := h1
    subst e1 e4 hv q1 q2
    exact ⟨rfl, rfl⟩
  | .non :: ds, vs, ns, h, e => by simp [ofInts] at e
  | .bl _ :: ds, vs, ns, h, e => by simp [ofInts] at e
  | .str _ :: ds, vs, ns, h, e => by simp [ofInts] at e
  | .tup _ :: ds, vs, ns, h, e => by simp [ofInts] at e
  | .lst _ :: ds, vs, ns, h, e => by simp [ofInts] at e
  | .ins _ _ :: ds, vs, ns, h, e => by simp [ofInts] at e
  | .dic _ _ :: ds, vs, ns, h, e => by simp [ofInts] at e
  | .ref _ :: ds, vs, ns, h, e => by simp [ofInts] at e
  | .lam _ :: ds, vs, ns, h, e => by simp [ofInts] at e
theorem Reps.bools : ∀ {ds : List D} {vs : List V} {ns : List Bool}, Reps T M F ds vs → ofBools ds = some ns → vs = ns.map V.bl
  | [], vs, ns, h, e => by
    have e2 : vs = [] := h
    have e3 : ns = [] := by simpa [ofBools] using e.symm
    subst e2 e3
    rfl
  | .bl i :: ds, vs, ns, ⟨v, ws, e1, h1, h2⟩, e => by
    simp only [ofBools, Option.map_eq_some_iff] at e
    obtain ⟨ms, e3, e4⟩ := e
    have q1 := Reps.bools h2 e3
    have hv : v = .bl i := h1
    subst e1 e4 hv q1
    rfl
  | .non :: ds, vs, ns, h, e => by simp [ofBools] at e
  | .int _ :: ds, vs, ns, h, e => by simp [ofBools] at e
  | .str _ :: ds, vs, ns, h, e => by simp [ofBools] at e
  | .tup _ :: ds, vs, ns, h, e => by simp [ofBools] at e
  | .lst _ :: ds, vs, ns, h, e => by simp [ofBools] at e
  | .ins _ _ :: ds, vs, ns, h, e => by simp [ofBools] at e
  | .dic _ _ :: ds, vs, ns, h, e => by simp [ofBools] at e
  | .ref _ :: ds, vs, ns, h, e => by simp [ofBools] at e
  | .lam _ :: ds, vs, ns, h, e => by simp [ofBools] at e
theorem Reps.of_ints : ∀ (ns : List Int), Reps T M F (ns.map D.int) (ns.map V.int)
  | [] => rfl
  | n :: ns => ⟨.int n, ns.map V.int, rfl, rfl, Reps.of_ints ns⟩
end
/-- what an object of the frame's own, or one that changes, holds -/
def Cont (T : Tab) (M : List Addr) (F : Hp) (d : D) (o : HO) : Prop := match d with
  | .lst ds => ∃ vs, o = .lst vs ∧ ds.length ≤ line ∧ Reps T M F ds vs
  | .dic ks ds => ∃ kvs, o = .dK kvs ∧ kvs.map (·.1) = ks ∧ Reps T M F ds (kvs.map (·.2))
  | .ins c ds => ∃ C dx fs names, o = .ins C dx fs ∧ T.cls c = some (C, names) ∧ fs.map (·.1) = names ∧ Reps T M F ds (fs.map (·.2))
  | _ => False
theorem Cont.mono {M M' : List Addr} {F F' : Hp} (hm : M <+: M') (hf : Le F F') {d : D} {o : HO} (h : Cont T M F d o) : Cont T M' F' d o := by
  cases d with
  | lst ds => obtain ⟨vs, e, h1, h2⟩ := h; exact ⟨vs, e, h1, h2.mono hm hf⟩
  | dic ks ds => obtain ⟨vs, e, h1, h2⟩ := h; exact ⟨vs, e, h1, h2.mono hm hf⟩
  | ins c ds => obtain ⟨C, dx, fs, names, e, h1, h2, h3⟩ := h; exact ⟨C, dx, fs, names, e, h1, h2, h3.mono hm hf⟩
  | _ => exact h.elim
theorem Cont.notbl {M : List Addr} {F : Hp} {d : D} {o : HO} (h : Cont T M F d o) : ∀ ps, o ≠ .tbl ps := fun ps z => by
  subst z
  cases d with
  | lst ds => obtain ⟨vs, e, _⟩ := h; cases e
  | dic ks ds => obtain ⟨vs, e, _⟩ := h; cases e
  | ins c ds => obtain ⟨C, dx, fs, names, e, _⟩ := h; cases e
  | _ => exact h.elim
/-- it is frozen: from then on a value -/
theorem Cont.rep {M : List Addr} {F : Hp} {d : D} {o : HO} {a : Addr} (h : Cont T M F d o) (e : F a = some o) : Rep T M F d (.ref a) := by
  cases d with
  | lst ds => obtain ⟨vs, rfl, h1, h2⟩ := h; exact ⟨a, vs, rfl, SqL.of e, h1, h2⟩
  | dic ks ds => obtain ⟨kvs, rfl, h1, h2⟩ := h; exact ⟨a, kvs, rfl, e, h1, h2⟩
  | ins c ds => obtain ⟨C, dx, fs, names, rfl, h1, h2, h3⟩ := h; exact ⟨a, C, dx, fs, names, rfl, h1, e, h2, h3⟩
  | _ => exact h.elim
/-- a raised exception -/
def XRep (T : Tab) (M : List Addr) (F : Hp) (c : Nat) (fs : List D) (cls : Value) (dd : Option Addr) : Prop :=
  ∃ C names, T.xcl c = some (C, names) ∧ cls = .ref C ∧ fs.length = names.length ∧
    ((names = [] ∧ dd = none) ∨ ∃ d kvs, dd = some d ∧ F d = some (.xd kvs) ∧ ∀ (k : Nat) (x : Str) (y : D), names[k]? = some x → fs[k]? = some y → ∃ v, kvs.lookup x = some v ∧ Rep T M F y v)
theorem XRep.mono {M M' : List Addr} {F F' : Hp} (hm : M <+: M') (hf : Le F F') {c : Nat} {fs : List D} {cls : Value} {dd : Option Addr} (h : XRep T M F c fs cls dd) : XRep T M' F' c fs cls dd := by
  obtain ⟨C, names, h1, h2, h3, h4⟩ := h
  refine ⟨C, names, h1, h2, h3, h4.imp id ?_⟩
  rintro ⟨d, kvs, e1, e2, g⟩
  refine ⟨d, kvs, e1, hf _ _ e2, fun k x y a b => ?_⟩
  obtain ⟨v, g1, g2⟩ := g k x y a b
  exact ⟨v, g1, g2.mono hm hf⟩
/-- a table of code objects, those that it tells frozen -/
def TabF (F : Hp) (P : Addr) (q : Str) (o : Option HO) : Prop := ∃ ps : Array Value, o = some (.tbl ps) ∧ TriplesOk ps.toList ∧ ∀ (pos : Pos) (cv : Value), codeAmong pos ps.toList = some cv → ∃ c, cv = .ref c ∧ F c = some (LamX.CodeO c q)
theorem TabF.mono {F F' : Hp} {P : Addr} {q : Str} {o : Option HO} (h : TabF F P q o) (hf : Le F F') : TabF F' P q o := by
  obtain ⟨ps, h1, h2, h3⟩ := h
  refine ⟨ps, h1, h2, fun pos cv e => ?_⟩
  obtain ⟨c, e1, e2⟩ := h3 pos cv e
  exact ⟨c, e1, hf _ _ e2⟩
/-- the entry: the objects that change, what may be written, what is frozen, the heap -/
structure En where
  M : List Addr
  W : List Addr
  F : Hp
  H : Hp
/-- a slot -/
def SlOk (T : Tab) (e : En) (M : List Addr) (F H : Hp) (s : Sl) (v : Option (Option V)) : Prop := match s with
  | .un => True
  | .va d => ∃ x, v = some (some x) ∧ Rep T M F d x
  | .ow d => ∃ a o, v = some (some (.ref a)) ∧ F a = none ∧ e.H a = none ∧ a ∉ M ∧ H a = some o ∧ Cont T M F d o
  | .ro d => ∃ a o, v = some (some (.ref a)) ∧ F a = none ∧ e.H a = some o ∧ a ∉ e.W ∧ a ∉ M ∧ H a = some o ∧ Cont T M F d o
  | .me c fs => ∃ a C dx names kvs, v = some (some (.ref a)) ∧ F a = none ∧ a ∈ e.W ∧ a ∉ M ∧ T.cls c = some (C, names) ∧ H a = some (.ins C dx kvs) ∧ kvs.map (·.1) = fs.map (·.1) ∧ Reps T M F (fs.map (·.2)) (kvs.map (·.2))
  | .xc c fs => ∃ a cls dd, v = some (some (.ref a)) ∧ T.xo a cls dd ∧ XRep T M F c fs cls dd
/-- a slot whose object is the frame's alone -/
def Sl.own : Sl → Bool
  | .ow _ => true
  | .me _ _ => true
  | _ => false
structure MuOk (T : Tab) (M : List Addr) (F : Hp) (m : Mu) (H : Hp) : Prop where
  len : M.length = m.length
  nd : M.Nodup
  at_ : ∀ (n : Nat) (a : Addr), M[n]? = some a → F a = none ∧ ∃ d o, m[n]? = some d ∧ H a = some o ∧ Cont T M F d o
/-- how a state of the machine stands to what is computed -/
structure SR (T : Tab) (e : En) (M : List Addr) (F : Hp) (ρ : Env) (m : Mu) (σ : L2.St) (H : Hp) : Prop where
  le : Le F H
  f0 : Le e.F F
  pre : e.M <+: M
  keep : ∀ a o, e.H a = some o → a ∉ e.W → H a = some o
  nn : ∀ a, e.H a ≠ none → H a ≠ none
  old : ∀ a, e.H a ≠ none → F a = e.F a
  ent : ∀ a, e.F a ≠ none → e.H a ≠ none
  mw : ∀ a ∈ M, a ∈ e.W ∨ e.H a = none
  mu : MuOk T M F m H
  len : ρ.length = σ.length
  sl : ∀ (i : Nat) (s : Sl), ρ[i]? = some s → SlOk T e M F H s (σ[i]?)
  dis : ∀ (i j : Nat) (s t : Sl) (a : Addr), ρ[i]? = some s → ρ[j]? = some t → s.own = true → t.own = true → σ[i]? = some (some (.ref a)) → σ[j]? = some (some (.ref a)) → i = j
  tab : ∀ P q, T.tb = some (P, q) → P ∈ e.W ∧ (∃ ps, e.H P = some (.tbl ps)) ∧ e.F P = none ∧ TabF F P q (H P)
/-- what a callee, a block may write: what changes, the code table -/
def Tab.wr (T : Tab) (M : List Addr) : List Addr := match T.tb with
  | some (P, _) => P :: M
  | none => M
theorem wr_of {a : Addr} {M : List Addr} (h : a ∈ T.wr M) : a ∈ M ∨ ∃ q, T.tb = some (a, q) := by
  unfold Tab.wr at h
  split at h
  · rename_i P q e
    rcases List.mem_cons.mp h with z | z
    · subst z; exact .inr ⟨q, e⟩
    · exact .inl z
  · exact .inl h
theorem wr_in {a : Addr} {M : List Addr} (h : a ∈ M) : a ∈ T.wr M := by
  unfold Tab.wr
  split
  · exact List.mem_cons_of_mem _ h
  · exact h
theorem wr_tb {P : Addr} {q : Str} {M : List Addr} (h : T.tb = some (P, q)) : P ∈ T.wr M := by
  unfold Tab.wr
  rw [h]
  exact List.mem_cons_self
section
variable {e : En} {M M' : List Addr} {F F' : Hp} {ρ : Env} {m m' : Mu} {σ : L2.St} {H H' : Hp}
theorem SlOk.mono {s : Sl} {v : Option (Option V)} (h : SlOk T e M F H s v) (hm : M <+: M') (hf : Le F F') (hF : ∀ a, H a ≠ none → F a = none → F' a = none) (hM : ∀ a, H a ≠ none → a ∉ M → a ∉ M') (hH : ∀ a o, H a = some o → a ∉ M → (∀ ps, o ≠ .tbl ps) → H' a = some o) : SlOk T e M' F' H' s v := by
  cases s with
  | un => exact h
  | va d => obtain ⟨x, e1, r⟩ := h; exact ⟨x, e1, r.mono hm hf⟩
  | ow d =>
    obtain ⟨a, o, e1, h1, h2, h3, h4, h5⟩ := h
    exact ⟨a, o, e1, hF a (by rw [h4]; simp) h1, h2, hM a (by rw [h4]; simp) h3, hH a o h4 h3 h5.notbl, h5.mono hm hf⟩
  | ro d =>
    obtain ⟨a, o, e1, h1, h2, h6, h3, h4, h5⟩ := h
    exact ⟨a, o, e1, hF a (by rw [h4]; simp) h1, h2, h6, hM a (by rw [h4]; simp) h3, hH a o h4 h3 h5.notbl, h5.mono hm hf⟩
  | me c fs =>
    obtain ⟨a, C, dx, names, kvs, e1, h1, h2, h3, h4, h5, h6, h7⟩ := h
    exact ⟨a, C, dx, names, kvs, e1, hF a (by rw [h5]; simp) h1, h2, hM a (by rw [h5]; simp) h3, h4, hH a _ h5 h3 (fun ps z => by cases z), h6, h7.mono hm hf⟩
  | xc c fs =>
    obtain ⟨a, cls, dd, e1, h1, h2⟩ := h
    exact ⟨a, cls, dd, e1, h1, h2.mono hm hf⟩
/-- the code table is no object of M -/
theorem SR.PM (s : SR T e M F ρ m σ H) {P : Addr} {q : Str} (h : T.tb = some (P, q)) : P ∉ M := fun z => by
  obtain ⟨n, hn⟩ := List.mem_iff_getElem?.mp z
  obtain ⟨_, d, o, _, g1, g2⟩ := s.mu.at_ n P hn
  obtain ⟨_, _, _, ps, h4, _⟩ := s.tab P q h
  rw [h4] at g1
  cases g1
  exact g2.notbl _ rfl
/-- an object that is no table and isn't of M is none of those -/
theorem SR.nwr (s : SR T e M F ρ m σ H) {a : Addr} {o : HO} (h : H a = some o) (hm : a ∉ M) (hn : ∀ ps, o ≠ .tbl ps) : a ∉ T.wr M := fun z => by
  rcases wr_of z with z | ⟨q, z⟩
  · exact hm z
  · obtain ⟨_, _, _, ps, h4, _⟩ := s.tab a q z
    rw [h] at h4
    exact hn ps (Option.some.inj h4)
/-- behind a call that may change the objects at M alone -/
theorem SR.after (s : SR T e M F ρ m σ H) (q : SR T ⟨M, T.wr M, F, H⟩ M' F' [] m' [] H') : SR T e M' F' ρ m' σ H' where
  le := q.le
  f0 := s.f0.trans q.f0
  pre := s.pre.trans q.pre
  keep := fun a o h1 h2 => by
    have h3 := s.keep a o h1 h2
    refine q.keep a o h3 fun hM => ?_
    rcases wr_of hM with hM | ⟨y, hM⟩
    · rcases s.mw a hM with h | h
      · exact h2 h
      · rw [h] at h1; cases h1
    · exact h2 (s.tab a y hM).1
  nn := fun a h => q.nn a (s.nn a h)
  old := fun a h => (q.old a (s.nn a h)).trans (s.old a h)
  ent := s.ent
  mw := fun a ha => by
    rcases q.mw a ha with h | h
    · rcases wr_of h with h | ⟨y, h⟩
      · exact s.mw a h
      · exact .inl (s.tab a y h).1
    · refine .inr ?_
      cases r : e.H a with
      | none => rfl
      | some o => exact absurd (show H a = none from h) (s.nn a (by rw [r]; simp))
  mu := q.mu
  len := s.len
  sl := fun i t h => (s.sl i t h).mono q.pre q.f0 (fun a h1 h2 => (q.old a h1).trans h2) (fun a h1 h2 h3 => by
    rcases q.mw a h3 with z | z
    · rcases wr_of z with z | ⟨y, z⟩
      · exact h2 z
      · exact q.PM z h3
    · exact h1 z) fun a o h1 h2 h3 => q.keep a o h1 (s.nwr h1 h2 h3)
  dis := s.dis
  tab := fun P u h => by
    obtain ⟨h1, h2, h3, _⟩ := s.tab P u h
    exact ⟨h1, h2, h3, (q.tab P u h).2.2.2⟩
/-- the table's clause, from now on -/
theorem SR.tabE (s : SR T e M F ρ m σ H) : ∀ P q, T.tb = some (P, q) → P ∈ T.wr M ∧ (∃ ps, H P = some (.tbl ps)) ∧ F P = none ∧ TabF F P q (H P) := fun P q h => by
  obtain ⟨h1, ⟨ps0, h2⟩, h3, h4⟩ := s.tab P q h
  refine ⟨wr_tb h, ?_, (s.old P (by rw [h2]; simp)).trans h3, h4⟩
  obtain ⟨ps, h5, _⟩ := h4
  exact ⟨ps, h5⟩
/-- the state without its slots, as an entry of its own -/
theorem SR.entry (s : SR T e M F ρ m σ H) : SR T ⟨M, T.wr M, F, H⟩ M F [] m [] H where
  le := s.le
  f0 := Le.rfl'
  pre := List.prefix_refl M
  keep := fun _ _ h _ => h
  nn := fun _ h => h
  old := fun _ _ => rfl
  ent := fun a h => by
    cases r : F a with
    | none => exact absurd r h
    | some o =>
      show H a ≠ none
      rw [s.le a o r]; simp
  mw := fun a h => .inl (wr_in h)
  mu := s.mu
  len := rfl
  sl := fun i t h => by simp at h
  dis := fun i j s t a h => by simp at h
  tab := s.tabE
/-- a new object laid and frozen -/
theorem SR.lay (s : SR T e M F ρ m σ H) {p : Addr} {o : HO} (hp : H p = none) : SR T e M (upd F p o) ρ m σ (upd H p o) := by
  have fp : F p = none := by
    cases r : F p with
    | none => rfl
    | some u => rw [s.le p u r] at hp; cases hp
  have ep : e.H p = none := by
    cases r : e.H p with
    | none => rfl
    | some u => exact absurd hp (s.nn p (by rw [r]; simp))
  have pM : p ∉ M := fun h => by
    obtain ⟨n, hn⟩ := List.mem_iff_getElem?.mp h
    obtain ⟨_, d, u, _, h2, _⟩ := s.mu.at_ n p hn
    rw [hp] at h2; cases h2
  have hf : Le F (upd F p o) := Le.upd fp
  have ne : ∀ a, H a ≠ none → a ≠ p := fun a h z => by subst z; exact h hp
  refine ⟨fun a u h => ?_, s.f0.trans hf, s.pre, fun a u h1 h2 => ?_, fun a h => ?_, fun a h => ?_, s.ent, s.mw, ⟨s.mu.len, s.mu.nd, fun n a hn => ?_⟩, s.len, fun i t h => ?_, s.dis, fun P q h => ?_⟩
  · by_cases z : a = p
    · subst z; rw [upd_same] at h ⊢; exact h
    · rw [upd_ne z] at h ⊢; exact s.le a u h
  · have := s.keep a u h1 h2
    rw [upd_ne (ne a (by rw [this]; simp))]
    exact this
  · rw [upd_ne (ne a (s.nn a h))]
    exact s.nn a h
  · rw [upd_ne (ne a (s.nn a h))]
    exact s.old a h
  · obtain ⟨h1, d, u, h2, h3, h4⟩ := s.mu.at_ n a hn
    have na := ne a (by rw [h3]; simp)
    exact ⟨by rw [upd_ne na]; exact h1, d, u, h2, by rw [upd_ne na]; exact h3, h4.mono (List.prefix_refl M) hf⟩
  · refine (s.sl i t h).mono (List.prefix_refl M) hf (fun a h1 h2 => by rw [upd_ne (ne a h1)]; exact h2) (fun a _ h => h) fun a u h1 _ _ => ?_
    rw [upd_ne (ne a (by rw [h1]; simp))]
    exact h1
  · obtain ⟨h1, h2, h3, h4⟩ := s.tab P q h
    refine ⟨h1, h2, h3, ?_⟩
    rw [upd_ne (fun z => by obtain ⟨ps, h2⟩ := h2; rw [z, ep] at h2; cases h2)]
    exact h4.mono hf
/-- a new object laid, not frozen -/
theorem SR.lay0 (s : SR T e M F ρ m σ H) {p : Addr} {o : HO} (hp : H p = none) : SR T e M F ρ m σ (upd H p o) ∧ F p = none ∧ e.H p = none ∧ p ∉ M := by
  have fp : F p = none := by
    cases r : F p with
    | none => rfl
    | some u => rw [s.le p u r] at hp; cases hp
  have ep : e.H p = none := by
    cases r : e.H p with
    | none => rfl
    | some u => exact absurd hp (s.nn p (by rw [r]; simp))
  have pM : p ∉ M := fun h => by
    obtain ⟨n, hn⟩ := List.mem_iff_getElem?.mp h
    obtain ⟨_, d, u, _, h2, _⟩ := s.mu.at_ n p hn
    rw [hp] at h2; cases h2
  have ne : ∀ a, H a ≠ none → a ≠ p := fun a h z => by subst z; exact h hp
  have up : ∀ a u, H a = some u → upd H p o a = some u := fun a u h => by rw [upd_ne (ne a (by rw [h]; simp))]; exact h
  refine ⟨⟨fun a u h => up a u (s.le a u h), s.f0, s.pre, fun a u h1 h2 => up a u (s.keep a u h1 h2), fun a h => ?_, s.old, s.ent, s.mw, ⟨s.mu.len, s.mu.nd, fun n a hn => ?_⟩, s.len, fun i t h => ?_, s.dis, fun P q h => ?_⟩, fp, ep, pM⟩
  · rw [upd_ne (ne a (s.nn a h))]
    exact s.nn a h
  · obtain ⟨h1, d, u, h2, h3, h4⟩ := s.mu.at_ n a hn
    exact ⟨h1, d, u, h2, up a u h3, h4⟩
  · exact (s.sl i t h).mono (List.prefix_refl M) Le.rfl' (fun a _ h => h) (fun a _ h => h) fun a u h1 _ _ => up a u h1
  · obtain ⟨h1, h2, h3, h4⟩ := s.tab P q h
    refine ⟨h1, h2, h3, ?_⟩
    rw [upd_ne (fun z => by obtain ⟨ps, h2⟩ := h2; rw [z, ep] at h2; cases h2)]
    exact h4
/-- an object that nobody else knows is frozen -/
theorem SR.frz (s : SR T e M F ρ m σ H) {p : Addr} {o : HO} (hp : H p = some o) (fp : F p = none) (ep : e.H p = none) (pM : p ∉ M) (ns : ∀ (i : Nat) (t : Sl), ρ[i]? = some t → t.own = true → σ[i]? ≠ some (some (.ref p))) : SR T e M (upd F p o) ρ m σ H := by
  have hf : Le F (upd F p o) := Le.upd fp
  refine ⟨fun a u h => ?_, s.f0.trans hf, s.pre, s.keep, s.nn, fun a h => ?_, s.ent, s.mw, ⟨s.mu.len, s.mu.nd, fun n a hn => ?_⟩, s.len, fun i t h => ?_, s.dis, fun P q h => let ⟨h1, h2, h3, h4⟩ := s.tab P q h; ⟨h1, h2, h3, h4.mono hf⟩⟩
  · by_cases z : a = p
    · subst z; rw [upd_same] at h; cases h; exact hp
    · rw [upd_ne z] at h; exact s.le a u h
  · have : a ≠ p := fun z => by subst z; exact h ep
    rw [upd_ne this]; exact s.old a h
  · obtain ⟨h1, d, u, h2, h3, h4⟩ := s.mu.at_ n a hn
    have na : a ≠ p := fun z => by subst z; exact pM (List.mem_of_getElem? hn)
    exact ⟨by rw [upd_ne na]; exact h1, d, u, h2, h3, h4.mono (List.prefix_refl M) hf⟩
  · have q := s.sl i t h
    cases t with
    | un => exact q
    | va d => obtain ⟨x, e1, r⟩ := q; exact ⟨x, e1, r.mono (List.prefix_refl M) hf⟩
    | ow d =>
      obtain ⟨a, u, e1, h1, h2, h3, h4, h5⟩ := q
      have na : a ≠ p := fun z => by subst z; exact ns i _ h rfl e1
      exact ⟨a, u, e1, by rw [upd_ne na]; exact h1, h2, h3, h4, h5.mono (List.prefix_refl M) hf⟩
    | ro d =>
      obtain ⟨a, u, e1, h1, h2, h6, h3, h4, h5⟩ := q
      have na : a ≠ p := fun z => by subst z; rw [ep] at h2; cases h2
      exact ⟨a, u, e1, by rw [upd_ne na]; exact h1, h2, h6, h3, h4, h5.mono (List.prefix_refl M) hf⟩
    | me c fs =>
      obtain ⟨a, C, dx, names, kvs, e1, h1, h2, h3, h4, h5, h6, h7⟩ := q
      have na : a ≠ p := fun z => by subst z; exact ns i _ h rfl e1
      exact ⟨a, C, dx, names, kvs, e1, by rw [upd_ne na]; exact h1, h2, h3, h4, h5, h6, h7.mono (List.prefix_refl M) hf⟩
    | xc c fs =>
      obtain ⟨a, cls, dd, e1, h1, h2⟩ := q
      exact ⟨a, cls, dd, e1, h1, h2.mono (List.prefix_refl M) hf⟩
/-- a slot is stored -/
theorem SR.set (s : SR T e M F ρ m σ H) {i : Nat} {t : Sl} {x : Option V} (h : SlOk T e M F H t (some x)) (hd : t.own = true → ∀ (j : Nat) (u : Sl) (a : Addr), j ≠ i → ρ[j]? = some u → u.own = true → x = some (.ref a) → σ[j]? ≠ some (some (.ref a))) : SR T e M F (ρ.set i t) m (σ.set i x) H := by
  refine { s with len := by simpa using s.len, sl := fun j u hj => ?_, dis := fun j k u w a hj hk ou ow ej ek => ?_ }
  · by_cases z : j = i
    · subst z
      have hl : j < ρ.length := by
        have := (List.getElem?_eq_some_iff.mp hj).1
        simpa using this
      rw [List.getElem?_set_self hl] at hj
      cases hj
      rw [List.getElem?_set_self (by rw [← s.len]; exact hl)]
      exact h
    · rw [List.getElem?_set_ne (Ne.symm z)] at hj ⊢
      exact s.sl j u hj
  · by_cases zj : j = i
    · by_cases zk : k = i
      · rw [zj, zk]
      · exfalso
        subst zj
        have hl : j < ρ.length := by
          have := (List.getElem?_eq_some_iff.mp hj).1
          simpa using this
        rw [List.getElem?_set_self hl] at hj
        cases hj
        rw [List.getElem?_set_ne (Ne.symm zk)] at hk ek
        rw [List.getElem?_set_self (by rw [← s.len]; exact hl)] at ej
        exact hd ou k w a zk hk ow (Option.some.inj ej) ek
    · by_cases zk : k = i
      · exfalso
        subst zk
        have hl : k < ρ.length := by
          have := (List.getElem?_eq_some_iff.mp hk).1
          simpa using this
        rw [List.getElem?_set_self hl] at hk
        cases hk
        rw [List.getElem?_set_ne (Ne.symm zj)] at hj ej
        rw [List.getElem?_set_self (by rw [← s.len]; exact hl)] at ek
        exact hd ow j u a zj hj ou (Option.some.inj ek) ej
      · rw [List.getElem?_set_ne (Ne.symm zj)] at hj ej
        rw [List.getElem?_set_ne (Ne.symm zk)] at hk ek
        exact s.dis j k u w a hj hk ou ow ej ek
theorem SR.setV (s : SR T e M F ρ m σ H) {i : Nat} {d : D} {x : V} (h : Rep T M F d x) : SR T e M F (ρ.set i (.va d)) m (σ.set i (some x)) H :=
  s.set (t := .va d) (x := some x) ⟨x, rfl, h⟩ fun z => by cases z
/-- a slot forgotten, in the account alone | in the machine, too -/
theorem SR.unset (s : SR T e M F ρ m σ H) {i : Nat} : SR T e M F (ρ.set i .un) m σ H := by
  refine { s with len := by simpa using s.len, sl := fun j u hj => ?_, dis := fun j k u w a hj hk ou ow ej ek => ?_ }
  · by_cases z : j = i
    · subst z
      have hl : j < ρ.length := by
        have := (List.getElem?_eq_some_iff.mp hj).1
        simpa using this
      rw [List.getElem?_set_self hl] at hj
      cases hj
      exact True.intro
    · rw [List.getElem?_set_ne (Ne.symm z)] at hj
      exact s.sl j u hj
  · have ne : ∀ {j : Nat} {u : Sl}, (ρ.set i Sl.un)[j]? = some u → u.own = true → j ≠ i := fun {j u} hj ou z => by
      subst z
      have hl : j < ρ.length := by
        have := (List.getElem?_eq_some_iff.mp hj).1
        simpa using this
      rw [List.getElem?_set_self hl] at hj
      cases hj
      cases ou
    have zj := ne hj ou
    have zk := ne hk ow
    rw [List.getElem?_set_ne (Ne.symm zj)] at hj
    rw [List.getElem?_set_ne (Ne.symm zk)] at hk
    exact s.dis j k u w a hj hk ou ow ej ek
theorem SR.clear : ∀ {is : List Nat} {ρ : Env}, SR T e M F ρ m σ H → SR T e M F (clear ρ is) m σ H
  | [], ρ, s => s
  | i :: is, ρ, s => SR.clear (is := is) s.unset
theorem slotAt_some {i : Nat} {s : Sl} (h : slotAt ρ i = s) (hs : s ≠ .un) : ρ[i]? = some s := by
  unfold slotAt at h
  cases r : ρ[i]? with
  | none => rw [r] at h; exact absurd h.symm hs
  | some t => rw [r] at h; rw [← h]; rfl
theorem getV_some {i : Nat} {d : D} (h : getV ρ i = some d) : ρ[i]? = some (.va d) := by
  unfold getV at h
  cases r : slotAt ρ i with
  | va x => rw [r] at h; cases h; exact slotAt_some r (by simp)
  | _ => rw [r] at h; cases h
theorem SR.va (s : SR T e M F ρ m σ H) {i : Nat} {d : D} (h : getV ρ i = some d) : ∃ x, σ[i]? = some (some x) ∧ Rep T M F d x := s.sl i _ (getV_some h)
/-- an owned slot is frozen -/
theorem SR.frz1 (s : SR T e M F ρ m σ H) (i : Nat) : ∃ F', SR T e M F' (match slotAt ρ i with | .ow d => ρ.set i (.va d) | _ => ρ) m σ H ∧ Le F F' := by
  cases r : slotAt ρ i with
  | ow d =>
    have hi := slotAt_some r (by simp)
    obtain ⟨a, o, e1, h1, h2, h3, h4, h5⟩ := s.sl i _ hi
    have s1 := s.unset (i := i)
    have hl : i < ρ.length := (List.getElem?_eq_some_iff.mp hi).1
    have s2 := s1.frz h4 h1 h2 h3 fun j t hj ot ej => by
      by_cases z : j = i
      · subst z
        rw [List.getElem?_set_self hl] at hj
        cases hj; cases ot
      · rw [List.getElem?_set_ne (Ne.symm z)] at hj
        exact z (s.dis j i t _ a hj hi ot rfl ej e1)
    have hf : Le F (upd F a o) := Le.upd h1
    have s3 := s2.setV (i := i) (d := d) (x := .ref a) (Cont.rep (h5.mono (List.prefix_refl M) hf) upd_same)
    rw [List.set_set] at s3
    have e2 : σ.set i (some (.ref a)) = σ := by
      apply List.ext_getElem?
      intro j
      by_cases z : i = j
      · subst z
        rw [List.getElem?_set_self (by rw [← s.len]; exact hl), e1]
      · rw [List.getElem?_set_ne z]
    rw [e2] at s3
    exact ⟨_, s3, hf⟩
  | _ => exact ⟨F, s, Le.rfl'⟩
theorem SR.freeze : ∀ {is : List Nat} {ρ : Env} {F : Hp}, SR T e M F ρ m σ H → ∃ F', SR T e M F' (freeze ρ is) m σ H ∧ Le F F'
  | [], ρ, F, s => ⟨F, s, Le.rfl'⟩
  | i :: is, ρ, F, s => by
    obtain ⟨F1, s1, l1⟩ := s.frz1 i
    obtain ⟨F2, s2, l2⟩ := SR.freeze (is := is) s1
    exact ⟨F2, s2, l1.trans l2⟩
end
/-! ### another exception at hand -/
def Tab.alt (T : Tab) (x : Addr → Value → Option Addr → Prop) : Tab := { T with xo := x }
section
variable {x : Addr → Value → Option Addr → Prop} {M : List Addr} {F : Hp}
mutual
theorem Rep.alt : ∀ (d : D) (v : V), Rep T M F d v → Rep (T.alt x) M F d v
  | .non, v, h => h
  | .bl b, v, h => h
  | .int i, v, h => h
  | .str s, v, h => h
  | .tup ds, v, ⟨a, vs, e, h1, h2, h3⟩ => ⟨a, vs, e, h1, h2, Reps.alt ds vs h3⟩
  | .lst ds, v, ⟨a, vs, e, h1, h2, h3⟩ => ⟨a, vs, e, h1, h2, Reps.alt ds vs h3⟩
  | .ins c ds, v, ⟨a, C, dx, fs, names, e, h1, h2, h3, h4⟩ => ⟨a, C, dx, fs, names, e, h1, h2, h3, Reps.alt ds _ h4⟩
  | .dic ks ds, v, ⟨a, kvs, e, h1, h2, h3⟩ => ⟨a, kvs, e, h1, h2, Reps.alt ds _ h3⟩
  | .ref n, v, h => h
  | .lam n, v, h => h
theorem Reps.alt : ∀ (ds : List D) (vs : List V), Reps T M F ds vs → Reps (T.alt x) M F ds vs
  | [], vs, h => h
  | d :: ds, vs, ⟨v, ws, e, h1, h2⟩ => ⟨v, ws, e, Rep.alt d v h1, Reps.alt ds ws h2⟩
end
mutual
theorem Rep.unalt : ∀ (d : D) (v : V), Rep (T.alt x) M F d v → Rep T M F d v
  | .non, v, h => h
  | .bl b, v, h => h
  | .int i, v, h => h
  | .str s, v, h => h
  | .tup ds, v, ⟨a, vs, e, h1, h2, h3⟩ => ⟨a, vs, e, h1, h2, Reps.unalt ds vs h3⟩
  | .lst ds, v, ⟨a, vs, e, h1, h2, h3⟩ => ⟨a, vs, e, h1, h2, Reps.unalt ds vs h3⟩
  | .ins c ds, v, ⟨a, C, dx, fs, names, e, h1, h2, h3, h4⟩ => ⟨a, C, dx, fs, names, e, h1, h2, h3, Reps.unalt ds _ h4⟩
  | .dic ks ds, v, ⟨a, kvs, e, h1, h2, h3⟩ => ⟨a, kvs, e, h1, h2, Reps.unalt ds _ h3⟩
  | .ref n, v, h => h
  | .lam n, v, h => h
theorem Reps.unalt : ∀ (ds : List D) (vs : List V), Reps (T.alt x) M F ds vs → Reps T M F ds vs
  | [], vs, h => h
  | d :: ds, vs, ⟨v, ws, e, h1, h2⟩ => ⟨v, ws, e, Rep.unalt d v h1, Reps.unalt ds ws h2⟩
end
theorem Cont.alt {d : D} {o : HO} (h : Cont T M F d o) : Cont (T.alt x) M F d o := by
  cases d with
  | lst ds => obtain ⟨vs, e, h1, h2⟩ := h; exact ⟨vs, e, h1, h2.alt⟩
  | dic ks ds => obtain ⟨vs, e, h1, h2⟩ := h; exact ⟨vs, e, h1, h2.alt⟩
  | ins c ds => obtain ⟨C, dx, fs, names, e, h1, h2, h3⟩ := h; exact ⟨C, dx, fs, names, e, h1, h2, h3.alt⟩
  | _ => exact h.elim
theorem Cont.unalt {d : D} {o : HO} (h : Cont (T.alt x) M F d o) : Cont T M F d o := by
  cases d with
  | lst ds => obtain ⟨vs, e, h1, h2⟩ := h; exact ⟨vs, e, h1, h2.unalt⟩
  | dic ks ds => obtain ⟨vs, e, h1, h2⟩ := h; exact ⟨vs, e, h1, h2.unalt⟩
  | ins c ds => obtain ⟨C, dx, fs, names, e, h1, h2, h3⟩ := h; exact ⟨C, dx, fs, names, e, h1, h2, h3.unalt⟩
  | _ => exact h.elim
theorem XRep.alt {c : Nat} {fs : List D} {cls : Value} {dd : Option Addr} (h : XRep T M F c fs cls dd) : XRep (T.alt x) M F c fs cls dd := by
  obtain ⟨C, names, h1, h2, h3, h4⟩ := h
  refine ⟨C, names, h1, h2, h3, h4.imp id ?_⟩
  rintro ⟨d, kvs, e1, e2, g⟩
  exact ⟨d, kvs, e1, e2, fun k x y a b => let ⟨v, g1, g2⟩ := g k x y a b; ⟨v, g1, g2.alt⟩⟩
theorem XRep.unalt {c : Nat} {fs : List D} {cls : Value} {dd : Option Addr} (h : XRep (T.alt x) M F c fs cls dd) : XRep T M F c fs cls dd := by
  obtain ⟨C, names, h1, h2, h3, h4⟩ := h
  refine ⟨C, names, h1, h2, h3, h4.imp id ?_⟩
  rintro ⟨d, kvs, e1, e2, g⟩
  exact ⟨d, kvs, e1, e2, fun k x y a b => let ⟨v, g1, g2⟩ := g k x y a b; ⟨v, g1, g2.unalt⟩⟩
variable {e : En} {ρ : Env} {m : Mu} {σ : L2.St} {H : Hp}
theorem SR.conv (s : SR T e M F ρ m σ H) (h : ∀ (i : Nat) (s : Sl), ρ[i]? = some s → SlOk T e M F H s (σ[i]?) → SlOk (T.alt x) e M F H s (σ[i]?)) : SR (T.alt x) e M F ρ m σ H :=
  ⟨s.le, s.f0, s.pre, s.keep, s.nn, s.old, s.ent, s.mw, ⟨s.mu.len, s.mu.nd, fun n a hn => let ⟨h1, d, o, h2, h3, h4⟩ := s.mu.at_ n a hn; ⟨h1, d, o, h2, h3, h4.alt⟩⟩, s.len, fun i u hu => h i u hu (s.sl i u hu), s.dis, s.tab⟩
theorem SR.unconv (s : SR (T.alt x) e M F ρ m σ H) (h : ∀ (i : Nat) (s : Sl), ρ[i]? = some s → SlOk (T.alt x) e M F H s (σ[i]?) → SlOk T e M F H s (σ[i]?)) : SR T e M F ρ m σ H :=
  ⟨s.le, s.f0, s.pre, s.keep, s.nn, s.old, s.ent, s.mw, ⟨s.mu.len, s.mu.nd, fun n a hn => let ⟨h1, d, o, h2, h3, h4⟩ := s.mu.at_ n a hn; ⟨h1, d, o, h2, h3, h4.unalt⟩⟩, s.len, fun i u hu => h i u hu (s.sl i u hu), s.dis, s.tab⟩
theorem SlOk.alt {s : Sl} {v : Option (Option V)} (h : SlOk T e M F H s v) (hx : ∀ c fs, s ≠ .xc c fs) : SlOk (T.alt x) e M F H s v := by
  cases s with
  | un => exact h
  | va d => obtain ⟨y, e1, r⟩ := h; exact ⟨y, e1, r.alt⟩
  | ow d => obtain ⟨a, o, e1, h1, h2, h3, h4, h5⟩ := h; exact ⟨a, o, e1, h1, h2, h3, h4, h5.alt⟩
  | ro d => obtain ⟨a, o, e1, h1, h2, h6, h3, h4, h5⟩ := h; exact ⟨a, o, e1, h1, h2, h6, h3, h4, h5.alt⟩
  | me c fs => obtain ⟨a, C, dx, names, kvs, e1, h1, h2, h3, h4, h5, h6, h7⟩ := h; exact ⟨a, C, dx, names, kvs, e1, h1, h2, h3, h4, h5, h6, h7.alt⟩
  | xc c fs => exact absurd rfl (hx c fs)
theorem SlOk.unalt {s : Sl} {v : Option (Option V)} (h : SlOk (T.alt x) e M F H s v) (hx : ∀ c fs, s ≠ .xc c fs) : SlOk T e M F H s v := by
  cases s with
  | un => exact h
  | va d => obtain ⟨y, e1, r⟩ := h; exact ⟨y, e1, r.unalt⟩
  | ow d => obtain ⟨a, o, e1, h1, h2, h3, h4, h5⟩ := h; exact ⟨a, o, e1, h1, h2, h3, h4, h5.unalt⟩
  | ro d => obtain ⟨a, o, e1, h1, h2, h6, h3, h4, h5⟩ := h; exact ⟨a, o, e1, h1, h2, h6, h3, h4, h5.unalt⟩
  | me c fs => obtain ⟨a, C, dx, names, kvs, e1, h1, h2, h3, h4, h5, h6, h7⟩ := h; exact ⟨a, C, dx, names, kvs, e1, h1, h2, h3, h4, h5, h6, h7.unalt⟩
  | xc c fs => exact absurd rfl (hx c fs)
end
end Z
end
section
set_option Elab.async false
set_option linter.all false
set_option maxRecDepth 100000
set_option maxHeartbeats 4000000
set_option autoImplicit false
/-! Z: what is computed is what the machine does: the pieces. -/
namespace Z
open PySem PySem.Spec PyProof.Rows L2
variable {T : Tab}
/-- a thing that is only read: a value, or a list of the frame's own -/
def Rdv (T : Tab) (M : List Addr) (F : Hp) (ρ : Env) (σ : L2.St) (d : D) (v : V) : Prop := Rep T M F d v ∨ ∃ i : Nat, (ρ[i]? = some (Sl.ow d) ∨ ρ[i]? = some (Sl.ro d)) ∧ σ[i]? = some (some v)
/-- an object that nobody knows as yet -/
def Fresh (T : Tab) (e : En) (M : List Addr) (F : Hp) (ρ : Env) (σ : L2.St) (H : Hp) (a : Addr) (d : D) : Prop :=
  F a = none ∧ e.H a = none ∧ a ∉ M ∧ (∃ o, H a = some o ∧ Cont T M F d o) ∧ ∀ (i : Nat) (t : Sl), ρ[i]? = some t → t.own = true → σ[i]? ≠ some (some (.ref a))
/-- what is wanted of a value -/
def Kf (T : Tab) (fr : Bool) (e : En) (ρ : Env) (σ : L2.St) (Q : VK) (d : D) (_ : Mu) (M : List Addr) (F H : Hp) : Prop := match fr with
  | false => ∀ v, Rep T M F d v → Q v H
  | true => isC d = true ∧ ∀ a, Fresh T e M F ρ σ H a d → Q (.ref a) H
/-- what is wanted of an answer -/
def Out (T : Tab) (W : WX) (e : En) (M : List Addr) (F : Hp) (ρ : Env) (σ : L2.St) {α : Type} (r : R (α × Mu)) (K : α → Mu → List Addr → Hp → Hp → Prop) : Prop := match r with
  | .ok p => ∀ M' F' H', SR T e M' F' ρ p.2 σ H' → M <+: M' → Le F F' → K p.1 p.2 M' F' H'
  | .ex c fs m => ∀ M' F' H' cls dd, SR T e M' F' ρ m σ H' → M <+: M' → Le F F' → XRep T M' F' c fs cls dd → W cls dd σ H'
  | .bad => False
section
variable {W : WX} {e : En} {M M' : List Addr} {F F' : Hp} {ρ : Env} {m m' : Mu} {σ : L2.St} {H H' : Hp} {α β : Type} {Q : VK} {fr : Bool}
theorem Rdv.mono {d : D} {v : V} (h : Rdv T M F ρ σ d v) (hm : M <+: M') (hf : Le F F') : Rdv T M' F' ρ σ d v := h.imp (fun h => h.mono hm hf) id
theorem Out.mono {r : R (α × Mu)} {K : α → Mu → List Addr → Hp → Hp → Prop} (h : Out T W e M F ρ σ r K) (hm : M <+: M') (hf : Le F F') : Out T W e M' F' ρ σ r K := by
  cases r with
  | ok p => exact fun M2 F2 H2 s h1 h2 => h M2 F2 H2 s (hm.trans h1) (hf.trans h2)
  | ex c fs m => exact fun M2 F2 H2 cls dd s h1 h2 => h M2 F2 H2 cls dd s (hm.trans h1) (hf.trans h2)
  | bad => exact h
theorem Out.bind {r : R (α × Mu)} {f : α × Mu → R (β × Mu)} {K : β → Mu → List Addr → Hp → Hp → Prop} (h : Out T W e M F ρ σ (r.bind f) K) :
    Out T W e M F ρ σ r (fun a m' M' F' _ => Out T W e M' F' ρ σ (f (a, m')) K) := by
  cases r with
  | ok p => exact fun M2 F2 H2 s h1 h2 => Out.mono (show Out T W e M F ρ σ (f p) K from h) h1 h2
  | ex c fs m => exact h
  | bad => exact h
theorem Out.imp {r : R (α × Mu)} {K K' : α → Mu → List Addr → Hp → Hp → Prop} (h : Out T W e M F ρ σ r K) (hk : ∀ a m' M' F' H', SR T e M' F' ρ m' σ H' → M <+: M' → Le F F' → K a m' M' F' H' → K' a m' M' F' H') : Out T W e M F ρ σ r K' := by
  cases r with
  | ok p => exact fun M2 F2 H2 s h1 h2 => hk _ _ _ _ _ s h1 h2 (h M2 F2 H2 s h1 h2)
  | ex c fs m => exact h
  | bad => exact h
theorem Out.of {x : Option α} {f : α → R (β × Mu)} {K : β → Mu → List Addr → Hp → Hp → Prop} (h : Out T W e M F ρ σ ((R.of x).bind f) K) : ∃ a, x = some a ∧ Out T W e M F ρ σ (f a) K := by
  cases x with
  | none => exact h.elim
  | some a => exact ⟨a, rfl, h⟩
theorem pfx : M <+: M := List.prefix_refl M
/-- the end: a value that stands | a new object -/
theorem fin_val {d : D} {v : V} (s : SR T e M F ρ m σ H) (h : Out T W e M F ρ σ (.ok (d, m)) (Kf T false e ρ σ Q)) (r : Rep T M F d v) : Q v H := h M F H s pfx Le.rfl' v r
theorem fin_lay {d : D} {o : HO} {p : Addr} (s : SR T e M F ρ m σ H) (h : Out T W e M F ρ σ (.ok (d, m)) (Kf T fr e ρ σ Q)) (c : Cont T M F d o) (hp : H p = none) : Q (.ref p) (upd H p o) := by
  obtain ⟨s1, fp, ep, pM⟩ := s.lay0 (o := o) hp
  cases fr with
  | true =>
    refine (h M F _ s1 pfx Le.rfl').2 p ⟨fp, ep, pM, ⟨o, upd_same, c⟩, fun i t hi ot ei => ?_⟩
    have q := s.sl i t hi
    cases t with
    | ow d' => obtain ⟨a, u, e1, _, _, _, h4, _⟩ := q; rw [e1] at ei; cases ei; rw [hp] at h4; cases h4
    | me c' fs => obtain ⟨a, C, dx, names, kvs, e1, _, _, _, _, h5, _⟩ := q; rw [e1] at ei; cases ei; rw [hp] at h5; cases h5
    | _ => cases ot
  | false =>
    have s2 := s.lay (o := o) hp
    have hf : Le F (upd F p o) := Le.upd fp
    exact h M _ _ s2 pfx hf _ (Cont.rep (c.mono pfx hf) upd_same)
/-- what holds of a new object holds of a value -/
theorem Kf.fresh {d : D} (s : SR T e M F ρ m σ H) {a : Addr} (q : Fresh T e M F ρ σ H a d) (h : ∀ M' F' H', SR T e M' F' ρ m σ H' → M <+: M' → Le F F' → ∀ v, Rep T M' F' d v → Q v H') : Q (.ref a) H := by
  obtain ⟨h1, h2, h3, ⟨o, h4, h5⟩, h6⟩ := q
  have hf : Le F (upd F a o) := Le.upd h1
  exact h M _ H (s.frz h4 h1 h2 h3 h6) pfx hf _ (Cont.rep (h5.mono pfx hf) upd_same)
/-- a list or dict that is read, not a value -/
theorem SR.rd_own (s : SR T e M F ρ m σ H) {i : Nat} {d : D} {v : V} (h1 : ρ[i]? = some (Sl.ow d) ∨ ρ[i]? = some (Sl.ro d)) (h2 : σ[i]? = some (some v)) : ∃ a o, v = .ref a ∧ F a = none ∧ H a = some o ∧ Cont T M F d o := by
  rcases h1 with h1 | h1
  · obtain ⟨a, o, e1, h3, _, _, h4, h5⟩ := s.sl i _ h1
    rw [h2] at e1
    cases e1
    exact ⟨a, o, rfl, h3, h4, h5⟩
  · obtain ⟨a, o, e1, h3, _, _, _, h4, h5⟩ := s.sl i _ h1
    rw [h2] at e1
    cases e1
    exact ⟨a, o, rfl, h3, h4, h5⟩
/-- what a read thing holds -/
theorem SR.rd_lst (s : SR T e M F ρ m σ H) {ds : List D} {v : V} (h : Rdv T M F ρ σ (.lst ds) v) : ∃ a vs, v = .ref a ∧ SqL T.K H a vs ∧ ds.length ≤ line ∧ Reps T M F ds vs := by
  rcases h with ⟨a, vs, e1, h1, h2, h3⟩ | ⟨i, h1, h2⟩
  · exact ⟨a, vs, e1, SqL.le h1 s.le, h2, h3⟩
  · obtain ⟨a, o, rfl, _, h4, vs, e2, h5, h6⟩ := s.rd_own h1 h2
    subst e2
    exact ⟨a, vs, rfl, SqL.of h4, h5, h6⟩
theorem SR.rd_dic (s : SR T e M F ρ m σ H) {ks : List Key} {ds : List D} {v : V} (h : Rdv T M F ρ σ (.dic ks ds) v) : ∃ a kvs, v = .ref a ∧ H a = some (.dK kvs) ∧ kvs.map (·.1) = ks ∧ Reps T M F ds (kvs.map (·.2)) := by
  rcases h with ⟨a, vs, e1, h1, h2, h3⟩ | ⟨i, h1, h2⟩
  · exact ⟨a, vs, e1, s.le _ _ h1, h2, h3⟩
  · obtain ⟨a, o, rfl, _, h4, vs, e2, h5, h6⟩ := s.rd_own h1 h2
    subst e2
    exact ⟨a, vs, rfl, h4, h5, h6⟩
theorem SR.rd_tup (s : SR T e M F ρ m σ H) {ds : List D} {v : V} (h : Rdv T M F ρ σ (.tup ds) v) : ∃ a vs, v = .ref a ∧ SqT T.K H a vs ∧ ds.length ≤ line ∧ Reps T M F ds vs := by
  rcases h with ⟨a, vs, e1, h1, h2, h3⟩ | ⟨i, h1, h2⟩
  · exact ⟨a, vs, e1, SqT.le h1 s.le, h2, h3⟩
  · obtain ⟨a, o, rfl, _, h4, h5⟩ := s.rd_own h1 h2
    exact h5.elim
theorem SR.rd_val (s : SR T e M F ρ m σ H) {d : D} {v : V} (h : Rdv T M F ρ σ d v) (hd : ∀ o, ¬ Cont T M F d o) : Rep T M F d v := by
  rcases h with h | ⟨i, h1, h2⟩
  · exact h
  · obtain ⟨a, o, rfl, _, h4, h5⟩ := s.rd_own h1 h2
    exact absurd h5 (hd o)
theorem rd_int (s : SR T e M F ρ m σ H) {i : Int} {v : V} (h : Rdv T M F ρ σ (.int i) v) : v = .int i := s.rd_val h fun _ z => z.elim
theorem rd_bl (s : SR T e M F ρ m σ H) {i : Bool} {v : V} (h : Rdv T M F ρ σ (.bl i) v) : v = .bl i := s.rd_val h fun _ z => z.elim
theorem rd_str (s : SR T e M F ρ m σ H) {i : Str} {v : V} (h : Rdv T M F ρ σ (.str i) v) : v = .str i := s.rd_val h fun _ z => z.elim
theorem rd_non (s : SR T e M F ρ m σ H) {v : V} (h : Rdv T M F ρ σ .non v) : v = .non := s.rd_val h fun _ z => z.elim
end
/-! ### readings -/
/-- an expression (fr: a new list or dict comes out) -/
def tE (T : Tab) (W : WX) (fr : Bool) (x : Ex) : TE := fun σ H Q => ∃ e M F ρ m, SR T e M F ρ m σ H ∧ Out T W e M F ρ σ (ev x ρ m) (Kf T fr e ρ σ Q)
/-- .. that is only read -/
def tR (T : Tab) (W : WX) (x : Ex) : TE := fun σ H Q => ∃ e M F ρ m, SR T e M F ρ m σ H ∧ Out T W e M F ρ σ (evr x ρ m) fun d _ M' F' H' => ∀ v, Rdv T M' F' ρ σ d v → Q v H'
/-- a test -/
def tT (T : Tab) (W : WX) (x : Ex) : TT := fun σ H Q => ∃ e M F ρ m, SR T e M F ρ m σ H ∧ Out T W e M F ρ σ (evT x ρ m) fun k _ _ _ H' => Q k H'
/-- arguments -/
def tA (T : Tab) (W : WX) (xs : Exs) : TA := fun σ H Q => ∃ e M F ρ m, SR T e M F ρ m σ H ∧ Out T W e M F ρ σ (evs xs ρ m) fun ds _ M' F' H' => ∀ vs, Reps T M' F' ds vs → Q vs H'
def Rdvs (T : Tab) (M : List Addr) (F : Hp) (ρ : Env) (σ : L2.St) : List D → List V → Prop
  | [], vs => vs = []
  | d :: ds, vs => ∃ v ws, vs = v :: ws ∧ Rdv T M F ρ σ d v ∧ Rdvs T M F ρ σ ds ws
theorem Rdvs.mono {M M' : List Addr} {F F' : Hp} {ρ : Env} {σ : L2.St} (hm : M <+: M') (hf : Le F F') : ∀ {ds : List D} {vs : List V}, Rdvs T M F ρ σ ds vs → Rdvs T M' F' ρ σ ds vs
  | [], _, h => h
  | _ :: _, _, ⟨v, ws, e, h1, h2⟩ => ⟨v, ws, e, h1.mono hm hf, Rdvs.mono hm hf h2⟩
def tB (T : Tab) (W : WX) (xs : Exs) : TA := fun σ H Q => ∃ e M F ρ m, SR T e M F ρ m σ H ∧ Out T W e M F ρ σ (evrs xs ρ m) fun ds _ M' F' H' => ∀ vs, Rdvs T M' F' ρ σ ds vs → Q vs H'
theorem _root_.L2.PE.imp {X : Cx} {x : Expr} {t t' : TE} (h : PE X x t) (hi : ∀ σ H Q, t' σ H Q → t σ H Q) : PE X x t' := ⟨fun pins s σ H Q I q => h.run pins s σ H Q I (hi σ H Q q)⟩
theorem _root_.L2.PT.imp {X : Cx} {x : Expr} {t t' : TT} (h : PT X x t) (hi : ∀ σ H Q, t' σ H Q → t σ H Q) : PT X x t' := ⟨fun pins s σ H Q I q => h.run pins s σ H Q I (hi σ H Q q)⟩
theorem _root_.L2.PW.imp {X : Cx} {x : Expr} {t t' : TT} (h : PW X x t) (hi : ∀ σ H Q, t' σ H Q → t σ H Q) : PW X x t' := ⟨fun wh pins s σ H Q I q => h.run wh pins s σ H Q I (hi σ H Q q)⟩
theorem _root_.L2.PA.imp {X : Cx} {x : List Expr} {t t' : TA} (h : PA X x t) (hi : ∀ σ H Q, t' σ H Q → t σ H Q) : PA X x t' := ⟨fun pos pins s σ H Q I q => h.run pos pins s σ H Q I (hi σ H Q q)⟩
theorem _root_.L2.PS.imp {X : Cx} {x : Stmt} {t t' : TS} (h : PS X x t) (hi : ∀ D σ H, t' D σ H → t D σ H) : PS X x t' := ⟨fun pins s σ H D I q => h.run pins s σ H D I (hi D σ H q)⟩
theorem _root_.L2.PSs.imp {X : Cx} {x : List Stmt} {t t' : TS} (h : PSs X x t) (hi : ∀ D σ H, t' D σ H → t D σ H) : PSs X x t' := ⟨fun pins s σ H D I q => h.run pins s σ H D I (hi D σ H q)⟩
section
variable {W : WX} {x : Ex}
/-- a name of the frame's own list is read -/
theorem pe_read {X : Cx} {y : Expr} (h : PE X y (tE T W false x)) (hv : ∀ i, x ≠ .var i) : PE X y (tR T W x) := h.imp fun σ H Q ⟨e, M, F, ρ, m, s, h⟩ => by
  refine ⟨e, M, F, ρ, m, s, ?_⟩
  have e1 : evr x ρ m = ev x ρ m := by cases x <;> first | rfl | exact absurd rfl (hv _)
  rw [e1] at h
  exact h.imp fun d m' M' F' H' _ _ _ k v r => k v (.inl r)
end
/-! ### the context -/
structure CxB (T : Tab) (N : List Str) (sc : Scope) (X : Cx) : Prop where
  hP : X.prog = T.P
  hw : X.w = T.w
  hK : X.K = T.K
  hmg : X.mg = T.mg
  hbase : X.base = T.base
  hN : X.N = N
  nd : N.Nodup
  hsc : X.env.scope = sc
  un : X.A.units + 100 < cLine
structure CxOk (T : Tab) (k : Nat) (N : List Str) (sc : Scope) (X : Cx) : Prop extends CxB T N sc X where
  calm : X.calm = true
  room : Room k X.A
instance {T : Tab} {k : Nat} {N : List Str} {sc : Scope} {X : Cx} : CoeOut (CxOk T k N sc X) (CxB T N sc X) := ⟨CxOk.toCxB⟩
/-! ### operators -/
section
variable {X : Cx} {W : WX} {k : Nat} {N : List Str} {sc : Scope}
def boE : BO → Operator
  | .add => .Add | .sub => .Sub | .mul => .Mult | .fdiv => .FloorDiv | .mod => .Mod | .pow => .Pow
def coE : CO → CmpOp
  | .eq => .Eq | .ne => .NotEq | .lt => .Lt | .le => .LtE | .gt => .Gt | .ge => .GtE | .is_ => .Is | .isnot => .IsNot | .in_ => .In | .notin => .NotIn
def rBo (T : Tab) (W : WX) (fr : Bool) (op : BO) : R2 := fun x y H Q => ∃ e M F ρ m σ a b, SR T e M F ρ m σ H ∧ Rdv T M F ρ σ a x ∧ Rdv T M F ρ σ b y ∧ Out T W e M F ρ σ ((R.of (boSem op a b)).bind fun d => .ok (d, m)) (Kf T fr e ρ σ Q)
theorem cat_any {pins : List (Addr × Obj)} {s : Shared} {σ : L2.St} {H : Hp} {l b : Addr} {xs zs : List V} {Q : VK} (I : Inv X pins σ H s) (h1 : SqL X.K H l xs) (h2 : SqL X.K H b zs) (hz : xs.length + zs.length ≤ sizeLine) (q : ∀ p, H p = none → Q (.ref p) (upd H p (.lst (xs ++ zs)))) :
    wpAny (model X.prog X.w) X.A (binaryOp .Add (.ref l) (.ref b)) (EP X pins σ Q) X.xe s := by
  obtain ⟨its, r, hl, _⟩ := I.list h1
  obtain ⟨its2, r2, hl2, _⟩ := I.list h2
  obtain ⟨⟨cls, dd, data, sl⟩, ho, hc, n, hd⟩ := id hl.isList
  obtain ⟨⟨cls2, dd2, data2, sl2⟩, ho2, hc2, n2, hd2⟩ := id hl2.isList
  simp only at hc hd hc2 hd2
  subst hc hd hc2 hd2
  have e : its.toArray ++ its2.toArray = (its ++ its2).toArray := by simp
  have l1 := r.length
  have l2 := r2.length
  refine concat_meets ⟨_, ho, rfl⟩ ⟨_, ho2, rfl⟩ noFill_list_add seq_list_add PySem.F.slot_list_add PySem.F.entry_list_add (PySem.F.args_list_add_2 _ _) (list_addW l b its.toArray its2.toArray n n2 dd dd2 sl sl2 (by simp; omega)) ⟨ho, ho2, ?_⟩
  rw [e]
  exact ⟨.ref _, _, I.lnew (t' := s.toks) (r.append r2) (by rw [List.length_append]; omega), rfl, q _ I.fresh⟩
theorem bo_ok (C : CxB T N sc X) (fr : Bool) (op : BO) : OpR X (binaryOp (boE op)) (rBo T W fr op) := by
  intro pins s σ H x y v u Q I rx ry h
  obtain ⟨e, M, F, ρ, m, σ', a, b, sr, ra, rb, h⟩ := h
  obtain ⟨d, hd, h⟩ := h.of
  have int : ∀ z, d = .int z → Q (.int z) H := fun z e1 => by
    subst e1
    cases fr with
    | false => exact fin_val sr h rfl
    | true => cases (h M F H sr pfx Le.rfl').1
  unfold boSem at hd
  split at hd
  · cases hd
    obtain rfl := rd_int sr ra
    obtain rfl := rd_int sr rb
    exact op_add pins s σ H _ _ v u Q I rx ry ⟨_, _, rfl, rfl, int _ rfl⟩
  · cases hd
    obtain rfl := rd_int sr ra
    obtain rfl := rd_int sr rb
    exact op_sub pins s σ H _ _ v u Q I rx ry ⟨_, _, rfl, rfl, int _ rfl⟩
  · split at hd
    · rename_i hw
      cases hd
      obtain rfl := rd_int sr ra
      obtain rfl := rd_int sr rb
      exact op_mul pins s σ H _ _ v u Q I rx ry ⟨_, _, rfl, rfl, hw, int _ rfl⟩
    · cases hd
  · split at hd
    · rename_i hw
      cases hd
      obtain rfl := rd_int sr ra
      obtain rfl := rd_int sr rb
      exact op_fdiv pins s σ H _ _ v u Q I rx ry ⟨_, _, rfl, rfl, hw, int _ rfl⟩
    · cases hd
  · split at hd
    · rename_i hw
      cases hd
      obtain rfl := rd_int sr ra
      obtain rfl := rd_int sr rb
      exact op_mod pins s σ H _ _ v u Q I rx ry ⟨_, _, rfl, rfl, hw, int _ rfl⟩
    · cases hd
  · split at hd
    · rename_i hw
      cases hd
      obtain rfl := rd_int sr ra
      obtain rfl := rd_int sr rb
      exact op_pow pins s σ H _ _ v u Q I rx ry ⟨_, _, rfl, rfl, hw, int _ rfl⟩
    · cases hd
  · split at hd
    · rename_i hz
      cases hd
      obtain ⟨p, xs, rfl, h1, _, r1⟩ := sr.rd_lst ra
      obtain ⟨q, ys, rfl, h2, _, r2⟩ := sr.rd_lst rb
      cases rx
      cases ry
      have l1 := r1.length
      have l2 := r2.length
      have hl : (line : Nat) = sizeLine := by rw [sizeLine_eq]
      refine cat_any I (C.hK ▸ h1) (C.hK ▸ h2) (by rw [← l1, ← l2, ← hl]; exact hz) fun p hp => ?_
      exact fin_lay sr h ⟨_, rfl, by rw [List.length_append]; exact hz, r1.append r2⟩ hp
    · cases hd
  · cases hd
end
/-! ### comparisons -/
mutual
def toPy : D → PyData
  | .bl b => .bool b
  | .int i => .int i
  | .str s => .str s
  | .tup ds => .tuple (toPys ds)
  | .lst ds => .list (toPys ds)
  | _ => .none
def toPys : List D → List PyData
  | [] => []
  | d :: ds => toPy d :: toPys ds
end
theorem pln_shape : ∀ (n : Nat) (d : D), pln n d = true → (toPy d).canLay0 = true ∧ (toPy d).depth ≤ n
  | 0, d, h => by simp [pln] at h
  | n + 1, .non, h => by simp [toPy, PyData.canLay0, PyData.depth]
  | n + 1, .bl b, h => by simp [toPy, PyData.canLay0, PyData.depth]
  | n + 1, .int i, h => by simp [toPy, PyData.canLay0, PyData.depth]
  | n + 1, .str s, h => by
    have h' : PyData.strOk s = true := by simpa [pln] using h
    simp [toPy, PyData.canLay0, PyData.depth, h']
  | n + 1, .tup ds, h => by
    have h' : ds.all (pln n) = true := by simpa [pln] using h
    have q : ∀ (ds : List D), ds.all (pln n) = true → PyData.canLayAll0 (toPys ds) = true ∧ PyData.depthAll (toPys ds) ≤ n := by
      intro ds
      induction ds with
      | nil => intro _; simp [toPys, PyData.canLayAll0, PyData.depthAll]
      | cons d ds ih =>
        intro h
        simp only [List.all_cons, Bool.and_eq_true] at h
        obtain ⟨a1, a2⟩ := pln_shape n d h.1
        obtain ⟨b1, b2⟩ := ih h.2
        simp only [toPys, PyData.canLayAll0, PyData.depthAll, a1, b1, Bool.and_self, true_and]
        omega
    obtain ⟨q1, q2⟩ := q ds h'
    simp only [toPy, PyData.canLay0, PyData.depth, q1, true_and]
    omega
  | n + 1, .lst ds, h => by
    have h' : ds.all (pln n) = true := by simpa [pln] using h
    have q : ∀ (ds : List D), ds.all (pln n) = true → PyData.canLayAll0 (toPys ds) = true ∧ PyData.depthAll (toPys ds) ≤ n := by
      intro ds
      induction ds with
      | nil => intro _; simp [toPys, PyData.canLayAll0, PyData.depthAll]
      | cons d ds ih =>
        intro h
        simp only [List.all_cons, Bool.and_eq_true] at h
        obtain ⟨a1, a2⟩ := pln_shape n d h.1
        obtain ⟨b1, b2⟩ := ih h.2
        simp only [toPys, PyData.canLayAll0, PyData.depthAll, a1, b1, Bool.and_self, true_and]
        omega
    obtain ⟨q1, q2⟩ := q ds h'
    simp only [toPy, PyData.canLay0, PyData.depth, q1, true_and]
    omega
  | n + 1, .ins c ds, h => by simp [pln] at h
  | n + 1, .dic c ds, h => by simp [pln] at h
  | n + 1, .ref c, h => by simp [pln] at h
theorem pln_shaped {n : Nat} {d : D} (h : pln n d = true) (hn : n ≤ 64) : SeqAt.shaped (toPy d) = true := by
  obtain ⟨a, b⟩ := pln_shape n d h
  unfold SeqAt.shaped
  rw [a, decide_eq_true (by omega)]
  rfl
theorem eqv_of : ∀ (n : Nat) (a b : D), pln n a = true → pln n b = true → deq a b = PyData.eqv (toPy a) (toPy b)
  | 0, a, b, h, _ => by simp [pln] at h
  | n + 1, a, b, ha, hb => by
    have q : ∀ (xs ys : List D), xs.all (pln n) = true → ys.all (pln n) = true → deqs xs ys = PyData.eqvAll (toPys xs) (toPys ys) := by
      intro xs
      induction xs with
      | nil => intro ys _ _; cases ys <;> simp [deqs, toPys, PyData.eqvAll]
      | cons x xs ih =>
        intro ys h1 h2
        cases ys with
        | nil => simp [deqs, toPys, PyData.eqvAll]
        | cons y ys =>
          simp only [List.all_cons, Bool.and_eq_true] at h1 h2
          simp only [deqs, toPys, PyData.eqvAll, eqv_of n x y h1.1 h2.1, ih ys h1.2 h2.2]
    cases a <;> cases b <;> first
      | (simp [pln] at ha; done)
      | (simp [pln] at hb; done)
      | (simp only [deq, toPy, PyData.eqv]; done)
      | (simp only [deq, toPy, PyData.eqv]; exact q _ _ (by simpa [pln] using ha) (by simpa [pln] using hb))
section
variable {X : Cx} {W : WX} {k : Nat} {N : List Str} {sc : Scope} {e : En} {M : List Addr} {F : Hp} {ρ : Env} {m : Mu} {σ : L2.St} {H : Hp}
theorem Rep.dp : ∀ (n : Nat) (d : D) (v : V), pln n d = true → Rep T M F d v → Dp T.K F v (toPy d)
  | 0, d, v, h, _ => by simp [pln] at h
  | n + 1, d, v, h, r => by
    have q : ∀ (ds : List D) (vs : List V), ds.all (pln n) = true → Reps T M F ds vs → DpAll T.K F vs (toPys ds) := by
      intro ds
      induction ds with
      | nil =>
        intro vs _ r
        have e1 : vs = [] := r
        subst e1
        exact .nil
      | cons d ds ih =>
        intro vs h r
        obtain ⟨v, ws, e1, r1, r2⟩ := r
        subst e1
        simp only [List.all_cons, Bool.and_eq_true] at h
        exact .cons (Rep.dp n d v h.1 r1) (ih ws h.2 r2)
    cases d with
    | non => obtain rfl : v = .non := r; exact .non
    | bl b => obtain rfl : v = .bl b := r; exact .bl b
    | int i => obtain rfl : v = .int i := r; exact .int i
    | str s => obtain rfl : v = .str s := r; exact .str s
    | tup ds => obtain ⟨a, vs, rfl, h1, _, h3⟩ := r; exact .tup h1 (q ds vs (by simpa [pln] using h) h3)
    | lst ds => obtain ⟨a, vs, rfl, h1, _, h3⟩ := r; exact .lst h1 (q ds vs (by simpa [pln] using h) h3)
    | _ => simp [pln] at h
/-- as the heap stands, a read thing is a value -/
theorem SR.rd (s : SR T e M F ρ m σ H) {d : D} {v : V} (h : Rdv T M F ρ σ d v) : Rep T M H d v := by
  rcases h with h | ⟨i, h1, h2⟩
  · exact h.mono pfx s.le
  · obtain ⟨a, o, rfl, _, h4, h5⟩ := s.rd_own h1 h2
    exact Cont.rep (h5.mono pfx s.le) h4
def rCo (T : Tab) (op : CO) : R2 := fun x y H Q => ∃ e M F ρ m σ a b k, SR T e M F ρ m σ H ∧ Rdv T M F ρ σ a x ∧ Rdv T M F ρ σ b y ∧ coSem op a b = some k ∧ Q (.bl k) H
theorem anyEq {n : Nat} {a : D} {xs : List D} (ha : pln n a = true) (hx : xs.all (pln n) = true) : (xs.any fun x => deq x a) = (toPys xs).any fun z => PyData.eqv z (toPy a) := by
  induction xs with
  | nil => rfl
  | cons x xs ih =>
    simp only [List.all_cons, Bool.and_eq_true] at hx
    simp only [List.any_cons, toPys, eqv_of n x a hx.1 ha, ih hx.2]
theorem co_ok (C : CxB T N sc X) (op : CO) : OpR X (compareOp (coE op)) (rCo T op) := by
  intro pins s σ H x y v u Q I rx ry h
  obtain ⟨e, M, F, ρ, m, σ', a, b, c, sr, ra, rb, hc, q⟩ := h
  have hu : X.A.units + 64 < cLine := by have := C.un; omega
  have hu' : X.A.units + 65 < cLine := by have := C.un; omega
  have pa := sr.rd ra
  have pb := sr.rd rb
  have dp : ∀ {n : Nat} {d : D} {z : V}, pln n d = true → Rep T M H d z → Dp X.K H z (toPy d) := fun {n d z} h1 h2 => by rw [C.hK]; exact Rep.dp n d z h1 h2
  unfold coSem at hc
  split at hc
  · split at hc
    · rename_i hp
      cases hc
      rw [eqv_of deep _ _ hp.1 hp.2] at q
      exact op_eqD hu pins s σ H x y v u Q I rx ry ⟨_, _, dp hp.1 pa, dp hp.2 pb, pln_shaped hp.1 (by decide), pln_shaped hp.2 (by decide), q⟩
    · cases hc
  · split at hc
    · rename_i hp
      cases hc
      rw [eqv_of deep _ _ hp.1 hp.2] at q
      exact op_neD hu pins s σ H x y v u Q I rx ry ⟨_, _, dp hp.1 pa, dp hp.2 pb, pln_shaped hp.1 (by decide), pln_shaped hp.2 (by decide), q⟩
    · cases hc
  · cases hc
    obtain rfl := rd_int sr ra
    obtain rfl := rd_int sr rb
    exact op_lt pins s σ H _ _ v u Q I rx ry ⟨_, _, rfl, rfl, q⟩
  · cases hc
    obtain rfl := rd_int sr ra
    obtain rfl := rd_int sr rb
    exact op_le pins s σ H _ _ v u Q I rx ry ⟨_, _, rfl, rfl, q⟩
  · cases hc
    obtain rfl := rd_int sr ra
    obtain rfl := rd_int sr rb
    exact op_gt pins s σ H _ _ v u Q I rx ry ⟨_, _, rfl, rfl, q⟩
  · cases hc
    obtain rfl := rd_int sr ra
    obtain rfl := rd_int sr rb
    exact op_ge pins s σ H _ _ v u Q I rx ry ⟨_, _, rfl, rfl, q⟩
  · have e1 : decide (x = .non) = c := by
      cases hc
      cases a with
      | non => obtain rfl : x = .non := pa; rfl
      | bl b => obtain rfl : x = .bl b := pa; rfl
      | int b => obtain rfl : x = .int b := pa; rfl
      | str b => obtain rfl : x = .str b := pa; rfl
      | tup b => obtain ⟨_, _, rfl, _⟩ := pa; rfl
      | lst b => obtain ⟨_, _, rfl, _⟩ := pa; rfl
      | ins c b => obtain ⟨_, _, _, _, _, rfl, _⟩ := pa; rfl
      | dic c b => obtain ⟨_, _, rfl, _⟩ := pa; rfl
      | ref b => obtain ⟨_, _, rfl⟩ := pa; rfl
      | lam b => obtain ⟨_, _, _, _, rfl, _⟩ := pa; rfl
    rw [← e1] at q
    exact op_isN pins s σ H _ _ v u Q I rx ry ⟨pb, q⟩
  · have e1 : (!decide (x = .non)) = c := by
      cases hc
      cases a with
      | non => obtain rfl : x = .non := pa; rfl
      | bl b => obtain rfl : x = .bl b := pa; rfl
      | int b => obtain rfl : x = .int b := pa; rfl
      | str b => obtain rfl : x = .str b := pa; rfl
      | tup b => obtain ⟨_, _, rfl, _⟩ := pa; rfl
      | lst b => obtain ⟨_, _, rfl, _⟩ := pa; rfl
      | ins c b => obtain ⟨_, _, _, _, _, rfl, _⟩ := pa; rfl
      | dic c b => obtain ⟨_, _, rfl, _⟩ := pa; rfl
      | ref b => obtain ⟨_, _, rfl⟩ := pa; rfl
      | lam b => obtain ⟨_, _, _, _, rfl, _⟩ := pa; rfl
    rw [← e1] at q
    exact op_notN pins s σ H _ _ v u Q I rx ry ⟨pb, q⟩
  · split at hc
    · rename_i xs hi
      split at hc
      · rename_i hp
        cases hc
        obtain ⟨as, r1⟩ := Dp.reads I _ x v (dp hp.1 pa) rx
        have sa := pln_shaped hp.1 (by decide : deep1 ≤ 64)
        have sb := pln_shaped hp.2 (by decide : deep ≤ 64)
        obtain ⟨bs, r2⟩ := Dp.reads I _ y u (dp hp.2 pb) ry
        cases b with
        | lst ds =>
          cases hi
          rw [anyEq (n := 39) hp.1 (by simpa [pln, deep] using hp.2)] at q
          exact SeqAt.in_list_reads r2 r1 (SeqAt.canLay_of_shaped sb) (SeqAt.canLay_of_shaped sa) (room_in_shaped sa hu') ⟨.bl _, H, I, rfl, q⟩
        | tup ds =>
          cases hi
          rw [anyEq (n := 39) hp.1 (by simpa [pln, deep] using hp.2)] at q
          exact SeqAt.in_tuple_reads r2 r1 (SeqAt.canLay_of_shaped sb) (SeqAt.canLay_of_shaped sa) (room_in_shaped sa hu') ⟨.bl _, H, I, rfl, q⟩
        | _ => cases hi
      · cases hc
    · cases hc
  · split at hc
    · rename_i xs hi
      split at hc
      · rename_i hp
        cases hc
        obtain ⟨as, r1⟩ := Dp.reads I _ x v (dp hp.1 pa) rx
        have sa := pln_shaped hp.1 (by decide : deep1 ≤ 64)
        have sb := pln_shaped hp.2 (by decide : deep ≤ 64)
        obtain ⟨bs, r2⟩ := Dp.reads I _ y u (dp hp.2 pb) ry
        cases b with
        | lst ds =>
          cases hi
          rw [anyEq (n := 39) hp.1 (by simpa [pln, deep] using hp.2)] at q
          exact SeqAt.notIn_list_reads r2 r1 (SeqAt.canLay_of_shaped sb) (SeqAt.canLay_of_shaped sa) (room_in_shaped sa hu') ⟨.bl _, H, I, rfl, q⟩
        | tup ds =>
          cases hi
          rw [anyEq (n := 39) hp.1 (by simpa [pln, deep] using hp.2)] at q
          exact SeqAt.notIn_tuple_reads r2 r1 (SeqAt.canLay_of_shaped sb) (SeqAt.canLay_of_shaped sa) (room_in_shaped sa hu') ⟨.bl _, H, I, rfl, q⟩
        | _ => cases hi
      · cases hc
    · cases hc
  · cases hc
end
/-! ### dicts -/
theorem kvs_ext : ∀ {ks : List Key} {kvs : List (Key × V)}, kvs.map (·.1) = ks → kvs = ks.zip (kvs.map (·.2))
  | [], [], _ => rfl
  | [], _ :: _, h => by cases h
  | k :: ks, [], h => by cases h
  | k :: ks, (j, v) :: r, h => by
    simp only [List.map_cons, List.cons.injEq] at h
    obtain ⟨h1, h2⟩ := h
    subst h1
    have q := kvs_ext h2
    simp only [List.map_cons, List.zip_cons_cons]
    rw [← q]
section
variable {M : List Addr} {F : Hp}
theorem dget_ok {k : Key} : ∀ {kvs : List (Key × V)} {ds : List D}, Reps T M F ds (kvs.map (·.2)) → (match dget? k (kvs.map (·.1)) ds with | some d => ∃ v, valV kvs k = some v ∧ Rep T M F d v | none => valV kvs k = none)
  | [], ds, h => by
    cases ds with
    | nil => rfl
    | cons d ds => obtain ⟨v, ws, e, _⟩ := h; cases e
  | (j, v) :: r, ds, h => by
    cases ds with
    | nil => cases (show ((j, v) :: r).map (·.2) = [] from h)
    | cons d ds =>
      obtain ⟨x, ws, e, h1, h2⟩ := h
      simp only [List.map_cons, List.cons.injEq] at e
      obtain ⟨e1, e2⟩ := e
      subst e1
      rw [← e2] at h2
      simp only [List.map_cons, dget?]
      by_cases z : j = k
      · rw [if_pos z]
        exact ⟨v, valV_pos z, h1⟩
      · rw [if_neg z, valV_neg (p := (j, v)) z]
        exact dget_ok h2
theorem any_keys (k : Key) : ∀ (kvs : List (Key × V)), ((kvs.map (·.1)).any fun j => decide (j = k)) = kvs.any fun kv => decide (kv.1 = k)
  | [] => rfl
  | (j, v) :: r => by simp only [List.map_cons, List.any_cons, any_keys k r]
theorem repl_ok {k : Key} {d : D} {v : V} (hr : Rep T M F d v) : ∀ {kvs : List (Key × V)} {ds : List D}, Reps T M F ds (kvs.map (·.2)) →
    (kvs.map fun kv => if kv.1 = k then (kv.1, v) else kv).map (·.1) = kvs.map (·.1) ∧ Reps T M F (repl k d (kvs.map (·.1)) ds) ((kvs.map fun kv => if kv.1 = k then (kv.1, v) else kv).map (·.2))
  | [], ds, h => ⟨rfl, by simp only [List.map_nil, repl]; exact rfl⟩
  | (j, w) :: r, ds, h => by
    cases ds with
    | nil => cases (show ((j, w) :: r).map (·.2) = [] from h)
    | cons x ds =>
      obtain ⟨y, ws, e, h1, h2⟩ := h
      simp only [List.map_cons, List.cons.injEq] at e
      obtain ⟨e1, e2⟩ := e
      subst e1
      rw [← e2] at h2
      obtain ⟨q1, q2⟩ := repl_ok (k := k) hr h2
      simp only [List.map_cons, repl]
      by_cases z : j = k
      · simp only [z, if_true]
        exact ⟨by rw [q1], Reps.cons hr q2⟩
      · simp only [z, if_false]
        exact ⟨by rw [q1], Reps.cons h1 q2⟩
theorem dput_ok {k : Key} {d : D} {v : V} {kvs : List (Key × V)} {ds : List D} (hr : Rep T M F d v) (h : Reps T M F ds (kvs.map (·.2))) :
    (putK kvs k v).map (·.1) = (dput k d (kvs.map (·.1)) ds).1 ∧ Reps T M F (dput k d (kvs.map (·.1)) ds).2 ((putK kvs k v).map (·.2)) := by
  unfold dput putK
  rw [any_keys]
  by_cases z : (kvs.any fun kv => decide (kv.1 = k)) = true
  · rw [if_pos z, if_pos z]
    exact repl_ok hr h
  · rw [if_neg z, if_neg z]
    exact ⟨by simp, by rw [List.map_append]; exact h.append (Reps.cons hr Reps.nil)⟩
theorem dputs_ok : ∀ {ps : List (Key × D)} {more : List (Key × V)} {kvs : List (Key × V)} {ds : List D}, more.map (·.1) = ps.map (·.1) → Reps T M F (ps.map (·.2)) (more.map (·.2)) → Reps T M F ds (kvs.map (·.2)) →
    (mergeK kvs more).map (·.1) = (dputs ps (kvs.map (·.1)) ds).1 ∧ Reps T M F (dputs ps (kvs.map (·.1)) ds).2 ((mergeK kvs more).map (·.2))
  | [], [], kvs, ds, _, _, h => ⟨rfl, h⟩
  | [], _ :: _, kvs, ds, h, _, _ => by cases h
  | (k, d) :: ps, [], kvs, ds, h, _, _ => by cases h
  | (k, d) :: ps, (j, v) :: more, kvs, ds, h, r, q => by
    simp only [List.map_cons, List.cons.injEq] at h
    obtain ⟨h1, h2⟩ := h
    subst h1
    obtain ⟨y, ws, e, r1, r2⟩ := r
    simp only [List.map_cons, List.cons.injEq] at e
    obtain ⟨e1, e2⟩ := e
    subst e1 e2
    obtain ⟨z1, z2⟩ := dput_ok (k := j) r1 q
    show (mergeK (putK kvs j v) more).map (·.1) = _ ∧ _
    have w := dputs_ok (ps := ps) (more := more) (kvs := putK kvs j v) h2 r2 z2
    rw [z1] at w
    exact w
theorem dpairs_ok : ∀ {ds : List D} {vs : List V} {ps : List (Key × D)}, Reps T M F ds vs → dpairs ds = some ps →
    ∃ (as : List Addr) (kvs : List (Key × V)), vs = as.map V.ref ∧ Paired (fun p kv => SqT T.K F p [kV kv.1, kv.2]) as kvs ∧ kvs.map (·.1) = ps.map (·.1) ∧ Reps T M F (ps.map (·.2)) (kvs.map (·.2))
  | [], vs, ps, h, e => by
    have e1 : vs = [] := h
    subst e1
    cases e
    exact ⟨[], [], rfl, .nil, rfl, rfl⟩
  | d :: ds, vs, ps, h, e => by
    obtain ⟨v, ws, e1, h1, h2⟩ := h
    subst e1
    unfold dpairs at e
    split at e
    · cases (show False by rename_i z; cases z)
    · rename_i k x r z
      cases z
      split at e
      · rename_i k' q hk hq
        cases e
        obtain ⟨a, us, rfl, t1, _, t3⟩ := h1
        obtain ⟨y1, u1, e2, g1, y2, u2, e3, g2, g3⟩ := t3
        have e4 : u2 = [] := g3
        subst e2 e3 e4
        have ky : y1 = kV k' := by
          cases k with
          | int i => cases hk; exact g1
          | str i => cases hk; exact g1
          | _ => cases hk
        subst ky
        obtain ⟨as, kvs, p1, p2, p3, p4⟩ := dpairs_ok h2 hq
        subst p1
        exact ⟨a :: as, (k', y2) :: kvs, rfl, .cons t1 p2, by simp [p3], Reps.cons g2 p4⟩
      · cases e
    · cases e
end
/-! ### built-ins -/
section
variable {M : List Addr} {F : Hp}
theorem minI_ok : ∀ (a : Int) (r : List Int), minI a r ∈ a :: r ∧ ∀ y, y ∈ a :: r → minI a r ≤ y
  | a, [] => ⟨List.mem_singleton.mpr rfl, fun y h => by rw [List.mem_singleton.mp h]; exact Int.le_refl _⟩
  | a, b :: r => by
    obtain ⟨h1, h2⟩ := minI_ok (if b < a then b else a) r
    refine ⟨?_, fun y h => ?_⟩
    · show minI (if b < a then b else a) r ∈ _
      rcases List.mem_cons.mp h1 with h | h
      · rw [h]; split <;> simp
      · exact List.mem_cons_of_mem _ (List.mem_cons_of_mem _ h)
    · show minI (if b < a then b else a) r ≤ y
      have h3 := h2 (if b < a then b else a) List.mem_cons_self
      rcases List.mem_cons.mp h with h | h
      · exact Int.le_trans h3 (by subst h; split <;> omega)
      · rcases List.mem_cons.mp h with h | h
        · exact Int.le_trans h3 (by subst h; split <;> omega)
        · exact h2 y (List.mem_cons_of_mem _ h)
theorem maxI_ok : ∀ (a : Int) (r : List Int), maxI a r ∈ a :: r ∧ ∀ y, y ∈ a :: r → y ≤ maxI a r
  | a, [] => ⟨List.mem_singleton.mpr rfl, fun y h => by rw [List.mem_singleton.mp h]; exact Int.le_refl _⟩
  | a, b :: r => by
    obtain ⟨h1, h2⟩ := maxI_ok (if b > a then b else a) r
    refine ⟨?_, fun y h => ?_⟩
    · show maxI (if b > a then b else a) r ∈ _
      rcases List.mem_cons.mp h1 with h | h
      · rw [h]; split <;> simp
      · exact List.mem_cons_of_mem _ (List.mem_cons_of_mem _ h)
    · show y ≤ maxI (if b > a then b else a) r
      have h3 := h2 (if b > a then b else a) List.mem_cons_self
      rcases List.mem_cons.mp h with h | h
      · exact Int.le_trans (by subst h; split <;> omega) h3
      · rcases List.mem_cons.mp h with h | h
        · exact Int.le_trans (by subst h; split <;> omega) h3
        · exact h2 y (List.mem_cons_of_mem _ h)
theorem insI_perm (a : Int) : ∀ l : List Int, (insI a l).Perm (a :: l)
  | [] => .refl _
  | b :: r => by
    unfold insI
    split
    · exact .refl _
    · exact ((insI_perm a r).cons b).trans (.swap a b r)
theorem insI_sorted (a : Int) : ∀ {l : List Int}, l.Pairwise (· ≤ ·) → (insI a l).Pairwise (· ≤ ·)
  | [], _ => List.pairwise_singleton _ _
  | b :: r, h => by
    unfold insI
    have hb := List.pairwise_cons.mp h
    split
    · rename_i z
      exact List.pairwise_cons.mpr ⟨fun x hx => by
        rcases List.mem_cons.mp hx with e | hx
        · rw [e]; exact z
        · exact Int.le_trans z (hb.1 x hx), h⟩
    · rename_i z
      refine List.pairwise_cons.mpr ⟨fun x hx => ?_, insI_sorted a hb.2⟩
      rcases List.mem_cons.mp ((insI_perm a r).mem_iff.mp hx) with e | hx
      · rw [e]; omega
      · exact hb.1 x hx
theorem sortI_ok : ∀ l : List Int, (sortI l).Perm l ∧ (sortI l).Pairwise (· ≤ ·)
  | [] => ⟨.refl _, .nil⟩
  | a :: r => by
    obtain ⟨h1, h2⟩ := sortI_ok r
    exact ⟨(insI_perm a _).trans (h1.cons a), insI_sorted a h2⟩
theorem sorted_eq : ∀ {l m : List Int}, l.Perm m → l.Pairwise (· ≤ ·) → m.Pairwise (· ≤ ·) → l = m
  | [], m, h, _, _ => h.nil_eq
  | a :: l, [], h, _, _ => absurd h.length_eq (by simp)
  | a :: l, b :: m, h, h1, h2 => by
    have p1 := List.pairwise_cons.mp h1
    have p2 := List.pairwise_cons.mp h2
    have e : a = b := by
      have m1 : a ∈ b :: m := h.mem_iff.mp List.mem_cons_self
      have m2 : b ∈ a :: l := h.mem_iff.mpr List.mem_cons_self
      rcases List.mem_cons.mp m1 with e | m1
      · exact e
      · rcases List.mem_cons.mp m2 with e | m2
        · exact e.symm
        · exact Int.le_antisymm (p1.1 b m2) (p2.1 a m1)
    subst e
    rw [sorted_eq h.cons_inv p1.2 p2.2]
end
/-- what is called -/
def biV : Bi → Value
  | .len => .builtin "len" | .abs => .builtin "abs" | .int => .type "int" | .boolp => .type "bool" | .min1 => .builtin "min" | .max1 => .builtin "max" | .min2 => .builtin "min" | .max2 => .builtin "max"
  | .sum => .builtin "sum" | .any => .builtin "any" | .all => .builtin "all" | .list => .type "list" | .tuple => .type "tuple" | .sorted => .builtin "sorted" | .dict => .type "dict" | _ => .none
def rBi (T : Tab) (W : WX) (fr : Bool) (b : Bi) : List V → Hp → VK → Prop := fun xs H Q => ∃ e M F ρ m σ ds, SR T e M F ρ m σ H ∧ Rdvs T M F ρ σ ds xs ∧ Out T W e M F ρ σ ((R.of (biSem b ds)).bind fun d => .ok (d, m)) (Kf T fr e ρ σ Q)
section
variable {X : Cx} {W : WX} {k : Nat} {N : List Str} {sc : Scope}
theorem rd1 {M : List Addr} {F : Hp} {ρ : Env} {σ : L2.St} {a : D} {vs : List V} (h : Rdvs T M F ρ σ [a] vs) : ∃ v, vs = [v] ∧ Rdv T M F ρ σ a v := by
  obtain ⟨v, ws, e, h1, h2⟩ := h
  have e2 : ws = [] := h2
  subst e2
  exact ⟨v, e, h1⟩
theorem rd2 {M : List Addr} {F : Hp} {ρ : Env} {σ : L2.St} {a b : D} {vs : List V} (h : Rdvs T M F ρ σ [a, b] vs) : ∃ v w, vs = [v, w] ∧ Rdv T M F ρ σ a v ∧ Rdv T M F ρ σ b w := by
  obtain ⟨v, ws, e, h1, h2⟩ := h
  obtain ⟨w, e2, h3⟩ := rd1 h2
  subst e2
  exact ⟨v, w, e, h1, h3⟩
theorem bi_ok (C : CxOk T k N sc X) (fr : Bool) (b : Bi) (hb : biV b ≠ .none) : CallR X (biV b) (rBi T W fr b) := by
  intro pins s σ H xs us Q I r h
  obtain ⟨e, M, F, ρ, m, σ', ds, sr, rd, h⟩ := h
  obtain ⟨d, hd, h0⟩ := h.of
  clear h
  have h := h0
  clear h0
  have hl : (line : Nat) = sizeLine := by rw [sizeLine_eq]
  have val : ∀ v, isC d = false → Rep T M F d v → Q v H := fun v e1 r1 => by
    cases fr with
    | false => exact fin_val sr h r1
    | true => rw [(h M F H sr pfx Le.rfl').1] at e1; cases e1
  unfold biSem at hd
  split at hd
  · obtain ⟨v, rfl, rv⟩ := rd1 rd
    obtain ⟨a, vs, rfl, h1, _, r1⟩ := sr.rd_lst rv
    cases hd
    have e1 := r1.length
    exact call_len_seq pins s σ H _ us Q I r ⟨a, vs, rfl, .inl (C.hK ▸ h1), val _ rfl (by rw [e1]; exact rfl)⟩
  · obtain ⟨v, rfl, rv⟩ := rd1 rd
    obtain ⟨a, vs, rfl, h1, _, r1⟩ := sr.rd_tup rv
    cases hd
    have e1 := r1.length
    exact call_len_seq pins s σ H _ us Q I r ⟨a, vs, rfl, .inr (C.hK ▸ h1), val _ rfl (by rw [e1]; exact rfl)⟩
  · obtain ⟨v, rfl, rv⟩ := rd1 rd
    obtain rfl := rd_int sr rv
    cases hd
    exact call_abs pins s σ H _ us Q I r ⟨_, rfl, val _ rfl rfl⟩
  · obtain ⟨v, rfl, rv⟩ := rd1 rd
    obtain rfl := rd_int sr rv
    cases hd
    exact call_int1 pins s σ H _ us Q I r (.inl ⟨_, rfl, val _ rfl rfl⟩)
  · obtain ⟨v, rfl, rv⟩ := rd1 rd
    obtain rfl := rd_bl sr rv
    cases hd
    exact call_int1 pins s σ H _ us Q I r (.inr ⟨_, rfl, val _ rfl rfl⟩)
  · obtain ⟨v, rfl, rv⟩ := rd1 rd
    obtain rfl := rd_bl sr rv
    cases hd
    exact call_bool1 pins s σ H _ us Q I r (.inr ⟨_, rfl, val _ rfl rfl⟩)
  · obtain ⟨v, rfl, rv⟩ := rd1 rd
    obtain rfl := rd_int sr rv
    cases hd
    exact call_bool1 pins s σ H _ us Q I r (.inl ⟨_, rfl, val _ rfl rfl⟩)
  · obtain ⟨v, rfl, rv⟩ := rd1 rd
    obtain ⟨a, vs, rfl, h1, _, r1⟩ := sr.rd_lst rv
    split at hd
    · rename_i x y hi
      cases hd
      obtain ⟨q1, _⟩ := r1.ints hi
      subst q1
      refine cr_min C.calm pins s σ H _ us Q I r ⟨a, _, rfl, C.hK ▸ h1, by simp, fun z hz1 hz2 => ?_⟩
      obtain ⟨m1, m2⟩ := minI_ok x y
      have ez : z = minI x y := Int.le_antisymm (hz2 _ m1) (m2 z hz1)
      subst ez
      exact val _ rfl rfl
    · cases hd
  · obtain ⟨v, rfl, rv⟩ := rd1 rd
    obtain ⟨a, vs, rfl, h1, _, r1⟩ := sr.rd_lst rv
    split at hd
    · rename_i x y hi
      cases hd
      obtain ⟨q1, _⟩ := r1.ints hi
      subst q1
      refine cr_max C.calm pins s σ H _ us Q I r ⟨a, _, rfl, C.hK ▸ h1, by simp, fun z hz1 hz2 => ?_⟩
      obtain ⟨m1, m2⟩ := maxI_ok x y
      have ez : z = maxI x y := Int.le_antisymm (m2 z hz1) (hz2 _ m1)
      subst ez
      exact val _ rfl rfl
    · cases hd
  · obtain ⟨v, w, rfl, rv, rw'⟩ := rd2 rd
    obtain rfl := rd_int sr rv
    obtain rfl := rd_int sr rw'
    cases hd
    exact call_min2 C.calm pins s σ H _ us Q I r ⟨_, _, rfl, val _ rfl rfl⟩
  · obtain ⟨v, w, rfl, rv, rw'⟩ := rd2 rd
    obtain rfl := rd_int sr rv
    obtain rfl := rd_int sr rw'
    cases hd
    exact call_max2 C.calm pins s σ H _ us Q I r ⟨_, _, rfl, val _ rfl rfl⟩
  · obtain ⟨v, rfl, rv⟩ := rd1 rd
    obtain ⟨a, vs, rfl, h1, _, r1⟩ := sr.rd_lst rv
    obtain ⟨ns, hi, hd⟩ := Option.map_eq_some_iff.mp hd
    cases hd
    obtain ⟨q1, _⟩ := r1.ints hi
    subst q1
    exact cr_sum C.calm pins s σ H _ us Q I r ⟨a, _, rfl, C.hK ▸ h1, val _ rfl rfl⟩
  · obtain ⟨v, rfl, rv⟩ := rd1 rd
    obtain ⟨a, vs, rfl, h1, _, r1⟩ := sr.rd_lst rv
    obtain ⟨ns, hi, hd⟩ := Option.map_eq_some_iff.mp hd
    cases hd
    have q1 := r1.bools hi
    subst q1
    exact cr_any C.calm pins s σ H _ us Q I r ⟨a, _, rfl, C.hK ▸ h1, val _ rfl rfl⟩
  · obtain ⟨v, rfl, rv⟩ := rd1 rd
    obtain ⟨a, vs, rfl, h1, _, r1⟩ := sr.rd_lst rv
    obtain ⟨ns, hi, hd⟩ := Option.map_eq_some_iff.mp hd
    cases hd
    have q1 := r1.bools hi
    subst q1
    exact cr_all C.calm pins s σ H _ us Q I r ⟨a, _, rfl, C.hK ▸ h1, val _ rfl rfl⟩
  · obtain ⟨v, rfl, rv⟩ := rd1 rd
    obtain ⟨a, vs, rfl, h1, hz, r1⟩ := sr.rd_lst rv
    cases hd
    exact call_list_of pins s σ H _ us Q I r ⟨a, vs, rfl, .inl (C.hK ▸ h1), fun l hn => fin_lay sr h ⟨_, rfl, hz, r1⟩ hn⟩
  · obtain ⟨v, rfl, rv⟩ := rd1 rd
    obtain ⟨a, vs, rfl, h1, hz, r1⟩ := sr.rd_tup rv
    cases hd
    exact call_list_of pins s σ H _ us Q I r ⟨a, vs, rfl, .inr (C.hK ▸ h1), fun l hn => fin_lay sr h ⟨_, rfl, hz, r1⟩ hn⟩
  · obtain ⟨v, rfl, rv⟩ := rd1 rd
    obtain ⟨a, vs, rfl, h1, hz, r1⟩ := sr.rd_lst rv
    cases hd
    refine call_tuple_of pins s σ H _ us Q I r ⟨a, vs, rfl, .inl ⟨C.hK ▸ h1, fun l hn => ?_⟩⟩
    cases fr with
    | true => cases (h M F H sr pfx Le.rfl').1
    | false =>
      have s2 := sr.lay (o := .tup vs) hn
      have hf : Le F (upd F l (.tup vs)) := fun a u e1 => by
        by_cases z : a = l
        · subst z; rw [sr.le a u e1] at hn; cases hn
        · rw [upd_ne z]; exact e1
      exact h M _ _ s2 pfx hf _ ⟨l, vs, rfl, SqT.of upd_same, hz, r1.mono pfx hf⟩
  · obtain ⟨v, rfl, rv⟩ := rd1 rd
    have rv' := sr.rd_val rv fun _ z => z.elim
    obtain ⟨a, vs, rfl, h1, hz, r1⟩ := sr.rd_tup rv
    cases hd
    exact call_tuple_of pins s σ H _ us Q I r ⟨a, vs, rfl, .inr ⟨C.hK ▸ h1, val _ rfl rv'⟩⟩
  · obtain ⟨v, rfl, rv⟩ := rd1 rd
    obtain ⟨a, vs, rfl, h1, hz, r1⟩ := sr.rd_lst rv
    obtain ⟨ns, hi, hd⟩ := Option.map_eq_some_iff.mp hd
    cases hd
    obtain ⟨q1, q2⟩ := r1.ints hi
    subst q1 q2
    refine cr_sortedI pins s σ H _ us Q I r ⟨a, ns, rfl, C.hK ▸ h1, fun ns' p hp1 hp2 hn => ?_⟩
    obtain ⟨k1, k2⟩ := sortI_ok ns
    have e1 : ns' = sortI ns := sorted_eq (hp1.trans k1.symm) hp2 k2
    subst e1
    exact fin_lay sr h ⟨_, rfl, by rw [List.length_map, k1.length_eq, ← List.length_map (f := D.int)]; exact hz, Reps.of_ints _⟩ hn
  · exact absurd rfl hb
  · exact absurd rfl hb
  · obtain ⟨v, rfl, rv⟩ := rd1 rd
    obtain ⟨a, vs, rfl, h1, hz, r1⟩ := sr.rd_lst rv
    obtain ⟨ps, hi, hd⟩ := Option.map_eq_some_iff.mp hd
    cases hd
    have r2 := r1.mono pfx sr.le
    obtain ⟨as, kvs, p1, p2, p3, p4⟩ := dpairs_ok r1 hi
    subst p1
    refine call_dictP C.calm pins s σ H _ us Q I r ⟨a, as, kvs, rfl, C.hK ▸ h1, Paired.mapP p2 fun x y z => by rw [C.hK]; exact SqT.le z sr.le, fun p hn => ?_⟩
    obtain ⟨w1, w2⟩ := dputs_ok (kvs := []) (ds := []) p3 p4 Reps.nil
    exact fin_lay sr h ⟨_, rfl, w1, w2⟩ hn
  · cases hd
end
end Z
end
section
set_option Elab.async false
set_option linter.all false
set_option maxRecDepth 100000
set_option maxHeartbeats 4000000
set_option autoImplicit false
/-! Z: forms of the text; expressions, one by one. -/
namespace Z
open PySem PySem.Spec PyProof.Rows L2
variable {T : Tab}
/-! ### forms -/
def isStar : Expr → Bool
  | .Starred _ _ => true
  | _ => false
def noSup : Expr → Bool
  | .Call (.Name _ _) [] [] _ => false
  | _ => true
def noSlice : Expr → Bool
  | .Slice _ _ _ _ => false
  | _ => true
def noSet : Expr → Bool
  | .Set _ _ _ => false
  | _ => true
def noComp : Expr → Bool
  | .ListComp _ _ _ _ => false
  | .SetComp _ _ _ _ => false
  | .DictComp _ _ _ _ _ => false
  | _ => true
theorem star_cons {e : Expr} {es : List Expr} {env : PySem.Env} (h : isStar e = false) : starEach (e :: es) env = (false, eval e env) :: starEach es env := by
  cases e <;> first | rfl | cases h
theorem star_none {es : List Expr} {env : PySem.Env} {pos : Pos} (h : es.all (fun e => !isStar e) = true) : (backTo pos (starEach es env)).any (·.1) = false := by
  induction es with
  | nil => rfl
  | cons e es ih =>
    simp only [List.all_cons, Bool.and_eq_true, Bool.not_eq_true'] at h
    rw [star_cons h.1]
    show (false || (backTo pos (starEach es env)).any (·.1)) = false
    rw [ih h.2]
    rfl
theorem attrBase_ok {o : Expr} {f : Str} {env : PySem.Env} {w : Sem Value} (h : noSup o = true) : attributeBase o f env w = w := by
  unfold attributeBase
  split
  · cases h
  · rfl
theorem plainIx_ok {b : Expr} (h : noSlice b = true) : PlainIx b := fun o i => by
  unfold subscripted
  cases b <;> first | rfl | cases h
theorem nomark_ok {b : Expr} {op : CmpOp} (h : noSet b = true) : behindInMarks op b = false := by
  cases b <;> first | rfl | cases h
theorem swap_ok {v : Expr} {t : Option Expr} {l : Nat} {env : PySem.Env} (h : noComp v = true) : swapsWith v t l env = pure false := by
  unfold swapsWith
  cases v <;> first | rfl | cases h
theorem fold_ok {it : Expr} {env : PySem.Env} {x : Value} (h : noSet it = true) : foldedSetIterable it env x = pure x := by
  unfold foldedSetIterable
  cases it <;> first | rfl | cases h
theorem call_line {o : Expr} {m : Str} {apos pos : Pos} {args : List Expr} {env : PySem.Env} (ho : noSup o = true) (hl : (apos.endLine == pos.line) = true) (hs : args.all (fun e => !isStar e) = true) (hn : args.length < 30) :
    eval (.Call (.Attribute o m apos) args [] pos) env = (do
      let ov ← eval o env
      standAt apos.atName
      let (f, first) ← holding [ov] (getMethod ov m (do return (← importBound o env).getD true))
      callWith pos f first (backTo pos (starEach args env)) (backToKw pos (keywordEach [] env))) := by
  rw [arm_eval_Call, attrBase_ok ho]
  have q : (backTo pos (starEach args env)).all (fun x => !x.1) = true := by
    have q := star_none (env := env) (pos := pos) hs
    rw [← Bool.not_eq_true] at q
    simp only [List.any_eq_true, not_exists, not_and, Bool.not_eq_true] at q
    simp only [List.all_eq_true, Bool.not_eq_true']
    exact fun x hx => q x hx
  have hform : methodCallForm (args.length + ([] : List Keyword).length) (backTo pos (starEach args env)) (backToKw pos (keywordEach [] env)) = true := by
    have ek : backToKw pos (keywordEach [] env) = [] := rfl
    have z : (List.nil : List (Option Str × Sem Value)).isEmpty = true := rfl
    unfold methodCallForm
    rw [q, ek, z, if_pos rfl]
    simp [hn]
  have hpos : methodCallPos true o env apos pos = pure pos := by unfold methodCallPos; simp [hl]
  unfold methodCall
  rw [hform, hpos]
  rfl
/-! ### names -/
def visB (sc : Scope) (x : Str) : Bool := match sc.names.lookup x with
  | some .local => true
  | some .cell => true
  | some .free => true
  | _ => false
def locB (sc : Scope) (x : Str) : Bool := match sc.names.lookup x with
  | some .local => true
  | some .cell => true
  | _ => false
def glB (sc : Scope) (x : Str) : Bool := match sc.names.lookup x with
  | some .globalImplicit => true
  | _ => false
def noDbg (x : Str) : Bool := !(x == ("__debug__" : Str))
def noCd (x : Str) : Bool := !(x == ("__classdict__" : Str))
theorem visB_ok {sc : Scope} {x : Str} (h : visB sc x = true) : Vis sc x := by
  unfold visB at h
  unfold Vis
  split at h
  · exact .inl (by assumption)
  · exact .inr (.inl (by assumption))
  · exact .inr (.inr (by assumption))
  · cases h
theorem locB_ok {sc : Scope} {x : Str} (h : locB sc x = true) : L2.Loc sc x := by
  unfold locB at h
  unfold L2.Loc
  split at h
  · exact .inl (by assumption)
  · exact .inr (by assumption)
  · cases h
section
variable {X : Cx} {W : WX} {k : Nat} {N : List Str} {sc : Scope} {fr : Bool}
theorem glB_ok (C : CxB T N sc X) {x : Str} (h : glB sc x = true) : Gl X x := by
  unfold glB at h
  unfold Gl
  show X.env.scope.names.lookup x = _
  rw [C.hsc]
  split at h
  · assumption
  · cases h
theorem not_of {b : Bool} (h : (!b) = true) : b = false := by cases b <;> first | rfl | cases h
theorem pe_zvar (C : CxB T N sc X) {i : Nat} {x : Str} {pos : Pos} (hi : N[i]? = some x) (hv : visB sc x = true) (hd : noDbg x = true) (hcd : noCd x = true) : PE X (.Name x pos) (tE T W false (.var i)) := by
  have hv' := visB_ok hv
  rw [← C.hsc] at hv'
  refine (pe_var (by rw [C.hN]; exact hi) hv' (not_of hd) (not_of hcd)).imp fun σ H Q ⟨e, M, F, ρ, m, s, h⟩ => ?_
  obtain ⟨d, hd, h⟩ := Out.of (show Out T W e M F ρ σ ((R.of (getV ρ i)).bind fun d => .ok (d, m)) _ from h)
  obtain ⟨v, e1, r⟩ := s.va hd
  exact ⟨v, e1, fin_val s h r⟩
theorem pe_zvarR (C : CxB T N sc X) {i : Nat} {x : Str} {pos : Pos} (hi : N[i]? = some x) (hv : visB sc x = true) (hd : noDbg x = true) (hcd : noCd x = true) : PE X (.Name x pos) (tR T W (.var i)) := by
  have hv' := visB_ok hv
  rw [← C.hsc] at hv'
  refine (pe_var (by rw [C.hN]; exact hi) hv' (not_of hd) (not_of hcd)).imp fun σ H Q ⟨e, M, F, ρ, m, s, h⟩ => ?_
  obtain ⟨d, hd, h⟩ := Out.of (show Out T W e M F ρ σ ((R.of (getR ρ i)).bind fun d => .ok (d, m)) _ from h)
  have key : ∃ v, σ[i]? = some (some v) ∧ Rdv T M F ρ σ d v := by
    unfold getR at hd
    cases r : slotAt ρ i with
    | va y =>
      rw [r] at hd; cases hd
      obtain ⟨v, e1, r1⟩ := s.sl i _ (slotAt_some r (by simp))
      exact ⟨v, e1, .inl r1⟩
    | ow y =>
      rw [r] at hd; cases hd
      have hi := slotAt_some r (by simp)
      obtain ⟨a, o, e1, _⟩ := s.sl i _ hi
      exact ⟨_, e1, .inr ⟨i, .inl hi, e1⟩⟩
    | ro y =>
      rw [r] at hd; cases hd
      have hi := slotAt_some r (by simp)
      obtain ⟨a, o, e1, _⟩ := s.sl i _ hi
      exact ⟨_, e1, .inr ⟨i, .inr hi, e1⟩⟩
    | _ => rw [r] at hd; cases hd
  obtain ⟨v, e1, r⟩ := key
  exact ⟨v, e1, h M F H s pfx Le.rfl' v r⟩
theorem pe_zcon {d : D} {v : V} {x : Expr} (h : PE X x (tC v)) (hr : ∀ M F, Rep T M F d v) : PE X x (tE T W false (.con d)) := h.imp fun σ H Q ⟨e, M, F, ρ, m, s, h⟩ => fin_val s h (hr M F)
/-- a module's constant -/
def GloF (T : Tab) (x : Str) (d : D) : Prop := ∃ u v, T.mg x = some u ∧ RelV v u ∧ ∀ M F, Rep T M F d v
theorem pe_zglo (C : CxB T N sc X) {x : Str} {d : D} {pos : Pos} (hg : glB sc x = true) (f : GloF T x d) (hd : noDbg x = true) : PE X (.Name x pos) (tE T W false (.glo x d)) := by
  obtain ⟨u, v, h1, h2, h3⟩ := f
  exact (pe_glob (glB_ok C hg) (by rw [C.hmg]; exact h1) h2 (not_of hd)).imp fun σ H Q ⟨e, M, F, ρ, m, s, h⟩ => fin_val s h (h3 M F)
/-! ### argument lists -/
theorem pa_znil : PA X [] (tA T W .nil) := pa_nil.imp fun σ H Q ⟨e, M, F, ρ, m, s, h⟩ => h M F H s pfx Le.rfl' [] Reps.nil
theorem pa_zcons {x : Expr} {xs : List Expr} {a : Ex} {as : Exs} (h1 : PE X x (tE T W false a)) (h2 : PA X xs (tA T W as)) (hs : isStar x = false) : PA X (x :: xs) (tA T W (.cons a as)) := by
  refine (pa_cons h1 h2 (star_cons hs)).imp fun σ H Q ⟨e, M, F, ρ, m, s, h⟩ => ?_
  refine ⟨e, M, F, ρ, m, s, (Out.bind h).imp fun d m1 M1 F1 H1 s1 _ _ h1 v r => ?_⟩
  refine ⟨e, M1, F1, ρ, m1, s1, (Out.bind h1).imp fun ds m2 M2 F2 H2 s2 l1 l2 h2 vs rs => ?_⟩
  exact h2 M2 F2 H2 s2 pfx Le.rfl' (v :: vs) (Reps.cons (r.mono l1 l2) rs)
theorem pb_znil : PA X [] (tB T W .nil) := pa_nil.imp fun σ H Q ⟨e, M, F, ρ, m, s, h⟩ => h M F H s pfx Le.rfl' [] rfl
theorem pb_zcons {x : Expr} {xs : List Expr} {a : Ex} {as : Exs} (h1 : PE X x (tR T W a)) (h2 : PA X xs (tB T W as)) (hs : isStar x = false) : PA X (x :: xs) (tB T W (.cons a as)) := by
  refine (pa_cons h1 h2 (star_cons hs)).imp fun σ H Q ⟨e, M, F, ρ, m, s, h⟩ => ?_
  refine ⟨e, M, F, ρ, m, s, (Out.bind h).imp fun d m1 M1 F1 H1 s1 _ _ h1 v r => ?_⟩
  refine ⟨e, M1, F1, ρ, m1, s1, (Out.bind h1).imp fun ds m2 M2 F2 H2 s2 l1 l2 h2 vs rs => ?_⟩
  exact h2 M2 F2 H2 s2 pfx Le.rfl' (v :: vs) ⟨v, vs, rfl, r.mono l1 l2, rs⟩
/-- *xs, a list or a tuple -/
theorem star_list {pins : List (Addr × Obj)} {s : Shared} {σ : L2.St} {H : Hp} {a : Addr} {xs : List V} {Q : List Value → Shared → Prop} {E : Value → Shared → Prop} (I : Inv X pins σ H s) (h : SqL X.K H a xs) (hq : ∀ us s', Inv X pins σ H s' → Vals xs us → Q us s') :
    PySem.W.StarOf (model X.prog X.w) X.A E (.ref a) Q s := by
  obtain ⟨its, r, hl, hz⟩ := I.list h
  obtain ⟨o, n, ho, hc, _, hd⟩ := hl
  have hT : s.TypeIs (.ref a) "list" := ⟨o, ho, hc⟩
  have hz' : its.toArray.size ≤ sizeLine := by have := r.length; simp; omega
  have z : wpAny (model X.prog X.w) X.A (collect (.ref a)) Q E s := by
    refine wpAny_collect_seq a (.inl rfl) ho hc hd (fun h' hk => ?_) hz'
    have e : its.toArray.toList = its := by simp
    rw [e]
    exact hq its _ (I.kept (t' := s.toks) hk) r
  unfold PySem.W.StarOf notIterableAtAll
  exact wpAny_bind (wpAny_specialOf hT PySem.F.slot_list_iter.lookup (wpAny_pure ⟨rfl, z⟩))
theorem star_tup {pins : List (Addr × Obj)} {s : Shared} {σ : L2.St} {H : Hp} {a : Addr} {xs : List V} {Q : List Value → Shared → Prop} {E : Value → Shared → Prop} (I : Inv X pins σ H s) (h : SqT X.K H a xs) (hq : ∀ us s', Inv X pins σ H s' → Vals xs us → Q us s') :
    PySem.W.StarOf (model X.prog X.w) X.A E (.ref a) Q s := by
  obtain ⟨its, r, hl, hz⟩ := I.tuple h
  obtain ⟨o, ho, hc, n, hd⟩ := hl
  have hT : s.TypeIs (.ref a) "tuple" := ⟨o, ho, hc⟩
  have hz' : its.toArray.size ≤ sizeLine := by have := r.length; simp; omega
  have z : wpAny (model X.prog X.w) X.A (collect (.ref a)) Q E s := by
    refine wpAny_collect_seq a (.inr rfl) ho hc hd (fun h' hk => ?_) hz'
    have e : its.toArray.toList = its := by simp
    rw [e]
    exact hq its _ (I.kept (t' := s.toks) hk) r
  unfold PySem.W.StarOf notIterableAtAll
  exact wpAny_bind (wpAny_specialOf hT PySem.F.slot_tuple_iter.lookup (wpAny_pure ⟨rfl, z⟩))
theorem pa_zstar (C : CxB T N sc X) {x : Expr} {p : Pos} {xs : List Expr} {a : Ex} {as : Exs} (h1 : PE X x (tR T W a)) (h2 : PA X xs (tA T W as)) : PA X (.Starred x p :: xs) (tA T W (.star a as)) := by
  refine ⟨fun pos pins s σ H Q I ⟨e, M, F, ρ, m, sr, h⟩ => ?_⟩
  refine PySem.W.items_star (thn (h1.run pins s σ H (fun v H1 => ∃ (es : List V) (a : Addr) (M1 : List Addr) (F1 : Hp) (m1 : Mu) (ds : List D), v = .ref a ∧ (SqL T.K H1 a es ∨ SqT T.K H1 a es) ∧ Reps T M1 F1 ds es ∧ SR T e M1 F1 ρ m1 σ H1 ∧
    Out T W e M1 F1 ρ σ ((evs as ρ m1).bind fun q => .ok (ds ++ q.1, q.2)) (fun ds _ M' F' H' => ∀ vs, Reps T M' F' ds vs → Q vs H')) I ⟨e, M, F, ρ, m, sr, (Out.bind h).imp fun d m1 M1 F1 H1 s1 _ _ h1 v r => ?_⟩) fun v s1 ⟨y, H1, I1, r1, es, a, M1, F1, m1, ds, hv, hq, rs, sr1, h1⟩ => ?_)
  · cases d with
    | lst ds =>
      obtain ⟨a, vs, e1, q1, _, q3⟩ := s1.rd_lst r
      exact ⟨vs, a, M1, F1, m1, ds, e1, .inl q1, q3, s1, h1⟩
    | tup ds =>
      obtain ⟨a, vs, e1, q1, _, q3⟩ := s1.rd_tup r
      exact ⟨vs, a, M1, F1, m1, ds, e1, .inr q1, q3, s1, h1⟩
    | _ => exact h1.elim
  · subst hv
    obtain rfl : v = Value.ref a := r1
    have tail : ∀ us s', Inv X pins σ H1 s' → Vals es us → wpAny (model X.prog X.w) X.A (spliced (backTo pos (starEach xs X.env))) (fun vs s₃ => AP X pins σ Q (us ++ vs) s₃) X.xe s' := fun us s' I' r' => by
      refine thn (h2.run pos pins s' σ H1 (fun vs H2 => Q (es ++ vs) H2) I' ⟨e, M1, F1, ρ, m1, sr1, (Out.bind h1).imp fun ds2 m2 M2 F2 H2 s2 l1 l2 h2 vs rs2 => ?_⟩) fun us2 s2 ⟨vs2, H2, I2, r2, q2⟩ => ⟨es ++ vs2, H2, I2, r'.append r2, q2⟩
      exact h2 M2 F2 H2 s2 pfx Le.rfl' (es ++ vs) ((rs.mono l1 l2).append rs2)
    rcases hq with hq | hq
    · exact star_list I1 (C.hK ▸ hq) tail
    · exact star_tup I1 (C.hK ▸ hq) tail
/-! ### displays -/
theorem pe_ztup {xs : List Expr} {as : Exs} {n : Nat} {pos : Pos} (h : PA X xs (tA T W as)) : PE X (.Tuple xs n pos) (tE T W false (.tup as)) := by
  refine (pe_tup h).imp fun σ H Q ⟨e, M, F, ρ, m, s, h⟩ => ?_
  refine ⟨e, M, F, ρ, m, s, (Out.bind h).imp fun ds m1 M1 F1 H1 s1 _ _ h1 vs rs => ?_⟩
  dsimp only at h1
  split at h1
  · rename_i hz
    refine ⟨by rw [← rs.length, sizeLine_eq]; exact hz, fun p hp => ?_⟩
    have s2 := s1.lay (o := .tup vs) hp
    have hf : Le F1 (upd F1 p (.tup vs)) := fun a u e1 => by
      by_cases z : a = p
      · subst z; rw [s1.le a u e1] at hp; cases hp
      · rw [upd_ne z]; exact e1
    exact h1 M1 _ _ s2 pfx hf _ ⟨p, vs, rfl, SqT.of upd_same, hz, rs.mono pfx hf⟩
  · exact h1.elim
theorem pe_zlst {xs : List Expr} {as : Exs} {pos : Pos} (h : PA X xs (tA T W as)) : PE X (.List xs pos) (tE T W fr (.lst as)) := by
  refine (pe_lst h).imp fun σ H Q ⟨e, M, F, ρ, m, s, h⟩ => ?_
  refine ⟨e, M, F, ρ, m, s, (Out.bind h).imp fun ds m1 M1 F1 H1 s1 _ _ h1 vs rs => ?_⟩
  dsimp only at h1
  split at h1
  · rename_i hz
    exact ⟨by rw [← rs.length, sizeLine_eq]; exact hz, fun p hp => fin_lay s1 h1 ⟨_, rfl, hz, rs⟩ hp⟩
  · exact h1.elim
/-! ### operators -/
theorem pe_zbin (C : CxB T N sc X) {l r : Expr} {a b : Ex} {op : BO} {pos : Pos} (h1 : PE X l (tR T W a)) (h2 : PE X r (tR T W b)) : PE X (.BinOp l (boE op) r pos) (tE T W fr (.bin op a b)) := by
  refine (pe_op (bo_ok (W := W) C fr op) h1 h2).imp fun σ H Q ⟨e, M, F, ρ, m, s, h⟩ => ?_
  refine ⟨e, M, F, ρ, m, s, (Out.bind h).imp fun d m1 M1 F1 H1 s1 _ _ h1 v r => ?_⟩
  refine ⟨e, M1, F1, ρ, m1, s1, (Out.bind h1).imp fun d2 m2 M2 F2 H2 s2 l1 l2 h2 v2 r2 => ?_⟩
  exact ⟨e, M2, F2, ρ, m2, σ, d, d2, s2, r.mono l1 l2, r2, h2⟩
theorem pe_zneg {l : Expr} {a : Ex} {pos : Pos} (h1 : PE X l (tE T W false a)) : PE X (.UnaryOp .USub l pos) (tE T W false (.neg a)) := by
  refine (pe_un un_neg h1).imp fun σ H Q ⟨e, M, F, ρ, m, s, h⟩ => ?_
  refine ⟨e, M, F, ρ, m, s, (Out.bind h).imp fun d m1 M1 F1 H1 s1 _ _ h1 v r => ?_⟩
  cases d with
  | int i =>
    obtain rfl : v = .int i := r
    exact ⟨i, rfl, fin_val s1 h1 rfl⟩
  | _ => exact h1.elim
theorem Out.cmp {e : En} {M : List Addr} {F : Hp} {ρ : Env} {m : Mu} {σ : L2.St} {op : CO} {a b : D} {K : D → Mu → List Addr → Hp → Hp → Prop} (h : Out T W e M F ρ σ (cmpR op m a b) K) : ∃ c, coSem op a b = some c ∧ Out T W e M F ρ σ (.ok (D.bl c, m)) K := by
  unfold cmpR at h
  exact h.of
theorem pe_zcmp (C : CxB T N sc X) {l r : Expr} {a b : Ex} {op : CO} {pos : Pos} (h1 : PE X l (tR T W a)) (h2 : PE X r (tR T W b)) (hs : noSet r = true) : PE X (.Compare l [coE op] [r] pos) (tE T W false (.cmp op a b)) := by
  refine (pe_cmpR (co_ok C op) h1 h2 (nomark_ok hs)).imp fun σ H Q ⟨e, M, F, ρ, m, s, h⟩ => ?_
  refine ⟨e, M, F, ρ, m, s, (Out.bind h).imp fun d m1 M1 F1 H1 s1 _ _ h1 v r => ?_⟩
  refine ⟨e, M1, F1, ρ, m1, s1, (Out.bind h1).imp fun d2 m2 M2 F2 H2 s2 l1 l2 h2 v2 r2 => ?_⟩
  obtain ⟨c, hc, h2⟩ := Out.cmp h2
  exact ⟨e, M2, F2, ρ, m2, σ, d, d2, c, s2, r.mono l1 l2, r2, hc, fin_val s2 h2 rfl⟩
theorem pt_zcmp (C : CxB T N sc X) {l r : Expr} {a b : Ex} {op : CO} {pos : Pos} (h1 : PE X l (tR T W a)) (h2 : PE X r (tR T W b)) (hs : noSet r = true) : PT X (.Compare l [coE op] [r] pos) (tT T W (.cmp op a b)) := by
  refine (pt_cmpR (co_ok C op) h1 h2 (nomark_ok hs)).imp fun σ H Q ⟨e, M, F, ρ, m, s, h⟩ => ?_
  refine ⟨e, M, F, ρ, m, s, (Out.bind (Out.bind h)).imp fun d m1 M1 F1 H1 s1 _ _ h1 v r => ?_⟩
  refine ⟨e, M1, F1, ρ, m1, s1, (Out.bind h1).imp fun d2 m2 M2 F2 H2 s2 l1 l2 h2 v2 r2 => ?_⟩
  obtain ⟨c, hc, h2⟩ := Out.cmp h2
  refine ⟨e, M2, F2, ρ, m2, σ, d, d2, c, s2, r.mono l1 l2, r2, hc, c, rfl, ?_⟩
  have h3 := h2 M2 F2 H2 s2 pfx Le.rfl'
  exact h3 M2 F2 H2 s2 pfx Le.rfl'
/-- a < b < c -/
theorem chain_r {e : En} {M : List Addr} {F : Hp} {ρ : Env} {m : Mu} {σ : L2.St} {H : Hp} {a b d : Ex} {o1 o2 : CO} {Q : VK} (s : SR T e M F ρ m σ H)
    (h : Out T W e M F ρ σ (ev (.cmp2 o1 o2 a b d) ρ m) (Kf T false e ρ σ Q)) : tChain (rCo T o1) (rCo T o2) (tE T W false a) (tE T W false b) (tE T W false d) σ H Q := by
  refine ⟨e, M, F, ρ, m, s, (Out.bind h).imp fun x m1 M1 F1 H1 s1 _ _ h1 v r => ?_⟩
  refine ⟨e, M1, F1, ρ, m1, s1, (Out.bind h1).imp fun x2 m2 M2 F2 H2 s2 l1 l2 h2 v2 r2 => ?_⟩
  obtain ⟨c, hc, h3⟩ := h2.of
  refine ⟨e, M2, F2, ρ, m2, σ, x, x2, c, s2, .inl (r.mono l1 l2), .inl r2, hc, c, rfl, ?_⟩
  cases c with
  | false => exact fin_val s2 h3 rfl
  | true =>
    refine ⟨e, M2, F2, ρ, m2, s2, (Out.bind h3).imp fun x3 m3 M3 F3 H3 s3 l3 l4 h4 v3 r3 => ?_⟩
    obtain ⟨c2, hc2, h5⟩ := Out.cmp h4
    exact ⟨e, M3, F3, ρ, m3, σ, x2, x3, c2, s3, .inl (r2.mono l3 l4), .inl r3, hc2, fin_val s3 h5 rfl⟩
theorem pe_zcmp2 (C : CxB T N sc X) {l c r : Expr} {a b d : Ex} {o1 o2 : CO} {pos : Pos} (h1 : PE X l (tE T W false a)) (h2 : PE X c (tE T W false b)) (h3 : PE X r (tE T W false d)) (hs2 : noSet r = true) :
    PE X (.Compare l [coE o1, coE o2] [c, r] pos) (tE T W false (.cmp2 o1 o2 a b d)) :=
  (pe_chain (co_ok C o1) (co_ok C o2) h1 h2 h3 (show behindInMarks _ r = false from nomark_ok hs2)).imp fun σ H Q ⟨e, M, F, ρ, m, s, h⟩ => chain_r s h
/-- a test out of a value's answer -/
theorem tst_K {e : En} {M : List Addr} {F : Hp} {ρ : Env} {m : Mu} {σ : L2.St} {x : Ex} {Q : Bool → Hp → Prop} (h : Out T W e M F ρ σ (evT x ρ m) fun k _ _ _ H' => Q k H') :
    Out T W e M F ρ σ (ev x ρ m) (Kf T false e ρ σ fun v H' => ∃ k, v = .bl k ∧ Q k H') := by
  refine (Out.bind h).imp fun d m1 M1 F1 H1 s1 _ _ h1 v r => ?_
  obtain ⟨k, hk, h2⟩ := h1.of
  cases d with
  | bl y =>
    have ek : y = k := Option.some.inj hk
    have ev' : v = .bl y := r
    rw [ev', ek]
    exact ⟨k, rfl, h2 M1 F1 H1 s1 pfx Le.rfl'⟩
  | _ => cases hk
theorem pt_zcmp2 (C : CxB T N sc X) {l c r : Expr} {a b d : Ex} {o1 o2 : CO} {pos : Pos} (h1 : PE X l (tE T W false a)) (h2 : PE X c (tE T W false b)) (h3 : PE X r (tE T W false d)) (hs2 : noSet r = true) :
    PT X (.Compare l [coE o1, coE o2] [c, r] pos) (tT T W (.cmp2 o1 o2 a b d)) :=
  (pt_chain (co_ok C o1) (co_ok C o2) h1 h2 h3 (show behindInMarks _ r = false from nomark_ok hs2)).imp fun σ H Q ⟨e, M, F, ρ, m, s, h⟩ => chain_r s (tst_K h)
/-- an expression as a test -/
def plainT : Expr → Bool
  | .UnaryOp .Not _ _ => false
  | .BoolOp _ _ _ => false
  | .IfExp _ _ _ _ => false
  | .Compare _ _ _ _ => false
  | _ => true
theorem plainT_ok {e : Expr} {env : PySem.Env} (h : plainT e = true) (whole : Sem Value) : isTrue e env whole = (do let v ← whole; standAt e.pos; holding [v] (truthy v)) := by
  cases e with
  | UnaryOp op x p => cases op <;> first | rfl | cases h
  | BoolOp op x p => cases h
  | IfExp a b c p => cases h
  | Compare a b c p => cases h
  | _ => rfl
theorem pt_zval {x : Expr} {a : Ex} (h : PE X x (tE T W false a)) (hp : plainT x = true) : PT X x (tT T W a) :=
  (pt_val h (plainT_ok hp)).imp fun σ H Q ⟨e, M, F, ρ, m, s, h⟩ => ⟨e, M, F, ρ, m, s, tst_K h⟩
/-! ### and, or, not, if -/
theorem pe_zand1 {x : Expr} {a : Ex} {op : BoolOp} {pos : Pos} (h : PE X x (tE T W false a)) : PE X (.BoolOp op [x] pos) (tE T W false a) := pe_one h
theorem pe_zand {x y : Expr} {zs : List Expr} {a b : Ex} {pos : Pos} (h1 : PE X x (tE T W false a)) (h2 : PE X (.BoolOp .And (y :: zs) pos) (tE T W false b)) : PE X (.BoolOp .And (x :: y :: zs) pos) (tE T W false (.and a b)) :=
  (pe_and h1 h2).imp fun σ H Q ⟨e, M, F, ρ, m, s, h⟩ => by
    refine ⟨e, M, F, ρ, m, s, (Out.bind h).imp fun d m1 M1 F1 H1 s1 _ _ h1 v r => ?_⟩
    cases d with
    | bl c =>
      obtain rfl : v = .bl c := r
      refine ⟨c, rfl, ?_⟩
      cases c with
      | true => exact ⟨e, M1, F1, ρ, m1, s1, h1⟩
      | false => exact fin_val s1 h1 rfl
    | _ => exact h1.elim
theorem pe_zor {x y : Expr} {zs : List Expr} {a b : Ex} {pos : Pos} (h1 : PE X x (tE T W false a)) (h2 : PE X (.BoolOp .Or (y :: zs) pos) (tE T W false b)) : PE X (.BoolOp .Or (x :: y :: zs) pos) (tE T W false (.or a b)) :=
  (pe_or h1 h2).imp fun σ H Q ⟨e, M, F, ρ, m, s, h⟩ => by
    refine ⟨e, M, F, ρ, m, s, (Out.bind h).imp fun d m1 M1 F1 H1 s1 _ _ h1 v r => ?_⟩
    cases d with
    | bl c =>
      obtain rfl : v = .bl c := r
      refine ⟨c, rfl, ?_⟩
      cases c with
      | false => exact ⟨e, M1, F1, ρ, m1, s1, h1⟩
      | true => exact fin_val s1 h1 rfl
    | _ => exact h1.elim
theorem pw_zand1 {x : Expr} {a : Ex} {pos : Pos} (h : PT X x (tT T W a)) : PW X (.BoolOp .And [x] pos) (tT T W a) := pw_and1 h
theorem pw_zor1 {x : Expr} {a : Ex} {pos : Pos} (h : PT X x (tT T W a)) : PW X (.BoolOp .Or [x] pos) (tT T W a) := pw_or1 h
theorem tst_and (a b : Ex) (ρ : Env) (m : Mu) : evT (.and a b) ρ m = (evT a ρ m).bind fun p => match p.1 with | true => evT b ρ p.2 | false => .ok (false, p.2) := by
  show tst ((ev a ρ m).bind _) = (tst (ev a ρ m)).bind _
  cases ev a ρ m with
  | bad => rfl
  | ex c fs m' => rfl
  | ok p =>
    obtain ⟨d, m1⟩ := p
    cases d with
    | bl c => cases c <;> rfl
    | _ => rfl
theorem tst_or (a b : Ex) (ρ : Env) (m : Mu) : evT (.or a b) ρ m = (evT a ρ m).bind fun p => match p.1 with | true => .ok (true, p.2) | false => evT b ρ p.2 := by
  show tst ((ev a ρ m).bind _) = (tst (ev a ρ m)).bind _
  cases ev a ρ m with
  | bad => rfl
  | ex c fs m' => rfl
  | ok p =>
    obtain ⟨d, m1⟩ := p
    cases d with
    | bl c => cases c <;> rfl
    | _ => rfl
theorem tst_not (a : Ex) (ρ : Env) (m : Mu) : evT (.not a) ρ m = (evT a ρ m).bind fun p => .ok (!p.1, p.2) := by
  show tst ((tst (ev a ρ m)).bind _) = (tst (ev a ρ m)).bind _
  cases tst (ev a ρ m) with
  | bad => rfl
  | ex c fs m' => rfl
  | ok p => rfl
theorem pw_zand {x y : Expr} {zs : List Expr} {a b : Ex} {pos : Pos} (h1 : PT X x (tT T W a)) (h2 : PW X (.BoolOp .And (y :: zs) pos) (tT T W b)) : PW X (.BoolOp .And (x :: y :: zs) pos) (tT T W (.and a b)) :=
  (pw_and h1 h2).imp fun σ H Q ⟨e, M, F, ρ, m, s, h⟩ => by
    rw [tst_and] at h
    refine ⟨e, M, F, ρ, m, s, (Out.bind h).imp fun c m1 M1 F1 H1 s1 _ _ h1 => ?_⟩
    cases c with
    | true => exact ⟨e, M1, F1, ρ, m1, s1, h1⟩
    | false => exact h1 M1 F1 H1 s1 pfx Le.rfl'
theorem pw_zor {x y : Expr} {zs : List Expr} {a b : Ex} {pos : Pos} (h1 : PT X x (tT T W a)) (h2 : PW X (.BoolOp .Or (y :: zs) pos) (tT T W b)) : PW X (.BoolOp .Or (x :: y :: zs) pos) (tT T W (.or a b)) :=
  (pw_or h1 h2).imp fun σ H Q ⟨e, M, F, ρ, m, s, h⟩ => by
    rw [tst_or] at h
    refine ⟨e, M, F, ρ, m, s, (Out.bind h).imp fun c m1 M1 F1 H1 s1 _ _ h1 => ?_⟩
    cases c with
    | false => exact ⟨e, M1, F1, ρ, m1, s1, h1⟩
    | true => exact h1 M1 F1 H1 s1 pfx Le.rfl'
theorem pt_znot {x : Expr} {a : Ex} {pos : Pos} (h : PT X x (tT T W a)) : PT X (.UnaryOp .Not x pos) (tT T W (.not a)) :=
  (pt_not h).imp fun σ H Q ⟨e, M, F, ρ, m, s, h⟩ => by
    rw [tst_not] at h
    exact ⟨e, M, F, ρ, m, s, (Out.bind h).imp fun c m1 M1 F1 H1 s1 _ _ h1 => h1 M1 F1 H1 s1 pfx Le.rfl'⟩
theorem pe_znot {x : Expr} {a : Ex} {pos : Pos} (h : PE X x (tE T W false a)) : PE X (.UnaryOp .Not x pos) (tE T W false (.not a)) :=
  (pe_not h).imp fun σ H Q ⟨e, M, F, ρ, m, s, h⟩ => by
    refine ⟨e, M, F, ρ, m, s, (Out.bind (Out.bind (show Out T W e M F ρ σ (((ev a ρ m).bind fun p => (R.of (truth p.1)).bind fun k => .ok (k, p.2)).bind fun p => .ok (D.bl (!p.1), p.2)) (Kf T false e ρ σ Q) from h))).imp fun d m1 M1 F1 H1 s1 _ _ h1 v r => ?_⟩
    obtain ⟨k, hk, h2⟩ := h1.of
    cases d with
    | bl y =>
      have ek : y = k := Option.some.inj hk
      subst ek
      obtain rfl : v = .bl y := r
      have h3 := h2 M1 F1 H1 s1 pfx Le.rfl'
      exact ⟨y, rfl, fin_val s1 h3 rfl⟩
    | _ => cases hk
theorem pe_zife {c x y : Expr} {d a b : Ex} {pos : Pos} (h1 : PT X c (tT T W d)) (h2 : PE X x (tE T W fr a)) (h3 : PE X y (tE T W fr b)) : PE X (.IfExp c x y pos) (tE T W fr (.ife d a b)) :=
  (pe_ifExp h1 h2 h3).imp fun σ H Q ⟨e, M, F, ρ, m, s, h⟩ => by
    refine ⟨e, M, F, ρ, m, s, (Out.bind h).imp fun c m1 M1 F1 H1 s1 _ _ h1 => ?_⟩
    cases c with
    | true => exact ⟨e, M1, F1, ρ, m1, s1, h1⟩
    | false => exact ⟨e, M1, F1, ρ, m1, s1, h1⟩
/-! ### subscripts, slices, fields -/
theorem SR.deref_ok {e : En} {M : List Addr} {F : Hp} {ρ : Env} {m : Mu} {σ : L2.St} {H : Hp} (s : SR T e M F ρ m σ H) {d : D} {v : V} (r : Rdv T M F ρ σ d v) : Rep T M H (deref m d) v := by
  have r1 := s.rd r
  cases d with
  | ref n =>
    obtain ⟨a, h1, rfl⟩ := r1
    obtain ⟨_, d', o, h2, h3, h4⟩ := s.mu.at_ n a h1
    show Rep T M H ((m[n]?).getD .non) _
    rw [h2]
    exact Cont.rep (h4.mono pfx s.le) h3
  | _ => exact r1
/-- what stands in a thing's places is a value -/
theorem SR.deref_lst {e : En} {M : List Addr} {F : Hp} {ρ : Env} {m : Mu} {σ : L2.St} {H : Hp} (s : SR T e M F ρ m σ H) {d : D} {v : V} (r : Rdv T M F ρ σ d v) {ds : List D} (h : deref m d = .lst ds) : ∃ a vs, v = .ref a ∧ SqL T.K H a vs ∧ ds.length ≤ line ∧ Reps T M F ds vs := by
  cases d with
  | ref n =>
    obtain ⟨a, h1, rfl⟩ := s.rd r
    obtain ⟨_, d', o, h2, h3, h4⟩ := s.mu.at_ n a h1
    have e1 : d' = .lst ds := by
      have q : (m[n]?).getD .non = .lst ds := h
      rw [h2] at q
      exact q
    subst e1
    obtain ⟨vs, e2, h5, h6⟩ := h4
    subst e2
    exact ⟨a, vs, rfl, SqL.of h3, h5, h6⟩
  | lst ds' => cases h; exact s.rd_lst r
  | _ => cases h
theorem SR.deref_tup {e : En} {M : List Addr} {F : Hp} {ρ : Env} {m : Mu} {σ : L2.St} {H : Hp} (s : SR T e M F ρ m σ H) {d : D} {v : V} (r : Rdv T M F ρ σ d v) {ds : List D} (h : deref m d = .tup ds) : ∃ a vs, v = .ref a ∧ SqT T.K H a vs ∧ ds.length ≤ line ∧ Reps T M F ds vs := by
  cases d with
  | ref n =>
    obtain ⟨a, h1, rfl⟩ := s.rd r
    obtain ⟨_, d', o, h2, h3, h4⟩ := s.mu.at_ n a h1
    have e1 : d' = .tup ds := by
      have q : (m[n]?).getD .non = .tup ds := h
      rw [h2] at q
      exact q
    subst e1
    exact h4.elim
  | tup ds' => cases h; exact s.rd_tup r
  | _ => cases h
theorem SR.deref_dic {e : En} {M : List Addr} {F : Hp} {ρ : Env} {m : Mu} {σ : L2.St} {H : Hp} (s : SR T e M F ρ m σ H) {d : D} {v : V} (r : Rdv T M F ρ σ d v) {ks : List Key} {ds : List D} (h : deref m d = .dic ks ds) : ∃ a kvs, v = .ref a ∧ H a = some (.dK kvs) ∧ kvs.map (·.1) = ks ∧ Reps T M F ds (kvs.map (·.2)) := by
  cases d with
  | ref n =>
    obtain ⟨a, h1, rfl⟩ := s.rd r
    obtain ⟨_, d', o, h2, h3, h4⟩ := s.mu.at_ n a h1
    have e1 : d' = .dic ks ds := by
      have q : (m[n]?).getD .non = .dic ks ds := h
      rw [h2] at q
      exact q
    subst e1
    obtain ⟨kvs, e2, h5, h6⟩ := h4
    subst e2
    exact ⟨a, kvs, rfl, h3, h5, h6⟩
  | dic ks' ds' => cases h; exact s.rd_dic r
  | _ => cases h
theorem SR.deref_ins {e : En} {M : List Addr} {F : Hp} {ρ : Env} {m : Mu} {σ : L2.St} {H : Hp} (s : SR T e M F ρ m σ H) {d : D} {v : V} (r : Rep T M F d v) {c : Nat} {ds : List D} (h : deref m d = .ins c ds) : ∃ a C dx fs names, v = .ref a ∧ T.cls c = some (C, names) ∧ H a = some (.ins C dx fs) ∧ fs.map (·.1) = names ∧ Reps T M F ds (fs.map (·.2)) := by
  cases d with
  | ref n =>
    obtain ⟨a, h1, rfl⟩ := r
    obtain ⟨_, d', o, h2, h3, h4⟩ := s.mu.at_ n a h1
    have e1 : d' = .ins c ds := by
      have q : (m[n]?).getD .non = .ins c ds := h
      rw [h2] at q
      exact q
    subst e1
    obtain ⟨C, dx, fs, names, e2, h5, h6, h7⟩ := h4
    subst e2
    exact ⟨a, C, dx, fs, names, rfl, h5, h3, h6, h7⟩
  | ins c' ds' =>
    cases h
    obtain ⟨a, C, dx, fs, names, rfl, h5, h3, h6, h7⟩ := r
    exact ⟨a, C, dx, fs, names, rfl, h5, s.le _ _ h3, h6, h7⟩
  | _ => cases h
theorem Reps.atI {M : List Addr} {F : Hp} {ds : List D} {vs : List V} {i : Int} {d : D} (r : Reps T M F ds vs) (h : atD ds i = some d) : ∃ v, atI vs i = some v ∧ Rep T M F d v := by
  unfold atD L2.atI at h
  unfold L2.atI
  rw [← r.length]
  cases q : ixN ds.length i with
  | none => rw [q] at h; cases h
  | some j =>
    rw [q] at h
    exact r.get h
theorem key_rep {M : List Addr} {F : Hp} {d : D} {v : V} {k : Key} (r : Rep T M F d v) (h : key? d = some k) : v = kV k := by
  cases d with
  | int i => cases h; exact r
  | str i => cases h; exact r
  | _ => cases h
def rIxZ (T : Tab) (W : WX) : R2 := fun x y H Q => ∃ e M F ρ m σ a b, SR T e M F ρ m σ H ∧ Rdv T M F ρ σ a x ∧ Rep T M F b y ∧ Out T W e M F ρ σ (match deref m a, b with
    | .lst xs, .int i => (R.of (atD xs i)).bind fun d => .ok (d, m)
    | .tup xs, .int i => (R.of (atD xs i)).bind fun d => .ok (d, m)
    | .dic ks vs, k => (R.of ((key? k).bind fun k => dget? k ks vs)).bind fun d => .ok (d, m)
    | _, _ => .bad) (Kf T false e ρ σ Q)
theorem ix_z (C : CxB T N sc X) : IxR X (rIxZ T W) := by
  intro value slice pins s σ H x y v u Q I rx ry h hs
  obtain ⟨e, M, F, ρ, m, σ', a, b, sr, ra, rb, h⟩ := h
  split at h
  · rename_i xs i ha
    obtain ⟨d, hd, h1⟩ := h.of
    obtain ⟨p, vs, rfl, q1, _, q3⟩ := sr.deref_lst ra ha
    obtain rfl : y = .int i := rb
    obtain ⟨w, hw, rw'⟩ := q3.atI hd
    exact ix_list value slice pins s σ H _ _ v u Q I rx ry ⟨p, vs, i, w, rfl, rfl, C.hK ▸ q1, hw, fin_val sr h1 rw'⟩ hs
  · rename_i xs i ha
    obtain ⟨d, hd, h1⟩ := h.of
    obtain ⟨p, vs, rfl, q1, _, q3⟩ := sr.deref_tup ra ha
    obtain rfl : y = .int i := rb
    obtain ⟨w, hw, rw'⟩ := q3.atI hd
    exact ix_tup value slice pins s σ H _ _ v u Q I rx ry ⟨p, vs, i, w, rfl, rfl, C.hK ▸ q1, hw, fin_val sr h1 rw'⟩ hs
  · rename_i ks ds ha
    obtain ⟨d, hd, h1⟩ := h.of
    obtain ⟨kk, hk, hd⟩ := Option.bind_eq_some_iff.mp hd
    obtain ⟨p, kvs, rfl, q1, q2, q3⟩ := sr.deref_dic ra ha
    have q4 := dget_ok (k := kk) q3
    rw [q2, hd] at q4
    obtain ⟨w, hw, rw'⟩ := q4
    obtain rfl := key_rep rb hk
    obtain rfl : v = Value.ref p := rx
    have g : DGet H p (kV kk) (some w) := by rw [← hw]; exact DGet.k q1
    have hu : X.A.units + 1 < cLine := by have := C.un; omega
    exact tail_any (dict_typeIs I g) PySem.F.slot_dict_getitem.lookup (d_getItem hu I g ry fun w' s3 I3 rw3 => ⟨w, H, I3, rw3, fin_val sr h1 rw'⟩) hs
  · exact h.elim
theorem pe_zidx (C : CxB T N sc X) {o i : Expr} {a b : Ex} {pos : Pos} (h1 : PE X o (tR T W a)) (h2 : PE X i (tE T W false b)) (hs : noSlice i = true) : PE X (.Subscript o i pos) (tE T W false (.idx a b)) :=
  (pe_ix (ix_z (W := W) C) h1 h2 (plainIx_ok hs)).imp fun σ H Q ⟨e, M, F, ρ, m, s, h⟩ => by
    refine ⟨e, M, F, ρ, m, s, (Out.bind h).imp fun d m1 M1 F1 H1 s1 _ _ h1 v r => ?_⟩
    refine ⟨e, M1, F1, ρ, m1, s1, (Out.bind h1).imp fun d2 m2 M2 F2 H2 s2 l1 l2 h2 v2 r2 => ?_⟩
    exact ⟨e, M2, F2, ρ, m2, σ, d, d2, s2, r.mono l1 l2, r2, h2⟩
def tO (T : Tab) (W : WX) (x : Ex) : TO := fun σ H Q => ∃ e M F ρ m, SR T e M F ρ m σ H ∧ Out T W e M F ρ σ (prt x m (ev x ρ m)) fun o _ _ _ H' => Q o H'
theorem _root_.L2.PO.imp {X : Cx} {x : Option Expr} {t t' : TO} (h : PO X x t) (hi : ∀ σ H Q, t' σ H Q → t σ H Q) : PO X x t' := ⟨fun pins s σ H Q I q => h.run pins s σ H Q I (hi σ H Q q)⟩
theorem po_znone : PO X none (tO T W (.con .non)) := po_none.imp fun σ H Q ⟨e, M, F, ρ, m, s, h⟩ => h M F H s pfx Le.rfl'
theorem po_zsome {x : Expr} {a : Ex} (h : PE X x (tE T W false a)) (hn : ∀ ρ m, prt a m (ev a ρ m) = (ev a ρ m).bind fun p => match p.1 with | .int i => .ok (some i, p.2) | _ => .bad) : PO X (some x) (tO T W a) :=
  (po_some h).imp fun σ H Q ⟨e, M, F, ρ, m, s, h⟩ => by
    rw [hn] at h
    refine ⟨e, M, F, ρ, m, s, (Out.bind h).imp fun d m1 M1 F1 H1 s1 _ _ h1 v r => ?_⟩
    cases d with
    | int i =>
      obtain rfl : v = .int i := r
      exact ⟨i, rfl, h1 M1 F1 H1 s1 pfx Le.rfl'⟩
    | _ => exact h1.elim
theorem Reps.cut {M : List Addr} {F : Hp} {ds : List D} {vs : List V} {lo hi : Option Int} (r : Reps T M F ds vs) : Reps T M F (cutD ds lo hi) (cutV vs lo hi) := by
  unfold cutD cutV
  rw [← r.length]
  exact (r.drop _).take _
theorem cutD_len (ds : List D) (lo hi : Option Int) : (cutD ds lo hi).length ≤ ds.length := by
  unfold cutD
  rw [List.length_take, List.length_drop]
  omega
theorem pe_zslc (C : CxB T N sc X) {o : Expr} {lo hi : Option Expr} {a b c : Ex} {p2 pos : Pos} (h1 : PE X o (tR T W a)) (h2 : PO X lo (tO T W b)) (h3 : PO X hi (tO T W c)) : PE X (.Subscript o (.Slice lo hi none p2) pos) (tE T W fr (.slc a b c)) :=
  (pe_slice sl_list h1 h2 h3).imp fun σ H Q ⟨e, M, F, ρ, m, s, h⟩ => by
    refine ⟨e, M, F, ρ, m, s, (Out.bind h).imp fun d m1 M1 F1 H1 s1 _ _ h1 v r => ?_⟩
    refine ⟨e, M1, F1, ρ, m1, s1, (Out.bind h1).imp fun l m2 M2 F2 H2 s2 l1 l2 h2 => ?_⟩
    refine ⟨e, M2, F2, ρ, m2, s2, (Out.bind h2).imp fun u m3 M3 F3 H3 s3 l3 l4 h3 => ?_⟩
    cases d with
    | lst ds =>
      obtain ⟨p, vs, rfl, q1, q2, q3⟩ := s3.rd_lst ((r.mono l1 l2).mono l3 l4)
      exact ⟨p, vs, rfl, C.hK ▸ q1, fun q hq => fin_lay s3 h3 ⟨_, rfl, Nat.le_trans (cutD_len _ _ _) q2, q3.cut⟩ hq⟩
    | _ => exact h3.elim
/-- a field of own classes -/
def AttF (T : Tab) (f : Str) (tab : List (Nat × Nat)) : Prop := ∀ c j, lookN tab c = some j → ∀ C names, T.cls c = some (C, names) → names[j]? = some f ∧ Cls T.K C ∧ NoAttr T.K C f ∧ names.Nodup
theorem lookup_at {f : Str} : ∀ {fs : List (Str × V)} {j : Nat} {v : V}, (fs.map (·.1)).Nodup → (fs.map (·.1))[j]? = some f → (fs.map (·.2))[j]? = some v → fs.lookup f = some v
  | [], j, v, _, h, _ => by simp at h
  | (g, w) :: r, 0, v, _, h1, h2 => by
    simp only [List.map_cons, List.getElem?_cons_zero, Option.some.injEq] at h1 h2
    subst h1 h2
    simp [List.lookup]
  | (g, w) :: r, j + 1, v, nd, h1, h2 => by
    simp only [List.map_cons, List.getElem?_cons_succ] at h1 h2
    simp only [List.map_cons, List.nodup_cons] at nd
    have ne : (f == g) = false := by
      have : f ∈ r.map (·.1) := List.mem_of_getElem? h1
      exact beq_eq_false_iff_ne.mpr fun z => nd.1 (z ▸ this)
    simp only [List.lookup, ne]
    exact lookup_at nd.2 h1 h2
theorem pe_zatt (C : CxB T N sc X) {o : Expr} {a : Ex} {f : Str} {tab : List (Nat × Nat)} {pos : Pos} (h1 : PE X o (tE T W false a)) (ho : noSup o = true) (hf : AttF T f tab) : PE X (.Attribute o f pos) (tE T W false (.att a f tab)) :=
  (pe_fld h1 (attrBase_ok ho)).imp fun σ H Q ⟨e, M, F, ρ, m, s, h⟩ => by
    refine ⟨e, M, F, ρ, m, s, (Out.bind h).imp fun d m1 M1 F1 H1 s1 _ _ h1 v r => ?_⟩
    obtain ⟨x, hx, h2⟩ := h1.of
    have hx : attOf m1 tab d = some x := hx
    unfold attOf at hx
    split at hx
    · rename_i c ds hd
      obtain ⟨j, hj, hx⟩ := Option.bind_eq_some_iff.mp hx
      obtain ⟨p, Ca, dx, fs, names, rfl, q1, q2, q3, q4⟩ := s1.deref_ins r hd
      obtain ⟨n1, n2, n3, n4⟩ := hf c j hj Ca names q1
      obtain ⟨w, hw, rw'⟩ := q4.get hx
      subst q3
      rw [C.hK]
      exact ⟨p, Ca, dx, fs, w, rfl, q2, n2, n3, lookup_at n4 n1 hw, fin_val s1 h2 rw'⟩
    · cases hx
/-! ### calls -/
/-- a def's promise: it does what f says -/
def spOf (T : Tab) (n : Nat) (f : Fn) : Sp := fun vs H Q E => vs.length = n ∧ ∃ M F ds m, SR T ⟨M, T.wr M, F, H⟩ M F [] m [] H ∧ Reps T M F ds vs ∧
  Out T (fun cls dd _ H' => E cls dd H') ⟨M, T.wr M, F, H⟩ M F [] [] (f ds m) fun d _ M' F' H' => ∀ v, Rep T M' F' d v → Q v H'
/-- a def of the program -/
def FnF (T : Tab) (k : Nat) (x : Str) (f : Fn) : Prop := ∃ (a : Addr) (fd : FuncData) (ps : List Str), T.mg x = some (.ref a) ∧ PySem.W.keepIn T.K (.ref a) = true ∧ Binds T.K fd ps [] ∧
  FnOk T.P T.w T.K T.mg T.base (L2.CX T.P T.w) k a fd ps (spOf T ps.length f) ∧ ∀ ds m, f ds m ≠ .bad → ds.length = ps.length
theorem Out.nb {e : En} {M : List Addr} {F : Hp} {ρ : Env} {σ : L2.St} {α : Type} {r : R (α × Mu)} {K : α → Mu → List Addr → Hp → Hp → Prop} (h : Out T W e M F ρ σ r K) : r ≠ .bad := fun z => by
  rw [z] at h
  exact h
theorem CxB.fn (C : CxB T N sc X) {j : Nat} {a : Addr} {fd : FuncData} {ps : List Str} {sp : Sp} (F : FnOk T.P T.w T.K T.mg T.base (L2.CX T.P T.w) j a fd ps sp) : FnOk X.prog X.w X.K X.mg X.base (L2.CX X.prog X.w) j a fd ps sp := by
  rw [C.hP, C.hw, C.hK, C.hmg, C.hbase]
  exact F
/-- what a call wants, out of what the caller has -/
theorem call_r {e : En} {M : List Addr} {F : Hp} {ρ : Env} {m : Mu} {σ : L2.St} {H : Hp} {Q : VK} {f : Fn} {ds : List D} {vs : List V} {n : Nat} (s : SR T e M F ρ m σ H) (rs : Reps T M F ds vs) (hn : ∀ ds m, f ds m ≠ .bad → ds.length = n)
    (h : Out T W e M F ρ σ (f ds m) (Kf T false e ρ σ Q)) : spOf T n f vs H Q (WE W σ) := by
  refine ⟨by rw [← rs.length]; exact hn ds m h.nb, M, F, ds, m, s.entry, rs, ?_⟩
  cases r : f ds m with
  | bad => exact absurd r h.nb
  | ok p =>
    rw [r] at h
    exact fun M2 F2 H2 q l1 l2 => h M2 F2 H2 (s.after q) q.pre q.f0
  | ex c fs m2 =>
    rw [r] at h
    exact fun M2 F2 H2 cls dd q l1 l2 x => h M2 F2 H2 cls dd (s.after q) l1 l2 x
theorem pe_zcall (C : CxOk T k N sc X) (tk : Takes X W) {x : Str} {f : Fn} {y : Expr} {ys : List Expr} {as : Exs} {p pos : Pos} (ha : PA X (y :: ys) (tA T W as)) (hf : FnF T k x f) (hg : glB sc x = true) (hd : noDbg x = true) (hs : (y :: ys).all (fun e => !isStar e) = true) :
    PE X (.Call (.Name x p) (y :: ys) [] pos) (tE T W false (.call x f as)) := by
  obtain ⟨a, fd, ps, h1, h2, h3, h4, h5⟩ := hf
  simp only [List.all_cons, Bool.and_eq_true, Bool.not_eq_true'] at hs
  refine (pe_callS (E := WE W) (C.fn h4) C.room (glB_ok C.toCxB hg) (by rw [C.hmg]; exact h1) (by rw [C.hK]; exact h2) (by rw [C.hK]; exact h3) (fun σ => passAt tk σ) ha (not_of hd) (star_cons hs.1) (star_none hs.2)).imp fun σ H Q ⟨e, M, F, ρ, m, s, h⟩ => ?_
  exact ⟨e, M, F, ρ, m, s, (Out.bind h).imp fun ds m1 M1 F1 H1 s1 _ _ h1 vs rs => call_r s1 rs h5 h1⟩
theorem pe_zcall0 (C : CxOk T k N sc X) (tk : Takes X W) {x : Str} {f : Fn} {p pos : Pos} (hf : FnF T k x f) (hg : glB sc x = true) (hd : noDbg x = true) : PE X (.Call (.Name x p) [] [] pos) (tE T W false (.call x f .nil)) := by
  obtain ⟨a, fd, ps, h1, h2, h3, h4, h5⟩ := hf
  refine ⟨fun pins s σ H Q I ⟨e, M, F, ρ, m, sr, h⟩ => ?_⟩
  refine wpAny_Call_Name_kw (ld_glob I (glB_ok C.toCxB hg) (by rw [C.hmg]; exact h1) ?_ (not_of hd))
  refine PySem.W.callWith_K0 I.kIn (by rw [C.hK]; exact h2) ?_
  exact run_fnS (us := []) (vs := []) (E := WE W) (C.fn h4) C.room (by rw [C.hK]; exact h3) (passAt tk σ) I .nil (call_r sr Reps.nil h5 h)
/-- a method of own classes -/
def MetF (T : Tab) (k : Nat) (m : Str) (tab : List (Nat × Fn)) : Prop := ∀ c f, lookN tab c = some f → ∀ C names, T.cls c = some (C, names) → ∃ (a : Addr) (fd : FuncData) (ps : List Str), Cls T.K C ∧ Meth T.K C m a ∧ m ∉ names ∧ Binds T.K fd ps [] ∧
  FnOk T.P T.w T.K T.mg T.base (L2.CX T.P T.w) k a fd ps (spOf T ps.length f) ∧ ∀ ds m, f ds m ≠ .bad → ds.length = ps.length
theorem lookup_no {f : Str} : ∀ {fs : List (Str × V)}, f ∉ fs.map (·.1) → fs.lookup f = none
  | [], _ => rfl
  | (g, w) :: r, h => by
    simp only [List.map_cons, List.mem_cons, not_or] at h
    have ne : (f == g) = false := beq_eq_false_iff_ne.mpr h.1
    simp only [List.lookup, ne]
    exact lookup_no h.2
theorem pe_zmeth (C : CxOk T k N sc X) (tk : Takes X W) {o : Expr} {nm : Str} {tab : List (Nat × Fn)} {ys : List Expr} {a : Ex} {as : Exs} {apos pos : Pos} (ho : PE X o (tE T W false a)) (ha : PA X ys (tA T W as)) (hf : MetF T k nm tab) (hs : ys.all (fun e => !isStar e) = true)
    (hn : noSup o = true) (hl : (apos.endLine == pos.line) = true) (h30 : ys.length < 30) (h0 : ys = [] → as = .nil) : PE X (.Call (.Attribute o nm apos) ys [] pos) (tE T W false (.meth a nm tab as)) := by
  refine ⟨fun pins s σ H Q I ⟨e, M, F, ρ, m, sr, h⟩ => ?_⟩
  refine PySem.W.methodCall_KW (thn (ho.run pins s σ H (fun v H1 => ∃ d m1 M1 F1, SR T e M1 F1 ρ m1 σ H1 ∧ Rep T M1 F1 d v ∧ Out T W e M1 F1 ρ σ (match inTab tab d with | true => (evs as ρ m1).bind fun q => callTab tab d q.1 q.2 | false => .bad) (Kf T false e ρ σ Q)) I
    ⟨e, M, F, ρ, m, sr, (Out.bind h).imp fun d m1 M1 F1 H1 s1 _ _ h1 v r => ⟨d, m1, M1, F1, s1, r, h1⟩⟩) fun u s1 ⟨x, H1, I1, rx, d, m1, M1, F1, sr1, r1, h1⟩ => ?_) (call_line hn hl hs h30)
  split at h1
  · rename_i hin
    cases d with
    | ins c fs =>
      obtain ⟨p, Ca, dx, ws, names, rfl, q1, q2, q3, q4⟩ := id r1
      obtain rfl : u = Value.ref p := rx
      obtain ⟨f, ht⟩ := Option.isSome_iff_exists.mp (show (lookN tab c).isSome = true from hin)
      obtain ⟨g, fd, ps, k1, k2, k3, k4, k5, k6⟩ := hf c f ht Ca names q1
      subst q3
      refine getmeth_ok I1 (sr1.le _ _ q2) (by rw [C.hK]; exact k1) (by rw [C.hK]; exact k2) (lookup_no k3) ?_
      have kp : PySem.W.keepIn X.K (.ref g) = true := by rw [C.hK]; exact k2.kp
      have run : ∀ (us : List Value) (vs : List V) s2 H2, Inv X pins σ H2 s2 → Vals vs us → spOf T ps.length f (.ref p :: vs) H2 Q (WE W σ) → wpAny (model X.prog X.w) X.A (call (.ref g) ([.ref p] ++ us)) (EP X pins σ Q) X.xe s2 := fun us vs s2 H2 I2 r2 hsp =>
        run_fnS (us := .ref p :: us) (vs := .ref p :: vs) (E := WE W) (C.fn k5) C.room (by rw [C.hK]; exact k4) (passAt tk σ) I2 (.cons rfl r2) hsp
      have e1 : ∀ ds m2, callTab tab (.ins c fs) ds m2 = f (.ins c fs :: ds) m2 := fun ds m2 => by unfold callTab; simp only [ht]
      have fin : ∀ ds m2 M2 F2 H2 vs, SR T e M2 F2 ρ m2 σ H2 → M1 <+: M2 → Le F1 F2 → Reps T M2 F2 ds vs → Out T W e M2 F2 ρ σ (callTab tab (.ins c fs) ds m2) (Kf T false e ρ σ Q) → spOf T ps.length f (.ref p :: vs) H2 Q (WE W σ) := fun ds m2 M2 F2 H2 vs s2 l1 l2 rs h2 => by
        rw [e1] at h2
        exact call_r s2 (Reps.cons (r1.mono l1 l2) rs) k6 h2
      have args : tA T W as σ H1 fun vs H2 => spOf T ps.length f (.ref p :: vs) H2 Q (WE W σ) := ⟨e, M1, F1, ρ, m1, sr1, (Out.bind h1).imp fun ds m2 M2 F2 H2 s2 l1 l2 h2 vs rs => fin ds m2 M2 F2 H2 vs s2 l1 l2 rs h2⟩
      cases ys with
      | nil =>
        refine PySem.W.callWith_K0 (first := [.ref p]) I1.kIn kp ?_
        have e2 := h0 rfl
        subst e2
        exact run [] [] s1 H1 I1 .nil (fin [] m1 M1 F1 H1 [] sr1 pfx Le.rfl' Reps.nil h1)
      | cons y ys =>
        simp only [List.all_cons, Bool.and_eq_true, Bool.not_eq_true'] at hs
        exact PySem.W.callWith_K (first := [.ref p]) (h₀ := X.base) I1.ok.mod.kin kp (thn (ha.run pos pins s1 σ H1 _ I1 args) fun us s2 ⟨vs, H2, I2, r2, q2⟩ => ⟨I2.kIn, run us vs s2 H2 I2 r2 q2⟩) (star_cons hs.1) (star_none hs.2)
    | _ => cases hin
  · exact h1.elim
/-! ### instances made -/
/-- __init__'s promise -/
def spInit (T : Tab) (c : Nat) (n : Nat) (f : Fn) : Sp := fun vs H Q E => ∃ x C names dx ws M F ds m, vs = .ref x :: ws ∧ vs.length = n ∧ T.cls c = some (C, names) ∧ H x = some (.ins C dx []) ∧ F x = none ∧ x ∉ M ∧ SR T ⟨M, x :: T.wr M, F, H⟩ M F [] m [] H ∧ Reps T M F ds ws ∧
  Out T (fun cls dd _ H' => E cls dd H') ⟨M, x :: T.wr M, F, H⟩ M F [] [] (f ds m) fun d _ M' F' H' => F' x = none → x ∉ M' → ∀ ds' kvs dx', d = .ins c ds' → H' x = some (.ins C dx' kvs) → kvs.map (·.1) = names → Reps T M' F' ds' (kvs.map (·.2)) → Q .non H'
/-- a class of the program that is made -/
def MakF (T : Tab) (k : Nat) (x : Str) (c : Nat) (f : Fn) : Prop := ∃ (C a : Addr) (names : List Str) (fd : FuncData) (ps : List Str), T.cls c = some (C, names) ∧ T.mg x = some (.ref C) ∧ Mk T.K C a ∧ Binds T.K fd ps [] ∧
  (∃ j, j + 1 ≤ k ∧ FnOk T.P T.w T.K T.mg T.base (L2.CX T.P T.w) j a fd ps (spInit T c ps.length f)) ∧ ∀ ds m, f ds m ≠ .bad → ds.length + 1 = ps.length ∧ ∀ d m', f ds m = .ok (d, m') → ∃ fs, d = .ins c fs
/-- behind a call that may change one more object -/
theorem SR.afterW {e : En} {M M' : List Addr} {F F' : Hp} {ρ : Env} {m m' : Mu} {σ : L2.St} {H H' : Hp} {x : Addr} (s : SR T e M F ρ m σ H) (q : SR T ⟨M, x :: T.wr M, F, H⟩ M' F' [] m' [] H') (ex : e.H x = none) (nx : ∀ (i : Nat) (t : Sl), ρ[i]? = some t → t.own = true → σ[i]? ≠ some (some (.ref x))) : SR T e M' F' ρ m' σ H' where
  le := q.le
  f0 := s.f0.trans q.f0
  pre := s.pre.trans q.pre
  keep := fun a o h1 h2 => by
    have h3 := s.keep a o h1 h2
    refine q.keep a o h3 fun hM => ?_
    rcases List.mem_cons.mp hM with z | hM
    · subst z; rw [ex] at h1; cases h1
    · rcases wr_of hM with hM | ⟨y, hM⟩
      · rcases s.mw a hM with h | h
        · exact h2 h
        · rw [h] at h1; cases h1
      · exact h2 (s.tab a y hM).1
  nn := fun a h => q.nn a (s.nn a h)
  old := fun a h => (q.old a (s.nn a h)).trans (s.old a h)
  ent := s.ent
  mw := fun a ha => by
    rcases q.mw a ha with h | h
    · rcases List.mem_cons.mp h with z | h
      · subst z; exact .inr ex
      · rcases wr_of h with h | ⟨y, h⟩
        · exact s.mw a h
        · exact .inl (s.tab a y h).1
    · refine .inr ?_
      cases r : e.H a with
      | none => rfl
      | some o => exact absurd (show H a = none from h) (s.nn a (by rw [r]; simp))
  mu := q.mu
  len := s.len
  sl := fun i t h => by
    have hF : ∀ a, H a ≠ none → F a = none → F' a = none := fun a h1 h2 => (q.old a h1).trans h2
    have hM : ∀ a, H a ≠ none → a ≠ x → a ∉ M → a ∉ M' := fun a h1 h0 h2 h3 => by
      rcases q.mw a h3 with z | z
      · rcases List.mem_cons.mp z with z | z
        · exact h0 z
        · rcases wr_of z with z | ⟨y, z⟩
          · exact h2 z
          · exact q.PM z h3
      · exact h1 z
    have hH : ∀ a o, H a = some o → a ≠ x → a ∉ M → (∀ ps, o ≠ .tbl ps) → H' a = some o := fun a o h1 h0 h2 h3 => q.keep a o h1 fun z => by
      rcases List.mem_cons.mp z with z | z
      · exact h0 z
      · exact s.nwr h1 h2 h3 z
    have r := s.sl i t h
    cases t with
    | un => exact r
    | va d => obtain ⟨y, e1, r⟩ := r; exact ⟨y, e1, r.mono q.pre q.f0⟩
    | ow d =>
      obtain ⟨a, o, e1, h1, h2, h3, h4, h5⟩ := r
      have na : a ≠ x := fun z => nx i _ h rfl (z ▸ e1)
      exact ⟨a, o, e1, hF a (by rw [h4]; simp) h1, h2, hM a (by rw [h4]; simp) na h3, hH a o h4 na h3 h5.notbl, h5.mono q.pre q.f0⟩
    | ro d =>
      obtain ⟨a, o, e1, h1, h2, h6, h3, h4, h5⟩ := r
      have na : a ≠ x := fun z => by subst z; rw [ex] at h2; cases h2
      exact ⟨a, o, e1, hF a (by rw [h4]; simp) h1, h2, h6, hM a (by rw [h4]; simp) na h3, hH a o h4 na h3 h5.notbl, h5.mono q.pre q.f0⟩
    | me c fs =>
      obtain ⟨a, C, dx, names, kvs, e1, h1, h2, h3, h4, h5, h6, h7⟩ := r
      have na : a ≠ x := fun z => nx i _ h rfl (z ▸ e1)
      exact ⟨a, C, dx, names, kvs, e1, hF a (by rw [h5]; simp) h1, h2, hM a (by rw [h5]; simp) na h3, h4, hH a _ h5 na h3 (fun ps z => by cases z), h6, h7.mono q.pre q.f0⟩
    | xc c fs => obtain ⟨a, cls, dd, e1, h1, h2⟩ := r; exact ⟨a, cls, dd, e1, h1, h2.mono q.pre q.f0⟩
  dis := s.dis
  tab := fun P u h => by
    obtain ⟨h1, h2, h3, _⟩ := s.tab P u h
    exact ⟨h1, h2, h3, (q.tab P u h).2.2.2⟩
theorem make_r {e : En} {M : List Addr} {F : Hp} {ρ : Env} {m : Mu} {σ : L2.St} {H : Hp} {Q : VK} {f : Fn} {ds : List D} {vs : List V} {c n : Nat} {x dx Ca : Addr} {names : List Str} (s : SR T e M F ρ m σ H) (rs : Reps T M F ds vs) (hc : T.cls c = some (Ca, names))
    (hn : ∀ ds m, f ds m ≠ .bad → ds.length + 1 = n ∧ ∀ d m', f ds m = .ok (d, m') → ∃ fs, d = .ins c fs)
    (h : Out T W e M F ρ σ (f ds m) (Kf T false e ρ σ Q)) (hx : H x = none) (hdx : H dx = none) (ne : dx ≠ x) :
    spInit T c n f (.ref x :: vs) (upd (upd H dx (.own x)) x (.ins Ca dx [])) (fun v H2 => v = .non ∧ Q (.ref x) H2) (WE W σ) := by
  obtain ⟨s1, _⟩ := s.lay0 (o := .own x) hdx
  obtain ⟨s2, fx, ex, xM⟩ := s1.lay0 (p := x) (o := .ins Ca dx []) (by rw [upd_ne (Ne.symm ne)]; exact hx)
  have nx : ∀ (i : Nat) (t : Sl), ρ[i]? = some t → t.own = true → σ[i]? ≠ some (some (.ref x)) := fun i t hi ot ei => by
    have q := s.sl i t hi
    cases t with
    | ow d => obtain ⟨a, o, e1, _, _, _, h4, _⟩ := q; rw [e1] at ei; cases ei; rw [hx] at h4; cases h4
    | me c fs => obtain ⟨a, C, dx, names, kvs, e1, _, _, _, _, h5, _⟩ := q; rw [e1] at ei; cases ei; rw [hx] at h5; cases h5
    | _ => cases ot
  have en := s2.entry
  have en2 : SR T ⟨M, x :: T.wr M, F, upd (upd H dx (.own x)) x (.ins Ca dx [])⟩ M F [] m [] (upd (upd H dx (.own x)) x (.ins Ca dx [])) :=
    { le := en.le, f0 := en.f0, pre := en.pre, keep := fun a o h _ => h, nn := en.nn, old := en.old, ent := en.ent, mw := fun a h => .inl (List.mem_cons_of_mem _ (wr_in h)), mu := en.mu, len := rfl, sl := fun i t h => by simp at h, dis := fun i j s t a h => by simp at h, tab := fun P q h => let ⟨h1, h2⟩ := en.tab P q h; ⟨List.mem_cons_of_mem _ h1, h2⟩ }
  obtain ⟨hl, hd⟩ := hn ds m h.nb
  refine ⟨x, Ca, names, dx, vs, M, F, ds, m, rfl, by rw [List.length_cons, ← rs.length]; exact hl, hc, upd_same, fx, xM, en2, rs, ?_⟩
  cases r : f ds m with
  | bad => exact absurd r h.nb
  | ok p =>
    rw [r] at h
    intro M2 F2 H2 q l1 l2 f2 x2 ds' kvs dx' ed hx2 hk hr
    refine ⟨rfl, ?_⟩
    have s3 := s2.afterW q ex nx
    have hf : Le F2 (upd F2 x (.ins Ca dx' kvs)) := Le.upd f2
    have s4 := s3.frz hx2 f2 ex x2 nx
    have h2 := h M2 _ H2 s4 q.pre (q.f0.trans hf) (.ref x)
    rw [ed] at h2
    exact h2 ⟨x, Ca, dx', kvs, names, rfl, hc, upd_same, hk, hr.mono pfx hf⟩
  | ex c fs m2 =>
    rw [r] at h
    exact fun M2 F2 H2 cls dd q l1 l2 y => h M2 F2 H2 cls dd (s2.afterW q ex nx) l1 l2 y
theorem run_makeS {CX : CXT} {Ca f : Addr} {fd : FuncData} {ps : List Str} {sp : Sp} {E : L2.St → XK} {j : Nat} {pins : List (Addr × Obj)} {σ : L2.St} {H : Hp} {s : Shared} {Q : VK} {us : List Value} {vs : List V} (M : Mk X.K Ca f) (F : FnOk X.prog X.w X.K X.mg X.base CX j f fd ps sp) (hr : Room (j + 1) X.A) (hb : Binds X.K fd ps [])
    (hx : PassesAt CX X σ (E σ)) (I : Inv X pins σ H s) (r : Vals vs us)
    (h : ∀ x dx, H x = none → H dx = none → dx ≠ x → sp (.ref x :: vs) (upd (upd H dx (.own x)) x (.ins Ca dx [])) (fun v H2 => v = .non ∧ Q (.ref x) H2) (E σ)) :
    wpAny (model X.prog X.w) X.A (call (.ref Ca) us) (EP X pins σ Q) X.xe s := by
  have hq := h (s.heap.objs.size + 1) s.heap.objs.size (I.hok.fresh (Nat.le_succ _)) (I.hok.fresh (Nat.le_refl _)) (Nat.ne_of_lt (Nat.lt_succ_self _))
  have I2 := Inv.made (C := Ca) I
  have r2 : Vals (V.ref (s.heap.objs.size + 1) :: vs) (Value.ref (s.heap.objs.size + 1) :: us) := .cons rfl r
  have hl : (Value.ref (s.heap.objs.size + 1) :: us).length = ps.length := by
    have e := r2.length
    rw [F.len _ _ _ _ hq] at e
    exact e.symm
  refine wpAny_call (make_map (f := f) I.kIn M.makes M.init (beq_iff_eq.mp M.fn) (codeAny_mono (F.run _ X.stack _ _ ⟨Value.ref (s.heap.objs.size + 1) :: us, []⟩ (Value.ref (s.heap.objs.size + 1) :: us) _ _ (E σ) (hr.make Ca us [])
    (I2.env0.make Ca us []) (by
      have b := hb { s with heap := _ } (Value.ref (s.heap.objs.size + 1) :: us) I2.kIn (by rw [List.append_nil]; exact hl)
      rw [List.append_nil] at b
      exact b) r2 hq) fun r s' hq' => ?_))
  cases r with
  | error e => exact hx pins _ _ e s' I2 hq'
  | ok fl =>
    cases fl with
    | ret u =>
      obtain ⟨v, H', I3, rv, ev, q3⟩ := I2.after hq'
      subst ev
      exact ⟨rv, ⟨V.ref (s.heap.objs.size + 1), H', I3, rfl, q3⟩⟩
    | next => exact False.elim hq'
    | brk => exact False.elim hq'
    | cont => exact False.elim hq'
theorem pe_zmake (C : CxOk T k N sc X) (tk : Takes X W) {x : Str} {c : Nat} {f : Fn} {ys : List Expr} {as : Exs} {p pos : Pos} (ha : PA X ys (tA T W as)) (hf : MakF T k x c f) (hg : glB sc x = true) (hd : noDbg x = true) (hs : ys.all (fun e => !isStar e) = true) (h0 : ys = [] → as = .nil) :
    PE X (.Call (.Name x p) ys [] pos) (tE T W false (.make x c f as)) := by
  obtain ⟨Ca, a, names, fd, ps, h1, h2, h3, h4, ⟨j, hj, h5⟩, h6⟩ := hf
  have h3' : Mk X.K Ca a := by rw [C.hK]; exact h3
  refine ⟨fun pins s σ H Q I ⟨e, M, F, ρ, m, sr, h⟩ => ?_⟩
  refine wpAny_Call_Name_kw (ld_glob I (glB_ok C.toCxB hg) (by rw [C.hmg]; exact h2) ?_ (not_of hd))
  have run : ∀ (us : List Value) (vs : List V) s2 H2, Inv X pins σ H2 s2 → Vals vs us → (∀ x dx, H2 x = none → H2 dx = none → dx ≠ x → spInit T c ps.length f (.ref x :: vs) (upd (upd H2 dx (.own x)) x (.ins Ca dx [])) (fun v H2 => v = .non ∧ Q (.ref x) H2) (WE W σ)) → wpAny (model X.prog X.w) X.A (call (.ref Ca) us) (EP X pins σ Q) X.xe s2 :=
    fun us vs s2 H2 I2 r2 hsp => run_makeS (E := WE W) h3' (C.fn h5) (C.room.mono hj) (by rw [C.hK]; exact h4) (passAt tk σ) I2 r2 hsp
  cases ys with
  | nil =>
    have e2 := h0 rfl
    subst e2
    exact PySem.W.callWith_K0 I.kIn h3'.kp (run [] [] s H I .nil fun x dx hx hdx ne => make_r sr Reps.nil h1 h6 h hx hdx ne)
  | cons y ys =>
    simp only [List.all_cons, Bool.and_eq_true, Bool.not_eq_true'] at hs
    have args : tA T W as σ H fun vs H2 => ∀ x dx, H2 x = none → H2 dx = none → dx ≠ x → spInit T c ps.length f (.ref x :: vs) (upd (upd H2 dx (.own x)) x (.ins Ca dx [])) (fun v H2 => v = .non ∧ Q (.ref x) H2) (WE W σ) :=
      ⟨e, M, F, ρ, m, sr, (Out.bind h).imp fun ds m2 M2 F2 H2 s2 l1 l2 h2 vs rs x dx hx hdx ne => make_r s2 rs h1 h6 h2 hx hdx ne⟩
    exact PySem.W.callWith_K (h₀ := X.base) I.ok.mod.kin h3'.kp (thn (ha.run pos pins s σ H _ I args) fun us s2 ⟨vs, H2, I2, r2, q2⟩ => ⟨I2.kIn, run us vs s2 H2 I2 r2 q2⟩) (star_cons hs.1) (star_none hs.2)
end
end Z
end
section
set_option Elab.async false
set_option linter.all false
set_option maxRecDepth 100000
set_option maxHeartbeats 4000000
set_option autoImplicit false
/-! Z: built-ins, isinstance, comprehensions, own == and truth. -/
namespace Z
open PySem PySem.Spec PyProof.Rows L2
variable {T : Tab}
section
variable {X : Cx} {W : WX} {k : Nat} {N : List Str} {sc : Scope} {fr : Bool}
/-! ### built-ins by their names -/
def biN : Bi → Str
  | .len => "len" | .abs => "abs" | .int => "int" | .boolp => "bool" | .min1 => "min" | .max1 => "max" | .min2 => "min" | .max2 => "max"
  | .sum => "sum" | .any => "any" | .all => "all" | .list => "list" | .tuple => "tuple" | .sorted => "sorted" | .dict => "dict" | .sset => "sorted" | .zip3 => "list" | .str => "str"
theorem boot_bi : ∀ b : Bi, biV b ≠ .none → bootBuiltins (biN b) = some (biV b) := by
  intro b
  cases b <;> intro h <;> first
    | exact absurd rfl h
    | decide +kernel
theorem pe_zbi (C : CxOk T k N sc X) {b : Bi} {y : Expr} {ys : List Expr} {as : Exs} {p pos : Pos} (hb : biV b ≠ .none) (ha : PA X (y :: ys) (tB T W as)) (hf : T.mg (biN b) = none) (hg : glB sc (biN b) = true) (hs : (y :: ys).all (fun e => !isStar e) = true) :
    PE X (.Call (.Name (biN b) p) (y :: ys) [] pos) (tE T W fr (.bi b as)) := by
  simp only [List.all_cons, Bool.and_eq_true, Bool.not_eq_true'] at hs
  have hm : X.mg (biN b) = none := by rw [C.hmg]; exact hf
  have n1 : biN b ≠ "__name__" := by cases b <;> decide +kernel
  have n2 : (biN b == ("__debug__" : Str)) = false := by cases b <;> decide +kernel
  have imp : ∀ σ H Q, tE T W fr (.bi b as) σ H Q → tCB (rBi T W fr b) (tB T W as) σ H Q := fun σ H Q ⟨e, M, F, ρ, m, s, h⟩ =>
    ⟨e, M, F, ρ, m, s, (Out.bind h).imp fun ds m1 M1 F1 H1 s1 _ _ h1 vs rs => ⟨e, M1, F1, ρ, m1, σ, ds, s1, rs, h1⟩⟩
  have hc := bi_ok (W := W) C fr b hb
  have hv := boot_bi b hb
  cases hV : biV b with
  | builtin id =>
    rw [hV] at hc hv
    exact (pe_callB hc (glB_ok C.toCxB hg) hm hv ha n1 n2 (star_cons hs.1) (star_none hs.2)).imp imp
  | type id =>
    rw [hV] at hc hv
    exact (pe_callTy hc (glB_ok C.toCxB hg) hm hv ha n1 n2 (star_cons hs.1) (star_none hs.2)).imp imp
  | none => exact absurd hV hb
  | _ => cases b <;> cases hV
/-! ### d.get(k, x) -/
theorem pe_zdget (C : CxB T N sc X) {o y z : Expr} {a b c : Ex} {apos pos : Pos} (h1 : PE X o (tR T W a)) (h2 : PE X y (tE T W false b)) (h3 : PE X z (tE T W false c)) (hn : noSup o = true) (hl : (apos.endLine == pos.line) = true) (hs : isStar y = false) (hs2 : isStar z = false) :
    PE X (.Call (.Attribute o "get" apos) [y, z] [] pos) (tE T W false (.dget a b c)) := by
  have hu : X.A.units + 1 < cLine := by have := C.un; omega
  refine (pe_dget2 hu h1 h2 h3 ⟨attrBase_ok hn, ?_, hl, ?_⟩).imp fun σ H Q ⟨e, M, F, ρ, m, s, h⟩ => ?_
  · rw [star_cons hs, star_cons hs2]; rfl
  · rw [star_cons hs, star_cons hs2]; rfl
  refine ⟨e, M, F, ρ, m, s, (Out.bind h).imp fun d m1 M1 F1 H1 s1 _ _ h1 v r => ?_⟩
  cases d with
  | dic ks ds =>
    obtain ⟨p, kvs, rfl, q1, q2, q3⟩ := s1.rd_dic r
    refine ⟨p, rfl, .inl ⟨kvs, .inl q1⟩, e, M1, F1, ρ, m1, s1, (Out.bind h1).imp fun d2 m2 M2 F2 H2 s2 l1 l2 h2 v2 r2 => ?_⟩
    refine ⟨e, M2, F2, ρ, m2, s2, (Out.bind h2).imp fun d3 m3 M3 F3 H3 s3 l3 l4 h3 v3 r3 => ?_⟩
    obtain ⟨kk, hk, h4⟩ := h3.of
    obtain rfl := key_rep r2 hk
    obtain ⟨p', kvs', e1, q1', q2', q3'⟩ := s3.rd_dic ((r.mono l1 l2).mono l3 l4)
    obtain rfl : p = p' := by injection e1
    refine ⟨valV kvs' kk, DGet.k q1', ?_⟩
    have q4 := dget_ok (k := kk) q3'
    rw [q2'] at q4
    cases hg : dget? kk ks ds with
    | some x =>
      simp only [hg] at q4 h4
      obtain ⟨w, hw, rw'⟩ := q4
      rw [hw]
      exact fin_val s3 h4 rw'
    | none =>
      simp only [hg] at q4 h4
      rw [q4]
      exact fin_val s3 h4 r3
  | _ => exact h1.elim
/-! ### isinstance -/
def tyN : Ty → Str
  | .bt n => Str.ofString n
  | .own x _ => x
/-- a class as a value -/
def TyIs (T : Tab) (t : Ty) (v : V) (u : Value) : Prop := ClsV v u ∧ match t with
  | .bt n => v = .ty n ∧ u = .type n ∧ T.mg (Str.ofString n) = none ∧ bootBuiltins (Str.ofString n) = some (.type n) ∧ Str.ofString n ≠ "__name__" ∧ (Str.ofString n == ("__debug__" : Str)) = false
  | .own x c => ∃ C names, v = .ref C ∧ u = .ref C ∧ T.cls c = some (C, names) ∧ T.mg x = some (.ref C) ∧ (x == ("__debug__" : Str)) = false
/-- an own class whose instances isinstance may meet -/
structure InsT (K : PySem.W.Frag) (C : Addr) : Prop where
  cl : Cls K C
  ha : PySem.W.findIn K (.ref C) "__class__" = some (some (.builtin "object.__class__"))
  hn : PySem.W.specialIn K (.builtin "object.__class__") "__get__" = some (some (.builtin "getset_descriptor.__get__"))
  ht : PySem.W.takesIn K (.builtin "object.__class__") = some true
  hm : PySem.W.mroIn K C (.type "object") = some true
/-- a built-in class's name -/
def tyOf : D → Option String
  | .non => some "NoneType"
  | .bl _ => some "bool"
  | .int _ => some "int"
  | .str _ => some "str"
  | .tup _ => some "tuple"
  | .lst _ => some "list"
  | .dic _ _ => some "dict"
  | _ => none
/-- what isinstance answers for a class -/
def IsiF (T : Tab) (t : Ty) : Prop := ∃ v u, TyIs T t v u ∧ (∀ d a, tyOf d = some a → PySem.W.kitOne T.K (.type a) u = some (isTy d t)) ∧
  ∀ c C names, T.cls c = some (C, names) → InsT T.K C ∧ ∀ ds, PySem.W.kitOne T.K (.ref C) u = some (isTy (.ins c ds) t)
theorem pe_zty (C : CxB T N sc X) {t : Ty} {v : V} {u : Value} {p : Pos} (h : TyIs T t v u) (hg : glB sc (tyN t) = true) : PE X (.Name (tyN t) p) (tC v) := by
  obtain ⟨_, h⟩ := h
  cases t with
  | bt n =>
    obtain ⟨rfl, rfl, h1, h2, h3, h4⟩ := h
    exact pe_bltn (glB_ok C hg) (by rw [C.hmg]; exact h1) h2 rfl h3 h4
  | own x c =>
    obtain ⟨Ca, names, rfl, rfl, h1, h2, h3⟩ := h
    exact pe_glob (glB_ok C hg) (by rw [C.hmg]; exact h2) rfl h3
/-- the class of what a datum is -/
theorem Rep.ty {M : List Addr} {F : Hp} {t : Ty} {v : V} {d : D} {tv : V} {u : Value} (r : Rep T M F d v) (hf1 : ∀ d a, tyOf d = some a → PySem.W.kitOne T.K (.type a) u = some (isTy d t))
    (hf2 : ∀ c C names, T.cls c = some (C, names) → InsT T.K C ∧ ∀ ds, PySem.W.kitOne T.K (.ref C) u = some (isTy (.ins c ds) t)) (hr : isRL d = false) : ∃ w, TyX T.K F v w ∧ PySem.W.kitOne T.K w u = some (isTy d t) := by
  cases d with
  | non => obtain rfl : v = .non := r; exact ⟨_, .base .non, hf1 _ _ rfl⟩
  | bl b => obtain rfl : v = .bl b := r; exact ⟨_, .base (.bl b), hf1 _ _ rfl⟩
  | int b => obtain rfl : v = .int b := r; exact ⟨_, .base (.int b), hf1 _ _ rfl⟩
  | str b => obtain rfl : v = .str b := r; exact ⟨_, .base (.str b), hf1 _ _ rfl⟩
  | tup ds =>
    obtain ⟨a, vs, rfl, h1, _, _⟩ := r
    rcases h1 with (h1 | ⟨o, h1⟩) | ⟨o, its, n, h1, h2, _⟩
    · exact ⟨_, .base (.tup h1), hf1 _ _ rfl⟩
    · exact ⟨_, .fTuple h1, hf1 _ _ rfl⟩
    · exact ⟨_, .kTuple h1 h2, hf1 _ _ rfl⟩
  | lst ds =>
    obtain ⟨a, vs, rfl, h1, _, _⟩ := r
    rcases h1 with (h1 | ⟨o, h1⟩) | ⟨o, its, n, h1, h2, _⟩
    · exact ⟨_, .base (.lst h1), hf1 _ _ rfl⟩
    · exact ⟨_, .base (.frz h1), hf1 _ _ rfl⟩
    · exact ⟨_, .kList h1 h2, hf1 _ _ rfl⟩
  | dic ks ds => obtain ⟨a, kvs, rfl, h1, _⟩ := r; exact ⟨_, .base (.dK h1), hf1 _ _ rfl⟩
  | ins c ds =>
    obtain ⟨a, Ca, dx, fs, names, rfl, h1, h2, _⟩ := r
    obtain ⟨i, q⟩ := hf2 c Ca names h1
    exact ⟨_, .base (.ins h2 i.cl i.ha i.hn i.ht i.hm), q ds⟩
  | ref n => cases hr
  | lam n => cases hr
theorem pe_zisi1 (C : CxB T N sc X) {x : Expr} {a : Ex} {t : Ty} {p q pos : Pos} (h1 : PE X x (tE T W false a)) (hf : IsiF T t) (hm : T.mg "isinstance" = none) (hg : glB sc "isinstance" = true) (hg2 : glB sc (tyN t) = true) (hs : isStar x = false) :
    PE X (.Call (.Name "isinstance" p) [x, .Name (tyN t) q] [] pos) (tE T W false (.isi a [t] false)) := by
  obtain ⟨v, u, h2, f1, f2⟩ := hf
  refine (pe_callB call_isi (glB_ok C hg) (by rw [C.hmg]; exact hm) (by decide +kernel) (pa_cons h1 (pa_cons (pe_zty C (p := q) h2 hg2) pa_nil) (star_cons hs)) (by decide +kernel) (by decide +kernel) (star_cons hs) rfl).imp fun σ H Q ⟨e, M, F, ρ, m, s, h⟩ => ?_
  refine ⟨e, M, F, ρ, m, s, (Out.bind h).imp fun d m1 M1 F1 H1 s1 _ _ h1 w r => ?_⟩
  have h3 : Out T W e M1 F1 ρ σ (if isRL d = true then (R.bad : R (D × Mu)) else .ok (.bl ([t].any (isTy d)), m1)) (Kf T false e ρ σ Q) := h1
  have nr : isRL d = false := by
    cases hb : isRL d with
    | false => rfl
    | true => rw [if_pos hb] at h3; exact h3.elim
  rw [if_neg (by rw [nr]; simp)] at h3
  obtain ⟨ty, k1, k2⟩ := (r.mono pfx s1.le).ty (tv := v) f1 f2 nr
  refine ⟨w, v, ty, u, _, rfl, h2.1, by rw [C.hK]; exact k1, by rw [C.hK]; exact k2, ?_⟩
  have e1 : [t].any (isTy d) = isTy d t := by simp
  rw [e1] at h3
  exact fin_val s1 h3 rfl
/-- a row of classes -/
def tysB (sc : Scope) : List Ty → List Expr → Bool
  | [], [] => true
  | t :: ts, .Name x _ :: ys => decide (x = tyN t) && glB sc (tyN t) && tysB sc ts ys
  | _, _ => false
theorem Rep.cl {M : List Addr} {F : Hp} {v : V} {d : D} (r : Rep T M F d v) (hI : ∀ c C names, T.cls c = some (C, names) → InsT T.K C) (hr : isRL d = false) : ∃ w, TyX T.K F v w ∧
    ∀ (t : Ty) (u : Value), (∀ d a, tyOf d = some a → PySem.W.kitOne T.K (.type a) u = some (isTy d t)) → (∀ c C names, T.cls c = some (C, names) → InsT T.K C ∧ ∀ ds, PySem.W.kitOne T.K (.ref C) u = some (isTy (.ins c ds) t)) → PySem.W.kitOne T.K w u = some (isTy d t) := by
  cases d with
  | non => obtain rfl : v = .non := r; exact ⟨_, .base .non, fun t u h1 h2 => h1 _ _ rfl⟩
  | bl b => obtain rfl : v = .bl b := r; exact ⟨_, .base (.bl b), fun t u h1 h2 => h1 _ _ rfl⟩
  | int b => obtain rfl : v = .int b := r; exact ⟨_, .base (.int b), fun t u h1 h2 => h1 _ _ rfl⟩
  | str b => obtain rfl : v = .str b := r; exact ⟨_, .base (.str b), fun t u h1 h2 => h1 _ _ rfl⟩
  | tup ds =>
    obtain ⟨a, vs, rfl, h1, _, _⟩ := r
    rcases h1 with (h1 | ⟨o, h1⟩) | ⟨o, its, n, h1, h2, _⟩
    · exact ⟨_, .base (.tup h1), fun t u h1 h2 => h1 _ _ rfl⟩
    · exact ⟨_, .fTuple h1, fun t u h1 h2 => h1 _ _ rfl⟩
    · exact ⟨_, .kTuple h1 h2, fun t u h1 h2 => h1 _ _ rfl⟩
  | lst ds =>
    obtain ⟨a, vs, rfl, h1, _, _⟩ := r
    rcases h1 with (h1 | ⟨o, h1⟩) | ⟨o, its, n, h1, h2, _⟩
    · exact ⟨_, .base (.lst h1), fun t u h1 h2 => h1 _ _ rfl⟩
    · exact ⟨_, .base (.frz h1), fun t u h1 h2 => h1 _ _ rfl⟩
    · exact ⟨_, .kList h1 h2, fun t u h1 h2 => h1 _ _ rfl⟩
  | dic ks ds => obtain ⟨a, kvs, rfl, h1, _⟩ := r; exact ⟨_, .base (.dK h1), fun t u h1 h2 => h1 _ _ rfl⟩
  | ins c ds =>
    obtain ⟨a, Ca, dx, fs, names, rfl, h1, h2, _⟩ := r
    have i := hI c Ca names h1
    exact ⟨_, .base (.ins h2 i.cl i.ha i.hn i.ht i.hm), fun t u _ h => (h c Ca names h1).2 ds⟩
  | ref n => cases hr
  | lam n => cases hr
def tVs (vs : List V) : TA := fun _ H Q => Q vs H
theorem pa_ztys (C : CxB T N sc X) : ∀ (ts : List Ty) (ys : List Expr), (∀ t ∈ ts, IsiF T t) → tysB sc ts ys = true → ∃ (vs : List V) (us : List Value), PA X ys (tVs vs) ∧ Paired ClsV vs us ∧ vs.length = ts.length ∧
    ∀ w d, (∀ (t : Ty) (u : Value), (∀ d a, tyOf d = some a → PySem.W.kitOne T.K (.type a) u = some (isTy d t)) → (∀ c C names, T.cls c = some (C, names) → InsT T.K C ∧ ∀ ds, PySem.W.kitOne T.K (.ref C) u = some (isTy (.ins c ds) t)) → PySem.W.kitOne T.K w u = some (isTy d t)) →
      PySem.W.kitAny T.K w us = some (ts.any (isTy d))
  | [], [], _, _ => ⟨[], [], pa_nil.imp fun _ _ _ h => h, .nil, rfl, fun _ _ _ => kitAny_nil⟩
  | [], _ :: _, _, h => by simp [tysB] at h
  | _ :: _, [], _, h => by simp [tysB] at h
  | t :: ts, y :: ys, hf, h => by
    cases y with
    | Name x p =>
      simp only [tysB, Bool.and_eq_true, decide_eq_true_eq] at h
      obtain ⟨⟨h1, h2⟩, h3⟩ := h
      subst h1
      obtain ⟨v, u, g1, g2, g3⟩ := hf t List.mem_cons_self
      obtain ⟨vs, us, k1, k2, k3, k4⟩ := pa_ztys C ts ys (fun t ht => hf t (List.mem_cons_of_mem _ ht)) h3
      refine ⟨v :: vs, u :: us, (pa_cons (pe_zty C g1 h2) k1).imp fun _ _ _ h => h, .cons g1.1 k2, by rw [List.length_cons, List.length_cons, k3], fun w d hw => ?_⟩
      refine kitAny_cons (hw t u g2 g3) (fun hb => ?_) fun hb => ?_
      · rw [List.any_cons, hb, Bool.false_or]
        exact k4 w d hw
      · rw [List.any_cons, hb, Bool.true_or]
    | _ => simp [tysB] at h
theorem pe_zisiT (C : CxB T N sc X) {x : Expr} {a : Ex} {ts : List Ty} {ys : List Expr} {n : Nat} {p q pos : Pos} (h1 : PE X x (tE T W false a)) (hf : ∀ t ∈ ts, IsiF T t) (hm : T.mg "isinstance" = none) (hg : glB sc "isinstance" = true) (ht : tysB sc ts ys = true) (hn : ts ≠ []) (hl : ts.length ≤ 100) (hs : isStar x = false) :
    PE X (.Call (.Name "isinstance" p) [x, .Tuple ys n q] [] pos) (tE T W false (.isi a ts true)) := by
  obtain ⟨vs, us, k1, k2, k3, k4⟩ := pa_ztys C ts ys hf ht
  have hI : ∀ c Ca names, T.cls c = some (Ca, names) → InsT T.K Ca := fun c Ca names hc => by
    obtain ⟨t, ts', e1⟩ := List.exists_cons_of_ne_nil hn
    obtain ⟨v, u, g1, g2, g3⟩ := hf t (by rw [e1]; exact List.mem_cons_self)
    exact (g3 c Ca names hc).1
  refine (pe_callB call_isiT (glB_ok C hg) (by rw [C.hmg]; exact hm) (by decide +kernel) (pa_cons h1 (pa_cons (pe_tup k1) pa_nil) (star_cons hs)) (by decide +kernel) (by decide +kernel) (star_cons hs) rfl).imp fun σ H Q ⟨e, M, F, ρ, m, s, h⟩ => ?_
  refine ⟨e, M, F, ρ, m, s, (Out.bind h).imp fun d m1 M1 F1 H1 s1 _ _ h1 w r => ?_⟩
  have h3 : Out T W e M1 F1 ρ σ (if isRL d = true then (R.bad : R (D × Mu)) else .ok (.bl (ts.any (isTy d)), m1)) (Kf T false e ρ σ Q) := h1
  have nr : isRL d = false := by
    cases hb : isRL d with
    | false => rfl
    | true => rw [if_pos hb] at h3; exact h3.elim
  rw [if_neg (by rw [nr]; simp)] at h3
  refine ⟨by rw [k3, sizeLine_eq]; show ts.length ≤ 16777216; omega, fun tp hp => ?_⟩
  have fp : F1 tp = none := by
    cases r : F1 tp with
    | none => rfl
    | some u => rw [s1.le _ u r] at hp; cases hp
  have s2 := s1.lay (o := .tup vs) hp
  have l2 : Le F1 (upd F1 tp (.tup vs)) := Le.upd fp
  obtain ⟨ty, q1, q2⟩ := (r.mono pfx (l2.trans s2.le)).cl hI nr
  exact ⟨w, tp, vs, ty, us, _, rfl, upd_same, k2, by rw [C.hK]; exact q1, by rw [C.hK]; exact k4 ty d q2, fin_val s2 (h3.mono pfx l2) rfl⟩
end
end Z
end
section
set_option Elab.async false
set_option linter.all false
set_option maxRecDepth 100000
set_option maxHeartbeats 4000000
set_option autoImplicit false
/-! Z: what is walked; comprehensions. -/
namespace Z
open PySem PySem.Spec PyProof.Rows L2
variable {T : Tab}
/-! ### enumerate(tuple) -/
def IteT (K : PySem.W.Frag) (a : Addr) : It :=
  ⟨fun i H => ∃ (xs : List V) (x : V), SqT K H a xs ∧ xs[i]? = some x, fun i H v H' => ∃ T x, v = .ref T ∧ H T = none ∧ H' = upd H T (.tup [.int (i : Nat), x]) ∧ ∀ xs, SqT K H a xs → xs[i]? = some x, fun i H => ∃ xs : List V, SqT K H a xs ∧ xs.length ≤ i⟩
theorem turn_enumT {P : Program} {w : World} {K : PySem.W.Frag} {elts : List Expr} {kk : Nat} {tpos : Pos} (a e it : Addr) (hai : a ≠ it) (hae : a ≠ e) :
    Turn P w K (.Tuple elts kk tpos) (IteT K a) [e, it] e (fun i h => (∃ old, IsEnum h e it ((i : Nat) : Int) old) ∧ h.IsTupleIter it a i ∧ e ≠ it) where
  mem := by simp
  obj := fun i h st b hb => by
    obtain ⟨⟨old, he⟩, ⟨o, ho, hc, hd⟩, _⟩ := st
    have e' : b = e ∨ b = it := by simpa using hb
    rcases e' with z | z
    · rw [z]; exact ⟨_, he, fun v q => nomatch q⟩
    · rw [z]; exact ⟨o, ho, fun v q => by rw [hd] at q; cases q⟩
  keep := fun i h h' st k => let ⟨⟨old, he⟩, hi, hne⟩ := st; ⟨⟨old, k e (by simp) _ he⟩, hi.at fun o q => k it (by simp) o q, hne⟩
  item := by
    intro X hP hw hK hc i pins s σ H E I hf st hg
    subst hP hw hK
    obtain ⟨⟨old, he⟩, hit, hne⟩ := st
    obtain ⟨xs, x, hq, hx⟩ := hg
    obtain ⟨its, rv, p, hz⟩ := I.tuple hq
    obtain ⟨u, hu, ru⟩ := rv.get hx
    have hel : e < s.heap.objs.size := Heap.lt_size he
    have hil : it < s.heap.objs.size := by obtain ⟨_, q, _⟩ := hit; exact Heap.lt_size q
    have hi : i < its.toArray.size := by
      have := (List.getElem?_eq_some_iff.mp hu).1
      simpa using this
    have D := Draws.tuple (prog := X.prog) (w := X.w) (A := X.A.in1) (by have := I.ok.hd hc; exact this) it a hai its.toArray
    refine wpAny_pyNext_enum_itemD D he ⟨hit, p⟩ hi hne (by simp; exact ⟨hne, Ne.symm hae⟩) fun y h' tk hy ho st' hT hsz hk => ?_
    obtain ⟨hit', _⟩ := st'
    have hy' : its.toArray[i]? = some y := hy
    have ey : y = u := by
      have h1 : its[i]? = some y := by simpa using hy'
      rw [hu] at h1
      exact (Option.some.inj h1).symm
    subst ey
    refine ⟨_, rfl, wpAny_letOwnedTupleGo_enum (s := { s with heap := h', toks := tk + 1 }) ho fun h'' he' sb => ?_⟩
    have hT2 : h''.get? s.heap.objs.size = some { cls := .type "tuple", data := .seq #[.int i tk, y] } := (sb.2 _ (Nat.ne_of_gt hel)).trans hT
    have new : ObjOk X.prog X.w (upd H s.heap.objs.size (.tup [.int (i : Nat), x])) h'' s.heap.objs.size (.tup [.int (i : Nat), x]) :=
      ⟨by show 2 ≤ sizeLine; decide, [.int i tk, y], .cons ⟨_, rfl⟩ (.cons ru .nil), ⟨_, hT2, rfl, _, rfl⟩⟩
    have I1 : Inv X pins σ (upd H s.heap.objs.size (.tup [.int (i : Nat), x])) { s with heap := h'', toks := tk + 1 } :=
      I.turnedNew (ch := [e, it]) (fun b ob hb q => (sb.2 b (fun z => hb (by simp [z]))).trans (hk b ob (fun z => hb (by simp [z])) (fun z => hb (by simp [z])) q)) hf (Nat.le_refl _) new
    refine ⟨.ref s.heap.objs.size, _, I1, rfl, ⟨_, x, rfl, I.hok.fresh (Nat.le_refl _), rfl, fun ys hy => by rw [I.tuple_inj hy hq]; exact hx⟩, ⟨⟨y, ?_⟩, hit'.at fun o q => (sb.2 it (Ne.symm hne)).trans q, hne⟩, fun b hb => ?_⟩
    · have e1 : ((i + 1 : Nat) : Int) = (i : Int) + 1 := by omega
      rw [e1]; exact he'
    · have hb' : b < s.heap.objs.size := by
        have e' : b = e ∨ b = it := by simpa using hb
        rcases e' with z | z
        · rw [z]; exact hel
        · rw [z]; exact hil
      rw [upd_ne (Nat.ne_of_lt hb')]
      exact (hf b hb).1
  done := by
    intro X hP hw hK hc i pins s σ H E I hf st hg
    subst hP hw hK
    obtain ⟨⟨old, he⟩, hit, hne⟩ := st
    obtain ⟨xs, hq, hx⟩ := hg
    obtain ⟨its, rv, p, hz⟩ := I.tuple hq
    obtain ⟨f0, f1, f2, f3, f4, f5⟩ := hf it (by simp)
    have hl := rv.length
    have hT : s.TypeIs (.ref e) "enumerate" := ⟨_, he, rfl⟩
    unfold pyNext
    refine wpAny_bind (wpAny_attempt (wpAny_callSpecial?_slot (name := Str.ofString "__next__") hT F.slot_enumerate_next
      (wpAny_call_entry F.slot_enumerate_next hT F.entry_enumerate_next ?_ (F.args_enumerate_next_1 _))))
    show wpAny _ _ (field (.ref e) 2 >>= _) _ _ _
    refine wpAny_bind (wpAny_field he rfl (x := .ref it) rfl ?_)
    refine wpAny_bind (wpAny_nextOf_tuple_end (by have := I.ok.hd hc; exact this) hit p (by simp; omega) fun h' x he' hx' => ?_)
    obtain ⟨o, ho, hc'⟩ := hx'
    refine wpAny_bind (wpAny_isInstance (T := "StopIteration") (b := true) ⟨o, ho, hc'⟩ isSubtype_stop ?_)
    exact wpAny_pure ⟨rfl, I.turned (t' := s.toks) (fun b o hb q => he' b o hb q) f0 f1 f3 f4 f5⟩
  self := fun A i s Q E st h => let ⟨⟨_, he⟩, _⟩ := st; wpAny_pyIter_enum he h
set_option maxHeartbeats 4000000 in
theorem meets_enumT {v : Value} {o : Obj} {H : Heap → Prop} (B : Begins v o H) (hv : ∃ a, v = .ref a) :
    Meets (Builtin.«enumerate.__new__» ⟨[.type "enumerate", v], []⟩) (fun _ R s => H s.heap ∧
      R (.ok (.ret (.ref (s.heap.push o).objs.size))) { s with heap := (s.heap.push o).push { cls := .type "enumerate", data := .fields #[.none, .bool false, .ref s.heap.objs.size, rawInt 0, .none, .none] } }) :=
  .of_wp fun prog w A R s h => by
    obtain ⟨hp, g, d, tk, os⟩ := s; obtain ⟨h1, h⟩ := h
    have hsub := sub_enumerate
    have q1 : ∀ {A' : Around} {E : Value → Shared → Prop} {Q : Value → Shared → Prop}, Q (.ref hp.objs.size) ⟨hp.push o, g, d, tk, os⟩ → wpAny (model prog w) A' (pyIter v) Q E ⟨hp, g, d, tk, os⟩ :=
      fun q => B.iter prog w _ _ ⟨hp, g, d, tk, os⟩ _ h1 q
    wp_walk using q1
    refine wpAny_stack_any fun st => wpAny_pure ?_
    split
    · rename_i c _ _ _ _ _
      cases (c == Value.type "enumerate")
      · wp_walk using q1
        exact ⟨_, rfl, h⟩
      · wp_walk using q1
        exact ⟨_, rfl, h⟩
    · wp_walk using q1
      exact ⟨_, rfl, h⟩
theorem call_enumT {prog : Program} {w : World} {A : Around} {E : Value → Shared → Prop} {s : Shared} {a : Addr} {items : Array Value} {Q : Value → Shared → Prop} (hl : s.heap.IsTuple a items)
    (h : ∀ h', IsEnum h' (s.heap.objs.size + 1) s.heap.objs.size 0 .none → h'.IsTupleIter s.heap.objs.size a 0 → h'.objs.size = s.heap.objs.size + 2 →
      (∀ b o, s.heap.get? b = some o → h'.get? b = some o) → Q (.ref (s.heap.objs.size + 1)) { s with heap := h' }) :
    wpAny (model prog w) A (call (.type "enumerate") [.ref a]) Q E s := by
  refine callType_new F.called_enumerate (by decide) (F.typeCall_enumerate_1 _) (F.newCall_enumerate_1 _) (fun obj => F.args_object_init_2 obj _) F.entry_enumerate_new
    (meets_enumT (begins_tuple a items) ⟨a, rfl⟩) ⟨hl, ?_⟩
  have hz : (s.heap.push { cls := .type "tuple_iterator", data := .fields #[.ref a, .int 0 0] }).objs.size = s.heap.objs.size + 1 := Heap.size_push ..
  show _ ∧ _
  rw [hz]
  have he : IsEnum ((s.heap.push { cls := .type "tuple_iterator", data := .fields #[.ref a, .int 0 0] }).push
      { cls := .type "enumerate", data := .fields #[.none, .bool false, .ref s.heap.objs.size, rawInt 0, .none, .none] }) (s.heap.objs.size + 1) s.heap.objs.size 0 .none := by
    have := Heap.get?_push_size (s.heap.push { cls := .type "tuple_iterator", data := .fields #[.ref a, .int 0 0] })
      (o := { cls := .type "enumerate", data := .fields #[.none, .bool false, .ref s.heap.objs.size, rawInt 0, .none, .none] }) rfl
    rw [hz] at this; exact this
  refine ⟨⟨_, he, rfl⟩, h _ he ⟨_, Heap.get?_push_of_some _ (Heap.get?_push_size _ rfl), rfl, rfl⟩ (by rw [Heap.size_push, hz]) fun b o x => Heap.get?_push_of_some _ (Heap.get?_push_of_some _ x)⟩
def iSeq (K : PySem.W.Frag) (tl : TE) : TI := fun σ H R => tl σ H fun x H1 => ∃ a, x = .ref a ∧ (((∃ xs, SqL K H1 a xs) ∧ R (Itl K a) H1) ∨ ((∃ xs, SqT K H1 a xs) ∧ R (Itt K a) H1))
section
variable {X : Cx} {tg : Expr}
theorem pi_seq {l : Expr} {tl : TE} (hl : PE X l tl) : PI X tg l (iSeq X.K tl) := by
  refine ⟨fun pins s σ H R I h => ?_⟩
  refine thn (hl.run pins s σ H _ I h) fun v s1 ⟨x, H1, I1, r1, q1⟩ => ?_
  obtain ⟨a, e, q1⟩ := q1
  subst e
  cases r1
  have fp : ∀ b ∈ [s1.heap.objs.size], FpOk X pins H1 b := fun b hb => by
    have e : b = s1.heap.objs.size := by simpa using hb
    subst e
    exact I1.fpOk (Nat.le_refl _) (I1.hok.fresh (Nat.le_refl _))
  rcases q1 with ⟨⟨xs, hq⟩, q⟩ | ⟨⟨xs, hq⟩, q⟩
  · obtain ⟨its, rv, p, hz⟩ := I1.list hq
    refine wpAny_pyIter_list p.isList ?_
    exact ⟨s1.heap.objs.size, [s1.heap.objs.size], _, _, H1, rfl, I1.kept (t' := s1.toks) fun b o e => Heap.get?_push_of_some _ e, turn_list a _, ⟨_, Heap.get?_push_size _ rfl, rfl, rfl⟩, fp, q⟩
  · obtain ⟨its, rv, p, hz⟩ := I1.tuple hq
    refine wpAny_pyIter_tuple (show s1.heap.IsTuple a its.toArray from p) ?_
    exact ⟨s1.heap.objs.size, [s1.heap.objs.size], _, _, H1, rfl, I1.kept (t' := s1.toks) fun b o e => Heap.get?_push_of_some _ e, turn_tuple a _, ⟨_, Heap.get?_push_size _ rfl, rfl, rfl⟩, fp, q⟩
def iEnumS (K : PySem.W.Frag) (ta : TA) : TI := fun σ H R => ta σ H fun vs H1 => ∃ a xs, vs = [.ref a] ∧ ((SqL K H1 a xs ∧ R (Ite K a) H1) ∨ (SqT K H1 a xs ∧ R (IteT K a) H1))
theorem pi_enumS {e : Expr} {ta : TA} {p pos tpos : Pos} {elts : List Expr} {kk : Nat} (hg : Gl X "enumerate") (hm : X.mg "enumerate" = none) (ha : PA X [e] ta) (hs : starEach [e] X.env = [(false, eval e X.env)]) :
    PI X (.Tuple elts kk tpos) (.Call (.Name "enumerate" p) [e] [] pos) (iEnumS X.K ta) := by
  refine ⟨fun pins s σ H R I h => ?_⟩
  refine Call_ (ld_blt I hg hm boot_enumerate (PyProof.Rows.callWith_type1 (thn (ha.run pos pins s σ H _ I h) fun us s1 ⟨vs, H1, I1, r1, q1⟩ => ?_) hs rfl))
  obtain ⟨a, xs, ex, q1⟩ := q1
  subst ex
  cases r1 with
  | cons r rr =>
    cases rr
    cases r
    have fp : ∀ b ∈ [s1.heap.objs.size + 1, s1.heap.objs.size], FpOk X pins H1 b := fun b hb => by
      have e' : b = s1.heap.objs.size + 1 ∨ b = s1.heap.objs.size := by simpa using hb
      have hle : s1.heap.objs.size ≤ b := by
        rcases e' with z | z
        · rw [z]; exact Nat.le_add_right _ _
        · rw [z]; exact Nat.le_refl _
      exact I1.fpOk hle (I1.hok.fresh hle)
    rcases q1 with ⟨hq, q⟩ | ⟨hq, q⟩
    · obtain ⟨its, rv, p', hz⟩ := I1.list hq
      refine call_enumerate_list p'.isList fun h' he hit hsz hk => wpAny_pyIter_enum he ?_
      have I2 : Inv X pins σ H1 { s1 with heap := h' } := I1.kept (t' := s1.toks) hk
      exact ⟨s1.heap.objs.size + 1, [s1.heap.objs.size + 1, s1.heap.objs.size], _, _, H1, rfl, I2, turn_enum a (s1.heap.objs.size + 1) s1.heap.objs.size, ⟨⟨.none, he⟩, hit, Nat.succ_ne_self _⟩, fp, q⟩
    · obtain ⟨its, rv, p', hz⟩ := I1.tuple hq
      obtain ⟨o1, ho1, _⟩ := id p'
      have la := Heap.lt_size ho1
      refine call_enumT (show s1.heap.IsTuple a its.toArray from p') fun h' he hit hsz hk => wpAny_pyIter_enum he ?_
      have I2 : Inv X pins σ H1 { s1 with heap := h' } := I1.kept (t' := s1.toks) hk
      exact ⟨s1.heap.objs.size + 1, [s1.heap.objs.size + 1, s1.heap.objs.size], _, _, H1, rfl, I2, turn_enumT a (s1.heap.objs.size + 1) s1.heap.objs.size (Nat.ne_of_lt la) (Nat.ne_of_lt (Nat.lt_succ_of_lt la)), ⟨⟨.none, he⟩, hit, Nat.succ_ne_self _⟩, fp, q⟩
end
/-! ### what a turn yields -/
def YOk (T : Tab) (M : List Addr) (F H : Hp) (d : D) (x : V) (H' : Hp) : Prop := (H' = H ∧ Rep T M F d x) ∨ ∃ p vs ds, d = .tup ds ∧ x = .ref p ∧ H p = none ∧ H' = upd H p (.tup vs) ∧ Reps T M F ds vs ∧ ds.length ≤ line
structure ItOk (T : Tab) (ds : List D) (J : It) (P : List Addr → Hp → Hp → Prop) : Prop where
  stop : ∀ M F H, P M F H → J.stop ds.length H
  go : ∀ i M F H, i < ds.length → P M F H → J.go i H
  yld : ∀ i d M F H x H', ds[i]? = some d → P M F H → J.yld i H x H' → YOk T M F H d x H'
def PSl (T : Tab) (a : Addr) (ds : List D) : List Addr → Hp → Hp → Prop := fun M F H => ∃ vs, SqL T.K H a vs ∧ Reps T M F ds vs
def PSt (T : Tab) (a : Addr) (ds : List D) : List Addr → Hp → Hp → Prop := fun M F H => ∃ vs, SqT T.K H a vs ∧ Reps T M F ds vs
theorem Reps.at_lt {M : List Addr} {F : Hp} {ds : List D} {vs : List V} (r : Reps T M F ds vs) {i : Nat} (h : i < ds.length) : ∃ v, vs[i]? = some v := by
  have := r.length
  exact ⟨_, List.getElem?_eq_getElem (by omega)⟩
theorem it_list (a : Addr) (ds : List D) : ItOk T ds (Itl T.K a) (PSl T a ds) where
  stop := fun M F H ⟨vs, q, r⟩ => ⟨vs, q, by rw [r.length]; exact Nat.le_refl _⟩
  go := fun i M F H hi ⟨vs, q, r⟩ => by obtain ⟨v, hv⟩ := r.at_lt hi; exact ⟨vs, v, q, hv⟩
  yld := fun i d M F H x H' hd ⟨vs, q, r⟩ ⟨e, y⟩ => by
    obtain ⟨v, hv, rv⟩ := r.get hd
    have h2 := y vs q
    rw [hv] at h2
    cases h2
    exact .inl ⟨e, rv⟩
theorem it_tup (a : Addr) (ds : List D) : ItOk T ds (Itt T.K a) (PSt T a ds) where
  stop := fun M F H ⟨vs, q, r⟩ => ⟨vs, q, by rw [r.length]; exact Nat.le_refl _⟩
  go := fun i M F H hi ⟨vs, q, r⟩ => by obtain ⟨v, hv⟩ := r.at_lt hi; exact ⟨vs, v, q, hv⟩
  yld := fun i d M F H x H' hd ⟨vs, q, r⟩ ⟨e, y⟩ => by
    obtain ⟨v, hv, rv⟩ := r.get hd
    have h2 := y vs q
    rw [hv] at h2
    cases h2
    exact .inl ⟨e, rv⟩
theorem rngI_len (lo : Int) (n : Nat) (c : Int) : (rngI lo n c).length = n := by unfold rngI; simp
theorem rngI_get {lo : Int} {n : Nat} {c : Int} {i : Nat} {d : D} (h : (rngI lo n c)[i]? = some d) : i < n ∧ d = .int (lo + (i : Nat) * c) := by
  unfold rngI at h
  rw [List.getElem?_map] at h
  obtain ⟨k, hk, e⟩ := Option.map_eq_some_iff.mp h
  obtain ⟨h1, h2⟩ := List.getElem?_eq_some_iff.mp hk
  rw [List.getElem_range] at h2
  subst h2
  exact ⟨by simpa using h1, e.symm⟩
theorem it_rng (lo : Int) (n : Nat) : ItOk T (rngI lo n 1) (Itr lo n) (fun _ _ _ => True) where
  stop := fun M F H _ => by show n ≤ _; rw [rngI_len]; exact Nat.le_refl _
  go := fun i M F H hi _ => by rw [rngI_len] at hi; exact hi
  yld := fun i d M F H x H' hd _ ⟨e, y⟩ => by
    obtain ⟨_, rfl⟩ := rngI_get hd
    exact .inl ⟨e, by show x = _; rw [y, Int.mul_one]⟩
theorem it_rngC (lo c : Int) (n : Nat) : ItOk T (rngI lo n c) (Itc lo c n) (fun _ _ _ => True) where
  stop := fun M F H _ => by show n ≤ _; rw [rngI_len]; exact Nat.le_refl _
  go := fun i M F H hi _ => by rw [rngI_len] at hi; exact hi
  yld := fun i d M F H x H' hd _ ⟨e, y⟩ => by
    obtain ⟨_, rfl⟩ := rngI_get hd
    exact .inl ⟨e, y⟩
theorem enuF_len : ∀ (k : Nat) (ds : List D), (enuF k ds).length = ds.length
  | _, [] => rfl
  | k, d :: ds => by simp only [enuF, List.length_cons, enuF_len (k + 1) ds]
theorem enuF_get : ∀ {k : Nat} {ds : List D} {i : Nat} {d : D}, (enuF k ds)[i]? = some d → ∃ x, ds[i]? = some x ∧ d = .tup [.int ((k + i : Nat) : Int), x]
  | _, [], i, d, h => by simp [enuF] at h
  | k, y :: ds, 0, d, h => by
    simp only [enuF, List.getElem?_cons_zero, Option.some.injEq] at h
    exact ⟨y, rfl, h.symm⟩
  | k, y :: ds, i + 1, d, h => by
    simp only [enuF, List.getElem?_cons_succ] at h
    obtain ⟨x, h1, h2⟩ := enuF_get h
    refine ⟨x, by simpa using h1, ?_⟩
    rw [h2]
    have : k + 1 + i = k + (i + 1) := by omega
    rw [this]
theorem it_enu (a : Addr) (ds : List D) : ItOk T (enuF 0 ds) (Ite T.K a) (PSl T a ds) where
  stop := fun M F H ⟨vs, q, r⟩ => ⟨vs, q, by rw [enuF_len, r.length]; exact Nat.le_refl _⟩
  go := fun i M F H hi ⟨vs, q, r⟩ => by rw [enuF_len] at hi; obtain ⟨v, hv⟩ := r.at_lt hi; exact ⟨vs, v, q, hv⟩
  yld := fun i d M F H x H' hd ⟨vs, q, r⟩ ⟨p, y, e1, e2, e3, e4⟩ => by
    obtain ⟨z, hz, rfl⟩ := enuF_get hd
    obtain ⟨v, hv, rv⟩ := r.get hz
    have h2 := e4 vs q
    rw [hv] at h2
    cases h2
    exact .inr ⟨p, _, _, rfl, e1, e2, e3, Reps.cons (by show V.int _ = V.int _; rw [Nat.zero_add]) (Reps.cons rv Reps.nil), by show 2 ≤ 16777216; decide⟩
theorem it_enuT (a : Addr) (ds : List D) : ItOk T (enuF 0 ds) (IteT T.K a) (PSt T a ds) where
  stop := fun M F H ⟨vs, q, r⟩ => ⟨vs, q, by rw [enuF_len, r.length]; exact Nat.le_refl _⟩
  go := fun i M F H hi ⟨vs, q, r⟩ => by rw [enuF_len] at hi; obtain ⟨v, hv⟩ := r.at_lt hi; exact ⟨vs, v, q, hv⟩
  yld := fun i d M F H x H' hd ⟨vs, q, r⟩ ⟨p, y, e1, e2, e3, e4⟩ => by
    obtain ⟨z, hz, rfl⟩ := enuF_get hd
    obtain ⟨v, hv, rv⟩ := r.get hz
    have h2 := e4 vs q
    rw [hv] at h2
    cases h2
    exact .inr ⟨p, _, _, rfl, e1, e2, e3, Reps.cons (by show V.int _ = V.int _; rw [Nat.zero_add]) (Reps.cons rv Reps.nil), by show 2 ≤ 16777216; decide⟩
theorem zip2_len : ∀ (as bs : List D), (zip2 as bs).length = min as.length bs.length
  | [], bs => by simp [zip2]
  | a :: as, [] => by simp [zip2]
  | a :: as, b :: bs => by simp only [zip2, List.length_cons, zip2_len as bs]; omega
theorem zip2_get : ∀ {as bs : List D} {i : Nat} {d : D}, (zip2 as bs)[i]? = some d → ∃ x y, as[i]? = some x ∧ bs[i]? = some y ∧ d = .tup [x, y]
  | [], bs, i, d, h => by simp [zip2] at h
  | a :: as, [], i, d, h => by simp [zip2] at h
  | a :: as, b :: bs, 0, d, h => by
    simp only [zip2, List.getElem?_cons_zero, Option.some.injEq] at h
    exact ⟨a, b, rfl, rfl, h.symm⟩
  | a :: as, b :: bs, i + 1, d, h => by
    simp only [zip2, List.getElem?_cons_succ] at h
    obtain ⟨x, y, h1, h2, h3⟩ := zip2_get h
    exact ⟨x, y, by simpa using h1, by simpa using h2, h3⟩
theorem it_zipL (a b : Addr) (ds es : List D) : ItOk T (zip2 ds es) (Itz T.K a b) (fun M F H => PSl T a ds M F H ∧ PSl T b es M F H) where
  stop := fun M F H ⟨⟨vs, q, r⟩, ws, q2, r2⟩ => ⟨vs, ws, q, q2, by rw [zip2_len, r.length, r2.length]; omega⟩
  go := fun i M F H hi ⟨⟨vs, q, r⟩, ws, q2, r2⟩ => by
    rw [zip2_len] at hi
    obtain ⟨v, hv⟩ := r.at_lt (i := i) (by omega)
    obtain ⟨w, hw⟩ := r2.at_lt (i := i) (by omega)
    exact ⟨vs, ws, v, w, q, q2, hv, hw⟩
  yld := fun i d M F H x H' hd ⟨⟨vs, q, r⟩, ws, q2, r2⟩ ⟨p, y, z, e1, e2, e3, e4, e5⟩ => by
    obtain ⟨f, g, hf, hg, rfl⟩ := zip2_get hd
    obtain ⟨v, hv, rv⟩ := r.get hf
    obtain ⟨w, hw, rw'⟩ := r2.get hg
    have h2 := e4 vs q
    have h3 := e5 ws q2
    rw [hv] at h2
    rw [hw] at h3
    cases h2
    cases h3
    exact .inr ⟨p, _, _, rfl, e1, e2, e3, Reps.cons rv (Reps.cons rw' Reps.nil), by show 2 ≤ 16777216; decide⟩
theorem it_zipT (a b : Addr) (ds es : List D) : ItOk T (zip2 ds es) (RZ.ItzT T.K a b) (fun M F H => PSt T a ds M F H ∧ PSt T b es M F H) where
  stop := fun M F H ⟨⟨vs, q, r⟩, ws, q2, r2⟩ => ⟨vs, ws, q, q2, by rw [zip2_len, r.length, r2.length]; omega⟩
  go := fun i M F H hi ⟨⟨vs, q, r⟩, ws, q2, r2⟩ => by
    rw [zip2_len] at hi
    obtain ⟨v, hv⟩ := r.at_lt (i := i) (by omega)
    obtain ⟨w, hw⟩ := r2.at_lt (i := i) (by omega)
    exact ⟨vs, ws, v, w, q, q2, hv, hw⟩
  yld := fun i d M F H x H' hd ⟨⟨vs, q, r⟩, ws, q2, r2⟩ ⟨p, y, z, e1, e2, e3, e4, e5⟩ => by
    obtain ⟨f, g, hf, hg, rfl⟩ := zip2_get hd
    obtain ⟨v, hv, rv⟩ := r.get hf
    obtain ⟨w, hw, rw'⟩ := r2.get hg
    have h2 := e4 vs q
    have h3 := e5 ws q2
    rw [hv] at h2
    rw [hw] at h3
    cases h2
    cases h3
    exact .inr ⟨p, _, _, rfl, e1, e2, e3, Reps.cons rv (Reps.cons rw' Reps.nil), by show 2 ≤ 16777216; decide⟩
/-! ### sources -/
def Rdo (o : Bool) (T : Tab) (M : List Addr) (F : Hp) (ρ : Env) (σ : L2.St) (d : D) (v : V) : Prop := match o with
  | true => Rdv T M F ρ σ d v
  | false => Rep T M F d v
theorem Rdo.v {o : Bool} {M : List Addr} {F : Hp} {ρ : Env} {σ : L2.St} {d : D} {v : V} (h : Rdo o T M F ρ σ d v) : Rdv T M F ρ σ d v := by
  cases o with
  | true => exact h
  | false => exact .inl h
def tX (T : Tab) (W : WX) (o : Bool) (x : Ex) : TE := fun σ H Q => ∃ e M F ρ m, SR T e M F ρ m σ H ∧ Out T W e M F ρ σ (rdo o x ρ m (ev x ρ m)) fun d _ M' F' H' => ∀ v, Rdo o T M' F' ρ σ d v → Q v H'
def Stn (T : Tab) (o : Bool) (e : En) (M : List Addr) (F : Hp) (ρ : Env) (σ : L2.St) (P : List Addr → Hp → Hp → Prop) : Prop :=
  ∀ M' F' m' ρ' σ' H', SR T e M' F' ρ' m' σ' H' → M <+: M' → Le F F' → (o = true → ρ' = ρ ∧ σ' = σ) → P M' F' H'
def Ksrc (T : Tab) (o : Bool) (e : En) (ρ : Env) (σ : L2.St) (R : It → Hp → Prop) (ds : List D) (_ : Mu) (M : List Addr) (F H : Hp) : Prop := ds.length ≤ line → ∀ J P, ItOk T ds J P → Stn T o e M F ρ σ P → R J H
def tI (T : Tab) (W : WX) (o : Bool) (src : Src) : TI := fun σ H R => ∃ e M F ρ m, SR T e M F ρ m σ H ∧ Out T W e M F ρ σ (evSrc src o ρ m) (Ksrc T o e ρ σ R)
section
variable {X : Cx} {W : WX} {k : Nat} {N : List Str} {sc : Scope} {o : Bool} {tg : Expr}
theorem pe_o {y : Expr} {x : Ex} (h1 : o = true → PE X y (tR T W x)) (h2 : o = false → PE X y (tE T W false x)) : PE X y (tX T W o x) := by
  cases o with
  | true => exact (h1 rfl).imp fun σ H Q h => h
  | false => exact (h2 rfl).imp fun σ H Q h => h
theorem _root_.L2.PI.imp {X : Cx} {tg x : Expr} {t t' : TI} (h : PI X tg x t) (hi : ∀ σ H Q, t' σ H Q → t σ H Q) : PI X tg x t' := ⟨fun pins s σ H Q I q => h.run pins s σ H Q I (hi σ H Q q)⟩
theorem stn_l {e : En} {M : List Addr} {F : Hp} {ρ : Env} {m : Mu} {σ : L2.St} {H : Hp} (s : SR T e M F ρ m σ H) {ds : List D} {v : V} (r : Rdo o T M F ρ σ (.lst ds) v) : ∃ a, v = .ref a ∧ (∃ vs, SqL T.K H a vs) ∧ ds.length ≤ line ∧ Stn T o e M F ρ σ (PSl T a ds) := by
  obtain ⟨a, vs, rfl, q1, q2, q3⟩ := s.rd_lst r.v
  refine ⟨a, rfl, ⟨vs, q1⟩, q2, fun M' F' m' ρ' σ' H' s' h1 h2 h3 => ?_⟩
  have r' : Rdv T M' F' ρ' σ' (.lst ds) (.ref a) := by
    cases o with
    | true =>
      obtain ⟨rfl, rfl⟩ := h3 rfl
      exact Rdv.mono r h1 h2
    | false => exact .inl (Rep.mono h1 h2 _ _ r)
  obtain ⟨a', vs', e', q1', _, q3'⟩ := s'.rd_lst r'
  cases e'
  exact ⟨vs', q1', q3'⟩
theorem stn_t {e : En} {M : List Addr} {F : Hp} {ρ : Env} {m : Mu} {σ : L2.St} {H : Hp} (s : SR T e M F ρ m σ H) {ds : List D} {v : V} (r : Rdo o T M F ρ σ (.tup ds) v) : ∃ a, v = .ref a ∧ (∃ vs, SqT T.K H a vs) ∧ ds.length ≤ line ∧ Stn T o e M F ρ σ (PSt T a ds) := by
  obtain ⟨a, vs, rfl, q1, q2, q3⟩ := s.rd_tup r.v
  refine ⟨a, rfl, ⟨vs, q1⟩, q2, fun M' F' m' ρ' σ' H' s' h1 h2 h3 => ?_⟩
  have r' : Rdv T M' F' ρ' σ' (.tup ds) (.ref a) := by
    cases o with
    | true =>
      obtain ⟨rfl, rfl⟩ := h3 rfl
      exact Rdv.mono r h1 h2
    | false => exact .inl (Rep.mono h1 h2 _ _ r)
  obtain ⟨a', vs', e', q1', _, q3'⟩ := s'.rd_tup r'
  cases e'
  exact ⟨vs', q1', q3'⟩
theorem stn_0 {e : En} {M : List Addr} {F : Hp} {ρ : Env} {σ : L2.St} : Stn T o e M F ρ σ fun _ _ _ => True := fun _ _ _ _ _ _ _ _ _ _ => True.intro
theorem pi_zseq (C : CxB T N sc X) {l : Expr} {a : Ex} (h : PE X l (tX T W o a)) : PI X tg l (tI T W o (.seq a)) :=
  (pi_seq h).imp fun σ H R ⟨e, M, F, ρ, m, s, h⟩ => by
    refine ⟨e, M, F, ρ, m, s, (Out.bind h).imp fun d m1 M1 F1 H1 s1 _ _ h1 v r => ?_⟩
    obtain ⟨xs, hx, h2⟩ := h1.of
    rw [C.hK]
    cases d with
    | lst ds =>
      cases hx
      obtain ⟨a, rfl, q1, q2, q3⟩ := stn_l s1 r
      exact ⟨a, rfl, .inl ⟨q1, h2 M1 F1 H1 s1 pfx Le.rfl' q2 _ _ (it_list a _) q3⟩⟩
    | tup ds =>
      cases hx
      obtain ⟨a, rfl, q1, q2, q3⟩ := stn_t s1 r
      exact ⟨a, rfl, .inr ⟨q1, h2 M1 F1 H1 s1 pfx Le.rfl' q2 _ _ (it_tup a _) q3⟩⟩
    | _ => cases hx
theorem pi_zrng1 (C : CxB T N sc X) {l : Expr} {a : Ex} {p pos : Pos} (h : PE X l (tE T W false a)) (hs : isStar l = false) (hm : T.mg "range" = none) (hg : glB sc "range" = true) : PI X tg (.Call (.Name "range" p) [l] [] pos) (tI T W o (.rng1 a)) :=
  (pi_range1 (glB_ok C hg) (by rw [C.hmg]; exact hm) (pa_cons h pa_nil (star_cons hs)) (star_cons hs)).imp fun σ H R ⟨e, M, F, ρ, m, s, h⟩ => by
    refine ⟨e, M, F, ρ, m, s, (Out.bind h).imp fun d m1 M1 F1 H1 s1 _ _ h1 v r => ?_⟩
    cases d with
    | int j =>
      obtain rfl : v = .int j := r
      dsimp only at h1
      split at h1
      · rename_i hz
        obtain ⟨z1, z2⟩ := hz
        exact ⟨j, rfl, z1.1, z1.2, h1 M1 F1 H1 s1 pfx Le.rfl' (by rw [rngI_len]; omega) _ _ (it_rng 0 j.toNat) stn_0⟩
      · exact h1.elim
    | _ => exact h1.elim
theorem pi_zrng2 (C : CxB T N sc X) {l r : Expr} {a b : Ex} {p pos : Pos} (h : PE X l (tE T W false a)) (h' : PE X r (tE T W false b)) (hs : isStar l = false) (hs2 : isStar r = false) (hm : T.mg "range" = none) (hg : glB sc "range" = true) : PI X tg (.Call (.Name "range" p) [l, r] [] pos) (tI T W o (.rng2 a b)) :=
  (pi_range2 (glB_ok C hg) (by rw [C.hmg]; exact hm) (pa_cons h (pa_cons h' pa_nil (star_cons hs2)) (star_cons hs)) (by rw [star_cons hs, star_cons hs2]; rfl) (star_cons hs2)).imp fun σ H R ⟨e, M, F, ρ, m, s, h⟩ => by
    refine ⟨e, M, F, ρ, m, s, (Out.bind h).imp fun d m1 M1 F1 H1 s1 _ _ h1 v r => ?_⟩
    refine ⟨e, M1, F1, ρ, m1, s1, (Out.bind h1).imp fun d2 m2 M2 F2 H2 s2 l1 l2 h2 v2 r2 => ?_⟩
    cases d with
    | int i =>
      cases d2 with
      | int j =>
        obtain rfl : v = .int i := r
        obtain rfl : v2 = .int j := r2
        dsimp only at h2
        split at h2
        · rename_i hz
          obtain ⟨z1, z2, z3⟩ := hz
          exact ⟨i, j, rfl, ⟨z1.1, z1.2, z2.1, z2.2⟩, h2 M2 F2 H2 s2 pfx Le.rfl' (by rw [rngI_len]; omega) _ _ (it_rng i (j - i).toNat) stn_0⟩
        · exact h2.elim
      | _ => exact h2.elim
    | _ => exact h2.elim
theorem rgc_ok {i j c : Int} (h1 : small i) (h2 : small j) (h3 : c ≠ 0) (h4 : c.natAbs < 1000000) (h5 : rngN i j c ≤ line) : RgC i j c (rngN i j c) := by
  obtain ⟨a1, a2⟩ := h1
  obtain ⟨b1, b2⟩ := h2
  have e1 : Builtin.Range.rangeSize i j c = ((rngN i j c : Nat) : Int) := by
    rw [rangeSize_toNat]
    rfl
  have h5' : ((rngN i j c : Nat) : Int) ≤ 16777216 := by have : rngN i j c ≤ 16777216 := h5; omega
  have h6 : (0 : Int) ≤ ((rngN i j c : Nat) : Int) := by omega
  refine ⟨h3, by omega, ?_, e1⟩
  unfold Builtin.Range.small
  rw [e1]
  simp only [Builtin.Range.rangeFitsLong, Bool.and_eq_true, Bool.or_eq_true, decide_eq_true_eq, beq_iff_eq]
  refine ⟨⟨⟨⟨by omega, by omega⟩, by omega, by omega⟩, by omega, by omega⟩, .inr ?_⟩
  split
  · simp only [Bool.and_eq_true, decide_eq_true_eq]; omega
  · simp only [Bool.and_eq_true, decide_eq_true_eq]; omega
theorem pi_zrng3 (C : CxB T N sc X) {l r t : Expr} {a b : Ex} {c : Int} {p pos : Pos} (h : PE X l (tE T W false a)) (h' : PE X r (tE T W false b)) (h3 : PE X t (tC (.int c))) (hs : isStar l = false) (hs2 : isStar r = false) (hs3 : isStar t = false) (hm : T.mg "range" = none) (hg : glB sc "range" = true) : PI X tg (.Call (.Name "range" p) [l, r, t] [] pos) (tI T W o (.rng3 a b c)) :=
  (pi_range3 (glB_ok C hg) (by rw [C.hmg]; exact hm) (pa_cons h (pa_cons h' (pa_cons h3 pa_nil (star_cons hs3)) (star_cons hs2)) (star_cons hs)) (star_cons hs) (by rw [star_cons hs2, star_cons hs3]; rfl)).imp fun σ H R ⟨e, M, F, ρ, m, s, h⟩ => by
    refine ⟨e, M, F, ρ, m, s, (Out.bind h).imp fun d m1 M1 F1 H1 s1 _ _ h1 v r => ?_⟩
    refine ⟨e, M1, F1, ρ, m1, s1, (Out.bind h1).imp fun d2 m2 M2 F2 H2 s2 l1 l2 h2 v2 r2 => ?_⟩
    cases d with
    | int i =>
      cases d2 with
      | int j =>
        obtain rfl : v = .int i := r
        obtain rfl : v2 = .int j := r2
        dsimp only at h2
        split at h2
        · rename_i hz
          obtain ⟨z1, z2, z3, z4, z5⟩ := hz
          exact ⟨i, j, c, _, rfl, rgc_ok z1 z2 z4 z5 z3, h2 M2 F2 H2 s2 pfx Le.rfl' (by rw [rngI_len]; exact z3) _ _ (it_rngC i c (rngN i j c)) stn_0⟩
        · exact h2.elim
      | _ => exact h2.elim
    | _ => exact h2.elim
theorem pi_zenu (C : CxB T N sc X) {l : Expr} {a : Ex} {p pos tpos : Pos} {elts : List Expr} {kk : Nat} (h : PE X l (tX T W o a)) (hs : isStar l = false) (hm : T.mg "enumerate" = none) (hg : glB sc "enumerate" = true) :
    PI X (.Tuple elts kk tpos) (.Call (.Name "enumerate" p) [l] [] pos) (tI T W o (.enu a)) :=
  (pi_enumS (glB_ok C hg) (by rw [C.hmg]; exact hm) (pa_cons h pa_nil (star_cons hs)) (star_cons hs)).imp fun σ H R ⟨e, M, F, ρ, m, s, h⟩ => by
    refine ⟨e, M, F, ρ, m, s, (Out.bind h).imp fun d m1 M1 F1 H1 s1 _ _ h1 v r => ?_⟩
    obtain ⟨xs, hx, h2⟩ := h1.of
    rw [C.hK]
    cases d with
    | lst ds =>
      cases hx
      obtain ⟨a, rfl, ⟨vs, q1⟩, q2, q3⟩ := stn_l s1 r
      exact ⟨a, vs, rfl, .inl ⟨q1, h2 M1 F1 H1 s1 pfx Le.rfl' (by rw [enuF_len]; exact q2) _ _ (it_enu a _) q3⟩⟩
    | tup ds =>
      cases hx
      obtain ⟨a, rfl, ⟨vs, q1⟩, q2, q3⟩ := stn_t s1 r
      exact ⟨a, vs, rfl, .inr ⟨q1, h2 M1 F1 H1 s1 pfx Le.rfl' (by rw [enuF_len]; exact q2) _ _ (it_enuT a _) q3⟩⟩
    | _ => cases hx
theorem Stn.mono {e : En} {M M' : List Addr} {F F' : Hp} {ρ : Env} {σ : L2.St} {P : List Addr → Hp → Hp → Prop} (h : Stn T o e M F ρ σ P) (hm : M <+: M') (hf : Le F F') : Stn T o e M' F' ρ σ P :=
  fun M2 F2 m2 ρ2 σ2 H2 s h1 h2 h3 => h M2 F2 m2 ρ2 σ2 H2 s (hm.trans h1) (hf.trans h2) h3
theorem pi_zzip (C : CxB T N sc X) {l r : Expr} {a b : Ex} {p pos tpos : Pos} {elts : List Expr} {kk : Nat} (h : PE X l (tX T W o a)) (h' : PE X r (tX T W o b)) (hs : isStar l = false) (hs2 : isStar r = false) (hm : T.mg "zip" = none) (hg : glB sc "zip" = true) :
    PI X (.Tuple elts kk tpos) (.Call (.Name "zip" p) [l, r] [] pos) (tI T W o (.zip a b)) :=
  (RZ.pi_zipA (glB_ok C hg) (by rw [C.hmg]; exact hm) (pa_cons h (pa_cons h' pa_nil (star_cons hs2)) (star_cons hs)) (star_cons hs) (by rw [star_cons hs2]; rfl)).imp fun σ H R ⟨e, M, F, ρ, m, s, h⟩ => by
    refine ⟨e, M, F, ρ, m, s, (Out.bind h).imp fun d m1 M1 F1 H1 s1 _ _ h1 v r => ?_⟩
    refine ⟨e, M1, F1, ρ, m1, s1, (Out.bind h1).imp fun d2 m2 M2 F2 H2 s2 l1 l2 h2 v2 r2 => ?_⟩
    rw [C.hK]
    have rm : Rdo o T M2 F2 ρ σ d v := by
      cases o with
      | true => exact Rdv.mono r l1 l2
      | false => exact Rep.mono l1 l2 _ _ r
    cases d with
    | lst ds =>
      cases d2 with
      | lst es =>
        obtain ⟨a, rfl, ⟨vs, q1⟩, q2, q3⟩ := stn_l s2 rm
        obtain ⟨b, rfl, ⟨ws, p1⟩, p2, p3⟩ := stn_l s2 r2
        exact ⟨a, b, vs, ws, rfl, .inl ⟨q1, p1, h2 M2 F2 H2 s2 pfx Le.rfl' (by rw [zip2_len]; omega) _ _ (it_zipL a b _ _) fun M' F' m' ρ' σ' H' s' z1 z2 z3 => ⟨q3 M' F' m' ρ' σ' H' s' z1 z2 z3, p3 M' F' m' ρ' σ' H' s' z1 z2 z3⟩⟩⟩
      | _ => exact h2.elim
    | tup ds =>
      cases d2 with
      | tup es =>
        obtain ⟨a, rfl, ⟨vs, q1⟩, q2, q3⟩ := stn_t s2 rm
        obtain ⟨b, rfl, ⟨ws, p1⟩, p2, p3⟩ := stn_t s2 r2
        exact ⟨a, b, vs, ws, rfl, .inr ⟨q1, p1, h2 M2 F2 H2 s2 pfx Le.rfl' (by rw [zip2_len]; omega) _ _ (it_zipT a b _ _) fun M' F' m' ρ' σ' H' s' z1 z2 z3 => ⟨q3 M' F' m' ρ' σ' H' s' z1 z2 z3, p3 M' F' m' ρ' σ' H' s' z1 z2 z3⟩⟩⟩
      | _ => exact h2.elim
    | _ => exact h2.elim
end
end Z
end
section
set_option Elab.async false
set_option linter.all false
set_option maxRecDepth 100000
set_option maxHeartbeats 4000000
set_option autoImplicit false
/-! Z: targets, comprehensions. -/
namespace Z
open PySem PySem.Spec PyProof.Rows L2
variable {T : Tab}
/-! ### targets -/
def gP (T : Tab) (p : Pat) : TG := fun v σ H Q => ∃ e M F ρ m d ρ', SR T e M F ρ m σ H ∧ Rep T M F d v ∧ bindP p d ρ = some ρ' ∧ ∀ σ', SR T e M F ρ' m σ' H → σ'.length = σ.length → (∀ j, j ∉ pnames p → σ'[j]? = σ[j]?) → Q σ' H
def gPs (T : Tab) (p : Pats) : TGs := fun vs σ H Q => ∃ e M F ρ m ds ρ', SR T e M F ρ m σ H ∧ Reps T M F ds vs ∧ bindPs p ds ρ = some ρ' ∧ ∀ σ', SR T e M F ρ' m σ' H → σ'.length = σ.length → (∀ j, j ∉ pnamess p → σ'[j]? = σ[j]?) → Q σ' H
theorem _root_.L2.PG.imp {X : Cx} {x : Expr} {t t' : TG} (h : PG X x t) (hi : ∀ v σ H Q, t' v σ H Q → t v σ H Q) : PG X x t' := ⟨fun pins s σ H v u Q I r q => h.run pins s σ H v u Q I r (hi v σ H Q q)⟩
theorem _root_.L2.PGs.imp {X : Cx} {x : List Expr} {t t' : TGs} (h : PGs X x t) (hi : ∀ v σ H Q, t' v σ H Q → t v σ H Q) : PGs X x t' := ⟨fun pins s σ H v u Q I r q => h.run pins s σ H v u Q I r (hi v σ H Q q)⟩
theorem each_cons {e : Expr} {es : List Expr} {env : PySem.Env} (h : isStar e = false) : assignEach (e :: es) env = (false, assign e env) :: assignEach es env := by
  cases e <;> first | rfl | cases h
theorem each_len {es : List Expr} {env : PySem.Env} (h : es.all (fun e => !isStar e) = true) : (assignEach es env).length = es.length := by
  induction es with
  | nil => rfl
  | cons e es ih =>
    simp only [List.all_cons, Bool.and_eq_true, Bool.not_eq_true'] at h
    rw [each_cons h.1, List.length_cons, List.length_cons, ih h.2]
theorem each_none {es : List Expr} {env : PySem.Env} (h : es.all (fun e => !isStar e) = true) : (assignEach es env).findIdx? (·.1) = none := by
  rw [List.findIdx?_eq_none_iff]
  induction es with
  | nil => intro x hx; cases hx
  | cons e es ih =>
    simp only [List.all_cons, Bool.and_eq_true, Bool.not_eq_true'] at h
    rw [each_cons h.1]
    intro x hx
    rcases List.mem_cons.mp hx with rfl | hx
    · rfl
    · exact ih h.2 x hx
section
variable {X : Cx} {W : WX} {k : Nat} {N : List Str} {sc : Scope} {fr : Bool}
theorem pg_zname (C : CxB T N sc X) {i : Nat} {x : Str} {pos : Pos} (hi : N[i]? = some x) (hx : locB sc x = true) (hf : X.fn x = true ∨ sc.names.lookup x = some .local) : PG X (.Name x pos) (gP T (.name i)) :=
  (pg_name (by rw [C.hN]; exact C.nd) (by rw [C.hN]; exact hi) (by rw [C.hsc]; exact locB_ok hx) (by rw [C.hsc]; exact hf)).imp fun v σ H Q ⟨e, M, F, ρ, m, d, ρ', s, r, hb, q⟩ => by
    cases hb
    exact q _ (s.setV r) (by simp) fun j hj => List.getElem?_set_ne fun z => hj (by rw [← z]; exact List.mem_singleton.mpr rfl)
theorem pgs_znil : PGs X [] (gPs T .nil) := pgs_nil.imp fun vs σ H Q ⟨e, M, F, ρ, m, ds, ρ', s, r, hb, q⟩ => by
  cases ds with
  | nil =>
    have e1 : vs = [] := r
    cases hb
    exact ⟨e1, q σ s rfl fun j hj => rfl⟩
  | cons d ds => cases hb
theorem pgs_zcons {x : Expr} {xs : List Expr} {p : Pat} {ps : Pats} (h1 : PG X x (gP T p)) (h2 : PGs X xs (gPs T ps)) (hs : isStar x = false) : PGs X (x :: xs) (gPs T (.cons p ps)) :=
  (pgs_cons h1 h2 (by rw [each_cons hs]; rfl)).imp fun vs σ H Q ⟨e, M, F, ρ, m, ds, ρ', s, r, hb, q⟩ => by
    cases ds with
    | nil => cases hb
    | cons d ds =>
      obtain ⟨v, ws, rfl, r1, r2⟩ := r
      unfold bindPs at hb
      split at hb
      · rename_i ρ1 hb1
        refine ⟨v, ws, rfl, e, M, F, ρ, m, d, ρ1, s, r1, hb1, fun σ1 s1 l1 k1 => ⟨e, M, F, ρ1, m, ds, ρ', s1, r2, hb, fun σ2 s2 l2 k2 => q σ2 s2 (l2.trans l1) fun j hj => ?_⟩⟩
        have hj' : j ∉ pnames p ++ pnamess ps := hj
        rw [List.mem_append, not_or] at hj'
        exact (k2 j hj'.2).trans (k1 j hj'.1)
      · cases hb
theorem bindPs_len : ∀ {ps : Pats} {ds : List D} {ρ ρ' : Env}, bindPs ps ds ρ = some ρ' → ∀ {X : Cx} {xs : List Expr}, True → True := fun _ _ _ _ => True.intro
def Pats.len : Pats → Nat
  | .nil => 0
  | .cons _ ps => ps.len + 1
theorem bindPs_len' : ∀ {ps : Pats} {ds : List D} {ρ ρ' : Env}, bindPs ps ds ρ = some ρ' → ds.length = ps.len
  | .nil, [], ρ, ρ', h => rfl
  | .nil, d :: ds, ρ, ρ', h => by cases h
  | .cons p ps, [], ρ, ρ', h => by cases h
  | .cons p ps, d :: ds, ρ, ρ', h => by
    unfold bindPs at h
    split at h
    · simp only [List.length_cons, Pats.len, bindPs_len' h]
    · cases h
theorem pg_ztup (C : CxB T N sc X) (hc : X.calm = true) {xs : List Expr} {ps : Pats} {n : Nat} {pos : Pos} (h : PGs X xs (gPs T ps)) (hl : xs.length = ps.len) (hs : xs.all (fun e => !isStar e) = true) : PG X (.Tuple xs n pos) (gP T (.tup ps)) :=
  (pg_tup hc h (each_len hs) (each_none hs)).imp fun v σ H Q ⟨e, M, F, ρ, m, d, ρ', s, r, hb, q⟩ => by
    cases d with
    | tup ds =>
      obtain ⟨a, vs, rfl, q1, q2, q3⟩ := r
      have hb' : bindPs ps ds ρ = some ρ' := hb
      refine ⟨a, vs, rfl, by rw [C.hK]; exact SqT.le q1 s.le, by rw [hl, ← q3.length, bindPs_len' hb'], e, M, F, ρ, m, ds, ρ', s, q3, hb', q⟩
    | _ => cases hb
/-! ### the state in a block -/
theorem clear_out : ∀ {is : List Nat} {ρ : Env} {j : Nat}, j ∉ is → (clear ρ is)[j]? = ρ[j]?
  | [], ρ, j, _ => rfl
  | i :: is, ρ, j, h => by
    rw [List.mem_cons, not_or] at h
    show (clear (ρ.set i .un) is)[j]? = _
    rw [clear_out h.2, List.getElem?_set_ne (Ne.symm h.1)]
theorem clear_len : ∀ {is : List Nat} {ρ : Env}, (clear ρ is).length = ρ.length
  | [], ρ => rfl
  | i :: is, ρ => by
    show (clear (ρ.set i .un) is).length = _
    rw [clear_len]; simp
theorem clear_keep : ∀ {is : List Nat} {ρ : Env} {j : Nat}, ρ[j]? = some .un → (clear ρ is)[j]? = some .un
  | [], ρ, j, h => h
  | i :: is, ρ, j, h => by
    show (clear (ρ.set i .un) is)[j]? = _
    refine clear_keep ?_
    by_cases z : i = j
    · subst z
      rw [List.getElem?_set_self (List.getElem?_eq_some_iff.mp h).1]
    · rw [List.getElem?_set_ne z]; exact h
theorem clear_in : ∀ {is : List Nat} {ρ : Env} {j : Nat} {s : Sl}, j ∈ is → (clear ρ is)[j]? = some s → s = .un
  | i :: is, ρ, j, s, h, e => by
    have hl : j < ρ.length := by
      have := (List.getElem?_eq_some_iff.mp e).1
      rw [clear_len] at this
      exact this
    have e' : (clear (ρ.set i .un) is)[j]? = some s := e
    rcases List.mem_cons.mp h with z | z
    · subst z
      rw [clear_keep (List.getElem?_set_self hl)] at e'
      exact (Option.some.inj e').symm
    · exact clear_in z e'
section
variable {e : En} {M M' : List Addr} {F F' : Hp} {ρ : Env} {m m' : Mu} {σ : L2.St} {H H' : Hp}
theorem SR.inner (s : SR T e M F ρ m σ H) {is : List Nat} : SR T ⟨M, T.wr M, F, H⟩ M F (roE ρ is) m (wipe σ is) H where
  le := s.le
  f0 := Le.rfl'
  pre := pfx
  keep := fun _ _ h _ => h
  nn := fun _ h => h
  old := fun _ _ => rfl
  ent := fun a h => by
    cases r : F a with
    | none => exact absurd r h
    | some o =>
      show H a ≠ none
      rw [s.le a o r]; simp
  mw := fun a h => .inl (wr_in h)
  mu := s.mu
  len := by rw [wipe_length]; unfold roE; rw [clear_len, List.length_map]; exact s.len
  sl := fun i t h => by
    by_cases hi : i ∈ is
    · rw [clear_in hi h]
      exact True.intro
    · have h' : (ρ.map Sl.ro')[i]? = some t := by rw [← clear_out hi]; exact h
      rw [List.getElem?_map] at h'
      obtain ⟨u, hu, rfl⟩ := Option.map_eq_some_iff.mp h'
      rw [wipe_out hi]
      have q := s.sl i u hu
      cases u with
      | un => exact q
      | va d => exact q
      | ow d => obtain ⟨a, o, e1, h1, h2, h3, h4, h5⟩ := q; exact ⟨a, o, e1, h1, h4, s.nwr h4 h3 h5.notbl, h3, h4, h5⟩
      | ro d => obtain ⟨a, o, e1, h1, h2, h6, h3, h4, h5⟩ := q; exact ⟨a, o, e1, h1, h4, s.nwr h4 h3 h5.notbl, h3, h4, h5⟩
      | me c fs => exact True.intro
      | xc c fs => exact q
  dis := fun i j t u a hi hj ot ou => by
    exfalso
    by_cases hm : i ∈ is
    · rw [clear_in hm hi] at ot; cases ot
    · have h' : (ρ.map Sl.ro')[i]? = some t := by rw [← clear_out hm]; exact hi
      rw [List.getElem?_map] at h'
      obtain ⟨u, hu, rfl⟩ := Option.map_eq_some_iff.mp h'
      cases u <;> cases ot
  tab := s.tabE
/-- the state without its slots -/
theorem SR.bare (s : SR T e M F ρ m σ H) : SR T e M F [] m [] H :=
  { le := s.le, f0 := s.f0, pre := s.pre, keep := s.keep, nn := s.nn, old := s.old, ent := s.ent, mw := s.mw, mu := s.mu, len := rfl, sl := fun i t h => by simp at h, dis := fun i j s t a h => by simp at h, tab := s.tab }
/-- an object that nobody knows is written -/
theorem SR.write0 (s : SR T e M F ρ m σ H) {p : Addr} {o o' : HO} (hp : H p = some o) (fp : F p = none) (ep : e.H p = none) (pM : p ∉ M) (ns : ∀ (i : Nat) (t : Sl), ρ[i]? = some t → t.own = true → σ[i]? ≠ some (some (.ref p))) : SR T e M F ρ m σ (upd H p o') := by
  have up : ∀ a u, a ≠ p → H a = some u → upd H p o' a = some u := fun a u h e => by rw [upd_ne h]; exact e
  refine ⟨fun a u h => up a u (fun z => by subst z; rw [fp] at h; cases h) (s.le a u h), s.f0, s.pre, fun a u h1 h2 => up a u (fun z => by subst z; rw [ep] at h1; cases h1) (s.keep a u h1 h2), fun a h => ?_, s.old, s.ent, s.mw, ⟨s.mu.len, s.mu.nd, fun n a hn => ?_⟩, s.len, fun i t h => ?_, s.dis, fun P q h => ?_⟩
  · by_cases z : a = p
    · subst z; rw [upd_same]; simp
    · rw [upd_ne z]; exact s.nn a h
  · obtain ⟨h1, d, u, h2, h3, h4⟩ := s.mu.at_ n a hn
    exact ⟨h1, d, u, h2, up a u (fun z => by subst z; exact pM (List.mem_of_getElem? hn)) h3, h4⟩
  · have q := s.sl i t h
    cases t with
    | un => exact q
    | va d => exact q
    | ow d =>
      obtain ⟨a, u, e1, h1, h2, h3, h4, h5⟩ := q
      exact ⟨a, u, e1, h1, h2, h3, up a u (fun z => by subst z; exact ns i _ h rfl e1) h4, h5⟩
    | ro d =>
      obtain ⟨a, u, e1, h1, h2, h6, h3, h4, h5⟩ := q
      exact ⟨a, u, e1, h1, h2, h6, h3, up a u (fun z => by subst z; rw [ep] at h2; cases h2) h4, h5⟩
    | me c fs =>
      obtain ⟨a, C, dx, names, kvs, e1, h1, h2, h3, h4, h5, h6, h7⟩ := q
      exact ⟨a, C, dx, names, kvs, e1, h1, h2, h3, h4, up a _ (fun z => by subst z; exact ns i _ h rfl e1) h5, h6, h7⟩
    | xc c fs => exact q
  · obtain ⟨h1, h2, h3, h4⟩ := s.tab P q h
    refine ⟨h1, h2, h3, ?_⟩
    rw [upd_ne (fun z => by obtain ⟨ps, h2⟩ := h2; rw [z, ep] at h2; cases h2)]
    exact h4
/-- behind a block: the outer state, and an object that nobody knows is left as it was -/
theorem SR.outer (s : SR T e M F ρ m σ H) {ρ' : Env} {σ' : L2.St} (q : SR T ⟨M, T.wr M, F, H⟩ M' F' ρ' m' σ' H') : SR T e M' F' ρ m' σ H' := s.after q.bare
theorem Fresh.outer {p : Addr} {d : D} (f : Fresh T e M F ρ σ H p d) {ρ' : Env} {σ' : L2.St} (q : SR T ⟨M, T.wr M, F, H⟩ M' F' ρ' m' σ' H') : Fresh T e M' F' ρ σ H' p d := by
  obtain ⟨h1, h2, h3, ⟨o, h4, h5⟩, h6⟩ := f
  have hn : H p ≠ none := by rw [h4]; simp
  have hw : p ∉ T.wr M := fun z => by
    rcases wr_of z with z | ⟨y, z⟩
    · exact h3 z
    · obtain ⟨_, ⟨ps, g⟩, _⟩ := q.tab p y z
      have g : H p = some (.tbl ps) := g
      rw [h4] at g
      exact h5.notbl ps (Option.some.inj g)
  refine ⟨(q.old p hn).trans h1, h2, fun z => ?_, ⟨o, q.keep p o h4 hw, h5.mono q.pre q.f0⟩, h6⟩
  rcases q.mw p z with z | z
  · exact hw z
  · exact hn z
end
theorem wipe_eq {σ σ' : L2.St} {vs : List Nat} (hl : σ'.length = σ.length) (h : ∀ j, j ∉ vs → σ'[j]? = σ[j]?) : wipe σ' vs = wipe σ vs := by
  apply List.ext_getElem?
  intro j
  by_cases hj : j ∈ vs
  · have key : ∀ (τ : L2.St) (us : List Nat), j ∈ us → (wipe τ us)[j]? = if j < τ.length then some none else none := by
      intro τ us
      induction us with
      | nil => intro h; cases h
      | cons u us ih =>
        intro hm
        unfold wipe
        by_cases hu : u = j
        · subst hu
          by_cases hl : u < τ.length
          · rw [List.getElem?_set_self (by rw [wipe_length]; exact hl), if_pos hl]
          · rw [List.getElem?_eq_none (by rw [List.length_set, wipe_length]; omega), if_neg hl]
        · rw [List.getElem?_set_ne hu]
          rcases List.mem_cons.mp hm with z | z
          · exact absurd z.symm hu
          · exact ih z
    rw [key σ' vs hj, key σ vs hj, hl]
  · rw [wipe_out hj, wipe_out hj]
    exact h j hj
def WF : WX := fun _ _ _ _ => False
theorem Out.tame_in {α β : Type} {e e1 : En} {M : List Addr} {F : Hp} {ρ ρ1 : Env} {σ σ1 : L2.St} {γ : Type} {r : R (α × Mu)} {f : α × Mu → R β} {g : β → R (γ × Mu)} {K : γ → Mu → List Addr → Hp → Hp → Prop} (h : Out T W e M F ρ σ ((r.bind f).tame.bind g) K) :
    Out T WF e1 M F ρ1 σ1 r fun a m3 M3 F3 _ => Out T W e M3 F3 ρ σ ((f (a, m3)).tame.bind g) K := by
  cases r with
  | ok p => exact fun M3 F3 H3 s l1 l2 => Out.mono (show Out T W e M F ρ σ ((f p).tame.bind g) K from h) l1 l2
  | ex c fs m => exact h.elim
  | bad => exact h.elim
theorem tame_bind_of {α β γ : Type} {x : Option α} {f : α → R β} {g : β → R γ} (h : (((R.of x).bind f).tame.bind g) ≠ .bad) : ∃ a, x = some a := by
  cases x with
  | none => exact absurd rfl h
  | some a => exact ⟨a, rfl⟩
theorem R.bind_assoc' {α β γ : Type} (r : R α) (f : α → R β) (g : β → R γ) : (r.bind f).bind g = r.bind fun a => (f a).bind g := by
  cases r <;> rfl
theorem R.tame_bind' {α β γ : Type} (r : R α) (f : α → R β) (g : β → R γ) : ((r.bind fun a => f a).tame.bind g) = (r.tame.bind fun a => (f a).tame.bind g) := by
  cases r <;> rfl
theorem lc_r {e : En} {M : List Addr} {F : Hp} {ρ : Env} {m : Mu} {σ : L2.St} {H : Hp} {Q : VK} {p : Pat} {src : Src} {c x : Ex} (s : SR T e M F ρ m σ H) (h : Out T W e M F ρ σ (ev (.lc p src c x) ρ m) (Kf T fr e ρ σ Q)) :
    tLc (tI T W true src) (gP T p) (tT T WF c) (tE T WF false x) (pnames p) σ H Q := by
  refine ⟨e, M, F, ρ, m, s, (Out.bind h).imp fun ds m1 M1 F1 H1 s1 _ _ h1 => ?_⟩
  clear h
  intro hlen J P hJ hP
  intro D hD
  dsimp only at h1
  generalize hb : (fun d => bindP p d (roE ρ (pnames p))) = bnd at h1
  generalize htc : (fun ρ m => tst (ev c ρ m)) = tc at h1
  refine ⟨fun i n H => n = ds.length - i ∧ i ≤ ds.length ∧ ∃ M' F' m' acc, SR T e M' F' ρ m' σ H ∧ M1 <+: M' ∧ Le F1 F' ∧ Fresh T e M' F' ρ σ H D (.lst acc) ∧ acc.length ≤ i ∧
    Out T W e M' F' ρ σ ((lcL bnd tc (ev x) (ds.drop i) m').tame.bind fun r => .ok (Z.D.lst (acc ++ r.1), r.2)) (Kf T fr e ρ σ Q), ⟨ds.length, rfl, Nat.zero_le _, M1, F1, m1, [], ?_⟩, ?_⟩
  · obtain ⟨s2, fD, eD, DM⟩ := s1.lay0 (o := .lst []) hD
    refine ⟨s2, pfx, Le.rfl', ⟨fD, eD, DM, ⟨_, upd_same, [], rfl, Nat.zero_le _, Reps.nil⟩, fun i t hi ot ei => ?_⟩, Nat.le_refl _, ?_⟩
    · have q := s1.sl i t hi
      cases t with
      | ow d' => obtain ⟨a, u, e1, _, _, _, h4, _⟩ := q; rw [e1] at ei; cases ei; rw [hD] at h4; cases h4
      | me c' fs => obtain ⟨a, C, dx, names, kvs, e1, _, _, _, _, h5, _⟩ := q; rw [e1] at ei; cases ei; rw [hD] at h5; cases h5
      | _ => cases ot
    · exact h1
  · rintro i n H2 ⟨rfl, hi, M2, F2, m2, acc, s2, l1, l2, fD, hacc, h2⟩
    by_cases hlt : i < ds.length
    · refine .inr ⟨hJ.go i M2 F2 H2 hlt (hP _ _ _ _ _ _ s2 l1 l2 fun _ => ⟨rfl, rfl⟩), _, fun H' nx => ⟨ds.length - (i + 1), by omega, nx⟩, fun v H3 y => ?_⟩
      have hd : ds[i]? = some ds[i] := List.getElem?_eq_getElem hlt
      rw [List.drop_eq_getElem_cons hlt] at h2
      have y2 := hJ.yld i _ _ _ _ _ _ hd (hP _ _ _ _ _ _ s2 l1 l2 fun _ => ⟨rfl, rfl⟩) y
      obtain ⟨F3, l3, s3, fD3, rv⟩ : ∃ F3, Le F2 F3 ∧ SR T e M2 F3 ρ m2 σ H3 ∧ Fresh T e M2 F3 ρ σ H3 D (.lst acc) ∧ Rep T M2 F3 ds[i] v := by
        rcases y2 with ⟨rfl, rv⟩ | ⟨q, vs, es, ed, rfl, hq, rfl, rvs, hz⟩
        · exact ⟨F2, Le.rfl', s2, fD, rv⟩
        · have ne : D ≠ q := fun z => by
            obtain ⟨_, _, _, ⟨o, h4, _⟩, _⟩ := fD
            rw [z, hq] at h4; cases h4
          have hf : Le F2 (upd F2 q (.tup vs)) := fun a u e1 => by
            by_cases z : a = q
            · subst z; rw [s2.le a u e1] at hq; cases hq
            · rw [upd_ne z]; exact e1
          refine ⟨_, hf, s2.lay hq, ?_, ?_⟩
          · obtain ⟨f1, f2, f3, ⟨o, f4, f5⟩, f6⟩ := fD
            exact ⟨by rw [upd_ne ne]; exact f1, f2, f3, ⟨o, by rw [upd_ne ne]; exact f4, f5.mono pfx hf⟩, f6⟩
          · rw [ed]
            exact ⟨q, vs, rfl, SqT.of upd_same, hz, rvs.mono pfx hf⟩
      have h3 := h2.mono pfx l3
      unfold lcL at h3
      obtain ⟨ρ1, hρ⟩ := tame_bind_of h3.nb
      rw [hρ] at h3
      simp only [R.of_some, R.bind_ok] at h3
      subst hb
      refine ⟨⟨M2, T.wr M2, F3, H3⟩, M2, F3, roE ρ (pnames p), m2, ds[i], ρ1, s3.inner, rv, hρ, fun σ2 s4 k1 k2 => ⟨?_, ?_⟩⟩
      · have e1 : wipe σ2 (pnames p) = wipe (wipe σ (pnames p)) (pnames p) := wipe_eq k1 k2
        rw [e1]
        exact wipe_eq (wipe_length _ _) fun j hj => wipe_out hj
      · subst htc
        refine ⟨_, M2, F3, ρ1, m2, s4, (Out.tame_in h3).imp fun b m4 M4 F4 H4 s5 l4 l5 h4 => ?_⟩
        cases b with
        | false =>
          rw [if_neg (by decide)]
          exact ⟨rfl, hlt, M4, F4, m4, acc, s3.outer s5, l1.trans l4, (l2.trans l3).trans l5, fD3.outer s5, by omega, h4⟩
        | true =>
          rw [if_pos rfl]
          refine ⟨_, M4, F4, ρ1, m4, s5, (Out.tame_in h4).imp fun d m5 M5 F5 H5 s6 l6 l7 h5 w rw' => ?_⟩
          have s7 := s3.outer s6
          have f7 := fD3.outer s6
          obtain ⟨f1, f2, f3, ⟨o, f4, ws, eo, f5, f6⟩, f8⟩ := f7
          subst eo
          have hwl : ws.length < sizeLine := by
            rw [← f6.length, sizeLine_eq]
            have : (line : Nat) = 16777216 := rfl
            omega
          refine ⟨ws, f4, hwl, rfl, hlt, M5, F5, m5, acc ++ [d], s7.write0 f4 f1 f2 f3 f8, (l1.trans l4).trans l6, ((l2.trans l3).trans l5).trans l7, ⟨f1, f2, f3, ⟨_, upd_same, ws ++ [w], rfl, ?_, f6.append (Reps.cons rw' Reps.nil)⟩, f8⟩, ?_, ?_⟩
          · rw [List.length_append, List.length_singleton]
            have : (line : Nat) = 16777216 := rfl
            omega
          · rw [List.length_append, List.length_singleton]; omega
          · have e2 : ∀ r : R (List Z.D × Mu), ((r.bind fun r => .ok (d :: r.1, r.2)).tame.bind fun r => (R.ok (Z.D.lst (acc ++ r.1), r.2) : R (Z.D × Mu))) = r.tame.bind fun r => .ok (Z.D.lst ((acc ++ [d]) ++ r.1), r.2) := by
              intro r
              cases r with
              | ok q => show R.ok (Z.D.lst (acc ++ d :: q.1), q.2) = R.ok (Z.D.lst (acc ++ [d] ++ q.1), q.2); rw [List.append_assoc]; rfl
              | _ => rfl
            rw [← e2]
            exact h5
    · have ei : i = ds.length := by omega
      subst ei
      refine .inl ⟨hJ.stop M2 F2 H2 (hP _ _ _ _ _ _ s2 l1 l2 fun _ => ⟨rfl, rfl⟩), ?_⟩
      rw [List.drop_length] at h2
      have h3 : Out T W e M2 F2 ρ σ (.ok (Z.D.lst (acc ++ []), m2)) (Kf T fr e ρ σ Q) := h2
      rw [List.append_nil] at h3
      cases fr with
      | true => exact (h3 M2 F2 H2 s2 pfx Le.rfl').2 D fD
      | false => exact Kf.fresh s2 fD fun M' F' H' s' l3 l4 v rv => h3 M' F' H' s' l3 l4 v rv
theorem pts_znil : PTs X [] (tT T WF (.con (.bl true))) := ⟨fun pins s σ H Q I ⟨e, M, F, ρ, m, sr, h⟩ => pts_nil.run pins s σ H Q I (h M F H sr pfx Le.rfl')⟩
theorem pts_zone {x : Expr} {c : Ex} (h : PT X x (tT T WF c)) : PTs X [x] (tT T WF c) := pts_one h
end
end Z
end
section
set_option Elab.async false
set_option linter.all false
set_option maxRecDepth 100000
set_option maxHeartbeats 4000000
set_option autoImplicit false
/-! Z: own truth, own ==; isinstance by several classes; zip of three; sorted(set(..)). -/
namespace Z
open PySem PySem.Spec PyProof.Rows L2
variable {T : Tab}
section
variable {X : Cx} {W : WX} {k : Nat} {N : List Str} {sc : Scope} {fr : Bool}
/-- a def called from within a builtin -/
theorem run_at {A : Around} {CX : CXT} {a : Addr} {fd : FuncData} {ps : List Str} {sp : Sp} {E : L2.St → XK} {j : Nat} {pins : List (Addr × Obj)} {σ : L2.St} {H : Hp} {s : Shared} {Q : VK} {us : List Value} {vs : List V} (hfr : A.frames = X.A.frames) (F : FnOk X.prog X.w X.K X.mg X.base CX j a fd ps sp) (hr : Room j A) (hb : Binds X.K fd ps [])
    (hx : PassesAt CX X σ (E σ)) (I : Inv X pins σ H s) (r : Vals vs us) (h : sp vs H Q (E σ)) : wpAny (model X.prog X.w) A (call (.ref a) us) (EP X pins σ Q) X.xe s := by
  have hl : us.length = ps.length := by rw [← r.length]; exact F.len _ _ _ _ h
  have b := hb s us I.kIn (by rw [List.append_nil]; exact hl)
  rw [List.append_nil] at b
  have e0 : Env0 X.prog X.w X.K X.mg X.base A X.stack s H := by
    have e := I.env0
    exact ⟨by rw [hfr]; exact e.frames, e.mod, e.bs, e.bsz, e.funs, e.frf, e.hok, e.bare⟩
  refine wpAny_call (codeAny_mono (F.run A X.stack s H ⟨us, []⟩ us vs Q (E σ) hr e0 b r h) fun r s' hq => ?_)
  cases r with
  | error e => exact hx pins H s e s' I hq
  | ok fl =>
    cases fl with
    | ret u => exact I.after hq
    | next => exact False.elim hq
    | brk => exact False.elim hq
    | cont => exact False.elim hq
/-- an own __bool__ | __eq__, by classes -/
def SpcF (T : Tab) (k : Nat) (nm : Str) (n : Nat) (tab : List (Nat × Fn)) : Prop := 2 ≤ k ∧ ∀ c f, lookN tab c = some f → ∀ C names, T.cls c = some (C, names) → ∃ (a : Addr) (fd : FuncData) (ps : List Str), PySem.W.findIn T.K (.ref C) nm = some (some (.ref a)) ∧ PySem.W.isFn T.K (.ref a) = true ∧ Binds T.K fd ps [] ∧ ps.length = n ∧
  (∃ j, j + 2 ≤ k ∧ FnOk T.P T.w T.K T.mg T.base (L2.CX T.P T.w) j a fd ps (spOf T ps.length f)) ∧ ∀ ds m, f ds m ≠ .bad → ds.length = ps.length
theorem callTab_r {e : En} {M : List Addr} {F : Hp} {ρ : Env} {m : Mu} {σ : L2.St} {H : Hp} {Q : VK} {tab : List (Nat × Fn)} {c : Nat} {f : Fn} {fs ds : List D} {a : Addr} {vs : List V} {n : Nat} (s : SR T e M F ρ m σ H) (ht : lookN tab c = some f) (r : Rep T M F (.ins c fs) (.ref a)) (rs : Reps T M F ds vs) (hn : ∀ ds m, f ds m ≠ .bad → ds.length = n)
    (h : Out T W e M F ρ σ (callTab tab (.ins c fs) ds m) fun d _ M' F' H' => ∀ v, Rep T M' F' d v → Q v H') : spOf T n f (.ref a :: vs) H Q (WE W σ) := by
  have e1 : callTab tab (.ins c fs) ds m = f (.ins c fs :: ds) m := by unfold callTab; simp only [ht]
  rw [e1] at h
  exact call_r s (Reps.cons r rs) hn h
/-- truth of an own instance -/
theorem truth_z {A : Around} (C : CxB T N sc X) (tk : Takes X W) (hfr : A.frames = X.A.frames) {j : Nat} (hr : Room j A) {tab : List (Nat × Fn)} (hf : ∀ c f, lookN tab c = some f → ∀ C names, T.cls c = some (C, names) → ∃ (a : Addr) (fd : FuncData) (ps : List Str), PySem.W.findIn T.K (.ref C) "__bool__" = some (some (.ref a)) ∧ PySem.W.isFn T.K (.ref a) = true ∧ Binds T.K fd ps [] ∧
      FnOk T.P T.w T.K T.mg T.base (L2.CX T.P T.w) j a fd ps (spOf T ps.length f) ∧ ∀ ds m, f ds m ≠ .bad → ds.length = ps.length)
    {pins : List (Addr × Obj)} {σ : L2.St} {H : Hp} {s : Shared} {Q : Bool → Hp → Prop} {e : En} {M : List Addr} {F : Hp} {ρ : Env} {m : Mu} {d : D} {v : V} {u : Value} (I : Inv X pins σ H s) (ru : RelV v u) (sr : SR T e M F ρ m σ H) (r : Rep T M F d v)
    (h : Out T W e M F ρ σ (callTab tab d [] m) fun d _ M' F' H' => ∃ b, d = .bl b ∧ Q b H') : wpAny (model X.prog X.w) A (truthy u) (TP X pins σ Q) X.xe s := by
  cases d with
  | ins c fs =>
    cases ht : lookN tab c with
    | none =>
      exfalso
      have : callTab tab (.ins c fs) [] m = .bad := by unfold callTab; simp only [ht]
      rw [this] at h
      exact h
    | some f =>
      obtain ⟨p, Ca, dx, ws, names, rfl, q1, q2, q3, q4⟩ := id r
      obtain rfl : u = Value.ref p := ru
      obtain ⟨a, fd, ps, k1, k2, k3, k4, k5⟩ := hf c f ht Ca names q1
      obtain ⟨mA, J, _⟩ := ins_get I.hok (sr.le _ _ q2)
      obtain ⟨od, J, _⟩ := J.look
      obtain ⟨mm, hF⟩ := I.fr
      refine PySem.W.truthy_K hF I.ok.mod.kin J (by rw [C.hK]; exact k1) (by rw [C.hK]; exact k2) ?_
      have hsp := callTab_r (Q := fun v H' => ∃ b, v = .bl b ∧ Q b H') sr ht r Reps.nil k5 (h.imp fun d m' M' F' H' _ _ _ q v rv => by
        obtain ⟨b, rfl, q⟩ := q
        exact ⟨b, rv, q⟩)
      refine thn (run_at (us := [.ref p]) (vs := [.ref p]) (E := WE W) hfr (C.fn k4) hr (by rw [C.hK]; exact k3) (passAt tk σ) I (.cons rfl .nil) hsp) fun w s1 ⟨y, H1, I1, ry, b, ey, q⟩ => ?_
      subst ey
      cases ry
      exact ⟨H1, I1, q⟩
  | _ => exact h.elim
theorem out_bl {e : En} {M : List Addr} {F : Hp} {ρ : Env} {m : Mu} {σ : L2.St} {tab : List (Nat × Fn)} {d : D} {as : List D} {K : D → Mu → List Addr → Hp → Hp → Prop} {g : Bool → D}
    (h : Out T W e M F ρ σ ((callTab tab d as m).bind fun q => match q.1 with | .bl k => .ok (g k, q.2) | _ => .bad) K) :
    Out T W e M F ρ σ (callTab tab d as m) fun d m' M' F' H' => ∃ b, d = .bl b ∧ Out T W e M' F' ρ σ (.ok (g b, m')) K := by
  refine (Out.bind h).imp fun d m1 M1 F1 H1 s1 _ _ h1 => ?_
  cases d with
  | bl b => exact ⟨b, rfl, h1⟩
  | _ => exact h1.elim
theorem Out.now {α : Type} {e : En} {M : List Addr} {F : Hp} {ρ : Env} {m : Mu} {σ : L2.St} {H : Hp} {a : α} {K : α → Mu → List Addr → Hp → Hp → Prop} (h : Out T W e M F ρ σ (.ok (a, m)) K) (s : SR T e M F ρ m σ H) : K a m M F H := h M F H s pfx Le.rfl'
/-- x, an own instance, as a test -/
theorem pt_ztru (C : CxOk T k N sc X) (tk : Takes X W) {x : Expr} {a : Ex} {tab : List (Nat × Fn)} (h1 : PE X x (tE T W false a)) (hp : plainT x = true) (hf : SpcF T k "__bool__" 1 tab) : PT X x (tT T W (.tru tab a)) := by
  refine ⟨fun pins s σ H Q I ⟨e, M, F, ρ, m, sr, h⟩ => ?_⟩
  rw [plainT_ok hp]
  have h' : Out T W e M F ρ σ ((ev a ρ m).bind fun p => (callTab tab p.1 [] p.2).bind fun q => match q.1 with | .bl k => .ok (k, q.2) | _ => .bad) fun k _ _ _ H' => Q k H' := by
    have e1 : evT (.tru tab a) ρ m = ((ev a ρ m).bind fun p => (callTab tab p.1 [] p.2).bind fun q => match q.1 with | .bl k => .ok (k, q.2) | _ => .bad) := by
      show tst ((ev a ρ m).bind fun p => (callTab tab p.1 [] p.2).bind fun q => match q.1 with | .bl k => .ok (.bl k, q.2) | _ => .bad) = _
      cases ev a ρ m with
      | ok p =>
        show tst ((callTab tab p.1 [] p.2).bind _) = (callTab tab p.1 [] p.2).bind _
        cases callTab tab p.1 [] p.2 with
        | ok q => obtain ⟨d, m2⟩ := q; cases d <;> rfl
        | _ => rfl
      | _ => rfl
    rw [← e1]
    exact h
  refine wpAny_bind (thn (h1.run pins s σ H (fun v H1 => ∃ M1 F1 m1 d, SR T e M1 F1 ρ m1 σ H1 ∧ Rep T M1 F1 d v ∧ Out T W e M1 F1 ρ σ (callTab tab d [] m1) fun d _ M' F' H' => ∃ b, d = .bl b ∧ Q b H') I ⟨e, M, F, ρ, m, sr, (Out.bind h').imp fun d m1 M1 F1 H1 s1 _ _ h2 v r => ⟨M1, F1, m1, d, s1, r, ?_⟩⟩) fun u s1 ⟨v, H1, I1, ru, M1, F1, m1, d, sr1, r1, h2⟩ => ?_)
  · refine (Out.bind h2).imp fun d' m2 M2 F2 H2 s2 _ _ h3 => ?_
    cases d' with
    | bl b => exact ⟨b, rfl, h3.now s2⟩
    | _ => exact h3.elim
  · refine wpAny_bind (wpAny_standAt (wpAny_holding ?_))
    refine truth_z (A := X.A) C.toCxB tk rfl C.room (fun c f hl Ca names hc => ?_) I1 ru sr1 r1 h2
    obtain ⟨g, fd, ps, k1, k2, k3, k4, ⟨j, hj, k5⟩, k6⟩ := hf.2 c f hl Ca names hc
    exact ⟨g, fd, ps, k1, k2, k3, k5.mono (by omega), k6⟩
theorem bool_new_g {prog : Program} {w : World} {A : Around} {u : Value} {R : Result → Shared → Prop} {s : Shared} (hq : wpAny (model prog w) A.in1 (truthy u) (fun b s' => R (.ok (.ret (.bool b))) s') (fun e s' => R (.error e) s') s) :
    wpAny (model prog w) A.in1 (Builtin.«bool.__new__» ⟨[.type "bool", u], []⟩) (fun fin s' => match fin with | .done f => R (.ok f) s' | .again c' => c'.quiet = true ∧ codeAny (model prog w) A c' R s') (fun e s' => R (.error e) s') s := by
  obtain ⟨hp, g, d, tk, os⟩ := s
  have f1 := F.conv_sub_bool
  repeat (any_goals (first | assumption | (refine wpAny_bind (m := truthy u) (wpAny_mono hq (fun b s' hb => ?_) fun _ _ x => x)) | wp_step))
theorem call_bool_g {prog : Program} {w : World} {A : Around} {E : Value → Shared → Prop} {u : Value} {Q : Value → Shared → Prop} {s : Shared} (hq : wpAny (model prog w) A.in1.in1 (truthy u) (fun b s' => Q (.bool b) s') E s) : wpAny (model prog w) A (call (.type "bool") [u]) Q E s := by
  refine callType_codes (Q₁ := fun obj s₁ => s₁.TypeIs obj "bool" ∧ Q obj s₁) F.called_bool (F.typeCall_bool_1 u) F.entry_object_init (codeAny_call_builtin F.called_bool.plain F.entry_bool_new (wpAny_of_eq (F.newCall_bool_1 u) (bool_new_g ?_))) fun obj s₁ hq => ⟨hq.1, F.args_object_init_2 obj u, ?_⟩
  · exact wpAny_mono hq (fun b s' hb => ⟨PySem.typeIs_bool s' b, hb⟩) fun _ _ x => x
  · exact object_init_meets F.called_bool.init.lookup F.called_bool.made F.newNe_bool prog w A.in1 _ s₁ ⟨hq.1, rfl, hq.2⟩
/-- bool(x), x an own instance -/
theorem pe_zbool (C : CxOk T k N sc X) (tk : Takes X W) {x : Expr} {a : Ex} {tab : List (Nat × Fn)} {p pos : Pos} (h1 : PE X x (tE T W false a)) (hf : SpcF T k "__bool__" 1 tab) (hm : T.mg "bool" = none) (hg : glB sc "bool" = true) (hs : isStar x = false) :
    PE X (.Call (.Name "bool" p) [x] [] pos) (tE T W false (.tru tab a)) := by
  refine ⟨fun pins s σ H Q I ⟨e, M, F, ρ, m, sr, h⟩ => ?_⟩
  refine Call_ (ld_blt I (glB_ok C.toCxB hg) (by rw [C.hmg]; exact hm) (by decide +kernel : bootBuiltins "bool" = some (.type "bool")) (PyProof.Rows.callWith_type1 (thn ((pa_cons h1 pa_nil (star_cons hs)).run pos pins s σ H (fun vs H1 => ∃ v M1 F1 m1 d, vs = [v] ∧ SR T e M1 F1 ρ m1 σ H1 ∧ Rep T M1 F1 d v ∧ Out T W e M1 F1 ρ σ (callTab tab d [] m1) fun d _ M' F' H' => ∃ b, d = .bl b ∧ Q (.bl b) H') I
    ⟨e, M, F, ρ, m, sr, (Out.bind h).imp fun d m1 M1 F1 H1 s1 _ _ h2 v r => ⟨v, M1, F1, m1, d, rfl, s1, r, ?_⟩⟩) fun us s1 ⟨vs, H1, I1, rv, v, M1, F1, m1, d, ev, sr1, r1, h2⟩ => ?_) (star_cons hs) rfl))
  · exact (out_bl h2).imp fun d m2 M2 F2 H2 s2 _ _ ⟨b, e1, h3⟩ => ⟨b, e1, fin_val s2 h3 rfl⟩
  · subst ev
    obtain ⟨u, rfl, ru⟩ := rv.one
    refine call_bool_g ?_
    refine thn (truth_z (A := X.A.in1.in1) (j := k - 2) (Q := fun b H' => Q (.bl b) H') C.toCxB tk rfl ?_ (fun c f hl Ca names hc => ?_) I1 ru sr1 r1 h2) fun b s2 ⟨H2, I2, q2⟩ => ⟨.bl b, H2, I2, rfl, q2⟩
    · have r0 := C.room
      have k2 := hf.1
      exact ⟨r0.hd, by have := r0.dp; show X.A.depth + 3 * (k - 2) + 5 < _; omega, by have := r0.un; have := C.un; show X.A.units + 1 + 1 + 16 * (k - 2) + 200 < _; omega⟩
    · obtain ⟨g, fd, ps, k1, k2, k3, k4, ⟨j, hj, k5⟩, k6⟩ := hf.2 c f hl Ca names hc
      exact ⟨g, fd, ps, k1, k2, k3, k5.mono (by omega), k6⟩
/-! ### own == -/
def EqF (T : Tab) (k : Nat) (tab : List (Nat × Fn)) : Prop := SpcF T k "__eq__" 2 tab ∧ ∀ c f, lookN tab c = some f → ∀ C names, T.cls c = some (C, names) → PySem.W.findIn T.K (.ref C) "__ne__" = some (some (.builtin "object.__ne__")) ∧ PySem.W.subIn T.K (.ref C) (.type "object") = some true ∧
  ∀ c' C' names', T.cls c' = some (C', names') → PySem.W.notFirst T.K C (.ref C') = true
section
variable {prog : Program} {w : World} {A : Around} {E : Value → Shared → Prop} {s : Shared} {K : PySem.W.Frag} {x Ca L f : Addr} {h₀ : Heap} {m : Str → Option Value} {ox : Obj} {od : Option Obj} {b tb : Value}
theorem ifBound_B {M : Model} {name : Str} {id : String} {args : List Value} {Q : Option Value → Shared → Prop} (S : Slot "object" name id) (X : K.In s.heap) (I : PySem.W.InstAt s.heap x ox Ca od) (hs : PySem.W.findIn K (.ref Ca) name = some (some (.builtin id)))
    (h : wpAny M A (call (.builtin id) (.ref x :: args)) (fun v => Q (some v)) E s) : wpAny M A (callSpecialIfBound? (.ref x) name args) Q E s := by
  simp only [callSpecialIfBound?, bindSpecialIfBound?]
  refine wpAny_holding (wpAny_bind (wpAny_bind (wpAny_bind (I.type.here ((PySem.W.looks_findIn X hs).here ?_)))))
  simp only [S.bind]
  refine wpAny_bind (wpAny_askSetting (wpAny_ite ?_))
  have fin : wpAny M A (call (.builtin id) ([.ref x] ++ args) >>= fun v => pure (some v)) Q E s := wpAny_bind (wpAny_mono h (fun v s' h' => wpAny_pure h') fun _ _ h' => h')
  split
  · exact wpAny_bind (wpAny_pure (wpAny_pure fin))
  · exact wpAny_tryCatch (wpAny_bind (wpAny_pure (wpAny_pure fin)))
theorem check_K {M : Model} {id owner n : String} {rest : List Value} {Q : Unit → Shared → Prop} (hk : builtinKind id = some .slot) (hsp : splitId id = some (owner, n)) (ha : argsOk id ⟨.ref x :: rest, []⟩) (X : K.In s.heap) (I : PySem.W.InstAt s.heap x ox Ca od)
    (hsub : PySem.W.subIn K (.ref Ca) (.type owner) = some true) (hq : Q () s) : wpAny M A (checkBuiltinCall id ⟨.ref x :: rest, []⟩) Q E s := by
  have LI : PySem.W.Looks M s.heap (isInstance (.ref x) (.type owner)) true := I.type.andThen (PySem.W.looks_subIn X hsub)
  simp only [checkBuiltinCall, hk, hsp]
  refine wpAny_bind (LI.here ?_)
  cases hsig : Manifest.signature? id with
  | none => exact wpAny_pure hq
  | some sig =>
    simp only [argsOk, hsig] at ha
    have h2 : Bind.checkArgs id sig ⟨.ref x :: rest, []⟩ = pure () := ha
    show wpAny M A (Bind.checkArgs id sig ⟨.ref x :: rest, []⟩) Q E _
    rw [h2]; exact wpAny_pure hq
theorem objNe_K (X : K.In s.heap) (I : PySem.W.InstAt s.heap x ox Ca od) (hs : PySem.W.findIn K (.ref Ca) "__eq__" = some (some (.ref f))) (hf : PySem.W.isFn K (.ref f) = true) (hu : A.units < cLine) {Q : Fin → Shared → Prop}
    (hcall : wpAny (model prog w) A (call (.ref f) [.ref x, b]) (fun v s' => ∃ k, v = .bool k ∧ Q (.done (.ret (.bool (!k)))) s') E s) : wpAny (model prog w) A (Builtin.«object.__ne__» ⟨[.ref x, b], []⟩) Q E s := by
  have key : wpAny (model prog w) A (callSpecialIfBound? (.ref x) (Str.ofString "__eq__") [b]) (fun r s' => ∃ k, r = some (.bool k) ∧ Q (.done (.ret (.bool (!k)))) s') E s :=
    PySem.W.ifBound_K X I hs hf (wpAny_mono hcall (fun r s' hr => by obtain ⟨k, rfl, hq⟩ := hr; exact ⟨k, rfl, hq⟩) fun _ _ e => e)
  obtain ⟨hp, g, d, t, os⟩ := s
  unfold Builtin.«object.__ne__»
  repeat (first
    | with_reducible refine wpAny_cRoomFor hu ?_
    | (refine wpAny_bind (m := callSpecialIfBound? (.ref x) (Str.ofString "__eq__") [b]) (wpAny_mono key (fun r s' hr => by
          obtain ⟨k, rfl, hq⟩ := hr
          repeat (first | exact hq | exact wpAny_pure hq | exact wpAny_truthy_bool hq | (refine wpAny_bind (m := truthy (.bool _)) (wpAny_truthy_bool ?_)) | wp_step)) fun _ _ e => e))
    | wp_step)
theorem ne_K {Q : Value → Shared → Prop} (hu : A.units + 1 < cLine) (X : K.In s.heap) (I : PySem.W.InstAt s.heap x ox Ca od) (hb : PySem.W.Looks (model prog w) s.heap (typeOf b) tb) (hn : PySem.W.notFirst K Ca tb = true)
    (hne : PySem.W.findIn K (.ref Ca) "__ne__" = some (some (.builtin "object.__ne__"))) (hsub : PySem.W.subIn K (.ref Ca) (.type "object") = some true) (hs : PySem.W.findIn K (.ref Ca) "__eq__" = some (some (.ref f))) (hf : PySem.W.isFn K (.ref f) = true)
    (h : wpAny (model prog w) A.in1 (call (.ref f) [.ref x, b]) (fun v s' => ∃ k, v = .bool k ∧ Q (.bool (!k)) s') E s) : wpAny (model prog w) A (richCompare .NotEq (.ref x) b) Q E s := by
  have hu1 : A.units < cLine := by omega
  have one : wpAny (model prog w) A (tryCompare (.ref x) (cmpInfo .NotEq).2.1 b) (fun r s' => ∃ v, r = some v ∧ Q v s') E s := by
    unfold tryCompare
    have c1 : wpAny (model prog w) A (callSpecialIfBound? (.ref x) (Str.ofString "__ne__") [b]) (fun r s' => ∃ k, r = some (.bool k) ∧ Q (.bool k) s') E s := by
      refine ifBound_B F.cmp_object.ne X I hne (wpAny_call (codeAny_call_builtin F.cmp_object.ne.plain F.cmpEntry_ne (check_K F.cmpKind_ne F.cmpSplit_ne (F.cmpArgs_ne _ _) X I hsub (objNe_K (A := A.in1) X I hs hf hu (wpAny_mono h (fun v s' hv => ?_) fun _ _ e => e)))))
      obtain ⟨k, rfl, hq⟩ := hv
      first | exact ⟨k, rfl, _, rfl, hq⟩ | exact ⟨k, rfl, wpAny_pure ⟨_, rfl, hq⟩⟩
    refine wpAny_bind (wpAny_mono c1 (fun r s' hr => ?_) fun _ _ e => e)
    obtain ⟨k, rfl, hq⟩ := hr
    exact wpAny_pure ⟨_, rfl, hq⟩
  unfold richCompare
  simp only [oneThing_ref]
  refine wpAny_holding (wpAny_bind (wpAny_cRoomFor hu1 ?_))
  refine wpAny_bind (I.type.here (wpAny_bind (hb.here ?_)))
  split
  · rename_i q
    have e : PySem.W.subIn K tb (.ref Ca) = some false := by
      rcases Bool.or_eq_true_iff.mp hn with e | e
      · rw [beq_iff_eq.mp e] at q; simp at q
      · exact beq_iff_eq.mp e
    refine wpAny_bind ((PySem.W.looks_subIn X e).here ?_)
    simp only [Bool.false_eq_true, if_false]
    refine wpAny_bind (wpAny_mono one (fun r s' z => ?_) fun _ _ e => e)
    obtain ⟨v, rfl, hq⟩ := z
    exact wpAny_pure hq
  · refine wpAny_bind (wpAny_pure ?_)
    simp only [Bool.false_eq_true, if_false]
    refine wpAny_bind (wpAny_mono one (fun r s' z => ?_) fun _ _ e => e)
    obtain ⟨v, rfl, hq⟩ := z
    exact wpAny_pure hq
end
def eqO (neg : Bool) : CmpOp := if neg then .NotEq else .Eq
theorem eq_z (C : CxOk T k N sc X) (tk : Takes X W) {neg : Bool} {tab : List (Nat × Fn)} (hf : EqF T k tab) {pins : List (Addr × Obj)} {σ : L2.St} {H : Hp} {s : Shared} {Q : VK} {e : En} {M : List Addr} {F : Hp} {ρ : Env} {m : Mu} {d d2 : D} {x y : V} {v u : Value} (I : Inv X pins σ H s) (rx : RelV x v) (ry : RelV y u) (sr : SR T e M F ρ m σ H) (r : Rep T M F d x) (r2 : Rep T M F d2 y) (hi : isIns d2 = true)
    (h : Out T W e M F ρ σ (callTab tab d [d2] m) fun d _ M' F' H' => ∃ b, d = .bl b ∧ Q (.bl (if neg then !b else b)) H') : wpAny (model X.prog X.w) X.A (compareOp (eqO neg) v u) (EP X pins σ Q) X.xe s := by
  cases d with
  | ins c fs =>
    cases d2 with
    | ins c2 fs2 =>
      cases ht : lookN tab c with
      | none =>
        exfalso
        have : callTab tab (.ins c fs) [.ins c2 fs2] m = .bad := by unfold callTab; simp only [ht]
        rw [this] at h
        exact h
      | some f =>
        obtain ⟨p, Ca, dx, ws, names, rfl, q1, q2, q3, q4⟩ := id r
        obtain ⟨p2, Cb, dy, ws2, names2, rfl, z1, z2, z3, z4⟩ := id r2
        obtain rfl : v = Value.ref p := rx
        obtain rfl : u = Value.ref p2 := ry
        obtain ⟨⟨k2, hf1⟩, hf2⟩ := hf
        obtain ⟨a, fd, ps, g1, g2, g3, g4, ⟨j, hj, g5⟩, g6⟩ := hf1 c f ht Ca names q1
        obtain ⟨n1, n2, n3⟩ := hf2 c f ht Ca names q1
        have n4 := n3 c2 Cb names2 z1
        obtain ⟨mA, J, _⟩ := ins_get I.hok (sr.le _ _ q2)
        obtain ⟨mB, J2, _⟩ := ins_get I.hok (sr.le _ _ z2)
        obtain ⟨od, J, _⟩ := J.look
        obtain ⟨od2, J2, _⟩ := J2.look
        obtain ⟨mm, hF⟩ := I.fr
        have hsp := callTab_r (Q := fun v H' => ∃ b, v = .bl b ∧ Q (.bl (if neg then !b else b)) H') sr ht r (Reps.cons r2 Reps.nil) g6 (h.imp fun d m' M' F' H' _ _ _ q v rv => by
          obtain ⟨b, rfl, q⟩ := q
          exact ⟨b, rv, q⟩)
        cases neg with
        | false =>
          refine PySem.W.cmp_K (op := .Eq) (tb := .ref Cb) (by have := C.un; omega) hF I.ok.mod.kin J J2.type (by rw [C.hK]; exact n4) (by rw [C.hK]; exact g1) (by rw [C.hK]; exact g2) ?_
          refine thn (run_at (us := [.ref p, .ref p2]) (vs := [.ref p, .ref p2]) (E := WE W) rfl (C.fn g5) (C.room.mono (by omega)) (by rw [C.hK]; exact g3) (passAt tk σ) I (.cons rfl (.cons rfl .nil)) hsp) fun w s1 ⟨y, H1, I1, ry, b, ey, q⟩ => ?_
          subst ey
          cases ry
          exact ⟨.bl b, H1, I1, rfl, q⟩
        | true =>
          refine ne_K (tb := .ref Cb) (by have := C.un; omega) I.kIn J J2.type (by rw [C.hK]; exact n4) (by rw [C.hK]; exact n1) (by rw [C.hK]; exact n2) (by rw [C.hK]; exact g1) (by rw [C.hK]; exact g2) ?_
          refine thn (run_at (A := X.A.in1) (us := [.ref p, .ref p2]) (vs := [.ref p, .ref p2]) (E := WE W) rfl (C.fn g5) ((C.room.mono (show j + 1 ≤ k by omega)).in1) (by rw [C.hK]; exact g3) (passAt tk σ) I (.cons rfl (.cons rfl .nil)) hsp) fun w s1 ⟨y, H1, I1, ry, b, ey, q⟩ => ?_
          subst ey
          cases ry
          exact ⟨b, rfl, .bl (!b), H1, I1, rfl, q⟩
    | _ => cases hi
  | _ => exact h.elim
theorem pe_zeqi (C : CxOk T k N sc X) (tk : Takes X W) {l r : Expr} {a b : Ex} {neg : Bool} {tab : List (Nat × Fn)} {pos : Pos} (h1 : PE X l (tE T W false a)) (h2 : PE X r (tE T W false b)) (hs : noSet r = true) (hf : EqF T k tab) : PE X (.Compare l [eqO neg] [r] pos) (tE T W false (.eqi neg tab a b)) := by
  refine ⟨fun pins s σ H Q I ⟨e, M, F, ρ, m, sr, h⟩ => ?_⟩
  refine wpAny_Compare1 (thn (h1.run pins s σ H (fun v H1 => tE T W false b σ H1 fun u H2 => ∃ M2 F2 m2 d d2, SR T e M2 F2 ρ m2 σ H2 ∧ Rep T M2 F2 d v ∧ Rep T M2 F2 d2 u ∧ isIns d2 = true ∧ Out T W e M2 F2 ρ σ (callTab tab d [d2] m2) fun d _ M' F' H' => ∃ b, d = .bl b ∧ Q (.bl (if neg then !b else b)) H') I
    ⟨e, M, F, ρ, m, sr, (Out.bind h).imp fun d m1 M1 F1 H1 s1 _ _ h2 v r => ⟨e, M1, F1, ρ, m1, s1, (Out.bind h2).imp fun d2 m2 M2 F2 H2 s2 l1 l2 h3 u r2 => ?_⟩⟩) fun v s1 ⟨x, H1, I1, rx, q1⟩ => thn (h2.run pins s1 σ H1 _ I1 q1) fun u s2 ⟨y, H2, I2, ry, M2, F2, m2, d, d2, sr2, r1, r2, hi, h3⟩ => eq_z C tk hf I2 rx ry sr2 r1 r2 hi h3) (nomark_ok hs)
  dsimp only at h3
  split at h3
  · rename_i hi
    exact ⟨M2, F2, m2, d, d2, s2, r.mono l1 l2, r2, hi, (out_bl (g := fun k => .bl (if neg = true then !k else k)) h3).imp fun d m3 M3 F3 H3 s3 _ _ ⟨b, e1, h4⟩ => ⟨b, e1, fin_val s3 h4 rfl⟩⟩
  · exact h3.elim
theorem pt_zeqi (C : CxOk T k N sc X) (tk : Takes X W) {l r : Expr} {a b : Ex} {neg : Bool} {tab : List (Nat × Fn)} {pos : Pos} (h1 : PE X l (tE T W false a)) (h2 : PE X r (tE T W false b)) (hs : noSet r = true) (hf : EqF T k tab) : PT X (.Compare l [eqO neg] [r] pos) (tT T W (.eqi neg tab a b)) := by
  refine ⟨fun pins s σ H Q I ⟨e, M, F, ρ, m, sr, h⟩ => ?_⟩
  have h := tst_K h
  refine wpAny_isTrue_Compare1 (thn (h1.run pins s σ H (fun v H1 => tE T W false b σ H1 fun u H2 => ∃ M2 F2 m2 d d2, SR T e M2 F2 ρ m2 σ H2 ∧ Rep T M2 F2 d v ∧ Rep T M2 F2 d2 u ∧ isIns d2 = true ∧ Out T W e M2 F2 ρ σ (callTab tab d [d2] m2) fun d _ M' F' H' => ∃ b, d = .bl b ∧ Q (if neg then !b else b) H') I
    ⟨e, M, F, ρ, m, sr, (Out.bind h).imp fun d m1 M1 F1 H1 s1 _ _ h2 v r => ⟨e, M1, F1, ρ, m1, s1, (Out.bind h2).imp fun d2 m2 M2 F2 H2 s2 l1 l2 h3 u r2 => ?_⟩⟩) fun v s1 ⟨x, H1, I1, rx, q1⟩ => thn (h2.run pins s1 σ H1 _ I1 q1) fun u s2 ⟨y, H2, I2, ry, M2, F2, m2, d, d2, sr2, r1, r2, hi, h3⟩ =>
      thn (eq_z (Q := fun v H' => ∃ b, v = .bl b ∧ Q b H') C tk hf I2 rx ry sr2 r1 r2 hi (h3.imp fun d m3 M3 F3 H3 s3 _ _ ⟨b, e1, h4⟩ => ⟨b, e1, _, rfl, h4⟩)) fun c s3 ⟨z, H3, I3, rz, b, ez, q⟩ => ?_) (nomark_ok hs)
  · dsimp only at h3
    split at h3
    · rename_i hi
      refine ⟨M2, F2, m2, d, d2, s2, r.mono l1 l2, r2, hi, (out_bl (g := fun k => .bl (if neg = true then !k else k)) h3).imp fun d m3 M3 F3 H3 s3 _ _ ⟨b, e1, h4⟩ => ⟨b, e1, ?_⟩⟩
      obtain ⟨k', e2, q⟩ := fin_val s3 h4 rfl
      cases e2
      exact q
    · exact h3.elim
  · subst ez
    cases rz
    exact wpAny_truthy_bool ⟨H3, I3, q⟩
end
end Z
end
section
set_option Elab.async false
set_option linter.all false
set_option maxRecDepth 100000
set_option maxHeartbeats 4000000
set_option autoImplicit false
/-! Z: sorted(set(..)). -/
namespace Z
open PySem PySem.Spec PyProof.Rows L2
section
variable {P : Program} {w : World} {A : Around} {E : Value → Shared → Prop} {s : Shared}
theorem call_set_listZ {l : Addr} {items : Array Value} (ns : List Int) {Q : Value → Shared → Prop} (hh : A.handled = none) (hl : s.heap.IsList l items) (hit : IntsAre items.toList ns) (hb : ns.length + 1 < scanBound)
    (h : ∀ (h' : Heap) (tk c : Nat), SetR w h' s.heap.objs.size (fun j => decide (j ∈ ns)) c → c ≤ ns.length → (∀ b o, s.heap.get? b = some o → h'.get? b = some o) → Q (.ref s.heap.objs.size) { s with heap := h', toks := tk }) :
    wpAny (model P w) A (call (.type "set") [.ref l]) Q E s := by
  have hisz : items.size = ns.length := by
    have q := IntsAre.length hit
    rw [Array.length_toList] at q
    exact q
  obtain ⟨c, tl, hmro⟩ := F.called_set.mro
  have hmade := F.called_set.made
  have hsub := F.called_set.sub
  refine wpAny_call (codeAny_of_tree ?_)
  show wpAny _ _ (callAny (.type "set") _) _ _ _
  refine wpAny_pure ⟨Code.quiet_builtin _ (by decide +kernel), codeAny_builtin F.entry_type_call ?_⟩
  rw [Around.under_plain (weight_type_call_type "set" [.ref l] []) rfl]
  have h1 := F.called_set.notType
  have h2 := F.called_set.canCreate
  have hct := F.typeCall_set_1 (.ref l)
  repeat (any_goals (first | assumption | wp_step))

  refine codeAny_mono (code_set_led1 (.ref l) (E := E) (Q₁ := fun obj s₁ => obj = .ref s.heap.objs.size ∧ s₁ = { s with heap := s.heap.push { cls := .type "set", dict := none, data := .set #[] 0 (.fresh 0 0 (!w.params.followText "set-order")) } }) ⟨rfl, rfl⟩) fun r s₁ hr => ?_
  cases r with
  | error e => exact hr
  | ok fl =>
    cases fl with
    | ret obj =>
      obtain ⟨rfl, rfl⟩ := hr
      have hS : (s.heap.push { cls := .type "set", dict := none, data := .set #[] 0 (.fresh 0 0 (!w.params.followText "set-order")) }).get? s.heap.objs.size = some { cls := .type "set", dict := none, data := .set #[] 0 (.fresh 0 0 (!w.params.followText "set-order")) } := Heap.get?_push_size _ rfl
      have hT : Shared.TypeIs { s with heap := s.heap.push { cls := .type "set", dict := none, data := .set #[] 0 (.fresh 0 0 (!w.params.followText "set-order")) } } (.ref s.heap.objs.size) "set" := ⟨_, hS, rfl⟩
      have hli := F.called_set.init.lookup
      have hbi := F.called_set.init.bind (.ref s.heap.objs.size)
      repeat (any_goals (first | assumption | wp_step))

      refine codeAny_mono (codeAny_call_builtin (R := wants (fun r s₂ => r = .none ∧ ∃ h' tk c, s₂ = { s with heap := h', toks := tk } ∧ SetR w h' s.heap.objs.size (fun j => decide (j ∈ ns)) c ∧ c ≤ ns.length ∧
          (∀ b o, s.heap.get? b = some o → h'.get? b = some o)) E) F.called_set.init.plain F.entry_set_init (check_set_init_1 hT ?_)) fun r₂ s₂ hr₂ => ?_
      · obtain ⟨ol, hol, hcl, nl, hdl⟩ := hl
        obtain ⟨ocls, odict, odata, oslots⟩ := ol
        simp only at hcl hdl
        subst hcl; subst hdl
        have hol' : (s.heap.push { cls := .type "set", dict := none, data := .set #[] 0 (.fresh 0 0 (!w.params.followText "set-order")) }).get? l = some { cls := .type "list", dict := odict, data := .seq items nl, slots := oslots } := Heap.get?_push_of_some _ hol
        have hsls := PySem.F.sub_list_set
        have hslf := PySem.F.sub_list_frozenset
        have hne : (Value.type "list" == Value.type "dict") = false := by decide
        have hl1 : (s.heap.push { cls := .type "set", dict := none, data := .set #[] 0 (.fresh 0 0 (!w.params.followText "set-order")) }).IsList l items := ⟨_, hol', rfl, nl, rfl⟩
        unfold Builtin.«set.__init__» noKeywords Builtin.Frozenset.updateFrom
        generalize hPI : pyIter = PI
        wp_walk
        subst hPI

        refine wpAny_pyIter_list hl1 ?_
        refine wpAny_bind (wpAny_runValue ?_)
        have hlS : l < s.heap.objs.size := Heap.lt_size hol
        have hh3 : A.in1.in1.in1.handled = none := by simp [hh]
        have hz1 : (s.heap.push { cls := .type "set", dict := none, data := .set #[] 0 (.fresh 0 0 (!w.params.followText "set-order")) }).objs.size = s.heap.objs.size + 1 := Heap.size_push ..
        have hneI : l ≠ (s.heap.push { cls := .type "set", dict := none, data := .set #[] 0 (.fresh 0 0 (!w.params.followText "set-order")) }).objs.size := by
          rw [Heap.size_push]; exact Nat.ne_of_lt (Nat.lt_succ_of_lt hlS)
        have hSf : s.heap.objs.size ∉ [(s.heap.push { cls := .type "set", dict := none, data := .set #[] 0 (.fresh 0 0 (!w.params.followText "set-order")) }).objs.size, l] := by
          rw [Heap.size_push]; simp only [List.mem_cons, List.mem_singleton, List.not_mem_nil, or_false, not_or]
          exact ⟨Nat.ne_of_lt (Nat.lt_succ_self _), Nat.ne_of_gt hlS⟩
        have hval : ∀ (i : Nat) (v : Value), items[i]? = some v → ∃ k t, ns[i]? = some k ∧ v = .int k t := fun i v hv => by
          have hi : i < ns.length := by rw [← hisz]; exact (Array.getElem?_eq_some_iff.mp hv).1
          obtain ⟨t, e⟩ := PyProof.Rows.IntsAre.int_at hit i v (by rw [Array.getElem?_toList]; exact hv)
          refine ⟨ns[i], t, List.getElem?_eq_getElem hi, ?_⟩
          rw [e, List.getD_eq_getElem?_getD, List.getElem?_eq_getElem hi] <;> rfl
        refine set_update_ints ((Walks.list hh3 _ l hneI items).toS) s.heap.objs.size
          hSf ns hisz hb hval (items.size - 0) 0 _ (by omega) (Nat.zero_le _)
          ⟨⟨_, Heap.get?_push_size _ rfl, rfl, rfl⟩, (hl1.push _)⟩ ?hS0 ?hR
        case hS0 =>
          have hget : ((s.heap.push { cls := .type "set", dict := none, data := .set #[] 0 (.fresh 0 0 (!w.params.followText "set-order")) }).push { cls := .type "list_iterator", data := .fields #[.ref l, .int 0 0] }).get? s.heap.objs.size
              = some { cls := .type "set", dict := none, data := .set #[] 0 (.fresh 0 0 (!w.params.followText "set-order")) } := Heap.get?_push_of_some _ hS
          exact ⟨0, Nat.le_refl 0, setR_new_at hget⟩
        case hR =>
          intro s' c' hm hc' hS'
          obtain ⟨h', g2, d', tk', os'⟩ := s'
          have eg : g2 = s.gens := hm.gens
          have ed : d' = s.drawn := hm.drawn
          have eo : os' = s.os := hm.os
          subst eg; subst ed; subst eo
          show wpAny _ _ _ _ _ _
          refine wpAny_pure ?_
          show wpAny _ _ (ret Value.none) _ _ _
          rw [hisz] at hc'
          refine wpAny_pure ⟨rfl, h', tk', c', rfl, hS', hc', fun b o e => ?_⟩
          have hb0 : b < s.heap.objs.size := Heap.lt_size e
          have hb1 : b ≠ s.heap.objs.size := Nat.ne_of_lt hb0
          have hb2 : b ≠ (s.heap.push { cls := .type "set", dict := none, data := .set #[] 0 (.fresh 0 0 (!w.params.followText "set-order")) }).objs.size := by
            rw [Heap.size_push]; exact Nat.ne_of_lt (Nat.lt_succ_of_lt hb0)
          exact hm.heap b o (by simp only [List.mem_cons, List.mem_singleton, List.not_mem_nil, or_false, not_or]; exact ⟨hb1, hb2⟩) (Heap.get?_push_of_some _ (Heap.get?_push_of_some _ e))

      · cases r₂ with
        | error e => exact hr₂
        | ok fl₂ =>
          cases fl₂ with
          | ret r =>
            obtain ⟨rfl, h', tk, c', rfl, hS', hc', hk'⟩ := hr₂
            repeat (any_goals (first | assumption | wp_step))
            exact h _ _ _ hS' hc' hk'
          | _ => exact hr₂.elim
    | _ => exact hr.elim

end
theorem insS_mem (a x : Int) : ∀ l : List Int, x ∈ insS a l ↔ x = a ∨ x ∈ l
  | [] => by simp [insS]
  | b :: r => by
    unfold insS
    split
    · simp
    · split
      · rename_i h; subst h; simp
      · simp only [List.mem_cons, insS_mem a x r]
        constructor
        · rintro (h | h | h)
          · exact .inr (.inl h)
          · exact .inl h
          · exact .inr (.inr h)
        · rintro (h | h | h)
          · exact .inr (.inl h)
          · exact .inl h
          · exact .inr (.inr h)
theorem insS_sorted (a : Int) : ∀ {l : List Int}, l.Pairwise (· < ·) → (insS a l).Pairwise (· < ·)
  | [], _ => List.pairwise_singleton _ _
  | b :: r, h => by
    unfold insS
    have hb := List.pairwise_cons.mp h
    split
    · rename_i z
      exact List.pairwise_cons.mpr ⟨fun x hx => by
        rcases List.mem_cons.mp hx with e | hx
        · rw [e]; exact z
        · exact Int.lt_trans z (hb.1 x hx), h⟩
    · split
      · exact h
      · rename_i z1 z2
        refine List.pairwise_cons.mpr ⟨fun x hx => ?_, insS_sorted a hb.2⟩
        rcases (insS_mem a x r).mp hx with e | hx
        · rw [e]; omega
        · exact hb.1 x hx
theorem setI_ok : ∀ l : List Int, (setI l).Pairwise (· < ·) ∧ ∀ x, x ∈ setI l ↔ x ∈ l
  | [] => ⟨.nil, fun x => Iff.rfl⟩
  | a :: r => by
    obtain ⟨h1, h2⟩ := setI_ok r
    refine ⟨insS_sorted a h1, fun x => ?_⟩
    show x ∈ insS a (setI r) ↔ _
    rw [insS_mem, h2, List.mem_cons]
theorem lt_sorted_eq : ∀ {l m : List Int}, l.Pairwise (· < ·) → m.Pairwise (· < ·) → (∀ x, x ∈ l ↔ x ∈ m) → l = m
  | [], [], _, _, _ => rfl
  | [], b :: m, _, _, h => absurd ((h b).mpr List.mem_cons_self) (by simp)
  | a :: l, [], _, _, h => absurd ((h a).mp List.mem_cons_self) (by simp)
  | a :: l, b :: m, h1, h2, h => by
    have p1 := List.pairwise_cons.mp h1
    have p2 := List.pairwise_cons.mp h2
    have e : a = b := by
      rcases List.mem_cons.mp ((h a).mp List.mem_cons_self) with e | m1
      · exact e
      · rcases List.mem_cons.mp ((h b).mpr List.mem_cons_self) with e | m2
        · exact e.symm
        · have := p1.1 b m2
          have := p2.1 a m1
          omega
    subst e
    rw [lt_sorted_eq p1.2 p2.2 fun x => ?_]
    have q := h x
    simp only [List.mem_cons] at q
    constructor
    · intro hx
      rcases q.mp (.inr hx) with e | hx'
      · have := p1.1 x hx; omega
      · exact hx'
    · intro hx
      rcases q.mpr (.inr hx) with e | hx'
      · have := p2.1 x hx; omega
      · exact hx'
section
variable {T : Tab} {X : Cx} {W : WX} {k : Nat} {N : List Str} {sc : Scope} {fr : Bool}
theorem pe_zsset (C : CxOk T k N sc X) {x : Expr} {a : Ex} {p p2 pos pos2 : Pos} (h1 : PE X x (tR T W a)) (hm : T.mg "sorted" = none) (hg : glB sc "sorted" = true) (hm2 : T.mg "set" = none) (hg2 : glB sc "set" = true) (hs : isStar x = false) :
    PE X (.Call (.Name "sorted" p) [.Call (.Name "set" p2) [x] [] pos2] [] pos) (tE T W fr (.bi .sset (.cons a .nil))) := by
  refine ⟨fun pins s σ H Q I ⟨e, M, F, ρ, m, sr, h⟩ => ?_⟩
  refine wpAny_Call_Name_kw (ld_blt I (glB_ok C.toCxB hg) (by rw [C.hmg]; exact hm) (by decide +kernel : bootBuiltins "sorted" = some (.builtin "sorted")) ?_)
  refine PyProof.Rows.callWith_builtin1 ?_ rfl rfl
  show wpAny _ _ (spliced ((false, eval (.Call (.Name "set" p2) [x] [] pos2) X.env) :: backTo pos (starEach [] X.env))) _ _ s
  refine Calls.spliced_cons ?_
  refine wpAny_Call_Name_kw (ld_blt I (glB_ok C.toCxB hg2) (by rw [C.hmg]; exact hm2) (by decide +kernel : bootBuiltins "set" = some (.type "set")) ?_)
  refine PyProof.Rows.callWith_type1 (thn ((pb_zcons h1 (pb_znil (T := T) (W := W)) hs).run pos2 pins s σ H (fun vs H1 => ∃ v M1 F1 m1 d, vs = [v] ∧ SR T e M1 F1 ρ m1 σ H1 ∧ Rdv T M1 F1 ρ σ d v ∧ Out T W e M1 F1 ρ σ ((R.of (biSem .sset [d])).bind fun d => .ok (d, m1)) (Kf T fr e ρ σ Q)) I ⟨e, M, F, ρ, m, sr, (Out.bind h).imp fun ds m1 M1 F1 H1 s1 _ _ h2 vs rs => ?_⟩) fun us s1 ⟨vs, H1, I1, rv, v, M1, F1, m1, d, ev, sr1, r1, h2⟩ => ?_) (star_cons hs) rfl
  · obtain ⟨d, hd, h3⟩ := h2.of
    have e1 : ∃ d, ds = [d] := by
      cases ds with
      | nil => simp [biSem] at hd
      | cons d t =>
        cases t with
        | nil => exact ⟨d, rfl⟩
        | cons d2 t => simp [biSem] at hd
    obtain ⟨d, rfl⟩ := e1
    obtain ⟨v, ws, rfl, rd, hw⟩ := rs
    have e2 : ws = [] := hw
    subst e2
    exact ⟨v, M1, F1, m1, d, rfl, s1, rd, h2⟩
  · subst ev
    obtain ⟨u, rfl, ru⟩ := rv.one
    obtain ⟨d', hd, h3⟩ := h2.of
    cases d with
    | lst ds =>
      obtain ⟨a, xs, rfl, q1, q2, q3⟩ := sr1.rd_lst r1
      have hd' : (match ofInts ds with | some ns => if (setI ns).length < 64 ∧ ns.length < 4000 then some (D.lst ((setI ns).map D.int)) else none | none => none) = some d' := hd
      split at hd'
      · rename_i ns hi
        split at hd'
        · rename_i hz
          cases hd'
          obtain ⟨ex, ed⟩ := q3.ints hi
          subst ex
          obtain rfl : u = Value.ref a := ru
          obtain ⟨its, rvs, hl, hz2⟩ := I1.list (show SqL X.K H1 a (ns.map V.int) from C.hK ▸ q1)
          have hii := rvs.ints
          have hbd : (4096 : Nat) = scanBound := by decide +kernel
          refine call_set_listZ ns (I1.ok.hd C.calm) hl.isList (by simpa using hii) (by rw [← hbd]; omega) fun h' tk c hS hc hk => ?_
          have I2 : Inv X pins σ H1 { s1 with heap := h', toks := tk } := I1.kept hk
          refine Calls.spliced_nil ?_
          obtain ⟨w1, w2⟩ := setI_ok ns
          have hS' := hS
          have hcn : c = (setI ns).length := by
            obtain ⟨o, es, ep, t, ho, hex, hdt, g, nd, hm', hb', hf', hn', hr', hl'⟩ := hS
            have pm : (es.toList.map keyOf).Perm (setI ns) := by
              refine (List.perm_ext_iff_of_nodup nd (w1.imp fun h => Int.ne_of_lt h)).mpr fun x => ?_
              rw [← hm' x, w2 x, decide_eq_true_iff]
            have e3 := pm.length_eq
            rw [List.length_map, Array.length_toList] at e3
            omega
          refine sorted_set hS' (I2.ok.hd C.calm) (by omega) fun s' p out c2 ns' hk2 hg hos hp ho hia hpw hmem hlen => ?_
          have en : ns' = setI ns := lt_sorted_eq hpw w1 fun x => by rw [hmem x, w2 x, decide_eq_true_iff]
          subst en
          have hn : H1 p = none := I2.hok.fresh hp
          have hlz : ((setI ns).map V.int).length ≤ sizeLine := by rw [List.length_map, sizeLine_eq]; omega
          have I3 : Inv X pins σ (upd H1 p (.lst ((setI ns).map V.int))) { heap := s'.heap, gens := s'.gens, drawn := s'.drawn, toks := s'.toks, os := s1.os } :=
            Inv.call (s := { heap := h', gens := s1.gens, drawn := s1.drawn, toks := tk, os := s1.os }) (ch := []) I2 (Un.laid hk2 hp hn) (I2.hok.laid hk2 hp ⟨hlz, out.toList, c2, vals_of_ints hia, ho⟩) (by rw [hg]; exact I2.bare) (fun _ z => nomatch z)
          have es : s' = { heap := s'.heap, gens := s'.gens, drawn := s'.drawn, toks := s'.toks, os := s1.os } := by
            cases s'
            have q : _ = s1.os := hos
            cases q
            rfl
          rw [es]
          refine ⟨.ref p, _, I3, rfl, fin_lay sr1 h3 ⟨_, rfl, ?_, Reps.of_ints _⟩ hn⟩
          rw [List.length_map]
          have : (line : Nat) = 16777216 := rfl
          omega
        · cases hd'
      · cases hd'
    | _ => cases hd
end
end Z
end
section
set_option Elab.async false
set_option linter.all false
set_option maxRecDepth 100000
set_option maxHeartbeats 4000000
set_option autoImplicit false
/-! Z: list(zip(a, b, c)). -/
namespace Z
open PySem PySem.Spec PyProof.Rows L2
section
variable {prog : Program} {w : World} {A : Around} {E : Value → Shared → Prop} {s : Shared} {z TI TO T i1 i2 i3 : Addr} {fp1 fp2 fp3 : List Addr} {n1 n2 n3 i : Nat} {P1 P2 P3 : Nat → Value → Prop} {St1 St2 St3 : Nat → Heap → Prop} {f : Bool} {oT : Obj}
theorem zip3_held {Q : Value → Shared → Prop} (S : ZipSep3 z TI TO i1 i2 i3 fp1 fp2 fp3) (D1 : Draws prog w A i1 fp1 n1 P1 St1) (D2 : Draws prog w A i2 fp2 n2 P2 St2) (D3 : Draws prog w A i3 fp3 n3 P3 St3)
    (hz : IsZipHeld s.heap z TI TO T f) (hT : s.heap.get? T = some oT) (hTI : IsTupOf3 s.heap TI (.ref i1) (.ref i2) (.ref i3)) (st1 : St1 i s.heap) (st2 : St2 i s.heap) (st3 : St3 i s.heap) (hlt1 : i < n1) (hlt2 : i < n2) (hlt3 : i < n3)
    (hQ : ∀ x1 x2 x3 h' tk, P1 i x1 → P2 i x2 → P3 i x3 → IsZipHeld h' z TI TO T true → St1 (i + 1) h' → St2 (i + 1) h' → St3 (i + 1) h' → IsTupOf3 h' s.heap.objs.size x1 x2 x3 → h'.objs.size = s.heap.objs.size + 1 →
      (∀ c o, c ≠ z → c ≠ i1 → c ≠ i2 → c ≠ i3 → s.heap.get? c = some o → h'.get? c = some o) → Q (.ref s.heap.objs.size) { s with heap := h', toks := tk }) :
    wpAny (model prog w) A (Builtin.«zip.__next__» ⟨[.ref z], []⟩) (fun fin s' => ∃ v, fin = .done (.ret v) ∧ Q v s') E s := by
  obtain ⟨hp, g, d, tk0, os⟩ := s
  show wpAny _ _ (field (.ref z) 2 >>= _) _ _ _
  refine wpAny_bind (wpAny_field hz rfl (x := .bool false) rfl ?_)
  show wpAny _ _ (field (.ref z) 3 >>= _) _ _ _
  refine wpAny_bind (wpAny_field hz rfl (x := .ref TI) rfl ?_)
  refine wpAny_bind (wpAny_seqItems hTI rfl ?_)
  show wpAny _ _ (Builtin.SmallTypes.ownedTupleIsFree (.ref z) >>= _) _ _ _
  refine wpAny_bind (wpAny_tupleHeld_zip hz hT fun g0 hz0 hs0 => ?_)
  replace hs0 : Heap.SameBut z hp g0 := hs0
  simp only [Bool.false_eq_true, if_false]
  refine wpAny_bind ?_
  rw [← Array.forIn_toList]
  simp only [List.forIn_cons, List.forIn_nil]
  refine wpAny_bind (wpAny_bind (wpAny_holding ?_))
  show wpAny _ _ (Builtin.SmallTypes.nextOf (.ref i1) >>= _) _ _ ⟨g0, g, d, tk0, os⟩
  refine wpAny_bind (D1.item i _ _ _ hlt1 (D1.over st1 hs0 S.zf1) fun x1 p1 tk1 hx1 sn1 hp1 => wpAny_pure ?_)
  replace hp1 : Heap.SameBut i1 g0 p1 := hp1
  refine wpAny_pure ?_
  refine wpAny_bind (wpAny_bind (wpAny_holding ?_))
  show wpAny _ _ (Builtin.SmallTypes.nextOf (.ref i2) >>= _) _ _ ⟨p1, g, d, tk1, os⟩
  refine wpAny_bind (D2.item i _ _ _ hlt2 (D2.over (D2.over st2 hs0 S.zf2) hp1 S.sep1_2) fun x2 p2 tk2 hx2 sn2 hp2 => wpAny_pure ?_)
  replace hp2 : Heap.SameBut i2 p1 p2 := hp2
  refine wpAny_pure ?_
  refine wpAny_bind (wpAny_bind (wpAny_holding ?_))
  show wpAny _ _ (Builtin.SmallTypes.nextOf (.ref i3) >>= _) _ _ ⟨p2, g, d, tk2, os⟩
  refine wpAny_bind (D3.item i _ _ _ hlt3 (D3.over (D3.over (D3.over st3 hs0 S.zf3) hp1 S.sep1_3) hp2 S.sep2_3) fun x3 p3 tk3 hx3 sn3 hp3 => wpAny_pure ?_)
  replace hp3 : Heap.SameBut i3 p2 p3 := hp3
  refine wpAny_pure (wpAny_pure ?_)
  show wpAny _ _ (newTuple [x1, x2, x3] >>= _) _ _ ⟨p3, g, d, tk3, os⟩
  refine wpAny_bind (wpAny_newTuple ?_)
  have hsz : p3.objs.size = hp.objs.size := by rw [hp3.1, hp2.1, hp1.1, hs0.1]
  have hzz : IsZipHeld p3 z TI TO T true := hp3.extBut _ _ S.zi3 (hp2.extBut _ _ S.zi2 (hp1.extBut _ _ S.zi1 hz0))
  have hkk : ∀ c o, c ≠ z → c ≠ i1 → c ≠ i2 → c ≠ i3 → hp.get? c = some o → p3.get? c = some o := fun c o cz c1 c2 c3 e => hp3.extBut _ _ c3 (hp2.extBut _ _ c2 (hp1.extBut _ _ c1 (hs0.extBut _ _ cz e)))
  have hj1 : St1 (i + 1) p3 := D1.over (D1.over sn1 hp2 S.sep2_1) hp3 S.sep3_1
  have hj2 : St2 (i + 1) p3 := D2.over sn2 hp3 S.sep3_2
  refine wpAny_pure ⟨_, rfl, ?_⟩
  show Q (.ref p3.objs.size) ⟨p3.push { cls := .type "tuple", data := .seq #[x1, x2, x3] }, g, d, tk3, os⟩
  have up : ∀ c o, p3.get? c = some o → (p3.push { cls := .type "tuple", data := .seq #[x1, x2, x3] }).get? c = some o := fun c o e => Heap.get?_push_of_some _ e
  have hp' : IsTupOf3 (p3.push { cls := .type "tuple", data := .seq #[x1, x2, x3] }) p3.objs.size x1 x2 x3 := Heap.get?_push_size _ rfl
  have hz4 : (p3.push { cls := .type "tuple", data := .seq #[x1, x2, x3] }).objs.size = p3.objs.size + 1 := Heap.size_push ..
  rw [hsz] at hp' hz4 ⊢
  exact hQ x1 x2 x3 _ tk3 hx1 hx2 hx3 (up _ _ hzz) (D1.frame _ _ _ hj1 fun b _ o e => up b o e) (D2.frame _ _ _ hj2 fun b _ o e => up b o e) (D3.frame _ _ _ sn3 fun b _ o e => up b o e) hp' hz4 fun c o cz c1 c2 c3 e => up c o (hkk c o cz c1 c2 c3 e)
theorem zip3_held_end {Q : Fin → Shared → Prop} (S : ZipSep3 z TI TO i1 i2 i3 fp1 fp2 fp3) (D1 : Draws prog w A i1 fp1 n1 P1 St1)
    (hz : IsZipHeld s.heap z TI TO T f) (hT : s.heap.get? T = some oT) (hTI : IsTupOf3 s.heap TI (.ref i1) (.ref i2) (.ref i3)) (st1 : St1 n1 s.heap)
    (hE : ∀ h' e, (∀ c o, c ≠ z → c ≠ i1 → s.heap.get? c = some o → h'.get? c = some o) → (∃ o, h'.get? e = some o ∧ o.cls = .type "StopIteration") → E (.ref e) { s with heap := h' }) :
    wpAny (model prog w) A (Builtin.«zip.__next__» ⟨[.ref z], []⟩) Q E s := by
  obtain ⟨hp, g, d, tk0, os⟩ := s
  show wpAny _ _ (field (.ref z) 2 >>= _) _ _ _
  refine wpAny_bind (wpAny_field hz rfl (x := .bool false) rfl ?_)
  show wpAny _ _ (field (.ref z) 3 >>= _) _ _ _
  refine wpAny_bind (wpAny_field hz rfl (x := .ref TI) rfl ?_)
  refine wpAny_bind (wpAny_seqItems hTI rfl ?_)
  show wpAny _ _ (Builtin.SmallTypes.ownedTupleIsFree (.ref z) >>= _) _ _ _
  refine wpAny_bind (wpAny_tupleHeld_zip hz hT fun g0 hz0 hs0 => ?_)
  replace hs0 : Heap.SameBut z hp g0 := hs0
  simp only [Bool.false_eq_true, if_false]
  refine wpAny_bind ?_
  rw [← Array.forIn_toList]
  simp only [List.forIn_cons, List.forIn_nil]
  refine wpAny_bind (wpAny_bind (wpAny_holding ?_))
  show wpAny _ _ (Builtin.SmallTypes.nextOf (.ref i1) >>= _) _ _ ⟨g0, g, d, tk0, os⟩
  refine wpAny_bind (D1.done ⟨g0, g, d, tk0, os⟩ _ _ (D1.over st1 hs0 S.zf1) fun q e hq he => ?_)
  exact hE q e (fun c o cz c1 x => hq _ _ c1 (hs0.extBut _ _ cz x)) he
theorem next3_held {Q : Option Value → Shared → Prop} (S : ZipSep3 z TI TO i1 i2 i3 fp1 fp2 fp3) (D1 : Draws prog w A.in1 i1 fp1 n1 P1 St1) (D2 : Draws prog w A.in1 i2 fp2 n2 P2 St2) (D3 : Draws prog w A.in1 i3 fp3 n3 P3 St3)
    (hz : IsZipHeld s.heap z TI TO T f) (hT : s.heap.get? T = some oT) (hTI : IsTupOf3 s.heap TI (.ref i1) (.ref i2) (.ref i3)) (st1 : St1 i s.heap) (st2 : St2 i s.heap) (st3 : St3 i s.heap) (hlt1 : i < n1) (hlt2 : i < n2) (hlt3 : i < n3)
    (hQ : ∀ x1 x2 x3 h' tk, P1 i x1 → P2 i x2 → P3 i x3 → IsZipHeld h' z TI TO T true → St1 (i + 1) h' → St2 (i + 1) h' → St3 (i + 1) h' → IsTupOf3 h' s.heap.objs.size x1 x2 x3 → h'.objs.size = s.heap.objs.size + 1 →
      (∀ c o, c ≠ z → c ≠ i1 → c ≠ i2 → c ≠ i3 → s.heap.get? c = some o → h'.get? c = some o) → Q (some (.ref s.heap.objs.size)) { s with heap := h', toks := tk }) :
    wpAny (model prog w) A (pyNext (.ref z)) Q E s := by
  have hTy : s.TypeIs (.ref z) "zip" := ⟨_, hz, rfl⟩
  unfold pyNext
  exact wpAny_bind (wpAny_attempt (wpAny_callSpecial?_slot (name := Str.ofString "__next__") hTy F.slot_zip_next
    (wpAny_call_entry F.slot_zip_next hTy F.entry_zip_next
      (zip3_held S D1 D2 D3 hz hT hTI st1 st2 st3 hlt1 hlt2 hlt3 fun x1 x2 x3 h' tk y1 y2 y3 b1 d1 d2 d3 b5 b6 b7 => wpAny_pure (hQ x1 x2 x3 h' tk y1 y2 y3 b1 d1 d2 d3 b5 b6 b7)) (F.args_zip_next_1 _))))
theorem next3_held_end {Q : Option Value → Shared → Prop} (S : ZipSep3 z TI TO i1 i2 i3 fp1 fp2 fp3) (D1 : Draws prog w A.in1 i1 fp1 n1 P1 St1)
    (hz : IsZipHeld s.heap z TI TO T f) (hT : s.heap.get? T = some oT) (hTI : IsTupOf3 s.heap TI (.ref i1) (.ref i2) (.ref i3)) (st1 : St1 n1 s.heap)
    (hQ : ∀ h', (∀ c o, c ≠ z → c ≠ i1 → s.heap.get? c = some o → h'.get? c = some o) → Q none { s with heap := h' }) : wpAny (model prog w) A (pyNext (.ref z)) Q E s := by
  have hTy : s.TypeIs (.ref z) "zip" := ⟨_, hz, rfl⟩
  unfold pyNext
  refine wpAny_bind (wpAny_attempt (wpAny_callSpecial?_slot (name := Str.ofString "__next__") hTy F.slot_zip_next
    (wpAny_call_entry F.slot_zip_next hTy F.entry_zip_next (zip3_held_end S D1 hz hT hTI st1 fun h' e hk he => ?_) (F.args_zip_next_1 _))))
  obtain ⟨o, ho, hc⟩ := he
  refine wpAny_bind (wpAny_isInstance (T := "StopIteration") (b := true) ⟨o, ho, hc⟩ isSubtype_stop ?_)
  exact wpAny_pure (hQ _ hk)
end
/-! ### the list -/
/-- the i-th turn's state: nothing was given out yet, or T was -/
def Z3 (z TI TO i1 i2 i3 : Addr) (St1 St2 St3 : Nat → Heap → Prop) (N i : Nat) (h : Heap) : Prop :=
  IsTupOf3 h TI (.ref i1) (.ref i2) (.ref i3) ∧ St1 i h ∧ St2 i h ∧ St3 i h ∧ ((IsZip h z TI TO .none ∧ ∃ a1 a2 a3, IsTupOf3 h TO a1 a2 a3) ∨ ∃ T f oT, IsZipHeld h z TI TO T f ∧ h.get? T = some oT ∧ N ≤ T)
/-- what was given out so far -/
def Out3 (xs ys zs : Array Value) (N B i : Nat) (acc : Array Value) (h : Heap) : Prop := acc.size = i ∧ (∀ j, j < i → ∃ (T : Addr) (a b c : Value), acc[j]? = some (.ref T) ∧ N ≤ T ∧ T < B ∧ xs[j]? = some a ∧ ys[j]? = some b ∧ zs[j]? = some c ∧ IsTupOf3 h T a b c) ∧
  ∀ (j k : Nat) (T : Addr), acc[j]? = some (.ref T) → acc[k]? = some (.ref T) → j = k
theorem Out3.keep {xs ys zs acc : Array Value} {N B i : Nat} {h h' : Heap} (o : Out3 xs ys zs N B i acc h) (k : ∀ c ob, N ≤ c → h.get? c = some ob → h'.get? c = some ob) : Out3 xs ys zs N B i acc h' :=
  ⟨o.1, fun j hj => let ⟨T, a, b, c, e, n, n2, e1, e2, e3, t⟩ := o.2.1 j hj; ⟨T, a, b, c, e, n, n2, e1, e2, e3, k _ _ n t⟩, o.2.2⟩
theorem Out3.push {xs ys zs acc : Array Value} {N T i : Nat} {h : Heap} {a b c : Value} (o : Out3 xs ys zs N T i acc h) (n : N ≤ T) (e1 : xs[i]? = some a) (e2 : ys[i]? = some b) (e3 : zs[i]? = some c) (t : IsTupOf3 h T a b c) : Out3 xs ys zs N (T + 1) (i + 1) (acc.push (.ref T)) h := by
  have lt : ∀ j U, j ≠ i → (acc.push (.ref T))[j]? = some (.ref U) → acc[j]? = some (.ref U) ∧ j < i := fun j U hj e => by
    obtain ⟨h1, h2⟩ := Array.getElem?_eq_some_iff.mp e
    rw [Array.size_push, o.1] at h1
    have hji : j < i := by omega
    rw [Array.getElem_push_lt (by rw [o.1]; exact hji)] at h2
    exact ⟨Array.getElem?_eq_some_iff.mpr ⟨by rw [o.1]; exact hji, h2⟩, hji⟩
  have at_i : (acc.push (.ref T))[i]? = some (.ref T) := by
    have : acc.size = i := o.1
    rw [← this]
    exact Array.getElem?_push_size
  have below : ∀ j U, acc[j]? = some (.ref U) → j < i → U < T := fun j U e hji => by
    obtain ⟨T', a', b', c', e', n', n2', _⟩ := o.2.1 j hji
    rw [e] at e'
    cases e'
    exact n2'
  refine ⟨by rw [Array.size_push, o.1], fun j hj => ?_, fun j k U ej ek => ?_⟩
  · by_cases hji : j < i
    · obtain ⟨T', a', b', c', e, n', n2', r⟩ := o.2.1 j hji
      refine ⟨T', a', b', c', ?_, n', Nat.lt_succ_of_lt n2', r⟩
      rw [Array.getElem?_push_lt (by rw [o.1]; exact hji)]
      rw [Array.getElem?_eq_getElem (by rw [o.1]; exact hji)] at e
      exact e
    · have ej : j = i := by omega
      subst ej
      exact ⟨T, a, b, c, at_i, n, Nat.lt_succ_self _, e1, e2, e3, t⟩
  · by_cases hj : j = i
    · by_cases hk : k = i
      · rw [hj, hk]
      · exfalso
        rw [hj, at_i] at ej
        cases ej
        obtain ⟨q1, q2⟩ := lt k _ hk ek
        exact Nat.lt_irrefl _ (below k _ q1 q2)
    · obtain ⟨q1, q2⟩ := lt j _ hj ej
      by_cases hk : k = i
      · exfalso
        rw [hk, at_i] at ek
        cases ek
        exact Nat.lt_irrefl _ (below j _ q1 q2)
      · obtain ⟨q3, q4⟩ := lt k _ hk ek
        exact o.2.2 j k U q1 q3
section
variable {prog : Program} {w : World} {A : Around} {R : Result → Shared → Prop} {z TI TO i1 i2 i3 l1 l2 l3 : Addr} {xs ys zs : Array Value}
abbrev StL (it l : Addr) (xs : Array Value) : Nat → Heap → Prop := fun i h => h.IsListIter it l i ∧ h.IsList l xs
theorem extend3 (hh : A.handled = none) (S : ZipSep3 z TI TO i1 i2 i3 [i1, l1] [i2, l2] [i3, l3]) (n : Nat) (hx : xs.size = n) (hy : ys.size = n) (hzs : zs.size = n) (hn : n ≤ sizeLine) (L : Addr) (N : Nat) (hL : L ∉ [z, TI, TO, i1, l1, i2, l2, i3, l3]) (hN : ∀ b ∈ [L, z, TI, TO, i1, l1, i2, l2, i3, l3], b < N) (ne1 : l1 ≠ i1) (ne2 : l2 ≠ i2) (ne3 : l3 ≠ i3) (res : Value) :
    ∀ (k i : Nat) (s : Shared) (acc : Array Value) (c : Nat), n - i = k → i ≤ n → N ≤ s.heap.objs.size → Z3 z TI TO i1 i2 i3 (StL i1 l1 xs) (StL i2 l2 ys) (StL i3 l3 zs) N i s.heap → s.heap.get? L = some { cls := .type "list", dict := none, data := .seq acc c, slots := #[] } → Out3 xs ys zs N s.heap.objs.size i acc s.heap →
      (∀ h' tk acc' c' B, (∀ b o, b ∉ [L, z, TO, i1, i2, i3] → s.heap.get? b = some o → h'.get? b = some o) → h'.get? L = some { cls := .type "list", dict := none, data := .seq acc' c', slots := #[] } → Out3 xs ys zs N B n acc' h' → R (.ok (.ret res)) { s with heap := h', toks := tk }) →
      codeAny (model prog w) A (.builtin "list.extend.loop" ⟨[.ref L, .ref z, res], []⟩) R s := by
  have hh2 : A.in1.in1.handled = none := hh
  have D1 := Draws.list (prog := prog) (w := w) hh2 i1 l1 ne1 xs
  have D2 := Draws.list (prog := prog) (w := w) hh2 i2 l2 ne2 ys
  have D3 := Draws.list (prog := prog) (w := w) hh2 i3 l3 ne3 zs
  have mem : ∀ {b}, b ∈ [z, TI, TO, i1, l1, i2, l2, i3, l3] → b < N := fun {b} hb => hN b (List.mem_cons_of_mem _ hb)
  have lN : L < N := hN L List.mem_cons_self
  have off : ∀ {b}, b ∈ [z, TI, TO, i1, l1, i2, l2, i3, l3] → b ≠ L := fun {b} hb e => hL (e ▸ hb)
  have big : ∀ {c b}, N ≤ c → b ∈ [L, z, TI, TO, i1, l1, i2, l2, i3, l3] → c ≠ b := fun {c b} hc hb e => Nat.lt_irrefl _ (Nat.lt_of_lt_of_le (hN b hb) (e ▸ hc))
  have sub5 : ∀ {b}, b ∈ [z, TO, i1, i2, i3] → b ∈ [z, TI, TO, i1, l1, i2, l2, i3, l3] := fun {b} hb => by
    simp only [List.mem_cons, List.not_mem_nil, or_false] at hb ⊢
    rcases hb with h | h | h | h | h <;> simp [h]
  have sub6 : ∀ {b}, b ∈ [z, TO, i1, i2, i3] → b ∈ [L, z, TO, i1, i2, i3] := fun {b} hb => List.mem_cons_of_mem _ hb
  have sa : ∀ {b}, b ∈ [i1, l1] → b ∈ [z, TI, TO, i1, l1, i2, l2, i3, l3] := fun {b} hb => by
    simp only [List.mem_cons, List.not_mem_nil, or_false] at hb ⊢
    rcases hb with h | h <;> simp [h]
  have sb : ∀ {b}, b ∈ [i2, l2] → b ∈ [z, TI, TO, i1, l1, i2, l2, i3, l3] := fun {b} hb => by
    simp only [List.mem_cons, List.not_mem_nil, or_false] at hb ⊢
    rcases hb with h | h <;> simp [h]
  have sd : ∀ {b}, b ∈ [i3, l3] → b ∈ [z, TI, TO, i1, l1, i2, l2, i3, l3] := fun {b} hb => by
    simp only [List.mem_cons, List.not_mem_nil, or_false] at hb ⊢
    rcases hb with h | h <;> simp [h]
  intro k
  induction k with
  | zero =>
    intro i s acc c hk hi hNs hZ hS ho hR
    have hin : i = n := by omega
    subst hin
    refine codeAny_builtin F.entry_extend_loop ?_
    rw [Around.under_plainId F.plain_extend_loop _]
    show wpAny _ A.in1 (pyNext (.ref z) >>= _) _ _ s
    obtain ⟨tTI, s1, s2, s3, hz⟩ := hZ
    rcases hz with ⟨hz, a1, a2, a3, hTO⟩ | ⟨T, f, oT, hz, hT, hTN⟩
    · refine wpAny_bind (wpAny_pyNext_zipD3_end S D1 D2 D3 hz tTI hTO s1 s2 s3 (by omega) (by omega) (by omega) (.inl hx.symm) fun h' tk hk => wpAny_pure ?_)
      refine hR h' tk acc c _ (fun b o hb e => hk b o (fun q => hb (by simp [q])) (fun q => hb (by simp [q])) (fun q => hb (by simp [q])) (fun q => hb (by simp [q])) (fun q => hb (by simp [q])) e) ?_ (ho.keep fun c o hc e => ?_)
      · exact hk L _ (Ne.symm (off (by simp))) (Ne.symm (off (by simp))) (Ne.symm (off (by simp))) (Ne.symm (off (by simp))) (Ne.symm (off (by simp))) hS
      · exact hk c o (big hc (by simp)) (big hc (by simp)) (big hc (by simp)) (big hc (by simp)) (big hc (by simp)) e
    · subst hx
      refine wpAny_bind (next3_held_end S D1 hz hT tTI s1 fun h' hk => wpAny_pure ?_)
      refine hR h' s.toks acc c _ (fun b o hb e => hk b o (fun q => hb (by simp [q])) (fun q => hb (by simp [q])) e) ?_ (ho.keep fun c o hc e => ?_)
      · exact hk L _ (Ne.symm (off (by simp))) (Ne.symm (off (by simp))) hS
      · exact hk c o (big hc (by simp)) (big hc (by simp)) e
  | succ k ih =>
    intro i s acc c hk hi hNs hZ hS ho hR
    have hlt : i < n := by omega
    refine codeAny_builtin F.entry_extend_loop ?_
    rw [Around.under_plainId F.plain_extend_loop _]
    show wpAny _ A.in1 (pyNext (.ref z) >>= _) _ _ s
    have hac := ho.1
    -- behind 'next': the list grows
    have go : ∀ (x1 x2 x3 : Value) (h' : Heap) (tk : Nat), xs[i]? = some x1 → ys[i]? = some x2 → zs[i]? = some x3 → Z3 z TI TO i1 i2 i3 (StL i1 l1 xs) (StL i2 l2 ys) (StL i3 l3 zs) N (i + 1) h' → IsTupOf3 h' s.heap.objs.size x1 x2 x3 → h'.objs.size = s.heap.objs.size + 1 →
        (∀ b o, b ∉ [z, TO, i1, i2, i3] → s.heap.get? b = some o → h'.get? b = some o) →
        wpAny (model prog w) A.in1 (do updateSeq L (·.push (.ref s.heap.objs.size)); again (.builtin "list.extend.loop" ⟨[.ref L, .ref z, res], []⟩)) (fun fin s' => match fin with | .done f => R (.ok f) s' | .again c' => c'.quiet = true ∧ codeAny (model prog w) A c' R s') (fun e s' => R (.error e) s') { s with heap := h', toks := tk } := fun x1 x2 x3 h' tk e1 e2 e3 hZ' hT' hsz hk' => by
      have hL5 : L ∉ [z, TO, i1, i2, i3] := fun q => hL (sub5 q)
      have hS' := hk' L _ hL5 hS
      refine wpAny_bind ?_
      refine wpAny_updateSeq hS' rfl (wpAny_pure ⟨plainId_quiet F.plain_extend_loop _, ih (i + 1) _ (acc.push (.ref s.heap.objs.size)) _ (by omega) hlt ?_ ?_ (Heap.get?_update_self _ hS' rfl) ?_ fun h2 tk2 acc' c' B k2 hS2 ho2 => ?_⟩)
        (by rw [hac]; omega) (by show (acc.push (.ref s.heap.objs.size)).size ≤ sizeLine + 1; rw [Array.size_push, hac]; omega)
      · show N ≤ (h'.update L _).objs.size
        rw [Heap.size_update, hsz]; omega
      · have up : ∀ b o, b ≠ L → h'.get? b = some o → (h'.update L (Obj.mapSeq (·.push (Value.ref s.heap.objs.size)))).get? b = some o := fun b o hb e => (Heap.get?_update_other _ _ (Ne.symm hb)).trans e
        obtain ⟨tTI, s1, s2, s3, hz⟩ := hZ'
        refine ⟨up _ _ (off (by simp)) tTI, D1.frame _ _ _ s1 fun b hb o e => up b o (off (sa hb)) e, D2.frame _ _ _ s2 fun b hb o e => up b o (off (sb hb)) e, D3.frame _ _ _ s3 fun b hb o e => up b o (off (sd hb)) e, ?_⟩
        rcases hz with ⟨hz, a1, a2, a3, hTO⟩ | ⟨T, f, oT, hz, hT, hTN⟩
        · exact .inl ⟨up _ _ (off (by simp)) hz, a1, a2, a3, up _ _ (off (by simp)) hTO⟩
        · exact .inr ⟨T, f, oT, up _ _ (off (by simp)) hz, up _ _ (big hTN (by simp)) hT, hTN⟩
      · have o2 : Out3 xs ys zs N s.heap.objs.size i acc h' := ho.keep fun c o hc e => hk' c o (fun q => by
          exact absurd hc (Nat.not_le_of_lt (mem (sub5 q)))) e
        have o3 := o2.push hNs e1 e2 e3 hT'
        have ez : (h'.update L (Obj.mapSeq (·.push (Value.ref s.heap.objs.size)))).objs.size = s.heap.objs.size + 1 := by rw [Heap.size_update, hsz]
        show Out3 xs ys zs N (h'.update L (Obj.mapSeq (·.push (Value.ref s.heap.objs.size)))).objs.size (i + 1) _ _
        rw [ez]
        exact o3.keep fun c o hc e => (Heap.get?_update_other _ _ (Ne.symm (big hc (by simp)))).trans e
      · refine hR h2 tk2 acc' c' B (fun b o hb e => k2 b o hb ?_) hS2 ho2
        exact (Heap.get?_update_other _ _ (fun q : L = b => hb (by simp [q]))).trans (hk' b o (fun q => hb (sub6 q)) e)
    obtain ⟨tTI, s1, s2, s3, hz⟩ := hZ
    rcases hz with ⟨hz, a1, a2, a3, hTO⟩ | ⟨T, f, oT, hz, hT, hTN⟩
    · refine wpAny_bind (wpAny_pyNext_zipD3_item S D1 D2 D3 hz tTI hTO s1 s2 s3 (by omega) (by omega) (by omega) fun x1 x2 x3 h' tk y1 y2 y3 b1 b2 d1 d2 d3 b5 b6 b7 => ?_)
      refine go x1 x2 x3 h' tk y1 y2 y3 ⟨b7 _ _ S.TIz S.TITO S.TIi1 S.TIi2 S.TIi3 tTI, d1, d2, d3, .inr ⟨_, false, _, b1, b5, hNs⟩⟩ b5 b6 fun b o hb e => b7 b o (fun q => hb (by simp [q])) (fun q => hb (by simp [q])) (fun q => hb (by simp [q])) (fun q => hb (by simp [q])) (fun q => hb (by simp [q])) e
    · refine wpAny_bind (next3_held S D1 D2 D3 hz hT tTI s1 s2 s3 (by omega) (by omega) (by omega) fun x1 x2 x3 h' tk y1 y2 y3 b1 d1 d2 d3 b5 b6 b7 => ?_)
      refine go x1 x2 x3 h' tk y1 y2 y3 ⟨b7 _ _ S.TIz S.TIi1 S.TIi2 S.TIi3 tTI, d1, d2, d3, .inr ⟨T, true, oT, b1, b7 _ _ (big hTN (by simp)) (big hTN (by simp)) (big hTN (by simp)) (big hTN (by simp)) hT, hTN⟩⟩ b5 b6 fun b o hb e => b7 b o (fun q => hb (by simp [q])) (fun q => hb (by simp [q])) (fun q => hb (by simp [q])) (fun q => hb (by simp [q])) e
theorem zip_no_len : typeLookup (.type "zip") "__len__" = pure none := am_miss_of_fast (by decide +kernel)
theorem zip_no_hint : typeLookup (.type "zip") "__length_hint__" = pure none := am_miss_of_fast (by decide +kernel)
theorem call_list_zip3 {s : Shared} {Q : Value → Shared → Prop} {E : Value → Shared → Prop} (hh : A.handled = none) (S : ZipSep3 z TI TO i1 i2 i3 [i1, l1] [i2, l2] [i3, l3]) (n : Nat) (hx : xs.size = n) (hy : ys.size = n) (hzs : zs.size = n) (hn : n ≤ sizeLine) (hlt : ∀ b ∈ [z, TI, TO, i1, l1, i2, l2, i3, l3], b < s.heap.objs.size) (ne1 : l1 ≠ i1) (ne2 : l2 ≠ i2) (ne3 : l3 ≠ i3)
    (hz : IsZip s.heap z TI TO .none) (hTI : IsTupOf3 s.heap TI (.ref i1) (.ref i2) (.ref i3)) (hTO : ∃ a1 a2 a3, IsTupOf3 s.heap TO a1 a2 a3) (st1 : StL i1 l1 xs 0 s.heap) (st2 : StL i2 l2 ys 0 s.heap) (st3 : StL i3 l3 zs 0 s.heap)
    (hQ : ∀ h' tk acc' c' B, (∀ b o, b ∉ [s.heap.objs.size, z, TO, i1, i2, i3] → s.heap.get? b = some o → h'.get? b = some o) → h'.get? s.heap.objs.size = some { cls := .type "list", dict := none, data := .seq acc' c', slots := #[] } → Out3 xs ys zs (s.heap.objs.size + 1) B n acc' h' → Q (.ref s.heap.objs.size) { s with heap := h', toks := tk }) :
    wpAny (model prog w) A (call (.type "list") [.ref z]) Q E s := by
  have hL : s.heap.objs.size ∉ [z, TI, TO, i1, l1, i2, l2, i3, l3] := fun hm => Nat.lt_irrefl _ (hlt _ hm)
  have off : ∀ {b}, b ∈ [z, TI, TO, i1, l1, i2, l2, i3, l3] → b ≠ s.heap.objs.size := fun {b} hb e => hL (e ▸ hb)
  refine callType_codes (Q₁ := fun obj s₁ => obj = .ref s.heap.objs.size ∧ s₁ = { s with heap := s.heap.push { cls := .type "list", data := .seq #[] } }) F.called_list (F.typeCall_list_1 _) F.entry_list_init
    (code_list_new _ ⟨rfl, rfl⟩) fun obj s₁ h₁ => ?_
  obtain ⟨rfl, rfl⟩ := h₁
  have hS : (s.heap.push { cls := .type "list", data := .seq #[] }).get? s.heap.objs.size = some { cls := .type "list", data := .seq #[] } := Heap.get?_push_size _ rfl
  refine ⟨⟨_, hS, rfl⟩, F.args_list_init_2 _ _, ?_⟩
  have k0 : ∀ b o, s.heap.get? b = some o → (s.heap.push { cls := .type "list", data := .seq #[] }).get? b = some o := fun b o e => Heap.get?_push_of_some _ e
  show wpAny _ A.in1.in1 (do let old ← Builtin.List.listItems (.ref s.heap.objs.size); Builtin.List.listUpdate (.ref s.heap.objs.size) (fun _ => #[]); letGo old.toList.reverse; Builtin.List.listExtendWith (.ref s.heap.objs.size) (.ref z) .none) _ _ _
  refine wpAny_bind ?_
  unfold Builtin.List.listItems
  refine wpAny_bind (wpAny_seqItems hS rfl (wpAny_pure ?_))
  show wpAny _ A.in1.in1 (updateSeq s.heap.objs.size (fun _ => #[]) >>= fun _ => letGo (#[] : Array Value).toList.reverse >>= fun _ => Builtin.List.listExtendWith (.ref s.heap.objs.size) (.ref z) .none) _ _ _
  refine wpAny_bind (wpAny_updateSeq hS rfl ?_)
  have hS1 := Heap.get?_update_self (Obj.mapSeq (fun _ => (#[] : Array Value))) hS rfl
  refine wpAny_bind (wpAny_letGo ?_)
  have up1 : ∀ b o, b ≠ s.heap.objs.size → s.heap.get? b = some o → ((s.heap.push { cls := .type "list", data := .seq #[] }).update s.heap.objs.size (Obj.mapSeq (fun _ => (#[] : Array Value)))).get? b = some o :=
    fun b o hb e => (Heap.get?_update_other _ _ (Ne.symm hb)).trans (k0 b o e)
  have sz1 : ((s.heap.push { cls := .type "list", data := .seq #[] }).update s.heap.objs.size (Obj.mapSeq (fun _ => (#[] : Array Value)))).objs.size = s.heap.objs.size + 1 := by rw [Heap.size_update, Heap.size_push]
  generalize (s.heap.push { cls := .type "list", data := .seq #[] }).update s.heap.objs.size (Obj.mapSeq (fun _ => (#[] : Array Value))) = h1 at hS1 up1 sz1 ⊢
  have hz1 : IsZip h1 z TI TO .none := up1 _ _ (off (by simp)) hz
  have hTy : Shared.TypeIs { s with heap := h1 } (.ref z) "zip" := ⟨_, hz1, rfl⟩
  unfold Builtin.List.listExtendWith
  refine wpAny_bind (wpAny_typeOf hTy ?_)
  have e1 : Builtin.List.listSameRef (.ref s.heap.objs.size) (.ref z) = false := by
    have : s.heap.objs.size ≠ z := Ne.symm (off (by simp))
    simp [Builtin.List.listSameRef, this]
  have e2 : (Value.type "zip" == Value.type "list") = false := by decide
  have e3 : (Value.type "zip" == Value.type "tuple") = false := by decide
  simp only [e1, e2, e3, Bool.or_false, Bool.false_eq_true, if_false]
  refine wpAny_bind (wpAny_pyIter_zip hz1 ?_)
  refine wpAny_bind (wpAny_holding ?_)
  unfold Builtin.List.listLengthHint
  refine wpAny_bind (wpAny_specialOf hTy zip_no_len ?_)
  show wpAny _ A.in1.in1 (specialOf (Value.ref z) (Str.ofString "__length_hint__") >>= _) _ _ _
  refine wpAny_bind (wpAny_specialOf hTy zip_no_hint ?_)
  refine wpAny_pure ?_
  show wpAny _ A.in1.in1 (rule "list.extend.makes-room" >>= fun _ => Builtin.List.listTouch (.ref s.heap.objs.size) >>= fun _ =>
    again (.builtin "list.extend.loop" ⟨[.ref s.heap.objs.size, .ref z, .none], []⟩)) _ _ _
  refine wpAny_bind (wpAny_rule ?_)
  refine wpAny_bind ?_
  show wpAny _ A.in1.in1 (updateSeq s.heap.objs.size (·.push .none) >>= fun _ => updateSeq s.heap.objs.size (·.pop)) _ _ _
  refine wpAny_bind (wpAny_updateSeq hS1 rfl ?_)
  have hS2 := Heap.get?_update_self (Obj.mapSeq (·.push Value.none)) hS1 rfl
  refine wpAny_updateSeq hS2 rfl ?_
  have hS3 := Heap.get?_update_self (Obj.mapSeq (·.pop)) hS2 rfl
  have up3 : ∀ b o, b ≠ s.heap.objs.size → s.heap.get? b = some o → ((h1.update s.heap.objs.size (Obj.mapSeq (·.push Value.none))).update s.heap.objs.size (Obj.mapSeq (·.pop))).get? b = some o :=
    fun b o hb e => (Heap.get?_update_other _ _ (Ne.symm hb)).trans ((Heap.get?_update_other _ _ (Ne.symm hb)).trans (up1 b o hb e))
  have sz3 : ((h1.update s.heap.objs.size (Obj.mapSeq (·.push Value.none))).update s.heap.objs.size (Obj.mapSeq (·.pop))).objs.size = s.heap.objs.size + 1 := by rw [Heap.size_update, Heap.size_update, sz1]
  generalize (h1.update s.heap.objs.size (Obj.mapSeq (·.push Value.none))).update s.heap.objs.size (Obj.mapSeq (·.pop)) = h3 at hS3 up3 sz3 ⊢
  have hh2 : A.in1.handled = none := hh
  obtain ⟨a1, a2, a3, hTO⟩ := hTO
  refine wpAny_pure ⟨plainId_quiet F.plain_extend_loop _, extend3 (R := wants (fun r s₂ => r = .none ∧ Q (.ref s.heap.objs.size) s₂) E) hh2 S n hx hy hzs hn s.heap.objs.size (s.heap.objs.size + 1) hL (fun b hb => ?_) ne1 ne2 ne3 .none n 0 { s with heap := h3 } #[] _ (by omega) (Nat.zero_le _) (by show _ ≤ h3.objs.size; rw [sz3]; exact Nat.le_refl _)
    ⟨up3 _ _ (off (by simp)) hTI, ⟨st1.1.at fun o e => up3 _ _ (off (by simp)) e, st1.2.at fun o e => up3 _ _ (off (by simp)) e⟩, ⟨st2.1.at fun o e => up3 _ _ (off (by simp)) e, st2.2.at fun o e => up3 _ _ (off (by simp)) e⟩, ⟨st3.1.at fun o e => up3 _ _ (off (by simp)) e, st3.2.at fun o e => up3 _ _ (off (by simp)) e⟩, .inl ⟨up3 _ _ (off (by simp)) hz, a1, a2, a3, up3 _ _ (off (by simp)) hTO⟩⟩
    hS3 ⟨rfl, fun j hj => absurd hj (Nat.not_lt_zero _), fun j k U ej _ => by simp at ej⟩ fun h' tk acc' c' B hk hS' ho => ⟨rfl, hQ h' tk acc' c' B (fun b o hb e => hk b o hb (up3 b o (fun q => hb (by simp [q])) e)) hS' ho⟩⟩
  rcases List.mem_cons.mp hb with q | q
  · rw [q]; exact Nat.lt_succ_self _
  · exact Nat.lt_succ_of_lt (hlt b q)
end
/-! ### several new tuples -/
def tupsH (H : Hp) : List (Addr × List V) → Hp
  | [] => H
  | (p, xs) :: r => upd (tupsH H r) p (.tup xs)
theorem tupsH_old {H : Hp} {b : Addr} : ∀ {l : List (Addr × List V)}, b ∉ l.map (·.1) → tupsH H l b = H b
  | [], _ => rfl
  | (p, xs) :: r, h => by
    simp only [List.map_cons, List.mem_cons, not_or] at h
    show upd (tupsH H r) p (.tup xs) b = _
    rw [upd_ne h.1]
    exact tupsH_old h.2
theorem tupsH_new {H : Hp} {b : Addr} {o : HO} : ∀ {l : List (Addr × List V)}, tupsH H l b = some o → H b = some o ∨ ∃ xs, (b, xs) ∈ l ∧ o = .tup xs
  | [], h => .inl h
  | (p, xs) :: r, h => by
    have h : upd (tupsH H r) p (.tup xs) b = some o := h
    by_cases hb : b = p
    · subst hb
      rw [upd_same] at h
      cases h
      exact .inr ⟨xs, List.mem_cons_self, rfl⟩
    · rw [upd_ne hb] at h
      rcases tupsH_new h with q | ⟨ys, q1, q2⟩
      · exact .inl q
      · exact .inr ⟨ys, List.mem_cons_of_mem _ q1, q2⟩
theorem tupsH_at {H : Hp} : ∀ {l : List (Addr × List V)}, (l.map (·.1)).Nodup → ∀ p ∈ l, tupsH H l p.1 = some (.tup p.2)
  | (p, xs) :: r, nd, q, hq => by
    simp only [List.map_cons, List.nodup_cons] at nd
    show upd (tupsH H r) p (.tup xs) q.1 = _
    rcases List.mem_cons.mp hq with e | hq
    · rw [e]; exact upd_same
    · have hne : q.1 ≠ p := fun z => nd.1 (z ▸ List.mem_map.mpr ⟨q, hq, rfl⟩)
      rw [upd_ne hne]
      exact tupsH_at nd.2 q hq
/-- many objects laid at once -/
theorem _root_.L2.Inv.many {X : Cx} {pins : List (Addr × Obj)} {σ : L2.St} {H H' : Hp} {s : Shared} {h' : Heap} {t' : Nat} (I : Inv X pins σ H s) (k : ∀ b u, s.heap.get? b = some u → h'.get? b = some u) (hH : ∀ b u, H b = some u → H' b = some u) (hf : ∀ b, b < s.heap.objs.size → H b = none → H' b = none)
    (hn : ∀ b u, H' b = some u → H b = some u ∨ ObjOk X.prog X.w H' h' b u) : Inv X pins σ H' { s with heap := h', toks := t' } := by
  refine I.un ⟨fun b u q _ _ _ => k b u q, fun b u q _ _ _ => ⟨u.slots, k b u q⟩, fun b u q n _ => hf b (Heap.lt_size q) n, fun b u q _ => ⟨u, k b u q⟩, fun b xs q => hH _ _ q, fun b o u q => hH _ _ q, fun b ps q => ⟨#[], by rw [hH _ _ q]; simp⟩⟩ fun b u e => ?_
  rcases hn b u e with q | q
  · exact (I.hok b u q).stay (fun c v _ z => k c v z) (fun c z => hH _ _ z) fun c xs z => hH _ _ z
  · exact q
theorem SR.tups {T : Tab} {e : En} {M : List Addr} {ρ : Env} {m : Mu} {σ : L2.St} {H : Hp} : ∀ {l : List (Addr × List V)} {rows : List (List D)} {F : Hp}, SR T e M F ρ m σ H → (l.map (·.1)).Nodup → (∀ p ∈ l, H p.1 = none) → Paired (fun p r => Reps T M F r p.2 ∧ r.length ≤ line) l rows →
    ∃ F', Le F F' ∧ SR T e M F' ρ m σ (tupsH H l) ∧ Reps T M F' (rows.map .tup) (l.map fun p => .ref p.1)
  | [], _, F, s, _, _, .nil => ⟨F, Le.rfl', s, Reps.nil⟩
  | (p, xs) :: l, r :: rows, F, s, nd, hn, .cons h hr => by
    simp only [List.map_cons, List.nodup_cons] at nd
    obtain ⟨F1, l1, s1, r1⟩ := SR.tups s nd.2 (fun q hq => hn q (List.mem_cons_of_mem _ hq)) hr
    have hp : tupsH H l p = none := by rw [tupsH_old nd.1]; exact hn _ List.mem_cons_self
    have hf : Le F1 (upd F1 p (.tup xs)) := fun a u e1 => by
      by_cases z : a = p
      · subst z; rw [s1.le a u e1] at hp; cases hp
      · rw [upd_ne z]; exact e1
    exact ⟨_, l1.trans hf, s1.lay hp, Reps.cons ⟨p, xs, rfl, SqT.of upd_same, h.2, h.1.mono pfx (l1.trans hf)⟩ (r1.mono pfx hf)⟩
theorem build3 {T : Tab} {M : List Addr} {F : Hp} {h : Heap} {N : Nat} : ∀ (as bs cs : List D) (va vb vc : List V) (ua ub uc : List Value) (acc : List Value), Reps T M F as va → Reps T M F bs vb → Reps T M F cs vc → Vals va ua → Vals vb ub → Vals vc uc → as.length = bs.length → bs.length = cs.length → acc.length = as.length →
    (∀ j, j < acc.length → ∃ (T : Addr) (a b c : Value), acc[j]? = some (.ref T) ∧ N ≤ T ∧ ua[j]? = some a ∧ ub[j]? = some b ∧ uc[j]? = some c ∧ IsTupOf3 h T a b c) → (∀ (j k : Nat) (T : Addr), acc[j]? = some (.ref T) → acc[k]? = some (.ref T) → j = k) →
    ∃ (l : List (Addr × List V)) (rows : List (List D)), acc = (l.map fun p => Value.ref p.1) ∧ (l.map (·.1)).Nodup ∧ (∀ p ∈ l, N ≤ p.1 ∧ p.2.length ≤ sizeLine ∧ ∃ its, Vals p.2 its ∧ IsTup h p.1 its.toArray) ∧ Paired (fun p r => Reps T M F r p.2 ∧ r.length ≤ line) l rows ∧ rows.map D.tup = zip3 as bs cs
  | [], bs, cs, va, vb, vc, ua, ub, uc, acc, _, _, _, _, _, _, _, _, hl, _, _ => by
    have e : acc = [] := List.length_eq_zero_iff.mp hl
    subst e
    exact ⟨[], [], rfl, List.nodup_nil, fun p hp => (List.not_mem_nil hp).elim, .nil, by simp [zip3]⟩
  | a :: as, [], cs, va, vb, vc, ua, ub, uc, acc, _, _, _, _, _, _, h1, _, _, _, _ => by simp at h1
  | a :: as, b :: bs, [], va, vb, vc, ua, ub, uc, acc, _, _, _, _, _, _, _, h2, _, _, _ => by simp at h2
  | a :: as, b :: bs, c :: cs, va, vb, vc, ua, ub, uc, [], _, _, _, _, _, _, _, _, hl, _, _ => by simp at hl
  | a :: as, b :: bs, c :: cs, va, vb, vc, ua, ub, uc, x :: acc, ra, rb, rc, qa, qb, qc, h1, h2, hl, ht, hi => by
    obtain ⟨v1, va, rfl, ra1, ra2⟩ := ra
    obtain ⟨v2, vb, rfl, rb1, rb2⟩ := rb
    obtain ⟨v3, vc, rfl, rc1, rc2⟩ := rc
    cases qa with
    | cons qa1 qa2 =>
      cases qb with
      | cons qb1 qb2 =>
        cases qc with
        | cons qc1 qc2 =>
          rename_i u1 ua u2 ub u3 uc
          obtain ⟨T0, a0, b0, c0, e0, n0, e1, e2, e3, t0⟩ := ht 0 (Nat.zero_lt_succ _)
          simp only [List.getElem?_cons_zero, Option.some.injEq] at e0 e1 e2 e3
          subst e0 e1 e2 e3
          obtain ⟨l, rows, g1, g2, g3, g4, g5⟩ := build3 as bs cs va vb vc ua ub uc acc ra2 rb2 rc2 qa2 qb2 qc2 (by simpa using h1) (by simpa using h2) (by simpa using hl) (fun j hj => by
            obtain ⟨T1, a1, b1, c1, z0, n1, z1, z2, z3, t1⟩ := ht (j + 1) (Nat.succ_lt_succ hj)
            exact ⟨T1, a1, b1, c1, by simpa using z0, n1, by simpa using z1, by simpa using z2, by simpa using z3, t1⟩) fun j k T1 ej ek => by
              have := hi (j + 1) (k + 1) T1 (by simpa using ej) (by simpa using ek)
              omega
          refine ⟨(T0, [v1, v2, v3]) :: l, [a, b, c] :: rows, by rw [List.map_cons, g1], ?_, fun p hp => ?_, .cons ⟨Reps.cons ra1 (Reps.cons rb1 (Reps.cons rc1 Reps.nil)), by show 3 ≤ 16777216; decide⟩ g4, by simp only [List.map_cons, zip3, g5]⟩
          · rw [List.map_cons, List.nodup_cons]
            refine ⟨fun hm => ?_, g2⟩
            obtain ⟨p, hp, ep⟩ := List.mem_map.mp hm
            obtain ⟨j, hj⟩ := List.mem_iff_getElem?.mp hp
            have z : (Value.ref T0 :: acc)[j + 1]? = some (.ref T0) := by
              rw [List.getElem?_cons_succ, g1, List.getElem?_map, hj]
              simp [ep]
            have := hi 0 (j + 1) T0 rfl z
            omega
          · rcases List.mem_cons.mp hp with e | hp
            · rw [e]
              exact ⟨n0, by show 3 ≤ sizeLine; rw [sizeLine_eq]; decide, [u1, u2, u3], .cons qa1 (.cons qb1 (.cons qc1 .nil)), ⟨_, t0, rfl, _, rfl⟩⟩
            · exact g3 p hp
section
variable {T : Tab} {X : Cx} {W : WX} {k : Nat} {N : List Str} {sc : Scope} {fr : Bool}
theorem pe_zzip3 (C : CxOk T k N sc X) {x y z : Expr} {a b c : Ex} {p p2 pos pos2 : Pos} (h1 : PE X x (tR T W a)) (h2 : PE X y (tR T W b)) (h3 : PE X z (tR T W c)) (hm : T.mg "list" = none) (hg : glB sc "list" = true) (hm2 : T.mg "zip" = none) (hg2 : glB sc "zip" = true) (hs1 : isStar x = false) (hs2 : isStar y = false) (hs3 : isStar z = false) :
    PE X (.Call (.Name "list" p) [.Call (.Name "zip" p2) [x, y, z] [] pos2] [] pos) (tE T W fr (.bi .zip3 (.cons a (.cons b (.cons c .nil))))) := by
  refine ⟨fun pins s σ H Q I ⟨e, M, F, ρ, m, sr, h⟩ => ?_⟩
  refine wpAny_Call_Name_kw (ld_blt I (glB_ok C.toCxB hg) (by rw [C.hmg]; exact hm) (by decide +kernel : bootBuiltins "list" = some (.type "list")) ?_)
  refine PyProof.Rows.callWith_type1 ?_ rfl rfl
  show wpAny _ _ (spliced ((false, eval (.Call (.Name "zip" p2) [x, y, z] [] pos2) X.env) :: backTo pos (starEach [] X.env))) _ _ s
  refine Calls.spliced_cons ?_
  refine wpAny_Call_Name_kw (ld_blt I (glB_ok C.toCxB hg2) (by rw [C.hmg]; exact hm2) PyProof.Rows.boot_zip ?_)
  have hpl : (backTo pos2 (starEach [y, z] X.env)).any (·.1) = false := star_none (by simp [hs2, hs3])
  refine PyProof.Rows.callWith_type1 (thn ((pb_zcons h1 (pb_zcons h2 (pb_zcons h3 (pb_znil (T := T) (W := W)) hs3) hs2) hs1).run pos2 pins s σ H (fun vs H1 => ∃ M1 F1 m1 ds, SR T e M1 F1 ρ m1 σ H1 ∧ Rdvs T M1 F1 ρ σ ds vs ∧ Out T W e M1 F1 ρ σ ((R.of (biSem .zip3 ds)).bind fun d => .ok (d, m1)) (Kf T fr e ρ σ Q)) I ⟨e, M, F, ρ, m, sr, (Out.bind h).imp fun ds m1 M1 F1 H1 s1 _ _ h2 vs rs => ⟨M1, F1, m1, ds, s1, rs, h2⟩⟩) fun us s1 ⟨vs, H1, I1, rv, M1, F1, m1, ds, sr1, rs, h2⟩ => ?_) (star_cons hs1) hpl
  obtain ⟨d', hd, h3⟩ := h2.of
  unfold biSem at hd
  split at hd <;> first | skip | (rename_i hh _; cases hh; done)
  all_goals first | (exfalso; simp_all; done) | skip
  rename_i as bs cs _
  split at hd
  · rename_i hlen
    cases hd
    obtain ⟨v1, w1, rfl, r1, rs⟩ := rs
    obtain ⟨v2, w2, rfl, r2, rs⟩ := rs
    obtain ⟨v3, w3, rfl, r3, rs⟩ := rs
    have e0 : w3 = [] := rs
    subst e0
    obtain ⟨l1, va, rfl, q1, z1, ra⟩ := sr1.rd_lst r1
    obtain ⟨l2, vb, rfl, q2, z2, rb⟩ := sr1.rd_lst r2
    obtain ⟨l3, vc, rfl, q3, z3, rc⟩ := sr1.rd_lst r3
    obtain ⟨u1, us, rfl, ru1, rv⟩ : ∃ u us', us = u :: us' ∧ RelV (.ref l1) u ∧ Vals [V.ref l2, V.ref l3] us' := by
      cases rv with
      | cons p q => exact ⟨_, _, rfl, p, q⟩
    obtain ⟨u2, us, rfl, ru2, rv⟩ : ∃ u us', us = u :: us' ∧ RelV (.ref l2) u ∧ Vals [V.ref l3] us' := by
      cases rv with
      | cons p q => exact ⟨_, _, rfl, p, q⟩
    obtain ⟨u3, rfl, ru3⟩ := rv.one
    obtain rfl : u1 = Value.ref l1 := ru1
    obtain rfl : u2 = Value.ref l2 := ru2
    obtain rfl : u3 = Value.ref l3 := ru3
    obtain ⟨ia, qa, pa, za⟩ := I1.list (show SqL X.K H1 l1 va from C.hK ▸ q1)
    obtain ⟨ib, qb, pb, zb⟩ := I1.list (show SqL X.K H1 l2 vb from C.hK ▸ q2)
    obtain ⟨ic, qc, pc, zc⟩ := I1.list (show SqL X.K H1 l3 vc from C.hK ▸ q3)
    have b1 : l1 < s1.heap.objs.size := pa.lt
    have b2 : l2 < s1.heap.objs.size := pb.lt
    have b3 : l3 < s1.heap.objs.size := pc.lt
    have la : ia.toArray.size = as.length := by rw [List.size_toArray, ← qa.length, ra.length]
    have lb : ib.toArray.size = as.length := by rw [List.size_toArray, ← qb.length, ← rb.length, hlen.1]
    have lc : ic.toArray.size = as.length := by rw [List.size_toArray, ← qc.length, ← rc.length, hlen.1, hlen.2]
    refine zip_begins3 (begins_list l1 ia.toArray) (begins_list l2 ib.toArray) (begins_list l3 ic.toArray) pa.isList pb.isList pc.isList fun h' hz hTI hTO hi1 hi2 hi3 hsz hk => ?_
    refine Calls.spliced_nil ?_
    have hlz : as.length ≤ sizeLine := by rw [sizeLine_eq]; exact z1
    have N0 : ∀ {j : Nat}, s1.heap.objs.size + j ≠ l1 ∧ s1.heap.objs.size + j ≠ l2 ∧ s1.heap.objs.size + j ≠ l3 := fun {j} => ⟨fun e => by rw [← e] at b1; exact absurd b1 (Nat.not_lt.mpr (Nat.le_add_right _ _)), fun e => by rw [← e] at b2; exact absurd b2 (Nat.not_lt.mpr (Nat.le_add_right _ _)), fun e => by rw [← e] at b3; exact absurd b3 (Nat.not_lt.mpr (Nat.le_add_right _ _))⟩
    refine call_list_zip3 (s := { s1 with heap := h' }) (z := s1.heap.objs.size + 5) (TI := s1.heap.objs.size + 3) (TO := s1.heap.objs.size + 4) (i1 := s1.heap.objs.size) (i2 := s1.heap.objs.size + 1) (i3 := s1.heap.objs.size + 2) (l1 := l1) (l2 := l2) (l3 := l3) (I1.ok.hd C.calm)
      (zip_sep3 (N := s1.heap.objs.size) (fp1 := [l1]) (fp2 := [l2]) (fp3 := [l3]) (fun b hb => by rw [List.mem_singleton.mp hb]; exact b1) (fun b hb => by rw [List.mem_singleton.mp hb]; exact b2) (fun b hb => by rw [List.mem_singleton.mp hb]; exact b3)) as.length la lb lc hlz
      (fun b hb => ?_) (Nat.ne_of_lt b1) (fun e => (N0 (j := 1)).2.1 e.symm) (fun e => (N0 (j := 2)).2.2 e.symm) hz hTI ⟨_, _, _, hTO⟩ ⟨⟨_, hi1, rfl, rfl⟩, pa.isList.at fun o q => hk _ _ q⟩ ⟨⟨_, hi2, rfl, rfl⟩, pb.isList.at fun o q => hk _ _ q⟩ ⟨⟨_, hi3, rfl, rfl⟩, pc.isList.at fun o q => hk _ _ q⟩ fun h2 tk acc c' B k2 hL ho => ?_
    · show b < h'.objs.size
      rw [hsz]
      simp only [List.mem_cons, List.not_mem_nil, or_false] at hb
      rcases hb with e | e | e | e | e | e | e | e | e <;> rw [e]
      · exact Nat.lt_succ_self _
      · exact Nat.add_lt_add_left (by decide) _
      · exact Nat.add_lt_add_left (by decide) _
      · exact Nat.lt_add_of_pos_right (by decide)
      · exact Nat.lt_of_lt_of_le b1 (Nat.le_add_right _ _)
      · exact Nat.add_lt_add_left (by decide) _
      · exact Nat.lt_of_lt_of_le b2 (Nat.le_add_right _ _)
      · exact Nat.add_lt_add_left (by decide) _
      · exact Nat.lt_of_lt_of_le b3 (Nat.le_add_right _ _)
    · have hk2 : ∀ b o, s1.heap.get? b = some o → h2.get? b = some o := fun b o q => by
        have hb := Heap.lt_size q
        refine k2 b o (fun hm => ?_) (hk b o q)
        simp only [List.mem_cons, List.not_mem_nil, or_false] at hm
        have ne : ∀ j : Nat, b ≠ s1.heap.objs.size + j := fun j e => by rw [e] at hb; exact absurd hb (Nat.not_lt.mpr (Nat.le_add_right _ _))
        rcases hm with e | e | e | e | e | e
        · have e' : b = s1.heap.objs.size + 6 := e.trans hsz
          exact ne 6 e'
        · exact ne 5 e
        · exact ne 4 e
        · exact ne 0 e
        · exact ne 1 e
        · exact ne 2 e
      obtain ⟨o1, o2, o3⟩ := ho
      obtain ⟨l, rows, g1, g2, g3, g4, g5⟩ := build3 (h := h2) (N := h'.objs.size + 1) as bs cs va vb vc ia ib ic acc.toList ra rb rc qa qb qc hlen.1 hlen.2 (by rw [Array.length_toList, o1]) (fun j hj => by
        rw [Array.length_toList, o1] at hj
        obtain ⟨T1, x1, x2, x3, w0, n1, _, w1, w2, w3, t1⟩ := o2 j hj
        exact ⟨T1, x1, x2, x3, by simpa using w0, n1, by simpa using w1, by simpa using w2, by simpa using w3, t1⟩) fun j kk T1 ej ek => o3 j kk T1 (by simpa using ej) (by simpa using ek)
      have hnl : ∀ p ∈ l, H1 p.1 = none := fun p hp => I1.hok.fresh (by
        have := (g3 p hp).1
        have q : s1.heap.objs.size + 6 + 1 ≤ p.1 := hsz ▸ this
        exact Nat.le_trans (Nat.le_add_right _ 7) q)
      have hS0 : H1 h'.objs.size = none := I1.hok.fresh (by rw [hsz]; exact Nat.le_add_right _ _)
      have hSl : h'.objs.size ∉ l.map (·.1) := fun hm => by
        obtain ⟨p, hp, ep⟩ := List.mem_map.mp hm
        have := (g3 p hp).1
        rw [ep] at this
        exact Nat.lt_irrefl _ this
      obtain ⟨F2, lF, s2, r2'⟩ := SR.tups sr1 g2 hnl g4
      rw [g5] at r2'
      have hSn : tupsH H1 l h'.objs.size = none := by rw [tupsH_old hSl]; exact hS0
      have hl3 : (zip3 as bs cs).length = l.length := by rw [r2'.length, List.length_map]
      have hll : l.length = as.length := by
        have q := congrArg List.length g1
        rw [Array.length_toList, o1, List.length_map] at q
        exact q.symm
      have I2 : Inv X pins σ (upd (tupsH H1 l) h'.objs.size (.lst (l.map fun p => V.ref p.1))) { s1 with heap := h2, toks := tk } := by
        refine I1.many hk2 (fun b u q => ?_) (fun b hb q => ?_) fun b u q => ?_
        · have hb : b ∉ l.map (·.1) := fun hm => by
            obtain ⟨p, hp, ep⟩ := List.mem_map.mp hm
            rw [← ep, hnl p hp] at q
            cases q
          rw [upd_ne (fun e => by rw [e, hS0] at q; cases q), tupsH_old hb]
          exact q
        · have n1 : b ≠ h'.objs.size := fun e => by
            rw [e, hsz] at hb
            exact absurd hb (Nat.not_lt.mpr (Nat.le_add_right _ _))
          rw [upd_ne n1, tupsH_old (fun hm => by
            obtain ⟨p, hp, ep⟩ := List.mem_map.mp hm
            have := (g3 p hp).1
            rw [ep, hsz] at this
            exact absurd hb (Nat.not_lt.mpr (Nat.le_trans (Nat.le_add_right _ 7) this)))]
          exact q
        · by_cases hb : b = h'.objs.size
          · rw [hb, upd_same] at q
            cases q
            refine .inr ?_
            rw [hb]
            refine ⟨by rw [List.length_map, hll]; exact hlz, acc.toList, c', ?_, hL⟩
            rw [g1]
            clear g1 g2 g3 g4 g5 hnl hSl s2 r2' hSn hl3 hll
            induction l with
            | nil => exact .nil
            | cons p l ih => exact .cons rfl ih
          · rw [upd_ne hb] at q
            rcases tupsH_new q with q | ⟨xs, q1, q2⟩
            · exact .inl q
            · subst q2
              obtain ⟨_, n2, its, w1, w2⟩ := g3 _ q1
              exact .inr ⟨n2, its, w1, w2⟩
      refine ⟨.ref h'.objs.size, _, I2, rfl, fin_lay s2 (h3.mono pfx lF) ⟨_, rfl, by rw [hl3, hll]; exact z1, r2'⟩ hSn⟩
  · cases hd
end
end Z
end
section
set_option Elab.async false
set_option linter.all false
set_option maxRecDepth 100000
set_option maxHeartbeats 4000000
set_option autoImplicit false
/-! Z: statements. -/
namespace Z
open PySem PySem.Spec PyProof.Rows L2
variable {T : Tab}
/-- what is wanted of a statement's end -/
def OutS (T : Tab) (W : WX) (e : En) (M : List Addr) (F : Hp) (r : S) (Ds : Ends) : Prop := match r with
  | .nx ρ m => ∀ M' F' σ' H', SR T e M' F' ρ m σ' H' → M <+: M' → Le F F' → Ds.nx σ' H'
  | .ct ρ m => ∀ M' F' σ' H', SR T e M' F' ρ m σ' H' → M <+: M' → Le F F' → Ds.ct σ' H'
  | .rt d m => ∀ M' F' ρ' σ' H', SR T e M' F' ρ' m σ' H' → M <+: M' → Le F F' → ∀ v, Rep T M' F' d v → Ds.rt v H'
  | .ex c fs ρ m => ∀ M' F' σ' H' cls dd, SR T e M' F' ρ m σ' H' → M <+: M' → Le F F' → XRep T M' F' c fs cls dd → W cls dd σ' H'
  | .bad => False
def tS (T : Tab) (W : WX) (t : Sm) : TS := fun Ds σ H => ∃ e M F ρ m, SR T e M F ρ m σ H ∧ OutS T W e M F (run t ρ m) Ds
def tSs (T : Tab) (W : WX) (t : Sms) : TS := fun Ds σ H => ∃ e M F ρ m, SR T e M F ρ m σ H ∧ OutS T W e M F (runs t ρ m) Ds
section
variable {X : Cx} {W : WX} {k : Nat} {N : List Str} {sc : Scope} {e : En} {M M' : List Addr} {F F' : Hp} {ρ : Env} {m m' : Mu} {σ : L2.St} {H H' : Hp} {Ds : Ends} {α β : Type}
theorem OutS.mono {r : S} (h : OutS T W e M F r Ds) (hm : M <+: M') (hf : Le F F') : OutS T W e M' F' r Ds := by
  cases r with
  | nx ρ m => exact fun M2 F2 σ2 H2 s l1 l2 => h M2 F2 σ2 H2 s (hm.trans l1) (hf.trans l2)
  | ct ρ m => exact fun M2 F2 σ2 H2 s l1 l2 => h M2 F2 σ2 H2 s (hm.trans l1) (hf.trans l2)
  | rt d m => exact fun M2 F2 ρ2 σ2 H2 s l1 l2 => h M2 F2 ρ2 σ2 H2 s (hm.trans l1) (hf.trans l2)
  | ex c fs ρ m => exact fun M2 F2 σ2 H2 cls dd s l1 l2 => h M2 F2 σ2 H2 cls dd s (hm.trans l1) (hf.trans l2)
  | bad => exact h
theorem OutS.of {r : R (α × Mu)} {f : α × Mu → S} (h : OutS T W e M F (S.of r ρ f) Ds) : Out T W e M F ρ σ r fun a m' M' F' _ => OutS T W e M' F' (f (a, m')) Ds := by
  cases r with
  | ok p => exact fun M2 F2 H2 s l1 l2 => OutS.mono (show OutS T W e M F (f p) Ds from h) l1 l2
  | ex c fs m => exact fun M2 F2 H2 cls dd s l1 l2 x => h M2 F2 σ H2 cls dd s l1 l2 x
  | bad => exact h
theorem OutS.opt {x : Option α} {f : α → S} (h : OutS T W e M F (S.of (R.of x) ρ f) Ds) : ∃ a, x = some a ∧ OutS T W e M F (f a) Ds := by
  cases x with
  | none => exact h.elim
  | some a => exact ⟨a, rfl, h⟩
theorem OutS.now {ρ : Env} {m : Mu} (h : OutS T W e M F (.nx ρ m) Ds) (s : SR T e M F ρ m σ H)   : Ds.nx σ H := h M F σ H s pfx Le.rfl'
/-- a new object is stored, from then on the frame's own -/
theorem SR.setF (s : SR T e M F ρ m σ H) {i : Nat} {d : D} {a : Addr} (f : Fresh T e M F ρ σ H a d) : SR T e M F (ρ.set i (.ow d)) m (σ.set i (some (.ref a))) H := by
  obtain ⟨h1, h2, h3, ⟨o, h4, h5⟩, h6⟩ := f
  refine s.set (t := .ow d) (x := some (.ref a)) ⟨a, o, rfl, h1, h2, h3, h4, h5⟩ fun _ j u b hj hu ou eb ej => ?_
  cases eb
  exact h6 j u hu ou ej
theorem Fresh.isC {a : Addr} {d : D} (f : Fresh T e M F ρ σ H a d) : True := True.intro
/-- the statements' context -/
structure CxS (T : Tab) (k : Nat) (N : List Str) (sc : Scope) (X : Cx) : Prop extends CxOk T k N sc X where
  hfn : ∀ x, X.fn x = true
  hstack : X.stack = X.env :: X.outer
  hframe : X.env.frame = some X.env.locals
  owns : PassesOwn (model X.prog X.w) X.A X.env X.xe
/-! ### stores -/
theorem ps_zasg (C : CxS T k N sc X) {i : Nat} {x : Str} {p pos : Pos} {y : Expr} {a : Ex} (h : PE X y (tE T W false a)) (hi : N[i]? = some x) (hx : locB sc x = true) (hc : noComp y = true) : PS X (.Assign [.Name x p] y pos) (tS T W (.asg i a)) :=
  (ps_set (by rw [C.hN]; exact C.nd) (by rw [C.hN]; exact hi) (by rw [C.hsc]; exact locB_ok hx) h (swap_ok hc) (.inl (C.hfn x))).imp fun Ds σ H ⟨e, M, F, ρ, m, s, h⟩ =>
    ⟨e, M, F, ρ, m, s, (OutS.of h).imp fun d m1 M1 F1 H1 s1 _ _ h1 v r => h1.now (s1.setV r)⟩
theorem ps_zasgF (C : CxS T k N sc X) {i : Nat} {x : Str} {p pos : Pos} {y : Expr} {a : Ex} (h : PE X y (tE T W true a)) (hi : N[i]? = some x) (hx : locB sc x = true) (hc : noComp y = true) : PS X (.Assign [.Name x p] y pos) (tS T W (.asgF i a)) :=
  (ps_set (by rw [C.hN]; exact C.nd) (by rw [C.hN]; exact hi) (by rw [C.hsc]; exact locB_ok hx) h (swap_ok hc) (.inl (C.hfn x))).imp fun Ds σ H ⟨e, M, F, ρ, m, s, h⟩ =>
    ⟨e, M, F, ρ, m, s, (OutS.of h).imp fun d m1 M1 F1 H1 s1 _ _ h1 => by
      dsimp only at h1
      split at h1
      · rename_i hd
        exact ⟨hd, fun v f => h1.now (s1.setF f)⟩
      · exact h1.elim⟩
def noTup : Expr → Bool
  | .Tuple _ _ _ => false
  | _ => true
def isTupE : Expr → Bool
  | .Tuple _ _ _ => true
  | _ => false
theorem sole_ok {tg v : Expr} {l : Nat} {env : PySem.Env} (h : noComp v = true) : swapsWithSole [tg] v l env = pure false := swap_ok h
theorem stores_none {tg v : Expr} {env : PySem.Env} (h : noTup v = true) : swappedStores [tg] v env = pure none := by
  unfold swappedStores
  cases v <;> first | (cases h; done) | (cases tg <;> rfl)
theorem stores_sub {a b v : Expr} {q : Pos} {env : PySem.Env} : swappedStores [.Subscript a b q] v env = pure none := by
  unfold swappedStores
  cases v <;> rfl
/-- a tuple's target of which a name is captured: no names change places -/
def cellT (sc : Scope) : Expr → Bool
  | .Tuple ts _ _ => (ts.any fun e => match e with
    | .Name x _ => !decide (sc.names.lookup x = some .local)
    | _ => true) || !(ts.length == 2 || ts.length == 3)
  | _ => false
theorem stores_cell {tg v : Expr} {env : PySem.Env} (h : cellT env.scope tg = true) : swappedStores [tg] v env = pure none := by
  unfold cellT at h
  split at h
  · rename_i ts n p
    cases v with
    | Tuple vs n2 p2 =>
      unfold swappedStores
      dsimp only
      split
      · rfl
      · rename_i h1
        split
        · rfl
        · rw [if_pos]
          · rcases Bool.or_eq_true_iff.mp h with h | h
            · rw [Bool.or_eq_true]
              left
              rw [bne_iff_ne]
              intro z
              obtain ⟨e, he, hx⟩ := List.any_eq_true.mp h
              have z2 := List.filterMap_length_eq_length.mp z e he
              split at z2
              · rename_i x q
                split at z2
                · rename_i hk
                  have hk2 : env.kindOf x = some .local := by
                    have := (Bool.and_eq_true_iff.mp hk).1
                    simpa using this
                  have hx : (!decide (env.scope.names.lookup x = some .local)) = true := hx
                  rw [show env.scope.names.lookup x = some .local from hk2] at hx
                  simp at hx
                · simp at z2
              · simp at z2
            · exfalso
              apply h1
              rw [h]
              rfl
    | _ => rfl
  · cases h
theorem ps_zasgT (C : CxS T k N sc X) {p : Pat} {tg y : Expr} {a : Ex} {pos : Pos} (h : PE X y (tE T W false a)) (hg : PG X tg (gP T p)) (hc : noComp y = true) (hw : swappedStores [tg] y X.env = pure none) (hs : isStar tg = false) : PS X (.Assign [tg] y pos) (tS T W (.asgT p a)) :=
  (ps_asg h hg (sole_ok hc) hw (by rw [each_cons hs]; rfl)).imp fun Ds σ H ⟨e, M, F, ρ, m, s, h⟩ =>
    ⟨e, M, F, ρ, m, s, (OutS.of h).imp fun d m1 M1 F1 H1 s1 _ _ h1 v r => by
      dsimp only at h1
      split at h1
      · rename_i ρ' hb
        exact ⟨e, M1, F1, ρ, m1, d, ρ', s1, r, hb, fun σ' s2 _ _ => h1.now s2⟩
      · exact h1.elim⟩
theorem ps_zaug (C : CxS T k N sc X) {i : Nat} {x : Str} {p pos : Pos} {y : Expr} {a : Ex} {op : BO} (h : PE X y (tE T W false a)) (hi : N[i]? = some x) (hx : locB sc x = true) (ho : op = .add ∨ op = .sub) : PS X (.AugAssign (.Name x p) (boE op) y pos) (tS T W (.aug i op a)) := by
  have hb : ∃ f : Int → Int → Int, PIp X (boE op) (ipI f) ∧ ∀ (x : Int) (d : D) (ρ : Env) (m : Mu), (match op, d with | .add, .int y => S.nx (ρ.set i (.va (.int (x + y)))) m | .sub, .int y => .nx (ρ.set i (.va (.int (x - y)))) m | _, _ => .bad) = match d with | .int y => S.nx (ρ.set i (.va (.int (f x y)))) m | _ => .bad := by
    rcases ho with rfl | rfl
    · exact ⟨fun i j => i + j, ip_add, fun x d ρ m => by cases d <;> rfl⟩
    · exact ⟨fun i j => i - j, ip_sub, fun x d ρ m => by cases d <;> rfl⟩
  obtain ⟨f, hp, hf⟩ := hb
  refine (ps_aug (by rw [C.hN]; exact C.nd) (by rw [C.hN]; exact hi) (by rw [C.hsc]; exact locB_ok hx) h hp (.inl (C.hfn x))).imp fun Ds σ H ⟨e, M, F, ρ, m, s, h⟩ => ?_
  have h : OutS T W e M F (match getV ρ i with
    | some (.int x) => S.of (ev a ρ m) ρ fun p => match op, p.1 with
      | .add, .int y => .nx (ρ.set i (.va (.int (x + y)))) p.2
      | .sub, .int y => .nx (ρ.set i (.va (.int (x - y)))) p.2
      | _, _ => .bad
    | _ => .bad) Ds := h
  split at h
  · rename_i z hz
    obtain ⟨v, e1, r1⟩ := s.va hz
    refine ⟨v, e1, e, M, F, ρ, m, s, (OutS.of h).imp fun d m1 M1 F1 H1 s1 _ _ h1 w r => ?_⟩
    rw [hf] at h1
    cases d with
    | int y =>
      obtain rfl : v = .int z := r1
      obtain rfl : w = .int y := r
      exact ⟨z, y, rfl, rfl, OutS.now h1 (s1.setV rfl)⟩
    | _ => exact h1.elim
  · exact h.elim
/-! ### x.append(y) -/
theorem ow_at {i : Nat} {d : D} (s : SR T e M F ρ m σ H) (h : slotAt ρ i = .ow d) : ∃ a o, σ[i]? = some (some (.ref a)) ∧ F a = none ∧ e.H a = none ∧ a ∉ M ∧ H a = some o ∧ Cont T M F d o := s.sl i _ (slotAt_some h (by simp))
/-- an object of the frame's own is written -/
theorem SR.writeO (s : SR T e M F ρ m σ H) {i : Nat} {d d' : D} {a : Addr} {o' : HO} (h : slotAt ρ i = .ow d) (ha : σ[i]? = some (some (.ref a))) (c : Cont T M F d' o') : SR T e M F (ρ.set i (.ow d')) m σ (upd H a o') := by
  have hi := slotAt_some h (by simp)
  obtain ⟨a', o, e1, h1, h2, h3, h4, h5⟩ := s.sl i _ hi
  rw [ha] at e1
  cases e1
  have hl : i < ρ.length := (List.getElem?_eq_some_iff.mp hi).1
  have s1 := s.unset (i := i)
  have ns : ∀ (j : Nat) (t : Sl), (ρ.set i Sl.un)[j]? = some t → t.own = true → σ[j]? ≠ some (some (.ref a)) := fun j t hj ot ej => by
    by_cases z : j = i
    · subst z
      rw [List.getElem?_set_self hl] at hj
      cases hj; cases ot
    · rw [List.getElem?_set_ne (Ne.symm z)] at hj
      exact z (s.dis j i t _ a hj hi ot rfl ej ha)
  have s2 := s1.write0 (o' := o') h4 h1 h2 h3 ns
  have s3 := s2.setF (i := i) (d := d') (a := a) ⟨h1, h2, h3, ⟨o', upd_same, c⟩, ns⟩
  rw [List.set_set] at s3
  have e2 : σ.set i (some (.ref a)) = σ := by
    apply List.ext_getElem?
    intro j
    by_cases z : i = j
    · subst z
      rw [List.getElem?_set_self (by rw [← s.len]; exact hl), ha]
    · rw [List.getElem?_set_ne z]
  rw [e2] at s3
  exact s3
theorem ps_zapp (C : CxS T k N sc X) {i : Nat} {x : Str} {p apos cpos pos : Pos} {y : Expr} {a : Ex} (h : PE X y (tE T W false a)) (hi : N[i]? = some x) (hv : visB sc x = true) (hd : noDbg x = true) (hcd : noCd x = true) (hs : isStar y = false) (hl : (apos.endLine == cpos.line) = true) :
    PS X (.Expr (.Call (.Attribute (.Name x p) "append" apos) [y] [] cpos) pos) (tS T W (.app i a)) := by
  have hv' := visB_ok hv
  rw [← C.hsc] at hv'
  refine (ps_expr (pe_bm F.plainAttrs_list F.slot_list_append F.type_list_append mt_append (pe_var (by rw [C.hN]; exact hi) hv' (not_of hd) (not_of hcd)) (pa_cons h pa_nil (star_cons hs)) rfl ?_ hl (star_cons hs) rfl) (swap_ok rfl)).imp fun Ds σ H ⟨e, M, F, ρ, m, s, h⟩ => ?_
  · rw [star_cons hs]; rfl
  have h : OutS T W e M F (match slotAt ρ i with
    | .ow (.lst xs) => S.of (ev a ρ m) ρ fun p => if xs.length < line then .nx (ρ.set i (.ow (.lst (xs ++ [p.1])))) p.2 else .bad
    | _ => .bad) Ds := h
  split at h
  · rename_i xs r
    obtain ⟨q, o, e1, h1, h2, h3, h4, vs, eo, h5, h6⟩ := ow_at s r
    subst eo
    refine ⟨_, e1, .inl ⟨rfl, vs, SqL.of h4⟩, e, M, F, ρ, m, s, (OutS.of h).imp fun d m1 M1 F1 H1 s1 _ _ h7 v rv => ?_⟩
    dsimp only at h7
    split at h7
    · rename_i hz
      obtain ⟨q', o', e1', h1', h2', h3', h4', ws, eo', h5', h6'⟩ := ow_at s1 r
      subst eo'
      rw [e1] at e1'
      cases e1'
      have hzz : ws.length < sizeLine := by rw [← h6'.length, sizeLine_eq]; exact hz
      refine ⟨q, ws, v, rfl, rfl, h4', hzz, h7.now (s1.writeO r e1 ⟨_, rfl, ?_, h6'.append (Reps.cons rv Reps.nil)⟩)⟩
      rw [List.length_append, List.length_singleton]
      exact hz
    · exact h7.elim
  · exact h.elim
/-! ### x[k] = y -/
theorem storeD_ok {d d' b : D} {kd : D} {a : Addr} {o : HO} {kv v : V} (c : Cont T M F d o) (ha : H a = some o) (rk : Rep T M F kd kv) (rv : Rep T M F b v) (h : storeD d kd b = some d') : ∃ o', Cont T M F d' o' ∧ ∀ {X : Cx} {Q : Hp → Prop}, X.A.units + 1 < cLine → Q (upd H a o') →
    ∀ (pins : List (Addr × Obj)) (s : Shared) (σ : L2.St) (ov iv u : Value), Inv X pins σ H s → RelV (.ref a) ov → RelV kv iv → RelV v u → wpAny (model X.prog X.w) X.A (setItem ov iv u) (fun _ s' => ∃ H', Inv X pins σ H' s' ∧ Q H') X.xe s := by
  unfold storeD at h
  split at h
  · rename_i xs i
    obtain ⟨j, hj, e⟩ := Option.map_eq_some_iff.mp h
    subst e
    obtain ⟨vs, rfl, hz, rs⟩ := c
    obtain rfl : kv = .int i := rk
    refine ⟨.lst (vs.set j v), ⟨_, rfl, by rw [List.length_set]; exact hz, rs.set rv⟩, fun {X Q} hu q pins s σ ov iv u I r1 r2 r3 => ?_⟩
    exact set_list pins s σ H _ _ _ ov iv u Q I r1 r2 r3 ⟨a, vs, i, j, rfl, rfl, ha, by rw [← rs.length]; exact hj, q⟩
  · rename_i ks ws kd' b'
    split at h
    · rename_i kk hk
      split at h
      · rename_i hz
        cases h
        obtain ⟨kvs, rfl, hks, rs⟩ := c
        obtain rfl := key_rep rk hk
        subst hks
        obtain ⟨w1, w2⟩ := dput_ok (k := kk) rv rs
        refine ⟨.dK (putK kvs kk v), ⟨_, rfl, w1, w2⟩, fun {X Q} hu q pins s σ ov iv u I r1 r2 r3 => ?_⟩
        exact set_dict hu pins s σ H _ _ _ ov iv u Q I r1 r2 r3 ⟨a, _, rfl, DPut.k ha (by rw [sizeLine_eq]; rw [List.length_map] at hz; exact hz), q⟩
      · cases h
    · cases h
  · cases h
theorem sub_ok {o i : Expr} {pos : Pos} {env : PySem.Env} (h : noSlice i = true) (v : Value) : assign (.Subscript o i pos) env v = (do
      let ov ← holding [v] (eval o env)
      let iv ← holding [v, ov] (eval i env)
      standAt pos
      holding [v, ov, iv] (setItem ov iv v)
      release [v, ov, iv] []) := by
  cases i <;> first | rfl | cases h
theorem aug_ok {i : Expr} (h : noSlice i = true) (ov iv new : Value) : augStore i ov iv new = (do holding [new, ov, iv] (setItem ov iv new); release [new, ov, iv] []; pure .next) := by
  cases i <;> first | rfl | cases h
/-- a store, by what is computed -/
def setZ (T : Tab) : TSet := fun o i v H Q => ∃ (M : List Addr) (F : Hp) (d d' b kd : D) (a : Addr) (ob : HO), o = .ref a ∧ Cont T M F d ob ∧ H a = some ob ∧ Rep T M F kd i ∧ Rep T M F b v ∧ storeD d kd b = some d' ∧ ∀ o', Cont T M F d' o' → Q (upd H a o')
theorem set_z (C : CxB T N sc X) : PSet X (setZ T) := by
  intro pins s σ H o i v ov iv u Q I ro ri rv h
  obtain ⟨M, F, d, d', b, kd, a, ob, rfl, c, ha, rk, rb, hst, q⟩ := h
  obtain ⟨o', c', g⟩ := storeD_ok c ha rk rb hst
  exact g (by have := C.un; omega) (q o' c') pins s σ ov iv u I ro ri rv
theorem ps_zsetI (C : CxS T k N sc X) {i : Nat} {x : Str} {p pos pos' : Pos} {y z : Expr} {a b : Ex} (h1 : PE X y (tE T W false a)) (h2 : PE X z (tE T W false b)) (hi : N[i]? = some x) (hv : visB sc x = true) (hd : noDbg x = true) (hcd : noCd x = true) (hc : noComp y = true) (hs : noSlice z = true) :
    PS X (.Assign [.Subscript (.Name x p) z pos'] y pos) (tS T W (.setI i b a)) := by
  have hv' := visB_ok hv
  rw [← C.hsc] at hv'
  refine (ps_asg h1 (pg_sub (pe_var (by rw [C.hN]; exact hi) hv' (not_of hd) (not_of hcd)) h2 (set_z C.toCxB) (sub_ok hs)) (sole_ok hc) stores_sub (by rw [each_cons rfl]; rfl)).imp fun Ds σ H ⟨e, M, F, ρ, m, s, h⟩ => ?_
  have h : OutS T W e M F (match slotAt ρ i with
    | .ow d => S.of (ev a ρ m) ρ fun p => S.of (ev b ρ p.2) ρ fun q => match storeD d q.1 p.1 with
      | some d' => .nx (ρ.set i (.ow d')) q.2
      | none => .bad
    | _ => .bad) Ds := h
  split at h
  · rename_i d r
    refine ⟨e, M, F, ρ, m, s, (OutS.of h).imp fun d1 m1 M1 F1 H1 s1 _ _ h3 v rv => ?_⟩
    obtain ⟨q, o, e1, _⟩ := ow_at s1 r
    refine ⟨_, e1, e, M1, F1, ρ, m1, s1, (OutS.of h3).imp fun d2 m2 M2 F2 H2 s2 l1 l2 h4 w rw' => ?_⟩
    dsimp only at h4
    split at h4
    · rename_i d' hst
      obtain ⟨q2, o2, e2, z1, z2, z3, z4, z5⟩ := ow_at s2 r
      rw [e1] at e2
      cases e2
      exact ⟨M2, F2, d, d', d1, d2, q, o2, rfl, z5, z4, rw', rv.mono l1 l2, hst, fun o' c' => h4.now (s2.writeO r e1 c')⟩
    · exact h4.elim
  · exact h.elim
/-! ### x[k] op= y -/
theorem get_ok {d kd x : D} {a : Addr} {o : HO} {kv : V} {pins : List (Addr × Obj)} {s : Shared} {iv : Value} {Q : VK} (hu : X.A.units + 1 < cLine) (c : Cont T M F d o) (ha : H a = some o) (rk : Rep T M F kd kv) (h : fetchD d kd = some x) (I : Inv X pins σ H s) (ri : RelV kv iv) (q : ∀ v, Rep T M F x v → Q v H) :
    wpAny (model X.prog X.w) X.A (getItem (.ref a) iv) (EP X pins σ Q) X.xe s := by
  unfold fetchD at h
  split at h
  · rename_i xs i
    obtain ⟨vs, rfl, hz, rs⟩ := c
    obtain rfl : kv = .int i := rk
    obtain ⟨t, rfl⟩ := ri
    obtain ⟨w, hw, rw'⟩ := rs.atI h
    obtain ⟨its, r, pl, hz2⟩ := I.list (show SqL X.K H a vs from SqL.of ha)
    obtain ⟨j, h1, h2, h3, h4, h5⟩ := atI_get hw
    obtain ⟨u, eu, ru⟩ := r.get h2
    have hl := r.length
    have hn := line63
    have fin : EP X pins σ Q u s := ⟨w, H, I, ru, q w rw'⟩
    by_cases h0 : 0 ≤ i
    · have hj : i.toNat = j := by
        rw [seqIndex_of h0 h5] at h1
        exact Option.some.inj h1
      exact wpAny_getItem_list pl.isList h0 (by omega) (by rw [hj]; simpa using eu) fin
    · have hj : (i + (its.toArray.size : Int)).toNat = j := by
        rw [seqIndex_neg (by omega) h4] at h1
        rw [List.size_toArray, ← hl]
        exact Option.some.inj h1
      exact wpAny_getItem_list_neg (Q := EP X pins σ Q) pl.isList (by omega) (by rw [List.size_toArray] <;> omega) (by omega) (by rw [hj]; simpa using eu) fin
  · rename_i ks ws kd'
    obtain ⟨kk, hk, h⟩ := Option.bind_eq_some_iff.mp h
    obtain ⟨kvs, rfl, hks, rs⟩ := c
    obtain rfl := key_rep rk hk
    subst hks
    have q4 := dget_ok (k := kk) rs
    rw [h] at q4
    obtain ⟨w, hw, rw'⟩ := q4
    have g : DGet H a (kV kk) (some w) := by rw [← hw]; exact DGet.k ha
    exact d_getItem hu I g ri fun w' s3 I3 rw3 => ⟨w, H, I3, rw3, q w rw'⟩
  · cases h
def getZ (T : Tab) : V → V → Hp → VK → Prop := fun o i H Q => ∃ (M : List Addr) (F : Hp) (d x kd : D) (a : Addr) (ob : HO), o = .ref a ∧ Cont T M F d ob ∧ H a = some ob ∧ Rep T M F kd i ∧ fetchD d kd = some x ∧ ∀ v, Rep T M F x v → Q v H
theorem get_z (C : CxB T N sc X) : PGet X (getZ T) := by
  intro pins s σ H o i ov iv Q I ro ri h
  obtain ⟨M, F, d, x, kd, a, ob, rfl, c, ha, rk, hx, q⟩ := h
  obtain rfl : ov = Value.ref a := ro
  exact get_ok (by have := C.un; omega) c ha rk hx I ri q
/-- what an op= of ints does -/
theorem aug_ip {op : BO} (ho : op = .add ∨ op = .sub) : ∃ f : Int → Int → Int, PIp X (boE op) (ipI f) ∧ ∀ x y d, augO op x y = some d → ∃ i j, x = .int i ∧ y = .int j ∧ d = .int (f i j) := by
  rcases ho with rfl | rfl
  · refine ⟨fun i j => i + j, ip_add, fun x y d h => ?_⟩
    unfold augO at h
    split at h
    · cases h; exact ⟨_, _, rfl, rfl, rfl⟩
    · rename_i z; cases z
    · cases h
  · refine ⟨fun i j => i - j, ip_sub, fun x y d h => ?_⟩
    unfold augO at h
    split at h
    · rename_i z; cases z
    · cases h; exact ⟨_, _, rfl, rfl, rfl⟩
    · cases h
/-- a mutable object is written -/
theorem SR.writeM (s : SR T e M F ρ m σ H) {n : Nat} {a : Addr} {d' : D} {o' : HO} (hn : M[n]? = some a) (c : Cont T M F d' o') : SR T e M F ρ (m.set n d') σ (upd H a o') := by
  have aM : a ∈ M := List.mem_of_getElem? hn
  obtain ⟨fa, d, o, hm, ha, hcont⟩ := s.mu.at_ n a hn
  have nl : n < m.length := (List.getElem?_eq_some_iff.mp hm).1
  have up : ∀ b u, b ≠ a → H b = some u → upd H a o' b = some u := fun b u h e => by rw [upd_ne h]; exact e
  refine ⟨fun b u h => up b u (fun z => by subst z; rw [fa] at h; cases h) (s.le b u h), s.f0, s.pre, fun b u h1 h2 => up b u (fun z => ?_) (s.keep b u h1 h2), fun b h => ?_, s.old, s.ent, s.mw, ⟨by rw [List.length_set]; exact s.mu.len, s.mu.nd, fun j b hj => ?_⟩, s.len, fun i t h => ?_, s.dis, fun P q h => ?_⟩
  · subst z
    rcases s.mw b aM with z | z
    · exact h2 z
    · rw [z] at h1; cases h1
  · by_cases z : b = a
    · subst z; rw [upd_same]; simp
    · rw [upd_ne z]; exact s.nn b h
  · by_cases z : j = n
    · subst z
      rw [hn] at hj
      cases hj
      exact ⟨fa, d', o', List.getElem?_set_self nl, upd_same, c⟩
    · obtain ⟨h1, d2, u, h2, h3, h4⟩ := s.mu.at_ j b hj
      have nb : b ≠ a := fun zz => by
        subst zz
        exact z ((List.getElem?_inj (List.getElem?_eq_some_iff.mp hj).1 s.mu.nd).mp (hj.trans hn.symm))
      exact ⟨h1, d2, u, by rw [List.getElem?_set_ne (Ne.symm z)]; exact h2, up b u nb h3, h4⟩
  · have q := s.sl i t h
    cases t with
    | un => exact q
    | va d => exact q
    | ow d =>
      obtain ⟨b, u, e1, h1, h2, h3, h4, h5⟩ := q
      exact ⟨b, u, e1, h1, h2, h3, up b u (fun z => h3 (z ▸ aM)) h4, h5⟩
    | ro d =>
      obtain ⟨b, u, e1, h1, h2, h6, h3, h4, h5⟩ := q
      exact ⟨b, u, e1, h1, h2, h6, h3, up b u (fun z => h3 (z ▸ aM)) h4, h5⟩
    | me c fs =>
      obtain ⟨b, C, dx, names, kvs, e1, h1, h2, h3, h4, h5, h6, h7⟩ := q
      exact ⟨b, C, dx, names, kvs, e1, h1, h2, h3, h4, up b _ (fun z => h3 (z ▸ aM)) h5, h6, h7⟩
    | xc c fs => exact q
  · obtain ⟨h1, h2, h3, ps, h4, h5⟩ := s.tab P q h
    have hc : Cont T M F d o := by assumption
    exact ⟨h1, h2, h3, ps, by rw [upd_ne (fun z => by rw [z, ha] at h4; exact hc.notbl ps (Option.some.inj h4))]; exact h4, h5⟩
theorem ps_zaugI (C : CxS T k N sc X) {i : Nat} {x : Str} {p pos pos' : Pos} {y z : Expr} {a b : Ex} {op : BO} (h1 : PE X y (tE T W false a)) (h2 : PE X z (tE T W false b)) (hi : N[i]? = some x) (hv : visB sc x = true) (hd : noDbg x = true) (hcd : noCd x = true) (hs : noSlice z = true) (ho : op = .add ∨ op = .sub) :
    PS X (.AugAssign (.Subscript (.Name x p) z pos') (boE op) y pos) (tS T W (.augI i b op a)) := by
  have hv' := visB_ok hv
  rw [← C.hsc] at hv'
  obtain ⟨f, hp, hf⟩ := aug_ip (X := X) ho
  refine (ps_augS (pe_var (by rw [C.hN]; exact hi) hv' (not_of hd) (not_of hcd)) h2 (get_z C.toCxB) h1 hp (set_z C.toCxB) (aug_ok hs)).imp fun Ds σ H ⟨e, M, F, ρ, m, s, h⟩ => ?_
  have h : OutS T W e M F (match slotAt ρ i with
    | .ow d => S.of (ev b ρ m) ρ fun q => S.of (R.of (fetchD d q.1)) ρ fun x => S.of (ev a ρ q.2) ρ fun p => S.of (R.of (augO op x p.1)) ρ fun y => match storeD d q.1 y with
      | some d' => .nx (ρ.set i (.ow d')) p.2
      | none => .bad
    | .va (.ref n) => S.of (ev b ρ m) ρ fun q => S.of (R.of ((q.2[n]?).bind fun d => fetchD d q.1)) ρ fun x => S.of (ev a ρ q.2) ρ fun p => S.of (R.of (augO op x p.1)) ρ fun y =>
      match (p.2[n]?).bind fun d => storeD d q.1 y with
      | some d' => .nx ρ (p.2.set n d')
      | none => .bad
    | _ => .bad) Ds := h
  split at h
  · rename_i d r
    obtain ⟨q, o, e1, _⟩ := ow_at s r
    refine ⟨_, e1, e, M, F, ρ, m, s, (OutS.of h).imp fun d1 m1 M1 F1 H1 s1 _ _ h3 v rv => ?_⟩
    obtain ⟨x1, hx1, h4⟩ := OutS.opt h3
    obtain ⟨q2, o2, e2, _, _, _, z4, z5⟩ := ow_at s1 r
    rw [e1] at e2
    cases e2
    refine ⟨M1, F1, d, x1, d1, q, o2, rfl, z5, z4, rv, hx1, fun xv rx => ?_⟩
    refine ⟨e, M1, F1, ρ, m1, s1, (OutS.of h4).imp fun d2 m2 M2 F2 H2 s2 l1 l2 h5 w rw' => ?_⟩
    obtain ⟨y1, hy1, h6⟩ := OutS.opt h5
    obtain ⟨i1, j1, rfl, rfl, rfl⟩ := hf _ _ _ hy1
    obtain rfl : xv = .int i1 := rx
    obtain rfl : w = .int j1 := rw'
    refine ⟨i1, j1, rfl, rfl, ?_⟩
    split at h6
    · rename_i d' hst
      obtain ⟨q3, o3, e3, _, _, _, y4, y5⟩ := ow_at s2 r
      rw [e1] at e3
      cases e3
      exact ⟨M2, F2, d, d', D.int (f i1 j1), d1, q, o3, rfl, y5, y4, rv.mono l1 l2, rfl, hst, fun o' c' => h6.now (s2.writeO r e1 c')⟩
    · exact h6.elim
  · rename_i n r
    obtain ⟨v0, e1, a0, hM, rfl⟩ := s.sl i _ (slotAt_some r (by simp))
    refine ⟨_, e1, e, M, F, ρ, m, s, (OutS.of h).imp fun d1 m1 M1 F1 H1 s1 l1 l2 h3 v rv => ?_⟩
    obtain ⟨x1, hx1, h4⟩ := OutS.opt h3
    obtain ⟨d0, hd0, hx1⟩ := Option.bind_eq_some_iff.mp hx1
    have hM1 := pre_get l1 hM
    obtain ⟨_, d0', o2, g1, z4, z5⟩ := s1.mu.at_ n a0 hM1
    rw [hd0] at g1
    cases g1
    refine ⟨M1, F1, d0, x1, d1, a0, o2, rfl, z5, z4, rv, hx1, fun xv rx => ?_⟩
    refine ⟨e, M1, F1, ρ, m1, s1, (OutS.of h4).imp fun d2 m2 M2 F2 H2 s2 l3 l4 h5 w rw' => ?_⟩
    obtain ⟨y1, hy1, h6⟩ := OutS.opt h5
    obtain ⟨i1, j1, rfl, rfl, rfl⟩ := hf _ _ _ hy1
    obtain rfl : xv = .int i1 := rx
    obtain rfl : w = .int j1 := rw'
    refine ⟨i1, j1, rfl, rfl, ?_⟩
    split at h6
    · rename_i d' hst
      obtain ⟨d3, hd3, hst⟩ := Option.bind_eq_some_iff.mp hst
      have hM2 := pre_get l3 hM1
      obtain ⟨_, d3', o3, g3, y4, y5⟩ := s2.mu.at_ n a0 hM2
      have g3' : d3 = d3' := by
        have hd3' : m2[n]? = some d3 := hd3
        rw [g3] at hd3'
        exact (Option.some.inj hd3').symm
      subst g3'
      exact ⟨M2, F2, d3, d', D.int (f i1 j1), d1, a0, o3, rfl, y5, y4, rv.mono l3 l4, rfl, hst, fun o' c' => h6.now (s2.writeM hM2 c')⟩
    · exact h6.elim
  · exact h.elim
/-! ### a, b = x, y -/
theorem stores_two {x y : Str} {a b : Expr} {px py pt pt2 : Pos} {n n2 : Nat} {env : PySem.Env} (hk : env.scope.kind = .function) (hx : env.scope.names.lookup x = some .local) (hy : env.scope.names.lookup y = some .local) (hne : x ≠ y) (hl : (py.line == px.line) = true) (ha : isStar a = false) (hb : isStar b = false)
    (hf : [a, b].all (foldedForSure 8) = false) (hc : [a, b].all (constantsAlone 8) = false) : swappedStores [.Tuple [.Name x px, .Name y py] n pt] (.Tuple [a, b] n2 pt2) env = pure (some [x, y]) := by
  have hbk : env.blockKind = .function := by unfold PySem.Env.blockKind; rw [hk]; rfl
  have kx : env.kindOf x = some .local := hx
  have ky : env.kindOf y = some .local := hy
  have hst : ∀ (g : Expr → Bool), (∀ e, isStar e = false → g e = false) → ¬ ([a, b].any g = true) := fun g hg => by
    simp [hg a ha, hg b hb]
  have hed : [x, y].eraseDups = [x, y] := by
    have : (y == x) = false := by simpa using Ne.symm hne
    simp [List.eraseDups_cons, this, Ne.symm hne]
  unfold swappedStores
  dsimp only [List.length_cons, List.length_nil]
  rw [hbk, if_neg (by decide), if_neg (hst _ fun e he => by cases e <;> first | rfl | cases he), hf, hc]
  simp only [List.filterMap_cons, List.filterMap_nil, kx, ky, List.head?_cons, Option.map_some, Option.getD_some, Expr.pos, hl, beq_self_eq_true, Bool.and_self, if_true, List.length_cons, List.length_nil, hed]
  rfl
/-- an answer under the read-only slots -/
theorem OutS.ofR {r : R (α × Mu)} {f : α × Mu → S} (s : SR T e M F ρ m σ H) (h : OutS T W e M F (S.of r ρ f) Ds) : Out T W ⟨M, T.wr M, F, H⟩ M F (roE ρ []) σ r fun a m' M' F' H' => SR T e M' F' ρ m' σ H' ∧ SR T ⟨M, T.wr M, F, H⟩ M' F' (roE ρ []) m' σ H' ∧ OutS T W e M' F' (f (a, m')) Ds := by
  cases r with
  | ok p => exact fun M2 F2 H2 s2 l1 l2 => ⟨s.outer s2, s2, OutS.mono (show OutS T W e M F (f p) Ds from h) l1 l2⟩
  | ex c fs m => exact fun M2 F2 H2 cls dd s2 l1 l2 x => h M2 F2 σ H2 cls dd (s.outer s2) l1 l2 x
  | bad => exact h
/-- a new object under a later entry is new under the first -/
theorem Fresh.up {a : Addr} {d : D} {ρ' : Env} {σ' : L2.St} (s : SR T e M F ρ m σ H) (q : SR T ⟨M, T.wr M, F, H⟩ M' F' ρ' m' σ' H') (f : Fresh T ⟨M, T.wr M, F, H⟩ M' F' ρ' σ' H' a d) : Fresh T e M' F' ρ σ H' a d ∧ H a = none := by
  obtain ⟨h1, h2, h3, h4, h5⟩ := f
  have h2' : H a = none := h2
  refine ⟨⟨h1, ?_, h3, h4, fun i t hi ot ei => ?_⟩, h2'⟩
  · cases r : e.H a with
    | none => rfl
    | some o => exact absurd h2' (s.nn a (by rw [r]; simp))
  · have z := s.sl i t hi
    cases t with
    | ow d' => obtain ⟨b, u, e1, _, _, _, h4, _⟩ := z; rw [e1] at ei; cases ei; rw [h2'] at h4; cases h4
    | me c' fs => obtain ⟨b, C, dx, names, kvs, e1, _, _, _, _, h5, _⟩ := z; rw [e1] at ei; cases ei; rw [h2'] at h5; cases h5
    | _ => cases ot
theorem ps_zpar (C : CxS T k N sc X) {i j : Nat} {x y : Str} {px py pt pt2 pos : Pos} {n n2 : Nat} {u v : Expr} {a b : Ex} {fi fj : Bool} (h1 : PE X u (tE T W fi a)) (h2 : PE X v (tE T W fj b)) (hi : N[i]? = some x) (hj : N[j]? = some y) (hij : i ≠ j) (hx : sc.names.lookup x = some .local) (hy : sc.names.lookup y = some .local)
    (hs1 : isStar u = false) (hs2 : isStar v = false) (hw : swappedStores [.Tuple [.Name x px, .Name y py] n pt] (.Tuple [u, v] n2 pt2) X.env = pure (some [x, y])) : PS X (.Assign [.Tuple [.Name x px, .Name y py] n pt] (.Tuple [u, v] n2 pt2) pos) (tS T W (.par i j fi fj a b)) := by
  refine (ps_par C.calm (by rw [C.hN]; exact C.nd) (by rw [C.hN]; exact hi) (by rw [C.hN]; exact hj) hij (by rw [C.hsc]; exact hx) (by rw [C.hsc]; exact hy) (pa_cons h1 (pa_cons h2 pa_nil (star_cons hs2)) (star_cons hs1)) hw (sole_ok rfl)).imp fun Ds σ H ⟨e, M, F, ρ, m, s, h⟩ => ?_
  have h : OutS T W e M F (S.of (ev a ρ m) ρ fun p => if (fi && !Z.isC p.1) = true then .bad else S.of (ev b (if fi then roE ρ [] else ρ) p.2) ρ fun q => if (fj && !Z.isC q.1) = true then .bad else
      .nx ((ρ.set i (if fi then .ow p.1 else .va p.1)).set j (if fj then .ow q.1 else .va q.1)) q.2) Ds := h
  refine ⟨e, M, F, ρ, m, s, (OutS.of h).imp fun d m1 M1 F1 H1 s1 _ _ h3 => ?_⟩
  dsimp only at h3
  split at h3
  · exact h3.elim
  · rename_i hc1
    cases fi with
    | false =>
      intro v1 r1
      refine ⟨e, M1, F1, ρ, m1, s1, (OutS.of (show OutS T W e M1 F1 (S.of (ev b ρ m1) ρ _) Ds from h3)).imp fun d2 m2 M2 F2 H2 s2 l1 l2 h4 => ?_⟩
      dsimp only at h4
      split at h4
      · exact h4.elim
      · rename_i hc2
        cases fj with
        | false => exact fun v2 r2 => ⟨v1, v2, rfl, h4.now ((s2.setV (r1.mono l1 l2)).setV r2)⟩
        | true =>
          refine ⟨by simpa using hc2, fun a2 f2 => ⟨v1, .ref a2, rfl, h4.now ?_⟩⟩
          have s3 := s2.setV (i := i) (r1.mono l1 l2)
          refine s3.setF ?_
          obtain ⟨g1, g2, g3, g4, g5⟩ := f2
          refine ⟨g1, g2, g3, g4, fun jj t ht ot ej => ?_⟩
          by_cases z : jj = i
          · subst z
            have hl : jj < ρ.length := by
              have := (List.getElem?_eq_some_iff.mp ht).1
              simpa using this
            rw [List.getElem?_set_self hl] at ht
            cases ht; cases ot
          · rw [List.getElem?_set_ne (Ne.symm z)] at ht ej
            exact g5 jj t ht ot ej
    | true =>
      refine ⟨by simpa using hc1, fun a1 f1 => ?_⟩
      have hO := OutS.ofR (σ := σ) s1 (show OutS T W e M1 F1 (S.of (ev b (roE ρ []) m1) ρ _) Ds from h3)
      refine ⟨⟨M1, T.wr M1, F1, H1⟩, M1, F1, roE ρ [], m1, s1.inner (is := []), hO.imp fun d2 m2 M2 F2 H2 s2 l1 l2 h4 => ?_⟩
      obtain ⟨so, si, h4⟩ := h4
      dsimp only at h4
      split at h4
      · exact h4.elim
      · rename_i hc2
        have f1' := f1.outer si
        have s3 := so.setF (i := i) f1'
        cases fj with
        | false => exact fun v2 r2 => ⟨.ref a1, v2, rfl, h4.now (s3.setV r2)⟩
        | true =>
          refine ⟨by simpa using hc2, fun a2 f2 => ⟨.ref a1, .ref a2, rfl, h4.now (s3.setF ?_)⟩⟩
          obtain ⟨⟨g1, g2, g3, g4, g5⟩, g6⟩ := Fresh.up s1 si f2
          refine ⟨g1, g2, g3, g4, fun jj t ht ot ej => ?_⟩
          by_cases z : jj = i
          · subst z
            have hl : jj < ρ.length := by
              have := (List.getElem?_eq_some_iff.mp ht).1
              simpa using this
            rw [List.getElem?_set_self (by rw [← so.len]; exact hl)] at ej
            cases ej
            obtain ⟨_, _, _, ⟨o, q4, _⟩, _⟩ := f1
            rw [q4] at g6
            cases g6
          · rw [List.getElem?_set_ne (Ne.symm z)] at ht ej
            exact g5 jj t ht ot ej
/-! ### x = [a, b]: an object that changes -/
theorem SR.newM (s : SR T e M F ρ m σ H) {a : Addr} {d : D} (f : Fresh T e M F ρ σ H a d) : SR T e (M ++ [a]) F ρ (m ++ [d]) σ H := by
  obtain ⟨h1, h2, h3, ⟨o, h4, h5⟩, h6⟩ := f
  have hp : M <+: M ++ [a] := List.prefix_append M [a]
  refine ⟨s.le, s.f0, s.pre.trans hp, s.keep, s.nn, s.old, s.ent, fun b hb => ?_, ⟨by rw [List.length_append, List.length_append, s.mu.len]; rfl, ?_, fun n b hn => ?_⟩, s.len, fun i t h => ?_, s.dis, s.tab⟩
  · rcases List.mem_append.mp hb with z | z
    · exact s.mw b z
    · rw [List.mem_singleton.mp z]; exact .inr h2
  · exact List.nodup_append.mpr ⟨s.mu.nd, by simp, fun x hx y hy => by rw [List.mem_singleton.mp hy]; exact fun z => h3 (z ▸ hx)⟩
  · by_cases z : n < M.length
    · rw [List.getElem?_append_left z] at hn
      obtain ⟨g1, d2, u, g2, g3, g4⟩ := s.mu.at_ n b hn
      exact ⟨g1, d2, u, by rw [List.getElem?_append_left (by rw [← s.mu.len]; exact z)]; exact g2, g3, g4.mono hp Le.rfl'⟩
    · have hl := (List.getElem?_eq_some_iff.mp hn).1
      rw [List.length_append, List.length_singleton] at hl
      have en : n = M.length := by omega
      subst en
      rw [List.getElem?_append_right (Nat.le_refl _), Nat.sub_self] at hn
      cases hn
      refine ⟨h1, d, o, ?_, h4, h5.mono hp Le.rfl'⟩
      rw [s.mu.len, List.getElem?_append_right (Nat.le_refl _), Nat.sub_self]
      rfl
  · have q := s.sl i t h
    have nm : ∀ {b : Addr}, b ∉ M → b ≠ a → b ∉ M ++ [a] := fun {b} q1 q2 z => (List.mem_append.mp z).elim q1 fun z => q2 (List.mem_singleton.mp z)
    cases t with
    | un => exact q
    | va d => obtain ⟨x, e1, r⟩ := q; exact ⟨x, e1, r.mono hp Le.rfl'⟩
    | ow d =>
      obtain ⟨b, u, e1, g1, g2, g3, g4, g5⟩ := q
      exact ⟨b, u, e1, g1, g2, nm g3 (fun z => h6 i _ h rfl (z ▸ e1)), g4, g5.mono hp Le.rfl'⟩
    | ro d =>
      obtain ⟨b, u, e1, g1, g2, g6, g3, g4, g5⟩ := q
      exact ⟨b, u, e1, g1, g2, g6, nm g3 (fun z => by rw [z, h2] at g2; cases g2), g4, g5.mono hp Le.rfl'⟩
    | me c fs =>
      obtain ⟨b, C, dx, names, kvs, e1, g1, g2, g3, g4, g5, g6, g7⟩ := q
      exact ⟨b, C, dx, names, kvs, e1, g1, g2, nm g3 (fun z => h6 i _ h rfl (z ▸ e1)), g4, g5, g6, g7.mono hp Le.rfl'⟩
    | xc c fs => obtain ⟨b, cls, dd, e1, g1, g2⟩ := q; exact ⟨b, cls, dd, e1, g1, g2.mono hp Le.rfl'⟩
theorem ps_znewr (C : CxS T k N sc X) {i : Nat} {x : Str} {p pos : Pos} {y : Expr} {a : Ex} (h : PE X y (tE T W true a)) (hi : N[i]? = some x) (hx : locB sc x = true) (hc : noComp y = true) : PS X (.Assign [.Name x p] y pos) (tS T W (.newr i a)) :=
  (ps_set (by rw [C.hN]; exact C.nd) (by rw [C.hN]; exact hi) (by rw [C.hsc]; exact locB_ok hx) h (swap_ok hc) (.inl (C.hfn x))).imp fun Ds σ H ⟨e, M, F, ρ, m, s, h⟩ =>
    ⟨e, M, F, ρ, m, s, (OutS.of h).imp fun d m1 M1 F1 H1 s1 l1 l2 h1 => by
      dsimp only at h1
      split at h1
      · rename_i hd
        refine ⟨hd, fun v f => ?_⟩
        have s2 := s1.newM f
        have s3 := s2.setV (i := i) (d := .ref m1.length) (x := .ref v) ⟨v, by rw [← s1.mu.len, List.getElem?_append_right (Nat.le_refl _), Nat.sub_self]; rfl, rfl⟩
        exact h1 _ _ _ _ s3 (List.prefix_append _ _) Le.rfl'
      · exact h1.elim⟩
/-! ### plain ones -/
theorem ps_zexpr {y : Expr} {a : Ex} {pos : Pos} (h : PE X y (tE T W false a)) (hc : noComp y = true) : PS X (.Expr y pos) (tS T W (.expr a)) :=
  (ps_expr h (swap_ok hc)).imp fun Ds σ H ⟨e, M, F, ρ, m, s, h⟩ => ⟨e, M, F, ρ, m, s, (OutS.of h).imp fun d m1 M1 F1 H1 s1 _ _ h1 v r => h1.now s1⟩
theorem ps_zdoc {x : Str} {j : Nat} {p pos : Pos} : PS X (.Expr (.Constant (.str x) j p) pos) (tS T W .pass) := ps_doc.imp fun Ds σ H ⟨e, M, F, ρ, m, s, h⟩ => OutS.now h s
theorem ps_zpass {pos : Pos} : PS X (.Pass pos) (tS T W .pass) := ps_pass.imp fun Ds σ H ⟨e, M, F, ρ, m, s, h⟩ => OutS.now h s
theorem ps_zcont {pos : Pos} : PS X (.Continue pos) (tS T W .cont) := ps_continue.imp fun Ds σ H ⟨e, M, F, ρ, m, s, h⟩ => h M F σ H s pfx Le.rfl'
theorem ps_zret {y : Expr} {a : Ex} {pos : Pos} (h : PE X y (tE T W false a)) : PS X (.Return (some y) pos) (tS T W (.ret a)) :=
  (ps_ret h).imp fun Ds σ H ⟨e, M, F, ρ, m, s, h⟩ => ⟨e, M, F, ρ, m, s, (OutS.of h).imp fun d m1 M1 F1 H1 s1 _ _ h1 v r => h1 M1 F1 ρ σ H1 s1 pfx Le.rfl' v r⟩
theorem ps_zretN {pos : Pos} : PS X (.Return none pos) (tS T W .retN) := ps_retN.imp fun Ds σ H ⟨e, M, F, ρ, m, s, h⟩ => h M F ρ σ H s pfx Le.rfl' _ rfl
theorem ps_zif {c : Expr} {a b : List Stmt} {d : Ex} {t u : Sms} {pos : Pos} (hc : PT X c (tT T W d)) (ha : PSs X a (tSs T W t)) (hb : PSs X b (tSs T W u)) : PS X (.If c a b pos) (tS T W (.ifs d t u)) :=
  (ps_if hc ha hb).imp fun Ds σ H ⟨e, M, F, ρ, m, s, h⟩ => by
    refine ⟨e, M, F, ρ, m, s, (OutS.of h).imp fun k m1 M1 F1 H1 s1 _ _ h1 => ?_⟩
    cases k with
    | true => rw [if_pos rfl]; exact ⟨e, M1, F1, ρ, m1, s1, h1⟩
    | false => rw [if_neg (by decide)]; exact ⟨e, M1, F1, ρ, m1, s1, h1⟩
/-! ### several -/
theorem pss_znil : PSs X [] (tSs T W .nil) := pss_nil.imp fun Ds σ H ⟨e, M, F, ρ, m, s, h⟩ => OutS.now h s
theorem OutS.then {r : S} {f : Env → Mu → S} (h : OutS T W e M F (r.then f) Ds) : OutS T W e M F r { Ds with nx := fun σ' H' => ∃ M' F' ρ' m', SR T e M' F' ρ' m' σ' H' ∧ OutS T W e M' F' (f ρ' m') Ds } := by
  cases r with
  | nx ρ m => exact fun M' F' σ' H' s l1 l2 => ⟨M', F', ρ, m, s, OutS.mono (show OutS T W e M F (f ρ m) Ds from h) l1 l2⟩
  | _ => exact h
theorem pss_zcons {y : Stmt} {ys : List Stmt} {t : Sm} {ts : Sms} (h1 : PS X y (tS T W t)) (h2 : PSs X ys (tSs T W ts)) : PSs X (y :: ys) (tSs T W (.cons t ts)) :=
  (pss_cons h1 h2).imp fun Ds σ H ⟨e, M, F, ρ, m, s, h⟩ => by
    have q := OutS.then (show OutS T W e M F ((run t ρ m).then fun ρ m => runs ts ρ m) Ds from h)
    refine ⟨e, M, F, ρ, m, s, ?_⟩
    cases r : run t ρ m with
    | nx ρ2 m2 =>
      rw [r] at q
      exact fun M' F' σ' H' s' l1 l2 => by
        obtain ⟨M2, F2, ρ3, m3, s3, h3⟩ := q M' F' σ' H' s' l1 l2
        exact ⟨e, M2, F2, ρ3, m3, s3, h3⟩
    | rt d m2 => rw [r] at q; exact q
    | ct ρ2 m2 => rw [r] at q; exact q
    | ex c fs ρ2 m2 => rw [r] at q; exact q
    | bad => rw [r] at q; exact q
theorem pss_zfrz {ys : List Stmt} {is : List Nat} {ts : Sms} (h : PSs X ys (tSs T W ts)) : PSs X ys (tSs T W (.cons (.frz is) ts)) :=
  h.imp fun Ds σ H ⟨e, M, F, ρ, m, s, h⟩ => by
    obtain ⟨F', s', l⟩ := s.freeze (is := is)
    exact ⟨e, M, F', freeze ρ is, m, s', OutS.mono (show OutS T W e M F (runs ts (freeze ρ is) m) Ds from h) pfx l⟩
/-! ### loops -/
theorem OutS.imp {r : S} {Ds' : Ends} (h : OutS T W e M F r Ds) (h1 : ∀ σ H, Ds.nx σ H → Ds'.nx σ H) (h2 : ∀ v H, Ds.rt v H → Ds'.rt v H) (h3 : ∀ σ H, Ds.ct σ H → Ds'.ct σ H) : OutS T W e M F r Ds' := by
  cases r with
  | nx ρ m => exact fun M' F' σ' H' s l1 l2 => h1 _ _ (h M' F' σ' H' s l1 l2)
  | ct ρ m => exact fun M' F' σ' H' s l1 l2 => h3 _ _ (h M' F' σ' H' s l1 l2)
  | rt d m => exact fun M' F' ρ' σ' H' s l1 l2 v r => h2 _ _ (h M' F' ρ' σ' H' s l1 l2 v r)
  | ex c fs ρ m => exact h
  | bad => exact h
theorem ps_zfor (C : CxS T k N sc X) {iter tg : Expr} {body : List Stmt} {src : Src} {p : Pat} {t : Sms} {clr : List Nat} {pos : Pos} (hi : PI X tg iter (tI T W false src)) (hg : PG X tg (gP T p)) (hb : PSs X body (tSs T W t)) (hs : noSet iter = true) : PS X (.For tg iter body [] pos) (tS T W (.fors p src t clr)) :=
  (ps_for C.owns C.calm hi hg hb (fun x => fold_ok hs)).imp fun Ds σ H ⟨e, M, F, ρ, m, s, h⟩ => by
    refine ⟨e, M, F, ρ, m, s, (OutS.of (show OutS T W e M F (S.of (evSrc src false ρ m) ρ fun q => forL (bindP p) (runs t) clr q.1 ρ q.2) Ds from h)).imp fun ds m1 M1 F1 H1 s1 _ _ h1 hlen J P hJ hP => ?_⟩
    refine ⟨fun i n σ H => n = ds.length - i ∧ i ≤ ds.length ∧ ∃ M' F' ρ' m', SR T e M' F' ρ' m' σ H ∧ M1 <+: M' ∧ Le F1 F' ∧ OutS T W e M' F' (forL (bindP p) (runs t) clr (ds.drop i) ρ' m') Ds, ⟨ds.length, rfl, Nat.zero_le _, M1, F1, ρ, m1, s1, pfx, Le.rfl', h1⟩, ?_⟩
    rintro i n σ2 H2 ⟨rfl, hi2, M2, F2, ρ2, m2, s2, l1, l2, h2⟩
    by_cases hlt : i < ds.length
    · have hst := hP _ _ _ _ _ _ s2 l1 l2 fun z => by cases z
      refine .inr ⟨hJ.go i M2 F2 H2 hlt hst, _, fun σ' H' nx => ⟨ds.length - (i + 1), by omega, nx⟩, fun v H3 y => ?_⟩
      have hd : ds[i]? = some ds[i] := List.getElem?_eq_getElem hlt
      rw [List.drop_eq_getElem_cons hlt] at h2
      unfold forL at h2
      have y2 := hJ.yld i _ _ _ _ _ _ hd hst y
      obtain ⟨F3, l3, s3, rv⟩ : ∃ F3, Le F2 F3 ∧ SR T e M2 F3 ρ2 m2 σ2 H3 ∧ Rep T M2 F3 ds[i] v := by
        rcases y2 with ⟨rfl, rv⟩ | ⟨q, vs, es, ed, rfl, hq, rfl, rvs, hz⟩
        · exact ⟨F2, Le.rfl', s2, rv⟩
        · have hf : Le F2 (upd F2 q (.tup vs)) := fun a u e1 => by
            by_cases z : a = q
            · subst z; rw [s2.le a u e1] at hq; cases hq
            · rw [upd_ne z]; exact e1
          refine ⟨_, hf, s2.lay hq, ?_⟩
          rw [ed]
          exact ⟨q, vs, rfl, SqT.of upd_same, hz, rvs.mono pfx hf⟩
      split at h2
      · exact h2.elim
      · rename_i ρ3 hb3
        refine ⟨e, M2, F3, ρ2, m2, ds[i], ρ3, s3, rv, hb3, fun σ4 s4 _ _ => ⟨e, M2, F3, ρ3, m2, s4, ?_⟩⟩
        cases r : runs t ρ3 m2 with
        | nx ρ4 m4 =>
          rw [r] at h2
          exact fun M5 F5 σ5 H5 s5 l5 l6 => ⟨rfl, hlt, M5, F5, clear ρ4 clr, m4, s5.clear, l1.trans l5, (l2.trans l3).trans l6, OutS.mono h2 l5 (l3.trans l6)⟩
        | ct ρ4 m4 =>
          rw [r] at h2
          exact fun M5 F5 σ5 H5 s5 l5 l6 => ⟨rfl, hlt, M5, F5, clear ρ4 clr, m4, s5.clear, l1.trans l5, (l2.trans l3).trans l6, OutS.mono h2 l5 (l3.trans l6)⟩
        | rt d m4 =>
          rw [r] at h2
          exact fun M5 F5 ρ5 σ5 H5 s5 l5 l6 => h2 M5 F5 ρ5 σ5 H5 s5 l5 (l3.trans l6)
        | ex c fs ρ4 m4 =>
          rw [r] at h2
          exact fun M5 F5 σ5 H5 cls dd s5 l5 l6 => h2 M5 F5 σ5 H5 cls dd s5 l5 (l3.trans l6)
        | bad =>
          rw [r] at h2
          exact h2
    · have ei : i = ds.length := by omega
      subst ei
      rw [List.drop_length] at h2
      exact .inl ⟨hJ.stop M2 F2 H2 (hP _ _ _ _ _ _ s2 l1 l2 fun z => by cases z), OutS.now h2 s2⟩
theorem ps_zwhl (C : CxS T k N sc X) {c : Expr} {body : List Stmt} {d : Ex} {t : Sms} {clr : List Nat} {pos : Pos} (hc : PT X c (tT T W d)) (hb : PSs X body (tSs T W t)) : PS X (.While c body [] pos) (tS T W (.whl d t clr)) :=
  (ps_while C.owns hc hb).imp fun Ds σ H ⟨e, M, F, ρ, m, s, h⟩ => by
    refine ⟨fun n σ H => ∃ M' F' ρ' m', SR T e M' F' ρ' m' σ H ∧ OutS T W e M' F' (whlL (evT d) (runs t) clr n ρ' m') Ds, ⟨turns, M, F, ρ, m, s, h⟩, ?_⟩
    rintro n σ2 H2 ⟨M2, F2, ρ2, m2, s2, h2⟩
    cases n with
    | zero => exact h2.elim
    | succ n =>
      have h3 := OutS.of (σ := σ2) (show OutS T W e M2 F2 (S.of (evT d ρ2 m2) ρ2 fun p => match p.1 with
        | false => .nx ρ2 p.2
        | true => match runs t ρ2 p.2 with
          | .nx ρ2 m2 => whlL (evT d) (runs t) clr n (clear ρ2 clr) m2
          | .ct ρ2 m2 => whlL (evT d) (runs t) clr n (clear ρ2 clr) m2
          | r => r) Ds from h2)
      refine ⟨e, M2, F2, ρ2, m2, s2, h3.imp fun b m3 M3 F3 H3 s3 l1 l2 h4 => ?_⟩
      cases b with
      | false =>
        rw [if_neg (by decide)]
        exact OutS.now h4 s3
      | true =>
        rw [if_pos rfl]
        refine ⟨_, fun σ' H' nx => ⟨n, Nat.lt_succ_self n, nx⟩, e, M3, F3, ρ2, m3, s3, ?_⟩
        cases r : runs t ρ2 m3 with
        | nx ρ4 m4 =>
          simp only [r] at h4
          exact fun M5 F5 σ5 H5 s5 l5 l6 => ⟨M5, F5, clear ρ4 clr, m4, s5.clear, OutS.mono h4 l5 l6⟩
        | ct ρ4 m4 =>
          simp only [r] at h4
          exact fun M5 F5 σ5 H5 s5 l5 l6 => ⟨M5, F5, clear ρ4 clr, m4, s5.clear, OutS.mono h4 l5 l6⟩
        | rt d' m4 =>
          simp only [r] at h4
          exact h4
        | ex c' fs ρ4 m4 =>
          simp only [r] at h4
          exact fun M5 F5 σ5 H5 cls dd s5 l5 l6 => h4 M5 F5 σ5 H5 cls dd s5 l5 l6
        | bad =>
          simp only [r] at h4
          exact h4
end
end Z
end
section
set_option Elab.async false
set_option linter.all false
set_option maxRecDepth 100000
set_option maxHeartbeats 4000000
set_option autoImplicit false
/-! Z: comprehensions as expressions; instances filled; exceptions. -/
namespace Z
open PySem PySem.Spec PyProof.Rows L2
variable {T : Tab}
section
variable {X : Cx} {W : WX} {k : Nat} {N : List Str} {sc : Scope} {e : En} {M M' : List Addr} {F F' : Hp} {ρ : Env} {m m' : Mu} {σ : L2.St} {H H' : Hp} {Ds : Ends} {fr : Bool}
/-! ### comprehensions -/
theorem relabel_ok {scope : Scope} {env : PySem.Env} {sc : Scope} (h : env.scope = sc) : relabel scope env = relS scope sc := by
  subst h
  rfl
theorem blk_cx (C : CxOk T k N sc X) {scope : Scope} (s : Shared) (H : Hp) (Ca : Addr) (cl : List (Str × Addr)) (fp : List Addr) : CxOk T k N (relS scope sc) (X.blk s H scope (compEnvC scope cl Ca X.env) fp) :=
  { hP := C.hP, hw := C.hw, hK := C.hK, hmg := C.hmg, hbase := C.hbase, hN := C.hN, nd := C.nd, hsc := relabel_ok C.hsc, un := C.un, calm := C.calm, room := C.room }
theorem takesF {X : Cx} : Takes X WF := fun u s' ⟨_, _, _, _, _, _, _, _, _, _, _, _, _, _, _, _, w⟩ => w.elim
structure LcH (T : Tab) (W : WX) (X : Cx) (elt tg iter : Expr) (ifs : List Expr) (scope : Scope) (p : Pat) (src : Src) (c x : Ex) : Prop where
  set : noSet iter = true
  src : PI X tg iter (tI T W true src)
  own : ∃ own : List (Str × Nat), own.map (·.2) = pnames p ∧ BlkOk X.N X.env.scope scope own
  tg : ∀ (s : Shared) (H : Hp) (C : Addr) (cl : List (Str × Addr)) (fp : List Addr), PG (X.blk s H scope (compEnvC scope cl C X.env) fp) tg (gP T p)
  ifs : ∀ (s : Shared) (H : Hp) (C : Addr) (cl : List (Str × Addr)) (fp : List Addr), PTs (X.blk s H scope (compEnvC scope cl C X.env) fp) ifs (tT T WF c)
  elt : ∀ (s : Shared) (H : Hp) (C : Addr) (cl : List (Str × Addr)) (fp : List Addr), PE (X.blk s H scope (compEnvC scope cl C X.env) fp) elt (tE T WF false x)
theorem pe_zlc (C : CxOk T k N sc X) {elt tg iter : Expr} {ifs : List Expr} {scope : Scope} {pos : Pos} {p : Pat} {src : Src} {c x : Ex} (h : LcH T W X elt tg iter ifs scope p src c x) : PE X (.ListComp elt [⟨tg, iter, ifs, 0⟩] scope pos) (tE T W fr (.lc p src c x)) := by
  obtain ⟨own, ho, ok⟩ := h.own
  refine (pe_lc C.calm (by rw [C.hN]; exact C.nd) h.src ok h.tg h.ifs h.elt (fun x => fold_ok h.set)).imp fun σ H Q ⟨e, M, F, ρ, m, s, q⟩ => ?_
  rw [ho]
  exact lc_r s q
/-- x = [..] on one line is stored before the block goes -/
def swpB (sc : Scope) (scope : Scope) (y : Str) (l1 l2 : Nat) : Bool := decide (sc.names.lookup y = some .local) && l1 == l2 && !(scope.names.any fun (n, k) => n == y && (k == .local || k == .cell))
theorem swp_ok {sc scope : Scope} {y : Str} {py pos : Pos} {elt : Expr} {gs : List Comprehension} {l : Nat} {env : PySem.Env} (hk : env.scope.kind = .function) (hs : env.scope = sc) : swapsWith (.ListComp elt gs scope pos) (some (.Name y py)) l env = pure (swpB sc scope y py.line pos.line) := by
  have hb : env.blockKind = .function := by unfold PySem.Env.blockKind; rw [hk]; rfl
  subst hs
  have e1 : (env.kindOf y == some NameKind.local) = decide (env.scope.names.lookup y = some .local) := by
    by_cases h : env.scope.names.lookup y = some .local
    · rw [decide_eq_true h]
      show (env.scope.names.lookup y == some NameKind.local) = true
      rw [h]; rfl
    · rw [decide_eq_false h]
      show (env.scope.names.lookup y == some NameKind.local) = false
      exact beq_eq_false_iff_ne.mpr h
  unfold swapsWith swpB
  simp only [hb, e1, Expr.pos]
  rfl
theorem ps_lcset (C : CxS T k N sc X) (hk : X.env.scope.kind = .function) {i : Nat} {y : Str} {py spos : Pos} {elt tg iter : Expr} {ifs : List Expr} {scope : Scope} {pos : Pos} {p : Pat} {src : Src} {c x : Ex} (hi : N[i]? = some y) (hx : locB sc y = true) (h : LcH T W X elt tg iter ifs scope p src c x) :
    PS X (.Assign [.Name y py] (.ListComp elt [⟨tg, iter, ifs, 0⟩] scope pos) spos) (tAsg (fun σ H Q => tE T W fr (.lc p src c x) σ H Q) (gName i)) := by
  have hsw := swp_ok (y := y) (py := py) (pos := pos) (elt := elt) (gs := [⟨tg, iter, ifs, 0⟩]) (scope := scope) (l := spos.line) hk C.hsc
  cases hb : swpB sc scope y py.line pos.line with
  | true =>
    rw [hb] at hsw
    obtain ⟨own, ho, ok⟩ := h.own
    have hl : sc.names.lookup y = some .local := by
      unfold swpB at hb
      simp only [Bool.and_eq_true, decide_eq_true_eq] at hb
      exact hb.1.1
    refine (ps_setLc C.calm (by rw [C.hN]; exact C.nd) (by rw [C.hN]; exact hi) (by rw [C.hsc]; exact hl) hsw h.src ok h.tg h.ifs h.elt (fun x => fold_ok h.set)).imp fun Ds σ H ⟨e, M, F, ρ, m, s, q⟩ => ?_
    show tLc _ _ _ _ _ _ _ _
    rw [ho]
    exact lc_r s q
  | false =>
    rw [hb] at hsw
    exact ps_set (by rw [C.hN]; exact C.nd) (by rw [C.hN]; exact hi) (by rw [C.hsc]; exact locB_ok hx) (pe_zlc C.toCxOk h) hsw (.inl (C.hfn y))
theorem ps_zasgL (C : CxS T k N sc X) (hk : X.env.scope.kind = .function) {i : Nat} {y : Str} {py spos : Pos} {elt tg iter : Expr} {ifs : List Expr} {scope : Scope} {pos : Pos} {p : Pat} {src : Src} {c x : Ex} (hi : N[i]? = some y) (hx : locB sc y = true) (h : LcH T W X elt tg iter ifs scope p src c x) :
    PS X (.Assign [.Name y py] (.ListComp elt [⟨tg, iter, ifs, 0⟩] scope pos) spos) (tS T W (.asg i (.lc p src c x))) :=
  (ps_lcset (fr := false) C hk hi hx h).imp fun Ds σ H ⟨e, M, F, ρ, m, s, h⟩ =>
    ⟨e, M, F, ρ, m, s, (OutS.of h).imp fun d m1 M1 F1 H1 s1 _ _ h1 v r => h1.now (s1.setV r)⟩
theorem ps_zasgFL (C : CxS T k N sc X) (hk : X.env.scope.kind = .function) {i : Nat} {y : Str} {py spos : Pos} {elt tg iter : Expr} {ifs : List Expr} {scope : Scope} {pos : Pos} {p : Pat} {src : Src} {c x : Ex} (hi : N[i]? = some y) (hx : locB sc y = true) (h : LcH T W X elt tg iter ifs scope p src c x) :
    PS X (.Assign [.Name y py] (.ListComp elt [⟨tg, iter, ifs, 0⟩] scope pos) spos) (tS T W (.asgF i (.lc p src c x))) :=
  (ps_lcset (fr := true) C hk hi hx h).imp fun Ds σ H ⟨e, M, F, ρ, m, s, h⟩ =>
    ⟨e, M, F, ρ, m, s, (OutS.of h).imp fun d m1 M1 F1 H1 s1 _ _ h1 => by
      dsimp only at h1
      split at h1
      · rename_i hd
        exact ⟨hd, fun v f => h1.now (s1.setF f)⟩
      · exact h1.elim⟩
/-! ### self.f = y -/
/-- an object that may be written, nobody's slot -/
theorem SR.writeW (s : SR T e M F ρ m σ H) {p : Addr} {o o' : HO} (hp : H p = some o) (fp : F p = none) (ep : p ∈ e.W) (pM : p ∉ M) (nt : ∀ ps, o ≠ .tbl ps) (ns : ∀ (i : Nat) (t : Sl), ρ[i]? = some t → t.own = true → σ[i]? ≠ some (some (.ref p))) : SR T e M F ρ m σ (upd H p o') := by
  have up : ∀ a u, a ≠ p → H a = some u → upd H p o' a = some u := fun a u h e => by rw [upd_ne h]; exact e
  refine ⟨fun a u h => up a u (fun z => by subst z; rw [fp] at h; cases h) (s.le a u h), s.f0, s.pre, fun a u h1 h2 => up a u (fun z => h2 (by rw [z]; exact ep)) (s.keep a u h1 h2), fun a h => ?_, s.old, s.ent, s.mw, ⟨s.mu.len, s.mu.nd, fun n a hn => ?_⟩, s.len, fun i t h => ?_, s.dis, fun P q h => ?_⟩
  · by_cases z : a = p
    · subst z; rw [upd_same]; simp
    · rw [upd_ne z]; exact s.nn a h
  · obtain ⟨h1, d, u, h2, h3, h4⟩ := s.mu.at_ n a hn
    exact ⟨h1, d, u, h2, up a u (fun z => by subst z; exact pM (List.mem_of_getElem? hn)) h3, h4⟩
  · have q := s.sl i t h
    cases t with
    | un => exact q
    | va d => exact q
    | ow d =>
      obtain ⟨a, u, e1, h1, h2, h3, h4, h5⟩ := q
      exact ⟨a, u, e1, h1, h2, h3, up a u (fun z => by subst z; exact ns i _ h rfl e1) h4, h5⟩
    | ro d =>
      obtain ⟨a, u, e1, h1, h2, h6, h3, h4, h5⟩ := q
      exact ⟨a, u, e1, h1, h2, h6, h3, up a u (fun z => h6 (by rw [z]; exact ep)) h4, h5⟩
    | me c fs =>
      obtain ⟨a, C, dx, names, kvs, e1, h1, h2, h3, h4, h5, h6, h7⟩ := q
      exact ⟨a, C, dx, names, kvs, e1, h1, h2, h3, h4, up a _ (fun z => by subst z; exact ns i _ h rfl e1) h5, h6, h7⟩
    | xc c fs => exact q
  · obtain ⟨h1, h2, h3, ps, h4, h5⟩ := s.tab P q h
    exact ⟨h1, h2, h3, ps, by rw [upd_ne (fun z => by rw [z, hp] at h4; exact nt ps (Option.some.inj h4))]; exact h4, h5⟩
/-- the classes that are filled -/
def FillF (T : Tab) (f : Str) : Prop := ∀ c C names, T.cls c = some (C, names) → Cls T.K C ∧ NoAttr T.K C f
theorem putF_ok {f : Str} {d : D} {v : V} (hr : Rep T M F d v) : ∀ {kvs : List (Str × V)} {fs : List (Str × D)}, kvs.map (·.1) = fs.map (·.1) → Reps T M F (fs.map (·.2)) (kvs.map (·.2)) →
    (putF f v kvs).map (·.1) = (putS f d fs).map (·.1) ∧ Reps T M F ((putS f d fs).map (·.2)) ((putF f v kvs).map (·.2))
  | [], [], _, _ => ⟨rfl, Reps.cons hr Reps.nil⟩
  | [], _ :: _, h, _ => by cases h
  | _ :: _, [], h, _ => by cases h
  | (g, w) :: kvs, (g', x) :: fs, h, r => by
    simp only [List.map_cons, List.cons.injEq] at h
    obtain ⟨h1, h2⟩ := h
    have h1 : g = g' := h1
    subst h1
    obtain ⟨y, ws, e, r1, r2⟩ := r
    simp only [List.map_cons, List.cons.injEq] at e
    obtain ⟨e1, e2⟩ := e
    subst e1
    rw [← e2] at r2
    unfold putF putS
    by_cases z : g = f
    · rw [if_pos z, if_pos z]
      exact ⟨by simp only [List.map_cons, h2], Reps.cons hr r2⟩
    · rw [if_neg z, if_neg z]
      obtain ⟨q1, q2⟩ := putF_ok hr h2 r2
      exact ⟨by simp only [List.map_cons, q1], Reps.cons r1 q2⟩
theorem ps_zsetA (C : CxS T k N sc X) {x : Str} {p p' pos : Pos} {y : Expr} {a : Ex} {f : Str} (h : PE X y (tE T W false a)) (hi : N[0]? = some x) (hv : visB sc x = true) (hd : noDbg x = true) (hcd : noCd x = true) (hc : noComp y = true) (hf : FillF T f) :
    PS X (.Assign [.Attribute (.Name x p) f p'] y pos) (tS T W (.setA f a)) := by
  have hv' := visB_ok hv
  rw [← C.hsc] at hv'
  refine (ps_fld (pe_var (by rw [C.hN]; exact hi) hv' (not_of hd) (not_of hcd)) h (swap_ok hc)).imp fun Ds σ H ⟨e, M, F, ρ, m, s, h⟩ => ?_
  have h : OutS T W e M F (match slotAt ρ 0 with
    | .me c fs => if fs.length < 1000 then S.of (ev a ρ m) ρ fun p => .nx (ρ.set 0 (.me c (putS f p.1 fs))) p.2 else .bad
    | _ => .bad) Ds := h
  split at h
  · rename_i c fs r
    split at h
    · rename_i hz
      refine ⟨e, M, F, ρ, m, s, (OutS.of h).imp fun d m1 M1 F1 H1 s1 _ _ h1 v rv => ?_⟩
      have hi := slotAt_some r (by simp)
      obtain ⟨b, Ca, dx, names, kvs, e1, g1, g2, g3, g4, g5, g6, g7⟩ := s1.sl 0 _ hi
      obtain ⟨q1, q2⟩ := hf c Ca names g4
      have hzz : kvs.length < 1000 := by
        have e := congrArg List.length g6
        rw [List.length_map, List.length_map] at e
        omega
      refine ⟨_, e1, b, Ca, dx, kvs, rfl, g5, by rw [C.hK]; exact q1, by rw [C.hK]; exact q2, hzz, h1.now ?_⟩
      obtain ⟨w1, w2⟩ := putF_ok (f := f) rv g6 g7
      have hln : 0 < ρ.length := (List.getElem?_eq_some_iff.mp hi).1
      have ns : ∀ (j : Nat) (t : Sl), (ρ.set 0 Sl.un)[j]? = some t → t.own = true → σ[j]? ≠ some (some (.ref b)) := fun j t hj ot ej => by
        by_cases z : j = 0
        · subst z
          rw [List.getElem?_set_self hln] at hj
          cases hj; cases ot
        · rw [List.getElem?_set_ne (Ne.symm z)] at hj
          exact z (s1.dis j 0 t _ b hj hi ot rfl ej e1)
      have s2 := (s1.unset (i := 0)).writeW (o' := .ins Ca dx (putF f v kvs)) g5 g1 g2 g3 (fun ps z => by cases z) ns
      have s3 := s2.set (i := 0) (t := .me c (putS f d fs)) (x := some (.ref b)) ⟨b, Ca, dx, names, _, rfl, g1, g2, g3, g4, upd_same, w1, w2⟩ fun _ j u bb hj hu ou eb ej => by
        cases eb
        exact ns j u hu ou ej
      rw [List.set_set] at s3
      have e2 : σ.set 0 (some (.ref b)) = σ := by
        apply List.ext_getElem?
        intro j
        by_cases z : 0 = j
        · subst z
          rw [List.getElem?_set_self (by rw [← s1.len]; exact hln), e1]
        · rw [List.getElem?_set_ne z]
      rw [e2] at s3
      exact s3
    · exact h.elim
  · exact h.elim
/-! ### own exceptions: their __init__ -/
/-- self.f = y, .. : fields by the slots they come from -/
def xinitB (N : List Str) (sc : Scope) : List (Str × Nat) → List Stmt → Bool
  | [], [] => true
  | (f, i) :: r, .Assign [.Attribute (.Name x _) g _] (.Name y _) _ :: ss => decide (N[0]? = some x) && decide (f = g) && decide (N[i]? = some y) && visB sc x && visB sc y && noDbg x && noCd x && noDbg y && noCd y && xinitB N sc r ss
  | _, _ => false
/-- the fields' values -/
def Vx (σ : L2.St) : List (Str × Nat) → List (Str × V) → Prop
  | [], vs => vs = []
  | (f, i) :: r, vs => ∃ v ws, vs = (f, v) :: ws ∧ σ[i]? = some (some v) ∧ Vx σ r ws
def tXs (K : PySem.W.Frag) (l : List (Str × Nat)) : TS := fun D σ H => ∃ (a C : Addr) (vs : List (Str × V)), σ[0]? = some (some (.ref a)) ∧ OexC K C ∧ (∀ p ∈ l, PySem.W.findIn K (.ref C) p.1 = some none) ∧ Vx σ l vs ∧
  ((H a = some (exo a C none) ∧ l.length ≤ 900 ∧ l ≠ [] ∧ ∀ dx, H dx = none → dx ≠ a → D.nx σ (upd (upd H dx (exd dx vs.reverse)) a (exo a C (some dx)))) ∨
    ∃ (dx : Addr) (fs : List (Str × V)), dx ≠ a ∧ H a = some (exo a C (some dx)) ∧ H dx = some (exd dx fs) ∧ fs.length + l.length ≤ 900 ∧ D.nx σ (upd H dx (exd dx (vs.reverse ++ fs))))
theorem upd_upd {H : Hp} {a : Addr} {o o' : HO} : upd (upd H a o) a o' = upd H a o' := by
  funext b
  by_cases h : b = a
  · subst h; rw [upd_same, upd_same]
  · rw [upd_ne h, upd_ne h, upd_ne h]
theorem upd_id {H : Hp} {a : Addr} {o : HO} (h : H a = some o) : upd H a o = H := by
  funext b
  by_cases hb : b = a
  · subst hb; rw [upd_same, h]
  · rw [upd_ne hb]
theorem upd_comm {H : Hp} {a b : Addr} {o o' : HO} (h : a ≠ b) : upd (upd H a o) b o' = upd (upd H b o') a o := by
  funext c
  by_cases hb : c = b
  · subst hb; rw [upd_same, upd_ne (Ne.symm h), upd_same]
  · rw [upd_ne hb]
    by_cases ha : c = a
    · subst ha; rw [upd_same, upd_same]
    · rw [upd_ne ha, upd_ne ha, upd_ne hb]
theorem pss_xinit (C : CxB T N sc X) : ∀ (l : List (Str × Nat)) (ss : List Stmt), xinitB N sc l ss = true → PSs X ss (tXs X.K l)
  | [], [], _ => pss_nil.imp fun Ds σ H ⟨a, Ca, vs, h1, h2, h3, hv, h⟩ => by
    have e : vs = [] := hv
    subst e
    rcases h with ⟨_, _, hn, _⟩ | ⟨dx, fs, _, h4, h5, _, h6⟩
    · exact absurd rfl hn
    · show Ds.nx σ H
      have e2 : upd H dx (exd dx (([] : List (Str × V)).reverse ++ fs)) = H := upd_id h5
      rw [e2] at h6
      exact h6
  | (f, i) :: r, [], h => by cases h
  | [], s :: ss, h => by simp [xinitB] at h
  | (f, i) :: r, s :: ss, h => by
    unfold xinitB at h
    split at h
    · rename_i h0; cases h0
    · rename_i f' i' r' x p1 g p2 y p3 p4 ss' h1 h2
      cases h1
      cases h2
      simp only [Bool.and_eq_true, decide_eq_true_eq] at h
      obtain ⟨⟨⟨⟨⟨⟨⟨⟨⟨q1, q2⟩, q3⟩, q4⟩, q5⟩, q6⟩, q7⟩, q8⟩, q9⟩, q10⟩ := h
      subst q2
      have vx := visB_ok q4
      have vy := visB_ok q5
      rw [← C.hsc] at vx vy
      refine (pss_cons (ps_ost (pe_var (by rw [C.hN]; exact q1) vx (not_of q6) (not_of q7)) (pe_var (by rw [C.hN]; exact q3) vy (not_of q8) (not_of q9)) (swap_ok rfl)) (pss_xinit C r ss q10)).imp fun Ds σ H ⟨a, Ca, vs, h1, h2, h3, hv, h⟩ => ?_
      obtain ⟨v, ws, rfl, hv1, hv2⟩ := hv
      refine ⟨v, hv1, _, h1, a, Ca, rfl, h2, h3 _ List.mem_cons_self, ?_⟩
      have h3' : ∀ p ∈ r, PySem.W.findIn X.K (.ref Ca) p.1 = some none := fun p hp => h3 p (List.mem_cons_of_mem _ hp)
      rcases h with ⟨h4, hl, _, h5⟩ | ⟨dx, fs, hda, h4, h5, hl, h6⟩
      · refine .inl ⟨h4, fun dx hn hne => ⟨a, Ca, ws, h1, h2, h3', hv2, .inr ⟨dx, [(f, v)], hne, upd_same, by rw [upd_ne hne, upd_same], by simp only [List.length_cons, List.length_nil] at hl ⊢; omega, ?_⟩⟩⟩
        have q := h5 dx hn hne
        rw [upd_comm (Ne.symm hne), upd_upd]
        rw [List.reverse_cons] at q
        exact q
      · refine .inr ⟨dx, fs, h4, h5, by simp only [List.length_cons] at hl; omega, a, Ca, ws, h1, h2, h3', hv2, .inr ⟨dx, (f, v) :: fs, hda, ?_, upd_same, by simp only [List.length_cons] at hl ⊢; omega, ?_⟩⟩
        · rw [upd_ne (Ne.symm hda)]; exact h4
        · rw [upd_upd]
          rw [List.reverse_cons, List.append_assoc] at h6
          exact h6
    · cases h
/-- what an own exception's __init__ keeps -/
def spExc (C : Addr) (names : List Str) : Sp := fun vs H Q _ => ∃ a ws, vs = .ref a :: ws ∧ ws.length = names.length ∧ H a = some (exo a C none) ∧ ∀ dx, H dx = none → dx ≠ a → Q .non (upd (upd H dx (exd dx (names.zip ws).reverse)) a (exo a C (some dx)))
/-- a class of the program's own exceptions, raised with its fields -/
def RaiF (T : Tab) (k : Nat) (x : Str) (c n : Nat) : Prop := ∃ (C a : Addr) (names : List Str) (fd : FuncData) (ps : List Str), T.xcl c = some (C, names) ∧ T.mg x = some (.ref C) ∧ OexC T.K C ∧ PySem.W.findIn T.K (.ref C) "__init__" = some (some (.ref a)) ∧ PySem.W.typeIn T.K (.ref a) = some (.type "function") ∧ Binds T.K fd ps [] ∧
  names.length = n ∧ n ≤ 100 ∧ names.Nodup ∧ ∃ j, j + 1 ≤ k ∧ FnOk T.P T.w T.K T.mg T.base (L2.CX T.P T.w) j a fd ps (spExc C names)
theorem zip_lookup : ∀ {names : List Str} {vs : List V} {k : Nat} {x : Str} {v : V}, names.Nodup → names[k]? = some x → vs[k]? = some v → (names.zip vs).reverse.lookup x = some v := by
  have app : ∀ (l r : List (Str × V)) (x : Str), (l ++ r).lookup x = match l.lookup x with | some v => some v | none => r.lookup x := by
    intro l
    induction l with
    | nil => intro r x; rfl
    | cons p l ih =>
      intro r x
      obtain ⟨y, w⟩ := p
      rw [List.cons_append, List.lookup_cons, List.lookup_cons]
      cases hb : x == y with
      | true => rfl
      | false => exact ih r x
  have out : ∀ (names : List Str) (vs : List V) (x : Str), x ∉ names → (names.zip vs).reverse.lookup x = none := by
    intro names
    induction names with
    | nil => intro vs x _; rfl
    | cons y names ih =>
      intro vs x hx
      rw [List.mem_cons, not_or] at hx
      cases vs with
      | nil => rfl
      | cons w vs =>
        rw [List.zip_cons_cons, List.reverse_cons, app, ih vs x hx.2]
        have : (x == y) = false := beq_eq_false_iff_ne.mpr hx.1
        simp [List.lookup, this]
  intro names
  induction names with
  | nil => intro vs k x v _ h _; simp at h
  | cons y names ih =>
    intro vs k x v nd h1 h2
    rw [List.nodup_cons] at nd
    cases vs with
    | nil => simp at h2
    | cons w vs =>
      rw [List.zip_cons_cons, List.reverse_cons, app]
      cases k with
      | zero =>
        simp only [List.getElem?_cons_zero, Option.some.injEq] at h1 h2
        subst h1 h2
        rw [out names vs y nd.1]
        simp [List.lookup]
      | succ k =>
        simp only [List.getElem?_cons_succ] at h1 h2
        rw [ih nd.2 h1 h2]
theorem Reps.at_names {names : List Str} {ds : List D} {vs : List V} (rs : Reps T M F ds vs) {k : Nat} {y : D} (h : ds[k]? = some y) : ∃ v, vs[k]? = some v ∧ Rep T M F y v := rs.get h
theorem ps_zraise (C : CxS T k N sc X) (tk : Takes X W) {x : Str} {c n : Nat} {y : Expr} {ys : List Expr} {as : Exs} {p pos pos' : Pos} (ha : PA X (y :: ys) (tA T W as)) (hf : RaiF T k x c n) (hg : glB sc x = true) (hd : noDbg x = true) (hs : (y :: ys).all (fun e => !isStar e) = true) (hn : n ≠ 0) :
    PS X (.Raise (some (.Call (.Name x p) (y :: ys) [] pos)) none pos') (tS T W (.raise x c n as)) := by
  obtain ⟨Ca, a, names, fd, ps, h1, h2, h3, h4, h5, h6, h7, hn100, h8, j, hj, h9⟩ := hf
  simp only [List.all_cons, Bool.and_eq_true, Bool.not_eq_true'] at hs
  refine (ps_raise C.calm tk (pmk_oex (CX := L2.CX X.prog X.w) (dvs := []) (ds := []) (by rw [C.hK]; exact h3) (by rw [C.hK]; exact h4) (by rw [C.hK]; exact h5) (C.fn h9) (C.room.mono hj) (by rw [C.hK]; exact h6) .nil (passes_call tk fun _ _ _ _ z => z.elim) (glB_ok C.toCxB hg) (by rw [C.hmg]; exact h2) ha (not_of hd) (star_cons hs.1) (star_none hs.2))).imp fun Ds σ H ⟨e, M, F, ρ, m, s, h⟩ => ?_
  refine ⟨e, M, F, ρ, m, s, (OutS.of h).imp fun ds m1 M1 F1 H1 s1 _ _ h10 vs rs => ?_⟩
  dsimp only at h10
  split at h10
  · rename_i hl
    have hvl : vs.length = names.length := by rw [← rs.length, hl, h7]
    refine ⟨by omega, fun b hb => ⟨b, vs ++ [], rfl, by rw [List.append_nil]; exact hvl, upd_same, fun dx hdx hne => ⟨rfl, dx, _, upd_same, by rw [upd_ne hne, upd_same], ?_, ?_⟩⟩⟩
    · rw [upd_ne hne] at hdx
      exact hdx
    · rw [upd_ne hne] at hdx
      have e1 : upd (L2.del (upd (upd (upd H1 b (exo b Ca none)) dx (exd dx (names.zip (vs ++ [])).reverse)) b (exo b Ca (some dx))) b) dx (.xd (names.zip (vs ++ [])).reverse) = upd H1 dx (.xd (names.zip (vs ++ [])).reverse) := by
        funext z
        by_cases q1 : z = dx
        · subst q1; rw [upd_same, upd_same]
        · rw [upd_ne q1, upd_ne q1]
          by_cases q2 : z = b
          · subst q2; rw [del_same]; exact hb.symm
          · rw [del_ne q2, upd_ne q2, upd_ne q1, upd_ne q2]
      rw [e1]
      have s2 := s1.lay (o := .xd (names.zip (vs ++ [])).reverse) hdx
      have hf2 : Le F1 (upd F1 dx (.xd (names.zip (vs ++ [])).reverse)) := fun b' u e2 => by
        by_cases z : b' = dx
        · subst z
          have := s1.le b' u e2
          rw [hdx] at this
          cases this
        · rw [upd_ne z]; exact e2
      refine h10 M1 _ σ _ (.ref Ca) (some dx) s2 pfx hf2 ⟨Ca, names, h1, rfl, by rw [hl, h7], .inr ⟨dx, _, rfl, upd_same, fun kk xx yy g1 g2 => ?_⟩⟩
      obtain ⟨v, g3, g4⟩ := rs.get g2
      exact ⟨v, by rw [List.append_nil]; exact zip_lookup h8 g1 g3, g4.mono pfx hf2⟩
  · exact h10.elim
/-! ### try -/
/-- the caught classes -/
def ExmF (T : Tab) (x : Str) (cs : List Nat) : Prop := ∃ Cx : Addr, T.mg x = some (.ref Cx) ∧ ∀ c C names, T.xcl c = some (C, names) → PySem.W.exmOne T.K (.ref C) (.ref Cx) = some (cs.contains c)
theorem tr_cx (C : CxS T k N sc X) {pn : List (Addr × Obj)} {xe : Value → Shared → Prop} (ho : PassesOwn (model X.prog X.w) X.A X.env xe) : CxS T k N sc (X.tr pn xe) :=
  { hP := C.hP, hw := C.hw, hK := C.hK, hmg := C.hmg, hbase := C.hbase, hN := C.hN, nd := C.nd, hsc := C.hsc, un := C.un, calm := C.calm, room := C.room, hfn := C.hfn, hstack := C.hstack, hframe := C.hframe, owns := ho }
theorem suite_cx (C : CxB T N sc X) (a : Addr) (pn : List (Addr × Obj)) : CxB T N sc (X.suite a pn) :=
  { hP := C.hP, hw := C.hw, hK := C.hK, hmg := C.hmg, hbase := C.hbase, hN := C.hN, nd := C.nd, hsc := C.hsc, un := C.un }
theorem alt_cx (C : CxB T N sc X) (x : Addr → Value → Option Addr → Prop) : CxB (T.alt x) N sc X :=
  { hP := C.hP, hw := C.hw, hK := C.hK, hmg := C.hmg, hbase := C.hbase, hN := C.hN, nd := C.nd, hsc := C.hsc, un := C.un }
/-- the table within a handler -/
abbrev Tab.hot (T : Tab) (a : Addr) (cls : Value) (d : Option Addr) : Tab := T.alt fun a' cls' d' => a' = a ∧ cls' = cls ∧ d' = d
theorem killX_get {i : Nat} {s : Sl} (h : (killX ρ)[i]? = some s) : (∀ c fs, s ≠ .xc c fs) ∧ (ρ[i]? = some s ∨ s = .un) := by
  unfold killX at h
  rw [List.getElem?_map] at h
  obtain ⟨t, ht, e⟩ := Option.map_eq_some_iff.mp h
  subst e
  cases t with
  | xc c fs => exact ⟨(fun c fs z => by cases z), .inr rfl⟩
  | un => exact ⟨(fun c fs z => by cases z), .inl ht⟩
  | va d => exact ⟨(fun c fs z => by cases z), .inl ht⟩
  | ow d => exact ⟨(fun c fs z => by cases z), .inl ht⟩
  | ro d => exact ⟨(fun c fs z => by cases z), .inl ht⟩
  | me c fs => exact ⟨(fun c fs z => by cases z), .inl ht⟩
theorem killX_own {i : Nat} {s : Sl} (h : (killX ρ)[i]? = some s) (ho : s.own = true) : ρ[i]? = some s := by
  rcases (killX_get h).2 with q | q
  · exact q
  · subst q; cases ho
theorem SR.killX (s : SR T e M F ρ m σ H) : SR T e M F (killX ρ) m σ H :=
  { s with len := by unfold Z.killX; rw [List.length_map]; exact s.len
           sl := fun i t h => by
            rcases (killX_get h).2 with q | q
            · exact s.sl i t q
            · subst q; exact True.intro
           dis := fun i j t u a hi hj ot ou => s.dis i j t u a (killX_own hi ot) (killX_own hj ou) ot ou }
theorem SR.unhot {a : Addr} {cls : Value} {d : Option Addr} (s : SR (T.hot a cls d) e M F ρ m σ H) : SR T e M F (Z.killX ρ) m σ H :=
  s.killX.unconv fun i t h q => q.unalt (killX_get h).1
theorem SR.setN (s : SR T e M F ρ m σ H) {i : Nat} : SR T e M F (ρ.set i .un) m (σ.set i none) H := s.set (t := .un) (x := none) True.intro fun z => by cases z
/-- a handler's end -/
theorem unhot_ends {a : Addr} {cls : Value} {d : Option Addr} {r : S} {i : Nat} (h : OutS T W e M F (match r with
      | .nx ρ2 m2 => .nx ((killX ρ2).set i .un) m2
      | .ct ρ2 m2 => .ct ((killX ρ2).set i .un) m2
      | .rt d m2 => .rt d m2
      | _ => .bad) Ds) : OutS (T.hot a cls d) WF e M F r { nx := fun σ' H' => Ds.nx (σ'.set i none) H', rt := Ds.rt, bk := fun σ' H' => Ds.bk (σ'.set i none) H', ct := fun σ' H' => Ds.ct (σ'.set i none) H' } := by
  cases r with
  | nx ρ2 m2 => exact fun M' F' σ' H' s l1 l2 => h M' F' _ H' s.unhot.setN l1 l2
  | ct ρ2 m2 => exact fun M' F' σ' H' s l1 l2 => h M' F' _ H' s.unhot.setN l1 l2
  | rt x m2 => exact fun M' F' ρ' σ' H' s l1 l2 v rv => h M' F' _ σ' H' s.unhot l1 l2 v rv.unalt
  | ex c fs ρ2 m2 => exact h.elim
  | bad => exact h.elim
theorem SR.hotS {a : Addr} {cls : Value} {d : Option Addr} (s : SR T e M F ρ m σ H) (hxo : ∀ a c d, ¬ T.xo a c d) : SR (T.hot a cls d) e M F ρ m σ H :=
  s.conv fun i t h q => q.alt fun c fs z => by
    subst z
    obtain ⟨_, _, _, _, h1, _⟩ := q
    exact hxo _ _ _ h1
theorem ps_ztryx (C : CxS T k N sc X) (tk : Takes X W) {i : Nat} {x n : Str} {b₀ : Stmt} {body suite : List Stmt} {np pos pos' : Pos} {cs : List Nat} {t h : Sms} (hxo : ∀ a c d, ¬ T.xo a c d) (hi : N[i]? = some n) (hln : sc.names.lookup n = some .local) (hg : glB sc x = true) (hd : noDbg x = true) (hm : ExmF T x cs)
    (hb : ∀ (W' : WX) (pn : List (Addr × Obj)) (xe : Value → Shared → Prop), Takes (X.tr pn xe) W' → PassesOwn (model X.prog X.w) X.A X.env xe → PSs (X.tr pn xe) body (tSs T W' t))
    (hsu : ∀ (a : Addr) (oe : Obj) (cls : Value) (d : Option Addr) (pn : List (Addr × Obj)), Zc cls d oe → (∃ vs, oe.data = .fields vs) → PSs (X.suite a ((a, oe) :: pn)) (b₀ :: suite) (tSs (T.hot a cls d) WF h)) :
    PS X (.Try body [.ExceptHandler (some (.Name x np)) (some n) (b₀ :: suite) pos'] [] [] pos) (tS T W (.tryx t x cs i h)) := by
  obtain ⟨Cx, h1, h2⟩ := hm
  refine (ps_try_as (Wout := W) C.hstack C.hframe (by rw [C.hN]; exact C.nd) (by rw [C.hN]; exact hi) (show X.env.scope.names.lookup n = _ by rw [C.hsc]; exact hln) ⟨glB_ok C.toCxB hg, not_of hd, .inl (by rw [C.hmg]; exact h1)⟩ tk
    (tb := fun W' => tSs T W' t) hb hsu).imp fun Ds σ H ⟨e, M, F, ρ, m, s, q⟩ => ?_
  refine ⟨e, M, F, ρ, m, s, ?_⟩
  have q : OutS T W e M F (match runs t ρ m with
    | .ex c' fs ρ' m' => if cs.contains c' = true then (match runs h (ρ'.set i (.xc c' fs)) m' with
      | .nx ρ2 m2 => .nx ((killX ρ2).set i .un) m2
      | .ct ρ2 m2 => .ct ((killX ρ2).set i .un) m2
      | .rt d m2 => .rt d m2
      | _ => .bad) else .ex c' fs ρ' m'
    | r => r) Ds := q
  cases r : runs t ρ m with
  | nx ρ' m' => rw [r] at q; exact q
  | ct ρ' m' => rw [r] at q; exact q
  | rt d m' => rw [r] at q; exact q
  | bad => rw [r] at q; exact q
  | ex c fs ρ' m' =>
    rw [r] at q
    intro M' F' σ' H' cls dd s' m1 f1 x'
    obtain ⟨Cc, names, g1, g2, g3, g4⟩ := id x'
    subst g2
    refine ⟨cs.contains c, by rw [C.hK]; exact h2 c Cc names g1, fun hy a na => ?_, fun hy => ?_⟩
    · dsimp only at q
      rw [if_pos hy] at q
      refine ⟨e, M', F', _, m', (s'.hotS hxo).set (i := i) (t := .xc c fs) (x := some (.ref a)) ⟨a, _, dd, rfl, ⟨rfl, rfl, rfl⟩, x'.alt⟩ (fun z => by cases z), ?_⟩
      exact unhot_ends (W := W) (q.mono m1 f1)
    · dsimp only at q
      rw [if_neg (by rw [hy]; simp)] at q
      exact q M' F' σ' H' _ dd s' m1 f1 x'
theorem ps_ztryo (C : CxS T k N sc X) (tk : Takes X W) {x : Str} {b₀ : Stmt} {body suite : List Stmt} {np pos pos' : Pos} {cs : List Nat} {t h : Sms} (hg : glB sc x = true) (hd : noDbg x = true) (hm : ExmF T x cs)
    (hb : ∀ (W' : WX) (pn : List (Addr × Obj)) (xe : Value → Shared → Prop), Takes (X.tr pn xe) W' → PassesOwn (model X.prog X.w) X.A X.env xe → PSs (X.tr pn xe) body (tSs T W' t))
    (hsu : ∀ (a : Addr) (oe : Obj) (cls : Value) (d : Option Addr) (pn : List (Addr × Obj)), Zc cls d oe → (∃ vs, oe.data = .fields vs) → PSs (X.suite a ((a, oe) :: pn)) (b₀ :: suite) (tSs T WF h)) :
    PS X (.Try body [.ExceptHandler (some (.Name x np)) none (b₀ :: suite) pos'] [] [] pos) (tS T W (.tryo t x cs h)) := by
  obtain ⟨Cx, h1, h2⟩ := hm
  refine (ps_try_only (Wout := W) C.hstack C.hframe ⟨glB_ok C.toCxB hg, not_of hd, .inl (by rw [C.hmg]; exact h1)⟩ tk
    (tb := fun W' => tSs T W' t) (ts := fun _ _ _ => tSs T WF h) hb hsu).imp fun Ds σ H ⟨e, M, F, ρ, m, s, q⟩ => ?_
  refine ⟨e, M, F, ρ, m, s, ?_⟩
  have q : OutS T W e M F (match runs t ρ m with
    | .ex c' fs ρ' m' => if cs.contains c' = true then (match runs h ρ' m' with
      | .ex _ _ _ _ => .bad
      | r => r) else .ex c' fs ρ' m'
    | r => r) Ds := q
  cases r : runs t ρ m with
  | nx ρ' m' => rw [r] at q; exact q
  | ct ρ' m' => rw [r] at q; exact q
  | rt d m' => rw [r] at q; exact q
  | bad => rw [r] at q; exact q
  | ex c fs ρ' m' =>
    rw [r] at q
    intro M' F' σ' H' cls dd s' m1 f1 x'
    obtain ⟨Cc, names, g1, g2, g3, g4⟩ := id x'
    subst g2
    refine ⟨cs.contains c, by rw [C.hK]; exact h2 c Cc names g1, fun hy a na => ?_, fun hy => ?_⟩
    · dsimp only at q
      rw [if_pos hy] at q
      have q := q.mono m1 f1
      refine ⟨e, M', F', _, m', s', ?_⟩
      cases r2 : runs h ρ' m' with
      | nx ρ2 m2 => rw [r2] at q; exact q
      | ct ρ2 m2 => rw [r2] at q; exact q
      | rt d m2 => rw [r2] at q; exact q
      | bad => rw [r2] at q; exact q
      | ex c2 fs2 ρ2 m2 => rw [r2] at q; exact q.elim
    · dsimp only at q
      rw [if_neg (by rw [hy]; simp)] at q
      exact q M' F' σ' H' _ dd s' m1 f1 x'
/-- fields of a handled exception -/
def XatF (T : Tab) (f : Str) (tab : List (Nat × Nat)) : Prop := ∀ c k C names, lookN tab c = some k → T.xcl c = some (C, names) → names[k]? = some f ∧ XfC T.K C ∧ PySem.W.findIn T.K (.ref C) f = some none
theorem pe_zxat {a : Addr} {oe : Obj} {cls : Value} {d : Option Addr} {pn : List (Addr × Obj)} (C : CxB (T.hot a cls d) N sc (X.suite a ((a, oe) :: pn))) (hz : Zc cls d oe) (hf : ∃ vs, oe.data = .fields vs) {i : Nat} {x f : Str} {tab : List (Nat × Nat)} {p pos : Pos}
    (hi : N[i]? = some x) (hv : visB sc x = true) (hd : noDbg x = true) (hcd : noCd x = true) (hx : XatF T f tab) : PE (X.suite a ((a, oe) :: pn)) (.Attribute (.Name x p) f pos) (tE (T.hot a cls d) W false (.xat i f tab)) := by
  have hv' := visB_ok hv
  rw [← C.hsc] at hv'
  refine ⟨fun pins s σ H Q I ⟨e, M, F, ρ, m, sr, h⟩ => ?_⟩
  have h : Out (T.hot a cls d) W e M F ρ σ (match slotAt ρ i with
    | .xc c fs => (R.of ((lookN tab c).bind fun k => fs[k]?)).bind fun d => .ok (d, m)
    | _ => .bad) (Kf (T.hot a cls d) false e ρ σ Q) := h
  split at h
  · rename_i c fs r
    obtain ⟨y, hy, h⟩ := h.of
    obtain ⟨b, cls', dd, e1, ⟨rfl, rfl, rfl⟩, Cc, names, g1, rfl, g3, g4⟩ := sr.sl i _ (slotAt_some r (by simp))
    rw [Option.bind_eq_some_iff] at hy
    obtain ⟨k, hk, hy⟩ := hy
    obtain ⟨q1, q2, q3⟩ := hx c k Cc names hk g1
    have hK : X.K = T.K := C.hK
    refine (pe_xf (by rw [hK]; exact q2) (by rw [hK]; exact q3) hz hf (pe_var (X := X.suite b ((b, oe) :: pn)) (i := i) (by rw [C.hN]; exact hi) hv' (not_of hd) (not_of hcd))).run pins s σ H Q I ?_
    refine ⟨.ref b, e1, rfl, rfl, ?_⟩
    rcases g4 with ⟨e2, _⟩ | ⟨d2, kvs, e2, e3, g5⟩
    · subst e2; simp at q1
    · obtain ⟨v, g6, g7⟩ := g5 k f y q1 hy
      exact ⟨d2, kvs, v, e2, sr.le _ _ e3, g6, fin_val sr h g7⟩
  · exact h.elim
end
end Z
end
section
set_option Elab.async false
set_option linter.all false
set_option maxRecDepth 100000
set_option maxHeartbeats 4000000
set_option autoImplicit false
/-! Z: lambdas without parameters, called in the frame that made them. -/
namespace Z
open PySem PySem.Spec PyProof.Rows L2
variable {T : Tab}
/-- the object at f is this one -/
def FunO (f : Addr) (o : Obj) : HO := .ext fun h => h.get? f = some o
section
variable {X : Cx} {W : WX} {k : Nat} {N : List Str} {sc : Scope} {e : En} {M M' : List Addr} {F F' : Hp} {ρ : Env} {m m' : Mu} {σ : L2.St} {H H' : Hp} {pins : List (Addr × Obj)} {s : Shared}
theorem inv_fun {h' : Heap} {f : Addr} {o : Obj} {tk : Nat} (I : Inv X pins σ H s) (hk : ∀ b u, s.heap.get? b = some u → h'.get? b = some u) (hf : s.heap.objs.size ≤ f) (ho : h'.get? f = some o) : Inv X pins σ (upd H f (FunO f o)) { s with heap := h', toks := tk } := by
  have nF : H f = none := I.hok.fresh hf
  have ne : ∀ b u, H b = some u → b ≠ f := fun b u e => ne_of_none e nF
  have lt' : ∀ b u, s.heap.get? b = some u → b ≠ f := fun b u e z => by
    rw [z] at e
    exact Nat.lt_irrefl _ (Nat.lt_of_lt_of_le (Heap.lt_size e) hf)
  refine I.step (g' := s.gens) (d' := s.drawn) (ch := []) (fun b hb => absurd hb (by simp)) (fun b u _ _ _ e _ => hk b u e) (fun b u _ _ _ e _ => ⟨u.slots, hk b u e⟩) (fun b u _ e n => by rw [upd_ne (lt' b u e)]; exact n) (fun b u _ e => ⟨u, hk b u e⟩)
    (fun b xs e => by rw [upd_ne (ne b _ e)]; exact e) (fun b o u e => by rw [upd_ne (ne b _ e)]; exact e) (fun b ps e => ⟨#[], by rw [upd_ne (ne b _ e), e]; simp⟩) (fun m hn => ?_) (fun b u e => ?_) I.bare
  · obtain ⟨ob, es, ep, ho', r⟩ := hn
    exact ⟨ob, es, ep, hk _ ob ho', r⟩
  · by_cases hb : b = f
    · rw [hb, upd_same] at e
      cases e
      rw [hb]
      exact ⟨ho, ⟨o, ho⟩, fun h1 h2 a st => st _ a⟩
    · rw [upd_ne hb] at e
      exact (I.hok b u e).stay (fun d v _ q => hk d v q) (fun d q => by rw [upd_ne (ne d _ q)]; exact q) fun d xs q => by rw [upd_ne (ne d _ q)]; exact q
/-- the code table is written -/
theorem SR.writeT (s : SR T e M F ρ m σ H) {P : Addr} {q : Str} (ht : T.tb = some (P, q)) {ps ps' : Array Value} (hp : H P = some (.tbl ps)) (new : TabF F P q (some (.tbl ps'))) : SR T e M F ρ m σ (upd H P (.tbl ps')) := by
  obtain ⟨w1, ⟨p0, w2⟩, w3, _⟩ := s.tab P q ht
  have fp : F P = none := (s.old P (by rw [w2]; simp)).trans w3
  have pM := s.PM ht
  have up : ∀ a u, a ≠ P → H a = some u → upd H P (.tbl ps') a = some u := fun a u h e => by rw [upd_ne h]; exact e
  have no : ∀ {a : Addr} {u : HO}, H a = some u → (∀ ps, u ≠ .tbl ps) → a ≠ P := fun {a u} h n z => by
    rw [z, hp] at h
    exact n ps (Option.some.inj h).symm
  refine ⟨fun a u h => up a u (fun z => by subst z; rw [fp] at h; cases h) (s.le a u h), s.f0, s.pre, fun a u h1 h2 => up a u (fun z => h2 (by rw [z]; exact w1)) (s.keep a u h1 h2), fun a h => ?_, s.old, s.ent, s.mw, ⟨s.mu.len, s.mu.nd, fun n a hn => ?_⟩, s.len, fun i t h => ?_, s.dis, fun P' q' h => ?_⟩
  · by_cases z : a = P
    · subst z; rw [upd_same]; simp
    · rw [upd_ne z]; exact s.nn a h
  · obtain ⟨h1, d, u, h2, h3, h4⟩ := s.mu.at_ n a hn
    exact ⟨h1, d, u, h2, up a u (fun z => by subst z; exact pM (List.mem_of_getElem? hn)) h3, h4⟩
  · have r := s.sl i t h
    cases t with
    | un => exact r
    | va d => exact r
    | ow d =>
      obtain ⟨a, u, e1, h1, h2, h3, h4, h5⟩ := r
      exact ⟨a, u, e1, h1, h2, h3, up a u (no h4 h5.notbl) h4, h5⟩
    | ro d =>
      obtain ⟨a, u, e1, h1, h2, h6, h3, h4, h5⟩ := r
      exact ⟨a, u, e1, h1, h2, h6, h3, up a u (no h4 h5.notbl) h4, h5⟩
    | me c fs =>
      obtain ⟨a, C, dx, names, kvs, e1, h1, h2, h3, h4, h5, h6, h7⟩ := r
      exact ⟨a, C, dx, names, kvs, e1, h1, h2, h3, h4, up a _ (no h5 fun ps z => by cases z) h5, h6, h7⟩
    | xc c fs => exact r
  · rw [ht] at h
    cases h
    exact ⟨w1, ⟨p0, w2⟩, w3, by rw [upd_same]; exact new⟩
/-- the frame that makes lambdas -/
structure LamC (T : Tab) (X : Cx) (c P : Addr) : Prop where
  code : X.env.code = .ref c
  tab : LamX.TabB X.base X.mg c P
  tb : T.tb = some (P, X.env.qual ++ "<lambda>")
/-- the lambdas by number -/
structure LamD where
  params : Arguments
  body : Expr
  scope : Scope
abbrev lamObj (X : Cx) (d : LamD) (pm : Value) (c' : Addr) (ctv : Value) : Obj := PySem.W.kla_obj "<lambda>" (X.env.qual ++ "<lambda>") d.params d.body d.scope (cloFrom X.env.cells d.scope.names []) pm c' ctv
def LamT (T : Tab) (X : Cx) (L : Nat → LamD → Prop) : Prop := ∀ n f o c' u, T.lam n f o c' u ↔ ∃ d pm ctv, L n d ∧ o = FunO f (lamObj X d pm c' ctv) ∧ u = LamX.CodeO c' (X.env.qual ++ "<lambda>")
theorem pe_zlam (C : CxS T k N sc X) {c P : Addr} {L : Nat → LamD → Prop} (lc : LamC T X c P) (lt : LamT T X L) {d : LamD} {n : Nat} {pos : Pos} (hd : L n d) (hdef : defaultsOf d.params X.env = ([], [])) (hS : LamX.LamS X.env.scope d.scope) :
    PE X (.Lambda d.params d.body d.scope pos) (tE T W false (.lam n)) := by
  refine ⟨fun pins s σ H Q I ⟨e, M, F, ρ, m, sr, h⟩ => ?_⟩
  have h : Out T W e M F ρ σ (.ok (.lam n, m)) (Kf T false e ρ σ Q) := h
  obtain ⟨w1, ⟨p0, w2⟩, w3, ps, hP, ht, ha⟩ := sr.tab _ _ lc.tb
  have fP : F P = none := (sr.old P (by rw [w2]; simp)).trans w3
  refine PySem.W.kla_eval hdef ?_
  have bP : s.heap.BuiltinsAt X.mg P := lc.tab.bm.keeps I.bk
  have hP' : s.heap.get? P = some { cls := .none, data := .fields ps } := I.hok P _ hP
  have fin : ∀ {F1 H1 : Hp} {s1 : Shared} {h' : Heap} {c' : Addr} {ctv : Value} {tk : Nat}, Inv X pins σ H1 s1 → SR T e M F1 ρ m σ H1 → Le F F1 → F1 c' = some (LamX.CodeO c' (X.env.qual ++ "<lambda>")) → s1.heap.objs.size ≤ h'.objs.size → (∀ b u, s1.heap.get? b = some u → h'.get? b = some u) →
      EP X pins σ Q (.ref h'.objs.size) { s1 with heap := h'.push (lamObj X d ((X.mg "__name__").getD .none) c' ctv), toks := tk } := fun {F1 H1 s1 h' c' ctv tk} I1 s1' l1 hc' hsz hx => by
    have nF : H1 h'.objs.size = none := I1.hok.fresh hsz
    have I2 := inv_fun (tk := tk) (h' := h'.push (lamObj X d ((X.mg "__name__").getD .none) c' ctv)) I1 (fun b u q => Heap.get?_push_of_some _ (hx b u q)) hsz (Heap.get?_push_size _ rfl)
    have s2 := s1'.lay (o := FunO h'.objs.size (lamObj X d ((X.mg "__name__").getD .none) c' ctv)) nF
    have fF : F1 h'.objs.size = none := by
      cases r : F1 h'.objs.size with
      | none => rfl
      | some u => rw [s1'.le _ u r] at nF; cases nF
    refine ⟨.ref _, _, I2, rfl, h M _ _ s2 pfx (l1.trans (Le.upd fF)) _ ⟨_, _, c', _, rfl, upd_same, ?_, (lt _ _ _ _ _).mpr ⟨d, _, _, hd, rfl, rfl⟩⟩⟩
    rw [upd_ne (ne_of_none hc' fF)]
    exact hc'
  cases hc : codeAmong pos ps.toList with
  | none =>
    refine PySem.W.kla_makeFunction (mg := X.mg) (c := c) (P := P) (ps := ps) (closure_ok (hS.has I.ok)) I.ok.glob (I.mod.glob.keeps I.bk) lc.code (lc.tab.code.keeps I.bk) hP' ht hc lc.tab.gP bP fun c' ctv h' tk hx hge hlt hrec htb => ?_
    obtain ⟨c2, oc, vs, t, e2, hoc, hd', hv⟩ := hrec
    cases e2
    have nC : H c' = none := I.hok.fresh hge
    have hsz : s.heap.objs.size ≤ h'.objs.size := Nat.le_trans hge (Nat.le_of_lt hlt)
    have nPc : P ≠ c' := ne_of_none hP nC
    have I1 := LamX.inv_table (t' := tk) (more := #[rawInt pos.line, rawInt pos.col, .ref c']) (h' := h') I hP (fun b o hb e => hx b o hb e) htb hge ⟨oc, vs, t, hoc, hd', hv⟩
    have fC : F c' = none := by
      cases r : F c' with
      | none => rfl
      | some u => rw [sr.le _ u r] at nC; cases nC
    have s1 := sr.lay (o := LamX.CodeO c' (X.env.qual ++ "<lambda>")) nC
    have eL : (ps ++ #[rawInt pos.line, rawInt pos.col, .ref c']).toList = ps.toList ++ [rawInt pos.line, rawInt pos.col, .ref c'] := by simp
    have s2 := s1.writeT lc.tb (ps := ps) (ps' := ps ++ #[rawInt pos.line, rawInt pos.col, .ref c']) (by rw [upd_ne nPc]; exact hP) ⟨_, rfl, by rw [eL]; exact PySem.TriplesOk_snoc _ _ _ _ ht, fun p' cv hcv => by
      rw [eL] at hcv
      rcases LamX.among_app _ ht hcv with z | z
      · obtain ⟨c0, e1, e2⟩ := ha p' cv z
        exact ⟨c0, e1, Le.upd fC _ _ e2⟩
      · exact ⟨c', z, upd_same⟩⟩
    rw [upd_comm (Ne.symm nPc)] at s2
    exact fin (s1 := { s with heap := h', toks := tk }) (h' := h') I1 s2 (Le.upd fC) upd_same (Nat.le_refl _) fun b u q => q
  | some cv =>
    obtain ⟨c', e1, hco⟩ := ha pos cv hc
    subst e1
    refine PySem.W.kla_makeFunctionHit (mg := X.mg) (c := c) (P := P) (ps := ps) (closure_ok (hS.has I.ok)) I.ok.glob (I.mod.glob.keeps I.bk) lc.code (lc.tab.code.keeps I.bk) hP' ht hc bP fun ctv h' tk hx hsz => ?_
    exact fin I sr Le.rfl' hco hsz hx
def nthX : Exs → Nat → Option Ex
  | .cons e _, 0 => some e
  | .cons _ es, n + 1 => nthX es n
  | _, _ => none
theorem evN_nth : ∀ {ls : Exs} {n : Nat} {y : Ex}, nthX ls n = some y → ∀ (ρ : Env) (m : Mu), evN ls n ρ m = ev y ρ m
  | .cons e _, 0, y, h, ρ, m => by
    cases h
    rfl
  | .cons _ es, n + 1, y, h, ρ, m => evN_nth (ls := es) (n := n) h ρ m
  | .nil, _, y, h, _, _ => by simp [nthX] at h
  | .star _ _, _, y, h, _, _ => by simp [nthX] at h
theorem pe_zact (C : CxS T (k + 1) N sc X) (tk : Takes X W) {L : Nat → LamD → Prop} {ls : Exs} {i : Nat} {x : Str} {p1 p2 : Pos} (lt : LamT T X L) (hi : N[i]? = some x) (hv : visB sc x = true) (hdb : noDbg x = true) (hcd : noCd x = true)
    (hS : ∀ n d, L n d → LamX.LamS X.env.scope d.scope) (hbind : ∀ n d, L n d → ∀ (q : Str) (cl : List (Str × Addr)) (pm cv ctv : Value), bindArgs (PySem.W.kla_fn "<lambda>" q d.params d.body d.scope cl pm cv ctv) ⟨[], []⟩ = pure [])
    (hbody : ∀ n d, L n d → ∃ y, nthX ls n = some y ∧ ∀ (X' : Cx) (W' : WX), CxOk T k N d.scope X' → Takes X' W' → PE X' d.body (tE T W' false y)) : PE X (.Call (.Name x p1) [] [] p2) (tE T W false (.act i ls)) := by
  have hv' := visB_ok hv
  rw [← C.hsc] at hv'
  refine ⟨fun pins s σ H Q I ⟨e, M, F, ρ, m, sr, h⟩ => ?_⟩
  have h : Out T W e M F ρ σ (match getV ρ i with
    | some (.lam n) => evN ls n ρ m
    | _ => .bad) (Kf T false e ρ σ Q) := h
  split at h
  · rename_i n hn
    obtain ⟨v, e1, f, o, c', u, rfl, h1, h2, h3⟩ := sr.va hn
    obtain ⟨d, pm, ctv, hd, rfl, rfl⟩ := (lt _ _ _ _ _).mp h3
    obtain ⟨y, hy, hb⟩ := hbody n d hd
    rw [evN_nth hy] at h
    have L' := hS n d hd
    have hr := C.room
    refine wpAny_Call_Name_kw (thn ((pe_var (pos := p1) (i := i) (by rw [C.hN]; exact hi) hv' (not_of hdb) (not_of hcd)).run pins s σ H (fun v H1 => v = .ref f ∧ H1 = H) I ⟨.ref f, e1, rfl, rfl⟩) fun u s1 ⟨v, H1, I1, r1, q1⟩ => ?_)
    obtain ⟨ev, eH⟩ := q1
    subst ev
    subst eH
    obtain rfl : u = Value.ref f := r1
    have of1 : s1.heap.get? f = some (lamObj X d pm c' ctv) := (I1.hok f _ (sr.le _ _ h1)).1
    refine PySem.W.callWith_F0 ⟨_, _, _, _, of1⟩ ?_
    obtain ⟨⟨oc, vs, t, hoc, hdc, hvc⟩, _, _⟩ := I1.hok c' _ (sr.le _ _ h2)
    have rc : codeAny (model X.prog X.w) X.A (.call (.ref f) ⟨[], []⟩) (CR (L2.CX X.prog X.w) X.stack X.prog X.w H1 s1 Q (WE W σ)) s1 := by
      refine PySem.W.kla_callFunE hr.depth of1 rfl L'.co L'.gen rfl ⟨c', oc, vs, t, rfl, hoc, hdc, hvc⟩ ?_
      rw [hbind n d hd]
      refine wpAny_pure (wpAny_newFunctionEnv (fun y hy => (L'.own y hy).2) (fun y hy => absurd hy (by simp)) (fun h₁ hns hsb => ⟨I1.nolimit.fresh _ hsb, ?_⟩) L'.kind)
      show codeAny _ _ (.expr d.body (LamX.lamEnv X d.scope s1.heap.objs.size f c')) _ _
      have kp : ∀ b o, s1.heap.get? b = some o → h₁.get? b = some o := fun b o e => hsb.extBut b o (Nat.ne_of_lt (Heap.lt_size e)) (Heap.get?_push_of_some _ e)
      have J : Inv (LamX.lamCx X X.A X.stack s1 H1 (WE W σ) d.scope f c') [] σ H1 { s1 with heap := h₁, toks := s1.toks + ([] : List (Str × Value)).length } :=
        LamX.lam_start2 I1 L' I1.env0 hr.hd Un.refl hns kp
      have C' : CxOk T k N d.scope (LamX.lamCx X X.A X.stack s1 H1 (WE W σ) d.scope f c') :=
        { hP := C.hP, hw := C.hw, hK := C.hK, hmg := C.hmg, hbase := C.hbase, hN := C.hN, nd := C.nd, hsc := rfl, un := (by have := (hr.deeper (LamX.lamEnv X d.scope s1.heap.objs.size f c')).un; show (X.A.deeper (LamX.lamEnv X d.scope s1.heap.objs.size f c')).units + 100 < cLine; omega), calm := rfl, room := hr.deeper _ }
      have tk' : Takes (LamX.lamCx X X.A X.stack s1 H1 (WE W σ) d.scope f c') (fun cls dd _ H' => WE W σ cls dd H') := takes_of rfl rfl rfl rfl
      refine PySem.W.kla_codeExpr (wpAny_mono ((hb _ _ C' tk').run [] _ _ H1 Q J ⟨e, M, F, ρ, m, sr, ?_⟩) (fun v s' hq => ?_) fun e s' hq => hq)
      · cases r : ev y ρ m with
        | ok p => rw [r] at h; exact h
        | ex c fs m' => rw [r] at h; exact h
        | bad => rw [r] at h; exact h
      · obtain ⟨w', H', J', rv, q⟩ := hq
        exact ⟨w', H', J'.os, J'.bare, J'.base, J'.hok, rv, q⟩
    refine wpAny_call (codeAny_mono rc fun r s' hq => ?_)
    cases r with
    | error e => exact passAt tk σ pins H1 s1 e s' I1 hq
    | ok fl =>
      cases fl with
      | ret u => exact I1.after hq
      | next => exact False.elim hq
      | brk => exact False.elim hq
      | cont => exact False.elim hq
  · exact h.elim
end
end Z
end
section
set_option Elab.async false
set_option linter.all false
set_option maxRecDepth 100000
set_option maxHeartbeats 8000000
set_option autoImplicit false
/-! Z: the check of what is computed against the text. -/
namespace Z
open PySem PySem.Spec PyProof.Rows L2
variable {T : Tab}
structure Fl where
  hot : Bool
  xat : Bool
  act : Bool
  lam : Nat → LamD → Bool
def fl0 : Fl := ⟨false, false, false, fun _ _ => false⟩
def nmB (N : List Str) (sc : Scope) (i : Nat) (x : Str) : Bool := decide (N[i]? = some x) && (visB sc x && (noDbg x && noCd x))
def conB : D → Const → Bool
  | .non, .none => true
  | .bl b, .bool c => decide (b = c)
  | .int i, .int j => decide (i = j)
  | .str x, .str y => decide (x = y)
  | _, _ => false
def nsB (es : List Expr) : Bool := es.all fun e => !isStar e
def isNon : Ex → Bool
  | .con .non => true
  | _ => false
def isTt : Ex → Bool
  | .con (.bl true) => true
  | _ => false
def biB : Bi → Bool
  | .str => false
  | .sset => false
  | .zip3 => false
  | b => match biV b with | .none => false | _ => true
mutual
def patB (N : List Str) (sc : Scope) (fnB : Str → Bool) : Pat → Expr → Bool
  | .name i, e => match e with
    | .Name x _ => decide (N[i]? = some x) && (locB sc x && fnB x)
    | _ => false
  | .tup ps, e => match e with
    | .Tuple xs _ _ => decide (xs.length = ps.len) && (nsB xs && patBs N sc fnB ps xs)
    | _ => false
def patBs (N : List Str) (sc : Scope) (fnB : Str → Bool) : Pats → List Expr → Bool
  | .nil, xs => xs.isEmpty
  | .cons p ps, xs => match xs with
    | x :: xs => patB N sc fnB p x && (!isStar x && patBs N sc fnB ps xs)
    | [] => false
end
/-- a block's own names -/
def blkFn (scope sc : Scope) (x : Str) : Bool := (scope.names.lookup x == some .cell) || decide ((relS scope sc).names.lookup x = some .local)
def ownOf (N : List Str) : List Nat → List (Str × Nat)
  | [] => []
  | i :: is => match N[i]? with
    | some x => (x, i) :: ownOf N is
    | none => ownOf N is
def blkB (N : List Str) (sc scope : Scope) (is : List Nat) : Bool :=
  decide (scope.kind = .function) && (scope.names.all (fun y => decide (scope.names.lookup y.1 = some y.2)) && (is.all (fun i => decide (i < N.length)) &&
    (scope.names.all (fun y => !decide (y.2 = .free) || (decide (sc.names.lookup y.1 = some .cell) || decide (sc.names.lookup y.1 = some .free))) &&
      scope.names.all (fun y => !(decide (y.2 = .local) || decide (y.2 = .cell)) || (((ownOf N is).map (·.1)).contains y.1 || !N.contains y.1)))))
/-- where an expression is tested -/
def tokB : Ex → Expr → Bool
  | .cmp _ _ _, _ => true
  | .cmp2 _ _ _ _ _, _ => true
  | .eqi _ _ _ _, _ => true
  | .not _, _ => true
  | .and _ _, _ => true
  | .or _ _, _ => true
  | _, e => plainT e
mutual
/-- md: it is tested -/
def chkE (N : List Str) : Bool → Fl → Scope → Ex → Expr → Bool
  | _, fl, sc, .var i, e => match e with
    | .Name x _ => nmB N sc i x
    | _ => false
  | _, fl, sc, .con d, e => match e with
    | .Constant c _ _ => conB d c
    | _ => false
  | _, fl, sc, .glo x _, e => match e with
    | .Name y _ => decide (y = x) && (glB sc x && noDbg x)
    | _ => false
  | _, fl, sc, .tup es, e => match e with
    | .Tuple ys _ _ => chkEs N fl sc es ys
    | _ => false
  | _, fl, sc, .lst es, e => match e with
    | .List ys _ => chkEs N fl sc es ys
    | _ => false
  | _, fl, sc, .bin op a b, e => match e with
    | .BinOp l o r _ => decide (o = boE op) && (chkE N false fl sc a l && chkE N false fl sc b r)
    | _ => false
  | _, fl, sc, .neg a, e => match e with
    | .UnaryOp .USub l _ => chkE N false fl sc a l
    | _ => false
  | _, fl, sc, .cmp op a b, e => match e with
    | .Compare l [o] [r] _ => decide (o = coE op) && (chkE N false fl sc a l && (chkE N false fl sc b r && noSet r))
    | _ => false
  | _, fl, sc, .cmp2 o1 o2 a b c, e => match e with
    | .Compare l [p1, p2] [m, r] _ => decide (p1 = coE o1) && (decide (p2 = coE o2) && (chkE N false fl sc a l && (chkE N false fl sc b m && (chkE N false fl sc c r && noSet r))))
    | _ => false
  | md, fl, sc, .and a b, e => match e with
    | .BoolOp .And (x :: y :: zs) p => chkE N md fl sc a x && ((!md || tokB a x) && (match zs with
      | [] => chkE N md fl sc b y && (!md || tokB b y)
      | z :: zs => chkE N md fl sc b (.BoolOp .And (y :: z :: zs) p)))
    | _ => false
  | md, fl, sc, .or a b, e => match e with
    | .BoolOp .Or (x :: y :: zs) p => chkE N md fl sc a x && ((!md || tokB a x) && (match zs with
      | [] => chkE N md fl sc b y && (!md || tokB b y)
      | z :: zs => chkE N md fl sc b (.BoolOp .Or (y :: z :: zs) p)))
    | _ => false
  | md, fl, sc, .not a, e => match e with
    | .UnaryOp .Not x _ => chkE N md fl sc a x && (!md || tokB a x)
    | _ => false
  | _, fl, sc, .ife c a b, e => match e with
    | .IfExp d x y _ => chkE N true fl sc c d && (tokB c d && (chkE N false fl sc a x && chkE N false fl sc b y))
    | _ => false
  | _, fl, sc, .idx a i, e => match e with
    | .Subscript o j _ => chkE N false fl sc a o && (chkE N false fl sc i j && noSlice j)
    | _ => false
  | _, fl, sc, .slc a lo hi, e => match e with
    | .Subscript o (.Slice l h none _) _ => chkE N false fl sc a o && ((match l with
      | none => isNon lo
      | some l => !isNon lo && chkE N false fl sc lo l) && (match h with
      | none => isNon hi
      | some h => !isNon hi && chkE N false fl sc hi h))
    | _ => false
  | _, fl, sc, .att a f _, e => match e with
    | .Attribute o g _ => decide (g = f) && (chkE N false fl sc a o && noSup o)
    | _ => false
  | _, fl, sc, .xat i f _, e => match e with
    | .Attribute (.Name x _) g _ => fl.xat && (decide (g = f) && nmB N sc i x)
    | _ => false
  | _, fl, sc, .call x _ args, e => match e with
    | .Call (.Name y _) ys [] _ => !fl.hot && (decide (y = x) && (glB sc x && (noDbg x && (nsB ys && chkEs N fl sc args ys))))
    | _ => false
  | _, fl, sc, .make x _ _ args, e => match e with
    | .Call (.Name y _) ys [] _ => !fl.hot && (decide (y = x) && (glB sc x && (noDbg x && (nsB ys && chkEs N fl sc args ys))))
    | _ => false
  | _, fl, sc, .meth o m _ args, e => match e with
    | .Call (.Attribute o' g apos) ys [] pos => !fl.hot && (decide (g = m) && (noSup o' && ((apos.endLine == pos.line) && (decide (ys.length < 30) && (nsB ys && (chkE N false fl sc o o' && chkEs N fl sc args ys))))))
    | _ => false
  | _, fl, sc, .bi b args, e => match e with
    | .Call (.Name f _) (y :: ys) [] _ => !fl.hot && (match b with
      | .sset => match y, ys, args with
        | .Call (.Name g _) [x] [] _, [], .cons a .nil => decide (f = "sorted") && (decide (g = "set") && (glB sc "sorted" && (glB sc "set" && (!isStar x && chkE N false fl sc a x))))
        | _, _, _ => false
      | .zip3 => match y, ys, args with
        | .Call (.Name g _) [x1, x2, x3] [] _, [], .cons a (.cons b (.cons c .nil)) => decide (f = "list") && (decide (g = "zip") && (glB sc "list" && (glB sc "zip" && (!isStar x1 && (!isStar x2 && (!isStar x3 && (chkE N false fl sc a x1 && (chkE N false fl sc b x2 && chkE N false fl sc c x3))))))))
        | _, _, _ => false
      | b => biB b && (decide (f = biN b) && (glB sc (biN b) && (nsB (y :: ys) && chkEs N fl sc args (y :: ys)))))
    | _ => false
  | _, fl, sc, .dget d k x, e => match e with
    | .Call (.Attribute o g apos) [y, z] [] pos => decide (g = "get") && (noSup o && ((apos.endLine == pos.line) && (!isStar y && (!isStar z && (chkE N false fl sc d o && (chkE N false fl sc k y && chkE N false fl sc x z))))))
    | _ => false
  | _, fl, sc, .isi a ts w, e => match e with
    | .Call (.Name f _) [x, y] [] _ => decide (f = "isinstance") && (glB sc "isinstance" && (!isStar x && (chkE N false fl sc a x && (match w, y with
      | false, .Name z _ => (match ts with
        | [t] => decide (z = tyN t) && glB sc (tyN t)
        | _ => false)
      | true, .Tuple ys _ _ => tysB sc ts ys && (!ts.isEmpty && decide (ts.length ≤ 100))
      | _, _ => false))))
    | _ => false
  | _, fl, sc, .lc p src c x, e => match e with
    | .ListComp elt [⟨tg, iter, ifs, 0⟩] scope _ => !fl.hot && (noSet iter && (chkS N fl sc src tg iter && (patB N (relS scope sc) (blkFn scope sc) p tg && (blkB N sc scope (pnames p) && ((match ifs with
      | [] => isTt c
      | [i] => chkE N true fl0 (relS scope sc) c i && tokB c i
      | _ => false) && chkE N false fl0 (relS scope sc) x elt)))))
    | _ => false
  | _, fl, sc, .act i _, e => match e with
    | .Call (.Name x _) [] [] _ => fl.act && nmB N sc i x
    | _ => false
  | _, fl, sc, .lam n, e => match e with
    | .Lambda ps b s _ => fl.act && fl.lam n ⟨ps, b, s⟩
    | _ => false
  | true, fl, sc, .tru _ a, e => plainT e && (!fl.hot && chkE N false fl sc a e)
  | false, fl, sc, .tru _ a, e => match e with
    | .Call (.Name f _) [x] [] _ => !fl.hot && (decide (f = "bool") && (glB sc "bool" && (!isStar x && chkE N false fl sc a x)))
    | _ => false
  | _, fl, sc, .eqi neg _ a b, e => match e with
    | .Compare l [o] [r] _ => !fl.hot && (decide (o = eqO neg) && (chkE N false fl sc a l && (chkE N false fl sc b r && noSet r)))
    | _ => false
def chkEs (N : List Str) : Fl → Scope → Exs → List Expr → Bool
  | fl, sc, .nil, ys => ys.isEmpty
  | fl, sc, .cons x xs, ys => match ys with
    | y :: ys => !isStar y && (chkE N false fl sc x y && chkEs N fl sc xs ys)
    | [] => false
  | fl, sc, .star x xs, ys => match ys with
    | .Starred y _ :: ys => chkE N false fl sc x y && chkEs N fl sc xs ys
    | _ => false
def chkS (N : List Str) : Fl → Scope → Src → Expr → Expr → Bool
  | fl, sc, .seq x, tg, e => chkE N false fl sc x e
  | fl, sc, .rng1 a, tg, e => match e with
    | .Call (.Name f _) [l] [] _ => decide (f = "range") && (glB sc "range" && (!isStar l && chkE N false fl sc a l))
    | _ => false
  | fl, sc, .rng2 a b, tg, e => match e with
    | .Call (.Name f _) [l, r] [] _ => decide (f = "range") && (glB sc "range" && (!isStar l && (!isStar r && (chkE N false fl sc a l && chkE N false fl sc b r))))
    | _ => false
  | fl, sc, .rng3 a b c, tg, e => match e with
    | .Call (.Name f _) [l, r, .Constant (.int d) _ _] [] _ => decide (d = c) && (decide (f = "range") && (glB sc "range" && (!isStar l && (!isStar r && (chkE N false fl sc a l && chkE N false fl sc b r)))))
    | _ => false
  | fl, sc, .enu x, tg, e => match e with
    | .Call (.Name f _) [l] [] _ => decide (f = "enumerate") && (isTupE tg && (glB sc "enumerate" && (!isStar l && chkE N false fl sc x l)))
    | _ => false
  | fl, sc, .zip a b, tg, e => match e with
    | .Call (.Name f _) [l, r] [] _ => decide (f = "zip") && (isTupE tg && (glB sc "zip" && (!isStar l && (!isStar r && (chkE N false fl sc a l && chkE N false fl sc b r)))))
    | _ => false
end
mutual
/-- what is asked of the program -/
def needE (T : Tab) (k : Nat) (lsX : Exs) : Ex → Prop
  | .var _ => True
  | .con _ => True
  | .glo x d => GloF T x d
  | .tup es => needEs T k lsX es
  | .lst es => needEs T k lsX es
  | .bin _ a b => needE T k lsX a ∧ needE T k lsX b
  | .neg a => needE T k lsX a
  | .cmp _ a b => needE T k lsX a ∧ needE T k lsX b
  | .cmp2 _ _ a b c => needE T k lsX a ∧ needE T k lsX b ∧ needE T k lsX c
  | .and a b => needE T k lsX a ∧ needE T k lsX b
  | .or a b => needE T k lsX a ∧ needE T k lsX b
  | .not a => needE T k lsX a
  | .ife c a b => needE T k lsX c ∧ needE T k lsX a ∧ needE T k lsX b
  | .idx a i => needE T k lsX a ∧ needE T k lsX i
  | .slc a lo hi => needE T k lsX a ∧ needE T k lsX lo ∧ needE T k lsX hi
  | .att a f tab => needE T k lsX a ∧ AttF T f tab
  | .xat _ f tab => XatF T f tab
  | .call x f args => FnF T k x f ∧ needEs T k lsX args
  | .make x c f args => MakF T k x c f ∧ needEs T k lsX args
  | .meth o m tab args => needE T k lsX o ∧ MetF T k m tab ∧ needEs T k lsX args
  | .bi b args => T.mg (biN b) = none ∧ (T.mg "set" = none ∧ T.mg "zip" = none) ∧ needEs T k lsX args
  | .dget d i x => needE T k lsX d ∧ needE T k lsX i ∧ needE T k lsX x
  | .isi a ts _ => needE T k lsX a ∧ T.mg "isinstance" = none ∧ ∀ t ∈ ts, IsiF T t
  | .lc _ src c e => needS T k lsX src ∧ needE T k lsX c ∧ needE T k lsX e
  | .act _ ls => ls = lsX ∧ needEs T k lsX ls
  | .lam _ => True
  | .tru tab a => SpcF T k "__bool__" 1 tab ∧ T.mg "bool" = none ∧ needE T k lsX a
  | .eqi _ tab a b => EqF T k tab ∧ needE T k lsX a ∧ needE T k lsX b
def needEs (T : Tab) (k : Nat) (lsX : Exs) : Exs → Prop
  | .nil => True
  | .cons x xs => needE T k lsX x ∧ needEs T k lsX xs
  | .star x xs => needE T k lsX x ∧ needEs T k lsX xs
def needS (T : Tab) (k : Nat) (lsX : Exs) : Src → Prop
  | .seq x => needE T k lsX x
  | .rng1 a => needE T k lsX a ∧ T.mg "range" = none
  | .rng2 a b => needE T k lsX a ∧ needE T k lsX b ∧ T.mg "range" = none
  | .rng3 a b _ => needE T k lsX a ∧ needE T k lsX b ∧ T.mg "range" = none
  | .enu x => needE T k lsX x ∧ T.mg "enumerate" = none
  | .zip a b => needE T k lsX a ∧ needE T k lsX b ∧ T.mg "zip" = none
end
end Z
end
section
set_option Elab.async false
set_option linter.all false
set_option maxRecDepth 100000
set_option maxHeartbeats 8000000
set_option autoImplicit false
/-! Z: what passes the check is what the machine does: expressions. -/
namespace Z
open PySem PySem.Spec PyProof.Rows L2
variable {T : Tab}
/-- a new list or dict may come out -/
def frB : Ex → Bool
  | .lst _ => true
  | .bin _ _ _ => true
  | .slc _ _ _ => true
  | .bi _ _ => true
  | .lc _ _ _ _ => true
  | .ife _ a b => frB a && frB b
  | _ => false
structure Caps (T : Tab) (k : Nat) (N : List Str) (lsX : Exs) (fl : Fl) (sc : Scope) (X : Cx) (W : WX) : Prop where
  b : CxB T N sc X
  ok : fl.hot = false → CxOk T k N sc X ∧ Takes X W
  xat : fl.xat = true → ∀ (i : Nat) (x f : Str) (tab : List (Nat × Nat)) (p pos : Pos), nmB N sc i x = true → XatF T f tab → PE X (.Attribute (.Name x p) f pos) (tE T W false (.xat i f tab))
  lamOk : fl.act = true → ∀ n d, fl.lam n d = true → ∃ y, nthX lsX n = some y ∧ chkE N false fl0 d.scope y d.body = true
  lam : fl.act = true → ∀ (n : Nat) (d : LamD) (pos : Pos), fl.lam n d = true → PE X (.Lambda d.params d.body d.scope pos) (tE T W false (.lam n))
  act : fl.act = true → ∀ (i : Nat) (x : Str) (p1 p2 : Pos), nmB N sc i x = true → (∀ n d, fl.lam n d = true → ∃ y, nthX lsX n = some y ∧ ∀ (X' : Cx) (W' : WX), CxOk T k N d.scope X' → Takes X' W' → PE X' d.body (tE T W' false y)) →
    PE X (.Call (.Name x p1) [] [] p2) (tE T W false (.act i lsX))
structure Snd (T : Tab) (k : Nat) (N : List Str) (lsX : Exs) (x : Ex) : Prop where
  pe : ∀ {fl : Fl} {sc : Scope} {X : Cx} {W : WX} {e : Expr} (fr : Bool), Caps T k N lsX fl sc X W → chkE N false fl sc x e = true → needE T k lsX x → (fr = true → frB x = true) → PE X e (tE T W fr x)
  pt : ∀ {fl : Fl} {sc : Scope} {X : Cx} {W : WX} {e : Expr}, Caps T k N lsX fl sc X W → chkE N true fl sc x e = true → tokB x e = true → needE T k lsX x → PT X e (tT T W x)
  pw : ∀ {fl : Fl} {sc : Scope} {X : Cx} {W : WX} {op : BoolOp} {y z : Expr} {zs : List Expr} {pos : Pos}, Caps T k N lsX fl sc X W → chkE N true fl sc x (.BoolOp op (y :: z :: zs) pos) = true → needE T k lsX x → PW X (.BoolOp op (y :: z :: zs) pos) (tT T W x)
structure SndA (T : Tab) (k : Nat) (N : List Str) (lsX : Exs) (xs : Exs) : Prop where
  pa : ∀ {fl : Fl} {sc : Scope} {X : Cx} {W : WX} {ys : List Expr}, Caps T k N lsX fl sc X W → chkEs N fl sc xs ys = true → needEs T k lsX xs → PA X ys (tA T W xs)
  pb : ∀ {fl : Fl} {sc : Scope} {X : Cx} {W : WX} {ys : List Expr}, Caps T k N lsX fl sc X W → chkEs N fl sc xs ys = true → needEs T k lsX xs → nsB ys = true → PA X ys (tB T W xs)
  nth : ∀ {n : Nat} {y : Ex}, nthX xs n = some y → Snd T k N lsX y ∧ (needEs T k lsX xs → needE T k lsX y)
structure SndS (T : Tab) (k : Nat) (N : List Str) (lsX : Exs) (s : Src) : Prop where
  pi : ∀ {fl : Fl} {sc : Scope} {X : Cx} {W : WX} {tg e : Expr} (o : Bool), Caps T k N lsX fl sc X W → chkS N fl sc s tg e = true → needS T k lsX s → PI X tg e (tI T W o s)
theorem chkEs_nil {N : List Str} {fl : Fl} {sc : Scope} {xs : Exs} {ys : List Expr} (h : chkEs N fl sc xs ys = true) : ys = [] → xs = .nil := by
  intro e
  subst e
  cases xs with
  | nil => rfl
  | cons x xs => simp [chkEs] at h
  | star x xs => simp [chkEs] at h
section
variable {X : Cx} {W : WX} {k : Nat} {N : List Str} {lsX : Exs} {fl : Fl} {sc : Scope}
theorem nmB_ok {i : Nat} {x : Str} (h : nmB N sc i x = true) : N[i]? = some x ∧ visB sc x = true ∧ noDbg x = true ∧ noCd x = true := by
  unfold nmB at h
  simp only [Bool.and_eq_true, decide_eq_true_eq] at h
  exact h
theorem Snd.df {x : Ex} (h1 : ∀ fl sc e, chkE N true fl sc x e = chkE N false fl sc x e) (h2 : ∀ e, tokB x e = plainT e) (h3 : ∀ fl sc op ys pos, chkE N true fl sc x (.BoolOp op ys pos) = false)
    (pe : ∀ {fl : Fl} {sc : Scope} {X : Cx} {W : WX} {e : Expr} (fr : Bool), Caps T k N lsX fl sc X W → chkE N false fl sc x e = true → needE T k lsX x → (fr = true → frB x = true) → PE X e (tE T W fr x)) : Snd T k N lsX x :=
  ⟨pe, fun C c t n => pt_zval (pe false C (by rw [← h1]; exact c) n (fun z => by cases z)) (by rw [← h2]; exact t), fun C c n => by rw [h3] at c; cases c⟩
theorem Snd.rd {x : Ex} (h : Snd T k N lsX x) {e : Expr} (C : Caps T k N lsX fl sc X W) (c : chkE N false fl sc x e = true) (n : needE T k lsX x) : PE X e (tR T W x) := by
  cases x with
  | var i =>
    unfold chkE at c
    split at c
    · obtain ⟨q1, q2, q3, q4⟩ := nmB_ok c
      exact pe_zvarR C.b q1 q2 q3 q4
    · cases c
  | _ => exact pe_read (h.pe false C c n (fun z => by cases z)) (fun i z => by cases z)
theorem Snd.o {x : Ex} (h : Snd T k N lsX x) {e : Expr} (o : Bool) (C : Caps T k N lsX fl sc X W) (c : chkE N false fl sc x e = true) (n : needE T k lsX x) : PE X e (tX T W o x) :=
  pe_o (fun _ => h.rd C c n) fun _ => h.pe false C c n (fun z => by cases z)
theorem Snd.e {x : Ex} (h : Snd T k N lsX x) {e : Expr} (C : Caps T k N lsX fl sc X W) (c : chkE N false fl sc x e = true) (n : needE T k lsX x) : PE X e (tE T W false x) := h.pe false C c n (fun z => by cases z)
theorem fr_no {x : Ex} {fr : Bool} (h : fr = true → frB x = true) (hx : frB x = false) : fr = false := by
  cases fr with
  | false => rfl
  | true => rw [h rfl] at hx; cases hx
theorem snd_var (i : Nat) : Snd T k N lsX (.var i) := .df (fun _ _ _ => rfl) (fun _ => rfl) (fun _ _ _ _ _ => rfl) fun fr C c n f => by
  have := fr_no f rfl
  subst this
  unfold chkE at c
  split at c
  · obtain ⟨q1, q2, q3, q4⟩ := nmB_ok c
    exact pe_zvar C.b q1 q2 q3 q4
  · cases c
theorem snd_con (d : D) : Snd T k N lsX (.con d) := .df (fun _ _ _ => rfl) (fun _ => rfl) (fun _ _ _ _ _ => rfl) fun fr C c n f => by
  have := fr_no f rfl
  subst this
  unfold chkE at c
  split at c
  · rename_i cc _ _
    unfold conB at c
    split at c
    · exact pe_zcon pe_non fun _ _ => rfl
    · rw [decide_eq_true_eq] at c; subst c; exact pe_zcon pe_bl fun _ _ => rfl
    · rw [decide_eq_true_eq] at c; subst c; exact pe_zcon pe_int fun _ _ => rfl
    · rw [decide_eq_true_eq] at c; subst c; exact pe_zcon pe_str fun _ _ => rfl
    · cases c
  · cases c
theorem snd_glo (x : Str) (d : D) : Snd T k N lsX (.glo x d) := .df (fun _ _ _ => rfl) (fun _ => rfl) (fun _ _ _ _ _ => rfl) fun fr C c n f => by
  have := fr_no f rfl
  subst this
  unfold chkE at c
  split at c
  · simp only [Bool.and_eq_true, decide_eq_true_eq] at c
    obtain ⟨rfl, c2, c3⟩ := c
    exact pe_zglo C.b c2 n c3
  · cases c
theorem snd_tup {xs : Exs} (h : SndA T k N lsX xs) : Snd T k N lsX (.tup xs) := .df (fun _ _ _ => rfl) (fun _ => rfl) (fun _ _ _ _ _ => rfl) fun fr C c n f => by
  have := fr_no f rfl
  subst this
  unfold chkE at c
  split at c
  · exact pe_ztup (h.pa C c n)
  · cases c
theorem snd_lst {xs : Exs} (h : SndA T k N lsX xs) : Snd T k N lsX (.lst xs) := .df (fun _ _ _ => rfl) (fun _ => rfl) (fun _ _ _ _ _ => rfl) fun fr C c n f => by
  unfold chkE at c
  split at c
  · exact pe_zlst (h.pa C c n)
  · cases c
theorem snd_bin {op : BO} {a b : Ex} (ha : Snd T k N lsX a) (hb : Snd T k N lsX b) : Snd T k N lsX (.bin op a b) := .df (fun _ _ _ => rfl) (fun _ => rfl) (fun _ _ _ _ _ => rfl) fun fr C c n f => by
  unfold chkE at c
  split at c
  · simp only [Bool.and_eq_true, decide_eq_true_eq] at c
    obtain ⟨rfl, c2, c3⟩ := c
    exact pe_zbin C.b (ha.rd C c2 n.1) (hb.rd C c3 n.2)
  · cases c
theorem snd_neg {a : Ex} (ha : Snd T k N lsX a) : Snd T k N lsX (.neg a) := .df (fun _ _ _ => rfl) (fun _ => rfl) (fun _ _ _ _ _ => rfl) fun fr C c n f => by
  have := fr_no f rfl
  subst this
  unfold chkE at c
  split at c
  · exact pe_zneg (ha.e C c n)
  · cases c
theorem snd_cmp {op : CO} {a b : Ex} (ha : Snd T k N lsX a) (hb : Snd T k N lsX b) : Snd T k N lsX (.cmp op a b) where
  pe := fun fr C c n f => by
    have := fr_no f rfl
    subst this
    unfold chkE at c
    split at c
    · simp only [Bool.and_eq_true, decide_eq_true_eq] at c
      obtain ⟨rfl, c2, c3, c4⟩ := c
      exact pe_zcmp C.b (ha.rd C c2 n.1) (hb.rd C c3 n.2) c4
    · cases c
  pt := fun C c t n => by
    unfold chkE at c
    split at c
    · simp only [Bool.and_eq_true, decide_eq_true_eq] at c
      obtain ⟨rfl, c2, c3, c4⟩ := c
      exact pt_zcmp C.b (ha.rd C c2 n.1) (hb.rd C c3 n.2) c4
    · cases c
  pw := fun C c n => by unfold chkE at c; cases c
theorem snd_cmp2 {o1 o2 : CO} {a b d : Ex} (ha : Snd T k N lsX a) (hb : Snd T k N lsX b) (hd : Snd T k N lsX d) : Snd T k N lsX (.cmp2 o1 o2 a b d) where
  pe := fun fr C c n f => by
    have := fr_no f rfl
    subst this
    unfold chkE at c
    split at c
    · simp only [Bool.and_eq_true, decide_eq_true_eq] at c
      obtain ⟨rfl, rfl, c2, c3, c4, c5⟩ := c
      exact pe_zcmp2 C.b (ha.e C c2 n.1) (hb.e C c3 n.2.1) (hd.e C c4 n.2.2) c5
    · cases c
  pt := fun C c t n => by
    unfold chkE at c
    split at c
    · simp only [Bool.and_eq_true, decide_eq_true_eq] at c
      obtain ⟨rfl, rfl, c2, c3, c4, c5⟩ := c
      exact pt_zcmp2 C.b (ha.e C c2 n.1) (hb.e C c3 n.2.1) (hd.e C c4 n.2.2) c5
    · cases c
  pw := fun C c n => by unfold chkE at c; cases c
theorem snd_and {a b : Ex} (ha : Snd T k N lsX a) (hb : Snd T k N lsX b) : Snd T k N lsX (.and a b) := by
  have pw : ∀ {fl : Fl} {sc : Scope} {X : Cx} {W : WX} {e : Expr}, Caps T k N lsX fl sc X W → chkE N true fl sc (.and a b) e = true → needE T k lsX (.and a b) → PW X e (tT T W (.and a b)) := fun {fl sc X W e} C c n => by
    unfold chkE at c
    split at c
    · rename_i x y zs p
      simp only [Bool.and_eq_true, Bool.not_true, Bool.false_or] at c
      obtain ⟨c1, c2, c3⟩ := c
      refine pw_zand (ha.pt C c1 c2 n.1) ?_
      split at c3
      · simp only [Bool.and_eq_true] at c3
        exact pw_zand1 (hb.pt C c3.1 c3.2 n.2)
      · exact hb.pw C c3 n.2
    · cases c
  refine ⟨fun fr C c n f => ?_, fun C c t n => (pw C c n).pt, fun C c n => pw C c n⟩
  have := fr_no f rfl
  subst this
  unfold chkE at c
  split at c
  · simp only [Bool.and_eq_true] at c
    obtain ⟨c1, c2, c3⟩ := c
    refine pe_zand (ha.e C c1 n.1) ?_
    split at c3
    · simp only [Bool.and_eq_true] at c3
      exact pe_zand1 (hb.e C c3.1 n.2)
    · exact hb.e C c3 n.2
  · cases c
theorem snd_or {a b : Ex} (ha : Snd T k N lsX a) (hb : Snd T k N lsX b) : Snd T k N lsX (.or a b) := by
  have pw : ∀ {fl : Fl} {sc : Scope} {X : Cx} {W : WX} {e : Expr}, Caps T k N lsX fl sc X W → chkE N true fl sc (.or a b) e = true → needE T k lsX (.or a b) → PW X e (tT T W (.or a b)) := fun {fl sc X W e} C c n => by
    unfold chkE at c
    split at c
    · rename_i x y zs p
      simp only [Bool.and_eq_true, Bool.not_true, Bool.false_or] at c
      obtain ⟨c1, c2, c3⟩ := c
      refine pw_zor (ha.pt C c1 c2 n.1) ?_
      split at c3
      · simp only [Bool.and_eq_true] at c3
        exact pw_zor1 (hb.pt C c3.1 c3.2 n.2)
      · exact hb.pw C c3 n.2
    · cases c
  refine ⟨fun fr C c n f => ?_, fun C c t n => (pw C c n).pt, fun C c n => pw C c n⟩
  have := fr_no f rfl
  subst this
  unfold chkE at c
  split at c
  · simp only [Bool.and_eq_true] at c
    obtain ⟨c1, c2, c3⟩ := c
    refine pe_zor (ha.e C c1 n.1) ?_
    split at c3
    · simp only [Bool.and_eq_true] at c3
      exact pe_zand1 (hb.e C c3.1 n.2)
    · exact hb.e C c3 n.2
  · cases c
theorem snd_not {a : Ex} (ha : Snd T k N lsX a) : Snd T k N lsX (.not a) where
  pe := fun fr C c n f => by
    have := fr_no f rfl
    subst this
    unfold chkE at c
    split at c
    · simp only [Bool.and_eq_true] at c
      exact pe_znot (ha.e C c.1 n)
    · cases c
  pt := fun C c t n => by
    unfold chkE at c
    split at c
    · simp only [Bool.and_eq_true, Bool.not_true, Bool.false_or] at c
      exact pt_znot (ha.pt C c.1 c.2 n)
    · cases c
  pw := fun C c n => by unfold chkE at c; cases c
theorem snd_ife {d a b : Ex} (hd : Snd T k N lsX d) (ha : Snd T k N lsX a) (hb : Snd T k N lsX b) : Snd T k N lsX (.ife d a b) := .df (fun _ _ _ => rfl) (fun _ => rfl) (fun _ _ _ _ _ => rfl) fun fr C c n f => by
  unfold chkE at c
  split at c
  · simp only [Bool.and_eq_true] at c
    obtain ⟨c1, c2, c3, c4⟩ := c
    have f' : fr = true → frB a = true ∧ frB b = true := fun z => by
      have := f z
      simpa [frB] using this
    exact pe_zife (hd.pt C c1 c2 n.1) (ha.pe fr C c3 n.2.1 fun z => (f' z).1) (hb.pe fr C c4 n.2.2 fun z => (f' z).2)
  · cases c
theorem snd_idx {a i : Ex} (ha : Snd T k N lsX a) (hi : Snd T k N lsX i) : Snd T k N lsX (.idx a i) := .df (fun _ _ _ => rfl) (fun _ => rfl) (fun _ _ _ _ _ => rfl) fun fr C c n f => by
  have := fr_no f rfl
  subst this
  unfold chkE at c
  split at c
  · simp only [Bool.and_eq_true] at c
    obtain ⟨c1, c2, c3⟩ := c
    exact pe_zidx C.b (ha.rd C c1 n.1) (hi.e C c2 n.2) c3
  · cases c
theorem prt_no {a : Ex} (h : isNon a = false) (ρ : Env) (m : Mu) : prt a m (ev a ρ m) = (ev a ρ m).bind fun p => match p.1 with | .int i => .ok (some i, p.2) | _ => .bad := by
  cases a with
  | con d => cases d <;> first | rfl | cases h
  | _ => rfl
theorem isNon_ok {a : Ex} (h : isNon a = true) : a = .con .non := by
  cases a with
  | con d => cases d <;> first | rfl | cases h
  | _ => cases h
theorem snd_slc {a lo hi : Ex} (ha : Snd T k N lsX a) (hl : Snd T k N lsX lo) (hh : Snd T k N lsX hi) : Snd T k N lsX (.slc a lo hi) := .df (fun _ _ _ => rfl) (fun _ => rfl) (fun _ _ _ _ _ => rfl) fun fr C c n f => by
  unfold chkE at c
  split at c
  · simp only [Bool.and_eq_true] at c
    obtain ⟨c1, c2, c3⟩ := c
    refine pe_zslc C.b (ha.rd C c1 n.1) ?_ ?_
    · split at c2
      · rw [isNon_ok c2]
        exact po_znone
      · simp only [Bool.and_eq_true, Bool.not_eq_true'] at c2
        exact po_zsome (hl.e C c2.2 n.2.1) (prt_no c2.1)
    · split at c3
      · rw [isNon_ok c3]
        exact po_znone
      · simp only [Bool.and_eq_true, Bool.not_eq_true'] at c3
        exact po_zsome (hh.e C c3.2 n.2.2) (prt_no c3.1)
  · cases c
theorem snd_att {a : Ex} {f : Str} {tab : List (Nat × Nat)} (ha : Snd T k N lsX a) : Snd T k N lsX (.att a f tab) := .df (fun _ _ _ => rfl) (fun _ => rfl) (fun _ _ _ _ _ => rfl) fun fr C c n f => by
  have := fr_no f rfl
  subst this
  unfold chkE at c
  split at c
  · simp only [Bool.and_eq_true, decide_eq_true_eq] at c
    obtain ⟨rfl, c2, c3⟩ := c
    exact pe_zatt C.b (ha.e C c2 n.1) c3 n.2
  · cases c
theorem snd_xat {i : Nat} {f : Str} {tab : List (Nat × Nat)} : Snd T k N lsX (.xat i f tab) := .df (fun _ _ _ => rfl) (fun _ => rfl) (fun _ _ _ _ _ => rfl) fun fr C c n f => by
  have := fr_no f rfl
  subst this
  unfold chkE at c
  split at c
  · simp only [Bool.and_eq_true, decide_eq_true_eq] at c
    obtain ⟨c1, rfl, c2⟩ := c
    exact C.xat c1 _ _ _ _ _ _ c2 n
  · cases c
theorem snd_call {x : Str} {g : Fn} {xs : Exs} (h : SndA T k N lsX xs) : Snd T k N lsX (.call x g xs) := .df (fun _ _ _ => rfl) (fun _ => rfl) (fun _ _ _ _ _ => rfl) fun fr C c n f => by
  have := fr_no f rfl
  subst this
  unfold chkE at c
  split at c
  · rename_i y p ys pos
    simp only [Bool.and_eq_true, decide_eq_true_eq, Bool.not_eq_true'] at c
    obtain ⟨c1, rfl, c3, c4, c5, c6⟩ := c
    obtain ⟨C1, tk⟩ := C.ok c1
    cases ys with
    | nil =>
      have := chkEs_nil c6 rfl
      subst this
      exact pe_zcall0 C1 tk n.1 c3 c4
    | cons y ys => exact pe_zcall C1 tk (h.pa C c6 n.2) n.1 c3 c4 c5
  · cases c
theorem snd_make {x : Str} {cc : Nat} {g : Fn} {xs : Exs} (h : SndA T k N lsX xs) : Snd T k N lsX (.make x cc g xs) := .df (fun _ _ _ => rfl) (fun _ => rfl) (fun _ _ _ _ _ => rfl) fun fr C c n f => by
  have := fr_no f rfl
  subst this
  unfold chkE at c
  split at c
  · simp only [Bool.and_eq_true, decide_eq_true_eq, Bool.not_eq_true'] at c
    obtain ⟨c1, rfl, c3, c4, c5, c6⟩ := c
    obtain ⟨C1, tk⟩ := C.ok c1
    exact pe_zmake C1 tk (h.pa C c6 n.2) n.1 c3 c4 c5 (chkEs_nil c6)
  · cases c
theorem snd_meth {o : Ex} {m : Str} {tab : List (Nat × Fn)} {xs : Exs} (ho : Snd T k N lsX o) (h : SndA T k N lsX xs) : Snd T k N lsX (.meth o m tab xs) := .df (fun _ _ _ => rfl) (fun _ => rfl) (fun _ _ _ _ _ => rfl) fun fr C c n f => by
  have := fr_no f rfl
  subst this
  unfold chkE at c
  split at c
  · simp only [Bool.and_eq_true, decide_eq_true_eq, Bool.not_eq_true'] at c
    obtain ⟨c1, rfl, c3, c4, c5, c6, c7, c8⟩ := c
    obtain ⟨C1, tk⟩ := C.ok c1
    exact pe_zmeth C1 tk (ho.e C c7 n.1) (h.pa C c8 n.2.2) n.2.1 c6 c3 c4 c5 (chkEs_nil c8)
  · cases c
theorem snd_dget {d i x : Ex} (hd : Snd T k N lsX d) (hi : Snd T k N lsX i) (hx : Snd T k N lsX x) : Snd T k N lsX (.dget d i x) := .df (fun _ _ _ => rfl) (fun _ => rfl) (fun _ _ _ _ _ => rfl) fun fr C c n f => by
  have := fr_no f rfl
  subst this
  unfold chkE at c
  split at c
  · simp only [Bool.and_eq_true, decide_eq_true_eq, Bool.not_eq_true'] at c
    obtain ⟨rfl, c2, c3, c4, c5, c6, c7, c8⟩ := c
    exact pe_zdget C.b (hd.rd C c6 n.1) (hi.e C c7 n.2.1) (hx.e C c8 n.2.2) c2 c3 c4 c5
  · cases c
theorem snd_isi {a : Ex} {ts : List Ty} {w : Bool} (ha : Snd T k N lsX a) : Snd T k N lsX (.isi a ts w) := .df (fun _ _ _ => rfl) (fun _ => rfl) (fun _ _ _ _ _ => rfl) fun fr C c n f => by
  have := fr_no f rfl
  subst this
  unfold chkE at c
  split at c
  · simp only [Bool.and_eq_true, decide_eq_true_eq, Bool.not_eq_true'] at c
    obtain ⟨rfl, c2, c3, c4, c5⟩ := c
    split at c5
    · split at c5
      · simp only [Bool.and_eq_true, decide_eq_true_eq] at c5
        obtain ⟨rfl, c6⟩ := c5
        exact pe_zisi1 C.b (ha.e C c4 n.1) (n.2.2 _ List.mem_cons_self) n.2.1 c2 c6 c3
      · cases c5
    · simp only [Bool.and_eq_true, decide_eq_true_eq, Bool.not_eq_true', List.isEmpty_eq_false_iff] at c5
      obtain ⟨c6, c7, c8⟩ := c5
      exact pe_zisiT C.b (ha.e C c4 n.1) n.2.2 n.2.1 c2 c6 c7 c8 c3
    · cases c5
  · cases c
theorem snd_eqi {neg : Bool} {tab : List (Nat × Fn)} {a b : Ex} (ha : Snd T k N lsX a) (hb : Snd T k N lsX b) : Snd T k N lsX (.eqi neg tab a b) where
  pe := fun fr C c n f => by
    have := fr_no f rfl
    subst this
    unfold chkE at c
    split at c
    · simp only [Bool.and_eq_true, decide_eq_true_eq, Bool.not_eq_true'] at c
      obtain ⟨c1, rfl, c2, c3, c4⟩ := c
      obtain ⟨C1, tk⟩ := C.ok c1
      exact pe_zeqi C1 tk (ha.e C c2 n.2.1) (hb.e C c3 n.2.2) c4 n.1
    · cases c
  pt := fun C c t n => by
    unfold chkE at c
    split at c
    · simp only [Bool.and_eq_true, decide_eq_true_eq, Bool.not_eq_true'] at c
      obtain ⟨c1, rfl, c2, c3, c4⟩ := c
      obtain ⟨C1, tk⟩ := C.ok c1
      exact pt_zeqi C1 tk (ha.e C c2 n.2.1) (hb.e C c3 n.2.2) c4 n.1
    · cases c
  pw := fun C c n => by unfold chkE at c; cases c
theorem snd_tru {tab : List (Nat × Fn)} {a : Ex} (ha : Snd T k N lsX a) : Snd T k N lsX (.tru tab a) where
  pe := fun fr C c n f => by
    have := fr_no f rfl
    subst this
    unfold chkE at c
    split at c
    · simp only [Bool.and_eq_true, decide_eq_true_eq, Bool.not_eq_true'] at c
      obtain ⟨c1, rfl, c2, c3, c4⟩ := c
      obtain ⟨C1, tk⟩ := C.ok c1
      exact pe_zbool C1 tk (ha.e C c4 n.2.2) n.1 n.2.1 c2 c3
    · cases c
  pt := fun C c t n => by
    unfold chkE at c
    simp only [Bool.and_eq_true, Bool.not_eq_true'] at c
    obtain ⟨c0, c1, c2⟩ := c
    obtain ⟨C1, tk⟩ := C.ok c1
    exact pt_ztru C1 tk (ha.e C c2 n.2.2) c0 n.1
  pw := fun C c n => by unfold chkE at c; cases c
theorem snd_lam {i : Nat} : Snd T k N lsX (.lam i) := .df (fun _ _ _ => rfl) (fun _ => rfl) (fun _ _ _ _ _ => rfl) fun fr C c n f => by
  have := fr_no f rfl
  subst this
  unfold chkE at c
  split at c
  · simp only [Bool.and_eq_true] at c
    exact C.lam c.1 _ _ _ c.2
  · cases c
theorem snd_act {i : Nat} {ls : Exs} (h : SndA T k N lsX ls) : Snd T k N lsX (.act i ls) := .df (fun _ _ _ => rfl) (fun _ => rfl) (fun _ _ _ _ _ => rfl) fun fr C c n f => by
  have := fr_no f rfl
  subst this
  unfold chkE at c
  split at c
  · simp only [Bool.and_eq_true] at c
    obtain ⟨n1, n2⟩ := n
    subst n1
    refine C.act c.1 _ _ _ _ c.2 fun j d hj => ?_
    obtain ⟨y, hy, hc⟩ := C.lamOk c.1 j d hj
    obtain ⟨q1, q2⟩ := h.nth hy
    exact ⟨y, hy, fun X' W' C' tk' => q1.e (fl := fl0) ⟨C'.toCxB, fun _ => ⟨C', tk'⟩, (fun z => by cases z), (fun z => by cases z), (fun z => by cases z), (fun z => by cases z)⟩ hc (q2 n2)⟩
  · cases c
theorem biB_ok {b : Bi} (h : biB b = true) : biV b ≠ .none := fun z => by
  unfold biB at h
  split at h <;> first
    | (cases h; done)
    | (rw [z] at h; cases h)
theorem snd_bi {b : Bi} {xs : Exs} (h : SndA T k N lsX xs) : Snd T k N lsX (.bi b xs) := .df (fun fl sc e => by unfold chkE; rfl) (fun _ => rfl) (fun _ _ _ _ _ => rfl) fun fr C c n f => by
  obtain ⟨n1, ⟨n2, n3⟩, n4⟩ := n
  unfold chkE at c
  split at c
  · rename_i g p y ys pos
    simp only [Bool.and_eq_true, Bool.not_eq_true'] at c
    obtain ⟨c1, c2⟩ := c
    obtain ⟨C1, tk⟩ := C.ok c1
    split at c2
    · split at c2
      · simp only [Bool.and_eq_true, decide_eq_true_eq, Bool.not_eq_true'] at c2
        obtain ⟨rfl, rfl, c3, c4, c5, c6⟩ := c2
        obtain ⟨q1, q2⟩ := h.nth (n := 0) rfl
        exact pe_zsset C1 (q1.rd C c6 (q2 n4)) n1 c3 n2 c4 c5
      · cases c2
    · split at c2
      · simp only [Bool.and_eq_true, decide_eq_true_eq, Bool.not_eq_true'] at c2
        obtain ⟨rfl, rfl, c3, c4, c5, c6, c7, c8, c9, c10⟩ := c2
        obtain ⟨q1, r1⟩ := h.nth (n := 0) rfl
        obtain ⟨q2, r2⟩ := h.nth (n := 1) rfl
        obtain ⟨q3, r3⟩ := h.nth (n := 2) rfl
        exact pe_zzip3 C1 (q1.rd C c8 (r1 n4)) (q2.rd C c9 (r2 n4)) (q3.rd C c10 (r3 n4)) n1 c3 n3 c4 c5 c6 c7
      · cases c2
    · simp only [Bool.and_eq_true, decide_eq_true_eq] at c2
      obtain ⟨c3, rfl, c4, c5, c6⟩ := c2
      exact pe_zbi C1 (biB_ok c3) (h.pb C c6 n4 c5) n1 c4 c5
  · cases c
theorem snda_nil : SndA T k N lsX .nil where
  pa := fun {fl sc X W ys} C c n => by
    unfold chkEs at c
    rw [List.isEmpty_iff] at c
    subst c
    exact pa_znil
  pb := fun {fl sc X W ys} C c n _ => by
    unfold chkEs at c
    rw [List.isEmpty_iff] at c
    subst c
    exact pb_znil
  nth := fun h => by simp [nthX] at h
theorem snda_cons {x : Ex} {xs : Exs} (hx : Snd T k N lsX x) (h : SndA T k N lsX xs) : SndA T k N lsX (.cons x xs) where
  pa := fun {fl sc X W ys} C c n => by
    unfold chkEs at c
    split at c
    · simp only [Bool.and_eq_true, Bool.not_eq_true'] at c
      exact pa_zcons (hx.e C c.2.1 n.1) (h.pa C c.2.2 n.2) c.1
    · cases c
  pb := fun {fl sc X W ys} C c n ns => by
    unfold chkEs at c
    split at c
    · simp only [Bool.and_eq_true, Bool.not_eq_true'] at c
      unfold nsB at ns
      simp only [List.all_cons, Bool.and_eq_true, Bool.not_eq_true'] at ns
      exact pb_zcons (hx.rd C c.2.1 n.1) (h.pb C c.2.2 n.2 ns.2) c.1
    · cases c
  nth := fun {i y} hy => by
    cases i with
    | zero => cases hy; exact ⟨hx, fun n => n.1⟩
    | succ i =>
      obtain ⟨q1, q2⟩ := h.nth (n := i) hy
      exact ⟨q1, fun n => q2 n.2⟩
theorem snda_star {x : Ex} {xs : Exs} (hx : Snd T k N lsX x) (h : SndA T k N lsX xs) : SndA T k N lsX (.star x xs) where
  pa := fun {fl sc X W ys} C c n => by
    unfold chkEs at c
    split at c
    · simp only [Bool.and_eq_true] at c
      exact pa_zstar C.b (hx.rd C c.1 n.1) (h.pa C c.2 n.2)
    · cases c
  pb := fun {fl sc X W ys} C c n ns => by
    unfold chkEs at c
    split at c
    · unfold nsB at ns
      simp [isStar] at ns
    · cases c
  nth := fun h => by simp [nthX] at h
theorem isTupE_ok {e : Expr} (h : isTupE e = true) : ∃ xs n p, e = .Tuple xs n p := by
  cases e <;> first | exact ⟨_, _, _, rfl⟩ | cases h
theorem snds_seq {x : Ex} (h : Snd T k N lsX x) : SndS T k N lsX (.seq x) := ⟨fun {fl sc X W tg e} o C c n => by
  unfold chkS at c
  exact pi_zseq C.b (h.o o C c n)⟩
theorem snds_rng1 {a : Ex} (h : Snd T k N lsX a) : SndS T k N lsX (.rng1 a) := ⟨fun {fl sc X W tg e} o C c n => by
  unfold chkS at c
  split at c
  · simp only [Bool.and_eq_true, decide_eq_true_eq, Bool.not_eq_true'] at c
    obtain ⟨rfl, c2, c3, c4⟩ := c
    exact pi_zrng1 C.b (h.e C c4 n.1) c3 n.2 c2
  · cases c⟩
theorem snds_rng2 {a b : Ex} (h : Snd T k N lsX a) (h' : Snd T k N lsX b) : SndS T k N lsX (.rng2 a b) := ⟨fun {fl sc X W tg e} o C c n => by
  unfold chkS at c
  split at c
  · simp only [Bool.and_eq_true, decide_eq_true_eq, Bool.not_eq_true'] at c
    obtain ⟨rfl, c2, c3, c4, c5, c6⟩ := c
    exact pi_zrng2 C.b (h.e C c5 n.1) (h'.e C c6 n.2.1) c3 c4 n.2.2 c2
  · cases c⟩
theorem snds_rng3 {a b : Ex} {i : Int} (h : Snd T k N lsX a) (h' : Snd T k N lsX b) : SndS T k N lsX (.rng3 a b i) := ⟨fun {fl sc X W tg e} o C c n => by
  unfold chkS at c
  split at c
  · simp only [Bool.and_eq_true, decide_eq_true_eq, Bool.not_eq_true'] at c
    obtain ⟨rfl, rfl, c2, c3, c4, c5, c6⟩ := c
    exact pi_zrng3 C.b (h.e C c5 n.1) (h'.e C c6 n.2.1) pe_int c3 c4 rfl n.2.2 c2
  · cases c⟩
theorem snds_enu {a : Ex} (h : Snd T k N lsX a) : SndS T k N lsX (.enu a) := ⟨fun {fl sc X W tg e} o C c n => by
  unfold chkS at c
  split at c
  · simp only [Bool.and_eq_true, decide_eq_true_eq, Bool.not_eq_true'] at c
    obtain ⟨rfl, ct, c2, c3, c4⟩ := c
    obtain ⟨_, _, _, rfl⟩ := isTupE_ok ct
    exact pi_zenu C.b (h.o o C c4 n.1) c3 n.2 c2
  · cases c⟩
theorem snds_zip {a b : Ex} (h : Snd T k N lsX a) (h' : Snd T k N lsX b) : SndS T k N lsX (.zip a b) := ⟨fun {fl sc X W tg e} o C c n => by
  unfold chkS at c
  split at c
  · simp only [Bool.and_eq_true, decide_eq_true_eq, Bool.not_eq_true'] at c
    obtain ⟨rfl, ct, c2, c3, c4, c5, c6⟩ := c
    obtain ⟨_, _, _, rfl⟩ := isTupE_ok ct
    exact pi_zzip C.b (h.o o C c5 n.1) (h'.o o C c6 n.2.1) c3 c4 n.2.2 c2
  · cases c⟩
/-! ### targets, blocks -/
mutual
theorem pat_ok (C : CxB T N sc X) (hc : X.calm = true) {fnB : Str → Bool} (hf : ∀ x, fnB x = true → X.fn x = true ∨ sc.names.lookup x = some .local) : ∀ (p : Pat) (e : Expr), patB N sc fnB p e = true → PG X e (gP T p)
  | .name i, e, h => by
    unfold patB at h
    split at h
    · simp only [Bool.and_eq_true, decide_eq_true_eq] at h
      exact pg_zname C h.1 h.2.1 (hf _ h.2.2)
    · cases h
  | .tup ps, e, h => by
    unfold patB at h
    split at h
    · simp only [Bool.and_eq_true, decide_eq_true_eq] at h
      exact pg_ztup C hc (pats_ok C hc hf ps _ h.2.2) h.1 h.2.1
    · cases h
theorem pats_ok (C : CxB T N sc X) (hc : X.calm = true) {fnB : Str → Bool} (hf : ∀ x, fnB x = true → X.fn x = true ∨ sc.names.lookup x = some .local) : ∀ (ps : Pats) (es : List Expr), patBs N sc fnB ps es = true → PGs X es (gPs T ps)
  | .nil, es, h => by
    unfold patBs at h
    rw [List.isEmpty_iff] at h
    subst h
    exact pgs_znil
  | .cons p ps, es, h => by
    unfold patBs at h
    split at h
    · simp only [Bool.and_eq_true, Bool.not_eq_true'] at h
      exact pgs_zcons (pat_ok C hc hf p _ h.1) (pats_ok C hc hf ps _ h.2.2) h.2.1
    · cases h
end
theorem own_map : ∀ {is : List Nat}, (∀ i ∈ is, i < N.length) → (ownOf N is).map (·.2) = is ∧ ∀ p ∈ ownOf N is, N[p.2]? = some p.1
  | [], _ => ⟨rfl, fun p hp => by cases hp⟩
  | i :: is, h => by
    obtain ⟨q1, q2⟩ := own_map (is := is) fun j hj => h j (List.mem_cons_of_mem _ hj)
    have hi := List.getElem?_eq_getElem (h i List.mem_cons_self)
    unfold ownOf
    rw [hi]
    refine ⟨by rw [List.map_cons, q1], fun p hp => ?_⟩
    rcases List.mem_cons.mp hp with z | z
    · subst z; exact hi
    · exact q2 p z
theorem blkB_ok {scope : Scope} {is : List Nat} (h : blkB N sc scope is = true) : ∃ own : List (Str × Nat), own.map (·.2) = is ∧ BlkOk N sc scope own := by
  unfold blkB at h
  simp only [Bool.and_eq_true, decide_eq_true_eq, List.all_eq_true, Bool.or_eq_true, Bool.not_eq_true', decide_eq_false_iff_not] at h
  obtain ⟨h1, h2, h3, h4, h5⟩ := h
  obtain ⟨q1, q2⟩ := own_map h3
  refine ⟨ownOf N is, q1, h1, h2, q2, fun y hy e => ?_, fun y hy e => ?_⟩
  · rcases h4 y hy with z | z
    · exact absurd e z
    · exact z
  · rcases h5 y hy with z | z
    · exact absurd e (by
        intro w
        simp only [Bool.or_eq_false_iff, decide_eq_false_iff_not] at z
        exact w.elim z.1 z.2)
    · rcases z with z | z
      · left
        simpa using z
      · right
        simpa using z
theorem caps_blk (C : CxOk T k N sc X) {scope : Scope} (s : Shared) (H : Hp) (Ca : Addr) (cl : List (Str × Addr)) (fp : List Addr) : Caps T k N lsX fl0 (relS scope sc) (X.blk s H scope (compEnvC scope cl Ca X.env) fp) WF :=
  ⟨(blk_cx C s H Ca cl fp).toCxB, fun _ => ⟨blk_cx C s H Ca cl fp, takesF⟩, (fun z => by cases z), (fun z => by cases z), (fun z => by cases z), (fun z => by cases z)⟩
theorem lch_ok {p : Pat} {src : Src} {cx x : Ex} (hs : SndS T k N lsX src) (hc : Snd T k N lsX cx) (hx : Snd T k N lsX x) (C : Caps T k N lsX fl sc X W) {tg iter elt : Expr} {ifs : List Expr} {scope : Scope} (h0 : fl.hot = false)
    (c1 : noSet iter = true) (c2 : chkS N fl sc src tg iter = true) (c3 : patB N (relS scope sc) (blkFn scope sc) p tg = true) (c4 : blkB N sc scope (pnames p) = true)
    (c5 : (match ifs with
      | [] => isTt cx
      | [i] => chkE N true fl0 (relS scope sc) cx i && tokB cx i
      | _ => false) = true) (c6 : chkE N false fl0 (relS scope sc) x elt = true) (n : needS T k lsX src ∧ needE T k lsX cx ∧ needE T k lsX x) : LcH T W X elt tg iter ifs scope p src cx x := by
  obtain ⟨C1, tk⟩ := C.ok h0
  obtain ⟨own, o1, o2⟩ := blkB_ok c4
  refine ⟨c1, hs.pi true C c2 n.1, ⟨own, o1, by rw [C.b.hN, C.b.hsc]; exact o2⟩, fun s H Ca cl fp => ?_, fun s H Ca cl fp => ?_, fun s H Ca cl fp => hx.e (caps_blk C1 s H Ca cl fp) c6 n.2.2⟩
  · refine pat_ok (blk_cx C1 s H Ca cl fp).toCxB C1.calm (fun y hy => ?_) p tg c3
    unfold blkFn at hy
    simp only [Bool.or_eq_true, decide_eq_true_eq] at hy
    exact hy
  · split at c5
    · unfold isTt at c5
      split at c5
      · exact pts_znil
      · cases c5
    · simp only [Bool.and_eq_true] at c5
      exact pts_zone (hc.pt (caps_blk C1 s H Ca cl fp) c5.1 c5.2 n.2.1)
    · cases c5
theorem snd_lc {p : Pat} {src : Src} {cx x : Ex} (hs : SndS T k N lsX src) (hc : Snd T k N lsX cx) (hx : Snd T k N lsX x) : Snd T k N lsX (.lc p src cx x) := .df (fun _ _ _ => rfl) (fun _ => rfl) (fun _ _ _ _ _ => rfl) fun fr C c n f => by
  unfold chkE at c
  split at c
  · simp only [Bool.and_eq_true, Bool.not_eq_true'] at c
    obtain ⟨c0, c1, c2, c3, c4, c5, c6⟩ := c
    exact pe_zlc (C.ok c0).1 (lch_ok hs hc hx C c0 c1 c2 c3 c4 c5 c6 n)
  · cases c
mutual
theorem snd : ∀ x : Ex, Snd T k N lsX x
  | .var i => snd_var i
  | .con d => snd_con d
  | .glo x d => snd_glo x d
  | .tup xs => snd_tup (snda xs)
  | .lst xs => snd_lst (snda xs)
  | .bin op a b => snd_bin (snd a) (snd b)
  | .neg a => snd_neg (snd a)
  | .cmp op a b => snd_cmp (snd a) (snd b)
  | .cmp2 o1 o2 a b c => snd_cmp2 (snd a) (snd b) (snd c)
  | .and a b => snd_and (snd a) (snd b)
  | .or a b => snd_or (snd a) (snd b)
  | .not a => snd_not (snd a)
  | .ife c a b => snd_ife (snd c) (snd a) (snd b)
  | .idx a i => snd_idx (snd a) (snd i)
  | .slc a lo hi => snd_slc (snd a) (snd lo) (snd hi)
  | .att a f tab => snd_att (snd a)
  | .xat i f tab => snd_xat
  | .call x f args => snd_call (snda args)
  | .make x c f args => snd_make (snda args)
  | .meth o m tab args => snd_meth (snd o) (snda args)
  | .bi b args => snd_bi (snda args)
  | .dget d i x => snd_dget (snd d) (snd i) (snd x)
  | .isi a ts w => snd_isi (snd a)
  | .lc p src c e => snd_lc (snds src) (snd c) (snd e)
  | .act i ls => snd_act (snda ls)
  | .lam n => snd_lam
  | .tru tab a => snd_tru (snd a)
  | .eqi neg tab a b => snd_eqi (snd a) (snd b)
theorem snda : ∀ xs : Exs, SndA T k N lsX xs
  | .nil => snda_nil
  | .cons x xs => snda_cons (snd x) (snda xs)
  | .star x xs => snda_star (snd x) (snda xs)
theorem snds : ∀ s : Src, SndS T k N lsX s
  | .seq x => snds_seq (snd x)
  | .rng1 a => snds_rng1 (snd a)
  | .rng2 a b => snds_rng2 (snd a) (snd b)
  | .rng3 a b c => snds_rng3 (snd a) (snd b)
  | .enu x => snds_enu (snd x)
  | .zip a b => snds_zip (snd a) (snd b)
end
end
end Z
end
section
set_option Elab.async false
set_option linter.all false
set_option maxRecDepth 100000
set_option maxHeartbeats 8000000
set_option autoImplicit false
/-! Z: what passes the check is what the machine does: statements. -/
namespace Z
open PySem PySem.Spec PyProof.Rows L2
variable {T : Tab}
def flH (xb : Bool) : Fl := ⟨true, xb, false, fun _ _ => false⟩
def allFn : Str → Bool := fun _ => true
mutual
/-- a handler: tests and returns -/
def chkH (N : List Str) (sc : Scope) (xb : Bool) : Sm → Stmt → Bool
  | .ifs c a b, s => match s with
    | .If d x y _ => chkE N true (flH xb) sc c d && (tokB c d && (chkHs N sc xb a x && chkHs N sc xb b y))
    | _ => false
  | .ret e, s => match s with
    | .Return (some y) _ => chkE N false (flH xb) sc e y
    | _ => false
  | .retN, s => match s with
    | .Return none _ => true
    | _ => false
  | .pass, s => match s with
    | .Pass _ => true
    | _ => false
  | .cont, s => match s with
    | .Continue _ => true
    | _ => false
  | _, _ => false
def chkHs (N : List Str) (sc : Scope) (xb : Bool) : Sms → List Stmt → Bool
  | .nil, ys => ys.isEmpty
  | .cons t ts, ys => match ys with
    | y :: ys => chkH N sc xb t y && chkHs N sc xb ts ys
    | [] => false
end
mutual
def needH (T : Tab) (k : Nat) (lsX : Exs) : Sm → Prop
  | .ifs c a b => needE T k lsX c ∧ needHs T k lsX a ∧ needHs T k lsX b
  | .ret e => needE T k lsX e
  | _ => True
def needHs (T : Tab) (k : Nat) (lsX : Exs) : Sms → Prop
  | .nil => True
  | .cons t ts => needH T k lsX t ∧ needHs T k lsX ts
end
def isLc : Ex → Bool
  | .lc _ _ _ _ => true
  | _ => false
def asB (op : BO) : Bool := match op with
  | .add => true
  | .sub => true
  | _ => false
mutual
def chkT (N : List Str) (fl : Fl) (sc : Scope) : Sm → Stmt → Bool
  | .asg i e, s => match s with
    | .Assign [.Name x _] y _ => decide (N[i]? = some x) && (locB sc x && (chkE N false fl sc e y && (noComp y || (isLc e && decide (sc.kind = .function)))))
    | _ => false
  | .asgF i e, s => match s with
    | .Assign [.Name x _] y _ => decide (N[i]? = some x) && (locB sc x && (frB e && (chkE N false fl sc e y && (noComp y || (isLc e && decide (sc.kind = .function))))))
    | _ => false
  | .asgT p e, s => match s with
    | .Assign [tg] y _ => noComp y && ((noTup y || cellT sc tg) && (!isStar tg && (patB N sc allFn p tg && chkE N false fl sc e y)))
    | _ => false
  | .par i j fi fj a b, s => match s with
    | .Assign [.Tuple [.Name x px, .Name y py] _ _] (.Tuple [u, v] _ _) _ => decide (sc.kind = .function) && (decide (N[i]? = some x) && (decide (N[j]? = some y) && (decide (i ≠ j) && (decide (sc.names.lookup x = some .local) && (decide (sc.names.lookup y = some .local) && (decide (x ≠ y) &&
      ((py.line == px.line) && (!isStar u && (!isStar v && (!([u, v].all (foldedForSure 8)) && (!([u, v].all (constantsAlone 8)) && ((!fi || frB a) && ((!fj || frB b) && (chkE N false fl sc a u && chkE N false fl sc b v))))))))))))))
    | _ => false
  | .aug i op e, s => match s with
    | .AugAssign (.Name x _) o y _ => decide (N[i]? = some x) && (locB sc x && (decide (o = boE op) && (asB op && chkE N false fl sc e y)))
    | _ => false
  | .ext _ _, s => false
  | .app i e, s => match s with
    | .Expr (.Call (.Attribute (.Name x _) g apos) [y] [] cpos) _ => decide (g = "append") && (nmB N sc i x && (!isStar y && ((apos.endLine == cpos.line) && chkE N false fl sc e y)))
    | _ => false
  | .setI i q e, s => match s with
    | .Assign [.Subscript (.Name x _) z _] y _ => nmB N sc i x && (noComp y && (noSlice z && (chkE N false fl sc e y && chkE N false fl sc q z)))
    | _ => false
  | .augI i q op e, s => match s with
    | .AugAssign (.Subscript (.Name x _) z _) o y _ => nmB N sc i x && (decide (o = boE op) && (noSlice z && (asB op && (chkE N false fl sc e y && chkE N false fl sc q z))))
    | _ => false
  | .setA f e, s => match s with
    | .Assign [.Attribute (.Name x _) g _] y _ => decide (g = f) && (nmB N sc 0 x && (noComp y && chkE N false fl sc e y))
    | _ => false
  | .expr e, s => match s with
    | .Expr y _ => noComp y && chkE N false fl sc e y
    | _ => false
  | .ifs c a b, s => match s with
    | .If d x y _ => chkE N true fl sc c d && (tokB c d && (chkTs N fl sc a x && chkTs N fl sc b y))
    | _ => false
  | .fors p src body _, s => match s with
    | .For tg iter b [] _ => noSet iter && (chkS N fl sc src tg iter && (patB N sc allFn p tg && chkTs N fl sc body b))
    | _ => false
  | .whl c body _, s => match s with
    | .While d b [] _ => chkE N true fl sc c d && (tokB c d && chkTs N fl sc body b)
    | _ => false
  | .ret e, s => match s with
    | .Return (some y) _ => chkE N false fl sc e y
    | _ => false
  | .retN, s => match s with
    | .Return none _ => true
    | _ => false
  | .raise x _ n args, s => match s with
    | .Raise (some (.Call (.Name y _) (z :: zs) [] _)) none _ => decide (y = x) && (glB sc x && (noDbg x && (nsB (z :: zs) && (decide (n ≠ 0) && chkEs N fl sc args (z :: zs)))))
    | _ => false
  | .newr i e, s => match s with
    | .Assign [.Name x _] y _ => decide (N[i]? = some x) && (locB sc x && (frB e && (noComp y && chkE N false fl sc e y)))
    | _ => false
  | .tryx body x _ i h, s => match s with
    | .Try b [.ExceptHandler (some (.Name y _)) (some n) (b₀ :: suite) _] [] [] _ => decide (y = x) && (glB sc x && (noDbg x && (decide (N[i]? = some n) && (decide (sc.names.lookup n = some .local) && (chkTs N fl sc body b && chkHs N sc true h (b₀ :: suite))))))
    | _ => false
  | .tryo body x _ h, s => match s with
    | .Try b [.ExceptHandler (some (.Name y _)) none (b₀ :: suite) _] [] [] _ => decide (y = x) && (glB sc x && (noDbg x && (chkTs N fl sc body b && chkHs N sc false h (b₀ :: suite))))
    | _ => false
  | .pass, s => match s with
    | .Pass _ => true
    | .Expr (.Constant (.str _) _ _) _ => true
    | _ => false
  | .cont, s => match s with
    | .Continue _ => true
    | _ => false
  | .frz _, s => false
def chkTs (N : List Str) (fl : Fl) (sc : Scope) : Sms → List Stmt → Bool
  | .nil, ys => ys.isEmpty
  | .cons t ts, ys => match t with
    | .frz _ => chkTs N fl sc ts ys
    | t => match ys with
      | y :: ys => chkT N fl sc t y && chkTs N fl sc ts ys
      | [] => false
end
mutual
def needT (T : Tab) (k : Nat) (lsX : Exs) : Sm → Prop
  | .asg _ e => needE T k lsX e
  | .asgF _ e => needE T k lsX e
  | .asgT _ e => needE T k lsX e
  | .par _ _ _ _ a b => needE T k lsX a ∧ needE T k lsX b
  | .aug _ _ e => needE T k lsX e
  | .ext _ _ => True
  | .app _ e => needE T k lsX e
  | .setI _ q e => needE T k lsX q ∧ needE T k lsX e
  | .augI _ q _ e => needE T k lsX q ∧ needE T k lsX e
  | .setA f e => FillF T f ∧ needE T k lsX e
  | .expr e => needE T k lsX e
  | .ifs c a b => needE T k lsX c ∧ needTs T k lsX a ∧ needTs T k lsX b
  | .fors _ src body _ => needS T k lsX src ∧ needTs T k lsX body
  | .whl c body _ => needE T k lsX c ∧ needTs T k lsX body
  | .ret e => needE T k lsX e
  | .retN => True
  | .raise x c n args => RaiF T k x c n ∧ needEs T k lsX args
  | .newr _ e => needE T k lsX e
  | .tryx body x cs _ h => (∀ a c d, ¬ T.xo a c d) ∧ ExmF T x cs ∧ needTs T k lsX body ∧ ∀ a cls d, needHs (T.hot a cls d) k lsX h
  | .tryo body x cs h => ExmF T x cs ∧ needTs T k lsX body ∧ needHs T k lsX h
  | .pass => True
  | .cont => True
  | .frz _ => True
def needTs (T : Tab) (k : Nat) (lsX : Exs) : Sms → Prop
  | .nil => True
  | .cons t ts => needT T k lsX t ∧ needTs T k lsX ts
end
section
variable {X : Cx} {W : WX} {k : Nat} {N : List Str} {lsX : Exs} {fl : Fl} {sc : Scope} {xb : Bool}
mutual
theorem sndH (C : Caps T k N lsX (flH xb) sc X W) : ∀ (t : Sm) (y : Stmt), chkH N sc xb t y = true → needH T k lsX t → PS X y (tS T W t)
  | .ifs c a b, y, h, n => by
    unfold chkH at h
    split at h
    · simp only [Bool.and_eq_true] at h
      exact ps_zif ((snd c).pt C h.1 h.2.1 n.1) (sndHs C a _ h.2.2.1 n.2.1) (sndHs C b _ h.2.2.2 n.2.2)
    · cases h
  | .ret e, y, h, n => by
    unfold chkH at h
    split at h
    · exact ps_zret ((snd e).e C h n)
    · cases h
  | .retN, y, h, n => by
    unfold chkH at h
    split at h
    · exact ps_zretN
    · cases h
  | .pass, y, h, n => by
    unfold chkH at h
    split at h
    · exact ps_zpass
    · cases h
  | .cont, y, h, n => by
    unfold chkH at h
    split at h
    · exact ps_zcont
    · cases h
  | .asg _ _, y, h, n => by unfold chkH at h; cases h
  | .asgF _ _, y, h, n => by unfold chkH at h; cases h
  | .asgT _ _, y, h, n => by unfold chkH at h; cases h
  | .par _ _ _ _ _ _, y, h, n => by unfold chkH at h; cases h
  | .aug _ _ _, y, h, n => by unfold chkH at h; cases h
  | .ext _ _, y, h, n => by unfold chkH at h; cases h
  | .app _ _, y, h, n => by unfold chkH at h; cases h
  | .setI _ _ _, y, h, n => by unfold chkH at h; cases h
  | .augI _ _ _ _, y, h, n => by unfold chkH at h; cases h
  | .setA _ _, y, h, n => by unfold chkH at h; cases h
  | .expr _, y, h, n => by unfold chkH at h; cases h
  | .fors _ _ _ _, y, h, n => by unfold chkH at h; cases h
  | .whl _ _ _, y, h, n => by unfold chkH at h; cases h
  | .raise _ _ _ _, y, h, n => by unfold chkH at h; cases h
  | .newr _ _, y, h, n => by unfold chkH at h; cases h
  | .tryx _ _ _ _ _, y, h, n => by unfold chkH at h; cases h
  | .tryo _ _ _ _, y, h, n => by unfold chkH at h; cases h
  | .frz _, y, h, n => by unfold chkH at h; cases h
theorem sndHs (C : Caps T k N lsX (flH xb) sc X W) : ∀ (t : Sms) (ys : List Stmt), chkHs N sc xb t ys = true → needHs T k lsX t → PSs X ys (tSs T W t)
  | .nil, ys, h, n => by
    unfold chkHs at h
    rw [List.isEmpty_iff] at h
    subst h
    exact pss_znil
  | .cons t ts, ys, h, n => by
    unfold chkHs at h
    split at h
    · simp only [Bool.and_eq_true] at h
      exact pss_zcons (sndH C t _ h.1 n.1) (sndHs C ts _ h.2 n.2)
    · cases h
end
/-- the contexts of a def's statements -/
structure GOk (T : Tab) (k : Nat) (N : List Str) (lsX : Exs) (fl : Fl) (sc : Scope) (G : Cx → WX → Prop) : Prop where
  caps : ∀ X W, G X W → Caps T k N lsX fl sc X W
  cx : ∀ X W, G X W → CxS T k N sc X ∧ Takes X W
  tr : ∀ X W, G X W → ∀ (W' : WX) (pn : List (Addr × Obj)) (xe : Value → Shared → Prop), Takes (X.tr pn xe) W' → PassesOwn (model X.prog X.w) X.A X.env xe → G (X.tr pn xe) W'
theorem asB_ok {op : BO} (h : asB op = true) : op = .add ∨ op = .sub := by
  cases op <;> first | exact .inl rfl | exact .inr rfl | cases h
theorem lc_of (hh : fl.hot = false → True) (C : Caps T k N lsX fl sc X W) {e : Ex} {y : Expr} (hl : isLc e = true) (c : chkE N false fl sc e y = true) (n : needE T k lsX e) :
    ∃ (p : Pat) (src : Src) (cx x : Ex) (elt tg iter : Expr) (ifs : List Expr) (scope : Scope) (pos : Pos), e = .lc p src cx x ∧ y = .ListComp elt [⟨tg, iter, ifs, 0⟩] scope pos ∧ LcH T W X elt tg iter ifs scope p src cx x := by
  cases e with
  | lc p src cx x =>
    unfold chkE at c
    split at c
    · simp only [Bool.and_eq_true, Bool.not_eq_true'] at c
      obtain ⟨c0, c1, c2, c3, c4, c5, c6⟩ := c
      exact ⟨p, src, cx, x, _, _, _, _, _, _, rfl, rfl, lch_ok (snds src) (snd cx) (snd x) C c0 c1 c2 c3 c4 c5 c6 n⟩
    · cases c
  | _ => cases hl
variable {G : Cx → WX → Prop}
mutual
theorem sndT (g : GOk T k N lsX fl sc G) : ∀ (t : Sm) (X : Cx) (W : WX) (y : Stmt), G X W → chkT N fl sc t y = true → needT T k lsX t → PS X y (tS T W t)
  | .asg i e, X, W, y, q, h, n => by
    obtain ⟨C, tk⟩ := g.cx X W q
    have Cc := g.caps X W q
    unfold chkT at h
    split at h
    · simp only [Bool.and_eq_true, Bool.or_eq_true, decide_eq_true_eq] at h
      obtain ⟨h1, h2, h3, h4⟩ := h
      rcases h4 with h4 | ⟨h4, h5⟩
      · exact ps_zasg C ((snd e).e Cc h3 n) h1 h2 h4
      · obtain ⟨p, src, cx, x, elt, tg, iter, ifs, scope, pos, rfl, rfl, hh⟩ := lc_of (fun _ => trivial) Cc h4 h3 n
        exact ps_zasgL C (by rw [C.hsc]; exact h5) h1 h2 hh
    · cases h
  | .asgF i e, X, W, y, q, h, n => by
    obtain ⟨C, tk⟩ := g.cx X W q
    have Cc := g.caps X W q
    unfold chkT at h
    split at h
    · simp only [Bool.and_eq_true, Bool.or_eq_true, decide_eq_true_eq] at h
      obtain ⟨h1, h2, h0, h3, h4⟩ := h
      rcases h4 with h4 | ⟨h4, h5⟩
      · exact ps_zasgF C ((snd e).pe true Cc h3 n fun _ => h0) h1 h2 h4
      · obtain ⟨p, src, cx, x, elt, tg, iter, ifs, scope, pos, rfl, rfl, hh⟩ := lc_of (fun _ => trivial) Cc h4 h3 n
        exact ps_zasgFL C (by rw [C.hsc]; exact h5) h1 h2 hh
    · cases h
  | .asgT p e, X, W, y, q, h, n => by
    obtain ⟨C, tk⟩ := g.cx X W q
    have Cc := g.caps X W q
    unfold chkT at h
    split at h
    · simp only [Bool.and_eq_true, Bool.or_eq_true, Bool.not_eq_true'] at h
      obtain ⟨h1, h2, h3, h4, h5⟩ := h
      exact ps_zasgT C ((snd e).e Cc h5 n) (pat_ok C.toCxB C.calm (fun x _ => .inl (C.hfn x)) p _ h4) h1 (h2.elim stores_none fun h2 => stores_cell (by rw [C.hsc]; exact h2)) h3
    · cases h
  | .par i j fi fj a b, X, W, y, q, h, n => by
    obtain ⟨C, tk⟩ := g.cx X W q
    have Cc := g.caps X W q
    unfold chkT at h
    split at h
    · simp only [Bool.and_eq_true, Bool.or_eq_true, decide_eq_true_eq, Bool.not_eq_true'] at h
      obtain ⟨h1, h2, h3, h4, h5, h6, h7, h8, h9, h10, h11, h12, h13, h14, h15, h16⟩ := h
      refine ps_zpar C ((snd a).pe fi Cc h15 n.1 fun z => ?_) ((snd b).pe fj Cc h16 n.2 fun z => ?_) h2 h3 h4 h5 h6 h9 h10 (stores_two (by rw [C.hsc]; exact h1) (by rw [C.hsc]; exact h5) (by rw [C.hsc]; exact h6) h7 h8 h9 h10 h11 h12)
      · rcases h13 with w | w
        · rw [z] at w; cases w
        · exact w
      · rcases h14 with w | w
        · rw [z] at w; cases w
        · exact w
    · cases h
  | .aug i op e, X, W, y, q, h, n => by
    obtain ⟨C, tk⟩ := g.cx X W q
    have Cc := g.caps X W q
    unfold chkT at h
    split at h
    · simp only [Bool.and_eq_true, decide_eq_true_eq] at h
      obtain ⟨h1, h2, rfl, h3, h4⟩ := h
      exact ps_zaug C ((snd e).e Cc h4 n) h1 h2 (asB_ok h3)
    · cases h
  | .ext i e, X, W, y, q, h, n => by unfold chkT at h; cases h
  | .app i e, X, W, y, q, h, n => by
    obtain ⟨C, tk⟩ := g.cx X W q
    have Cc := g.caps X W q
    unfold chkT at h
    split at h
    · simp only [Bool.and_eq_true, decide_eq_true_eq, Bool.not_eq_true'] at h
      obtain ⟨rfl, h1, h2, h3, h4⟩ := h
      obtain ⟨q1, q2, q3, q4⟩ := nmB_ok h1
      exact ps_zapp C ((snd e).e Cc h4 n) q1 q2 q3 q4 h2 h3
    · cases h
  | .setI i r e, X, W, y, q, h, n => by
    obtain ⟨C, tk⟩ := g.cx X W q
    have Cc := g.caps X W q
    unfold chkT at h
    split at h
    · simp only [Bool.and_eq_true] at h
      obtain ⟨h1, h2, h3, h5, h6⟩ := h
      obtain ⟨q1, q2, q3, q4⟩ := nmB_ok h1
      exact ps_zsetI C ((snd e).e Cc h5 n.2) ((snd r).e Cc h6 n.1) q1 q2 q3 q4 h2 h3
    · cases h
  | .augI i r op e, X, W, y, q, h, n => by
    obtain ⟨C, tk⟩ := g.cx X W q
    have Cc := g.caps X W q
    unfold chkT at h
    split at h
    · simp only [Bool.and_eq_true, decide_eq_true_eq] at h
      obtain ⟨h1, rfl, h3, h4, h5, h6⟩ := h
      obtain ⟨q1, q2, q3, q4⟩ := nmB_ok h1
      exact ps_zaugI C ((snd e).e Cc h5 n.2) ((snd r).e Cc h6 n.1) q1 q2 q3 q4 h3 (asB_ok h4)
    · cases h
  | .setA f e, X, W, y, q, h, n => by
    obtain ⟨C, tk⟩ := g.cx X W q
    have Cc := g.caps X W q
    unfold chkT at h
    split at h
    · simp only [Bool.and_eq_true, decide_eq_true_eq] at h
      obtain ⟨rfl, h1, h2, h3⟩ := h
      obtain ⟨q1, q2, q3, q4⟩ := nmB_ok h1
      exact ps_zsetA C ((snd e).e Cc h3 n.2) q1 q2 q3 q4 h2 n.1
    · cases h
  | .expr e, X, W, y, q, h, n => by
    have Cc := g.caps X W q
    unfold chkT at h
    split at h
    · simp only [Bool.and_eq_true] at h
      exact ps_zexpr ((snd e).e Cc h.2 n) h.1
    · cases h
  | .ifs c a b, X, W, y, q, h, n => by
    have Cc := g.caps X W q
    unfold chkT at h
    split at h
    · simp only [Bool.and_eq_true] at h
      exact ps_zif ((snd c).pt Cc h.1 h.2.1 n.1) (sndTs g a X W _ q h.2.2.1 n.2.1) (sndTs g b X W _ q h.2.2.2 n.2.2)
    · cases h
  | .fors p src body clr, X, W, y, q, h, n => by
    obtain ⟨C, tk⟩ := g.cx X W q
    have Cc := g.caps X W q
    unfold chkT at h
    split at h
    · simp only [Bool.and_eq_true] at h
      obtain ⟨h1, h2, h3, h4⟩ := h
      exact ps_zfor C ((snds src).pi false Cc h2 n.1) (pat_ok C.toCxB C.calm (fun x _ => .inl (C.hfn x)) p _ h3) (sndTs g body X W _ q h4 n.2) h1
    · cases h
  | .whl c body clr, X, W, y, q, h, n => by
    obtain ⟨C, tk⟩ := g.cx X W q
    have Cc := g.caps X W q
    unfold chkT at h
    split at h
    · simp only [Bool.and_eq_true] at h
      exact ps_zwhl C ((snd c).pt Cc h.1 h.2.1 n.1) (sndTs g body X W _ q h.2.2 n.2)
    · cases h
  | .ret e, X, W, y, q, h, n => by
    unfold chkT at h
    split at h
    · exact ps_zret ((snd e).e (g.caps X W q) h n)
    · cases h
  | .retN, X, W, y, q, h, n => by
    unfold chkT at h
    split at h
    · exact ps_zretN
    · cases h
  | .raise x c m args, X, W, y, q, h, n => by
    obtain ⟨C, tk⟩ := g.cx X W q
    have Cc := g.caps X W q
    unfold chkT at h
    split at h
    · simp only [Bool.and_eq_true, decide_eq_true_eq] at h
      obtain ⟨rfl, h2, h3, h4, h5, h6⟩ := h
      exact ps_zraise C tk ((snda args).pa Cc h6 n.2) n.1 h2 h3 h4 h5
    · cases h
  | .newr i e, X, W, y, q, h, n => by
    obtain ⟨C, tk⟩ := g.cx X W q
    have Cc := g.caps X W q
    unfold chkT at h
    split at h
    · simp only [Bool.and_eq_true, decide_eq_true_eq] at h
      obtain ⟨h1, h2, h3, h4, h5⟩ := h
      exact ps_znewr C ((snd e).pe true Cc h5 n fun _ => h3) h1 h2 h4
    · cases h
  | .tryx body x cs i hd, X, W, y, q, h, n => by
    obtain ⟨C, tk⟩ := g.cx X W q
    have Cc := g.caps X W q
    obtain ⟨n1, n2, n3, n4⟩ := n
    unfold chkT at h
    split at h
    · simp only [Bool.and_eq_true, decide_eq_true_eq] at h
      obtain ⟨rfl, h2, h3, h4, h5, h6, h7⟩ := h
      refine ps_ztryx C tk n1 h4 h5 h2 h3 n2 (fun W' pn xe tk' ho => sndTs g body _ W' _ (g.tr X W q W' pn xe tk' ho) h6 n3) fun a oe cls d pn hz hf => ?_
      have Cb := alt_cx (suite_cx C.toCxB a ((a, oe) :: pn)) fun a' cls' d' => a' = a ∧ cls' = cls ∧ d' = d
      exact sndHs (xb := true) ⟨Cb, (fun z => by cases z), fun _ i x f tab p pos hx ht => let ⟨q1, q2, q3, q4⟩ := nmB_ok hx; pe_zxat Cb hz hf q1 q2 q3 q4 ht, (fun z => by cases z), (fun z => by cases z), (fun z => by cases z)⟩ hd _ h7 (n4 a cls d)
    · cases h
  | .tryo body x cs hd, X, W, y, q, h, n => by
    obtain ⟨C, tk⟩ := g.cx X W q
    have Cc := g.caps X W q
    obtain ⟨n2, n3, n4⟩ := n
    unfold chkT at h
    split at h
    · simp only [Bool.and_eq_true, decide_eq_true_eq] at h
      obtain ⟨rfl, h2, h3, h6, h7⟩ := h
      refine ps_ztryo C tk h2 h3 n2 (fun W' pn xe tk' ho => sndTs g body _ W' _ (g.tr X W q W' pn xe tk' ho) h6 n3) fun a oe cls d pn hz hf => ?_
      exact sndHs (xb := false) ⟨suite_cx C.toCxB a ((a, oe) :: pn), (fun z => by cases z), (fun z => by cases z), (fun z => by cases z), (fun z => by cases z), (fun z => by cases z)⟩ hd _ h7 n4
    · cases h
  | .pass, X, W, y, q, h, n => by
    unfold chkT at h
    split at h
    · exact ps_zpass
    · exact ps_zdoc
    · cases h
  | .cont, X, W, y, q, h, n => by
    unfold chkT at h
    split at h
    · exact ps_zcont
    · cases h
  | .frz _, X, W, y, q, h, n => by unfold chkT at h; cases h
theorem sndTs (g : GOk T k N lsX fl sc G) : ∀ (t : Sms) (X : Cx) (W : WX) (ys : List Stmt), G X W → chkTs N fl sc t ys = true → needTs T k lsX t → PSs X ys (tSs T W t)
  | .nil, X, W, ys, q, h, n => by
    unfold chkTs at h
    rw [List.isEmpty_iff] at h
    subst h
    exact pss_znil
  | .cons t ts, X, W, ys, q, h, n => by
    unfold chkTs at h
    split at h
    · exact pss_zfrz (sndTs g ts X W _ q h n.2)
    · split at h
      · simp only [Bool.and_eq_true] at h
        exact pss_zcons (sndT g t X W _ q h.1 n.1) (sndTs g ts X W _ q h.2 n.2)
      · cases h
end
end
end Z
end
section
set_option Elab.async false
set_option linter.all false
set_option maxRecDepth 100000
set_option maxHeartbeats 8000000
set_option autoImplicit false
/-! Z: a def keeps what is computed. -/
namespace Z
open PySem PySem.Spec PyProof.Rows L2
variable {T : Tab}
section
variable {X : Cx} {W : WX} {k : Nat} {N : List Str} {sc : Scope} {e : En} {M M' : List Addr} {F F' : Hp} {ρ : Env} {m m' : Mu} {σ : L2.St} {H H' : Hp} {Ds : Ends}
/-- a def's contexts -/
def GD (T : Tab) (k : Nat) (N : List Str) (sc : Scope) (X : Cx) (W : WX) : Prop := CxS T k N sc X ∧ Takes X W
theorem gok_def : GOk T k N .nil fl0 sc (GD T k N sc) where
  caps := fun X W ⟨C, tk⟩ => ⟨C.toCxB, fun _ => ⟨C.toCxOk, tk⟩, (fun z => by cases z), (fun z => by cases z), (fun z => by cases z), (fun z => by cases z)⟩
  cx := fun X W q => q
  tr := fun X W ⟨C, tk⟩ W' pn xe tk' ho => ⟨tr_cx C ho, tk'⟩
theorem map_va {ds : List D} {i : Nat} {t : Sl} {r : List Sl} (h : (ds.map Sl.va ++ r)[i]? = some t) (hr : ∀ t ∈ r, t = .un) : (∃ d, ds[i]? = some d ∧ t = .va d) ∨ t = .un := by
  by_cases hi : i < (ds.map Sl.va).length
  · rw [List.getElem?_append_left hi, List.getElem?_map] at h
    obtain ⟨d, hd, rfl⟩ := Option.map_eq_some_iff.mp h
    exact .inl ⟨d, hd, rfl⟩
  · rw [List.getElem?_append_right (by omega)] at h
    exact .inr (hr _ (List.mem_of_getElem? h))
/-- the frame at a def's start -/
theorem SR.frame (s : SR T e M F [] m [] H) {ds : List D} {vs : List V} (rs : Reps T M F ds vs) {n : Nat} (hl : N.length = n) (hle : vs.length ≤ n) : SR T e M F (ds.map .va ++ List.replicate (n - ds.length) .un) m (L2.start N vs) H := by
  have ll := rs.length
  have un : ∀ t ∈ List.replicate (n - ds.length) Sl.un, t = .un := fun t h => (List.mem_replicate.mp h).2
  refine { s with len := ?_, sl := fun i t h => ?_, dis := fun i j t u a hi hj ot ou => ?_ }
  · unfold L2.start
    simp only [List.length_append, List.length_map, List.length_replicate]
    omega
  · rcases map_va h un with ⟨d, hd, rfl⟩ | rfl
    · obtain ⟨v, hv, r⟩ := rs.get hd
      refine ⟨v, ?_, r⟩
      unfold L2.start
      rw [List.getElem?_append_left (by rw [List.length_map]; exact (List.getElem?_eq_some_iff.mp hv).1), List.getElem?_map, hv]
      rfl
    · exact True.intro
  · rcases map_va hi un with ⟨d, hd, rfl⟩ | rfl <;> cases ot
theorem out_fn {f : Sms} {ds : List D} {np n : Nat} {Q : VK} {E : XK} (h : Out T (fun cls dd _ H' => E cls dd H') e M F [] [] (fn np n f ds m) fun d _ M' F' H' => ∀ v, Rep T M' F' d v → Q v H') :
    OutS T (fun cls dd _ H' => E cls dd H') e M F (runs f (ds.map .va ++ List.replicate (n - ds.length) .un) m) { nx := fun _ H' => Q .non H', rt := Q } := by
  unfold fn at h
  split at h
  · rename_i hl
    rw [hl]
    cases r : runs f (ds.map .va ++ List.replicate (n - np) .un) m with
    | nx ρ1 m1 => rw [r] at h; exact fun M' F' σ' H' s l1 l2 => h M' F' H' s.bare l1 l2 _ rfl
    | rt d m1 => rw [r] at h; exact fun M' F' ρ' σ' H' s l1 l2 v rv => h M' F' H' s.bare l1 l2 v rv
    | ct ρ1 m1 => rw [r] at h; exact h.elim
    | ex c fs ρ1 m1 => rw [r] at h; exact fun M' F' σ' H' cls dd s l1 l2 x => h M' F' H' cls dd s.bare l1 l2 x
    | bad => rw [r] at h; exact h.elim
  · exact h.elim
theorem cx_def {ps : List Str} {qual : Str} {scope : Scope} {f : Addr} {cdv : Value} {A : Around} {outer : List PySem.Env} {s : Shared} {E : XK} (S : FnScope N ps scope) (hr : Room k (A.deeper (envOfC qual scope s.heap.objs.size f cdv))) :
    CxS T k N scope (cxOf (L2.CX T.P T.w) T.P T.w T.K T.mg T.base N qual scope f cdv A outer s H E) ∧ Takes (cxOf (L2.CX T.P T.w) T.P T.w T.K T.mg T.base N qual scope f cdv A outer s H E) (fun cls dd _ H' => E cls dd H') :=
  ⟨{ hP := rfl, hw := rfl, hK := rfl, hmg := rfl, hbase := rfl, hN := rfl, nd := S.nd, hsc := rfl, un := (by have := hr.un; show (A.deeper (envOfC qual scope s.heap.objs.size f cdv)).units + 100 < cLine; omega), calm := rfl, room := hr, hfn := fun _ => rfl, hstack := rfl, hframe := rfl, owns := passes_of rfl }, takes_of rfl rfl rfl rfl⟩
/-- a def keeps what its body computes -/
theorem fn_ok {f : Addr} {name qual : Str} {params : Arguments} {body : List Stmt} {scope : Scope} {dV kV doc pm cdv ct oc : Value} {an od : Option Addr} {osl : Array (Option Value)} {ps : List Str} {ir : Sms} {n : Nat}
    (lk : T.K.lookup f = some ⟨oc, od, .func (PySem.W.fnOf name qual params body scope dV kV doc pm an cdv ct), osl⟩) (hcd : PySem.W.codeIn T.K cdv qual = true) (S : FnScope N ps scope) (hn : N.length = n) (hle : ps.length ≤ n) (hc : chkTs N fl0 scope ir body = true) (nd : needTs T k .nil ir) :
    FnOk T.P T.w T.K T.mg T.base (L2.CX T.P T.w) (k + 1) f (PySem.W.fnOf name qual params body scope dV kV doc pm an cdv ct) ps (spOf T ps.length (fn ps.length n ir)) := by
  refine fn_of lk hcd S (fun vs H Q E h => h.1) fun A outer s H vs Q E hr ⟨hl, M, F, ds, m, sr, rs, h⟩ => ?_
  refine ⟨_, sndTs gok_def ir _ _ body (cx_def S hr) hc nd, _, M, F, _, m, sr.frame rs hn (by omega), out_fn h⟩
/-- the frame at __init__'s start -/
theorem SR.frameI (s : SR T e M F [] m [] H) {ds : List D} {vs : List V} (rs : Reps T M F ds vs) {n c : Nat} {x C dx : Addr} {names : List Str} (hl : N.length = n) (hle : vs.length + 1 ≤ n) (hc : T.cls c = some (C, names)) (hx : H x = some (.ins C dx [])) (fx : F x = none) (wx : x ∈ e.W) (xM : x ∉ M) :
    SR T e M F (.me c [] :: ds.map .va ++ List.replicate (n - ds.length - 1) .un) m (L2.start N (.ref x :: vs)) H := by
  have ll := rs.length
  have un : ∀ t ∈ List.replicate (n - ds.length - 1) Sl.un, t = .un := fun t h => (List.mem_replicate.mp h).2
  have hz : ∀ {i : Nat} {t : Sl}, (.me c [] :: ds.map Sl.va ++ List.replicate (n - ds.length - 1) Sl.un)[i]? = some t → t.own = true → i = 0 := fun {i t} h ho => by
    cases i with
    | zero => rfl
    | succ i =>
      rw [List.cons_append, List.getElem?_cons_succ] at h
      rcases map_va h un with ⟨d, hd, rfl⟩ | rfl <;> cases ho
  refine { s with len := ?_, sl := fun i t h => ?_, dis := fun i j t u a hi hj ot ou _ _ => by rw [hz hi ot, hz hj ou] }
  · unfold L2.start
    simp only [List.length_append, List.length_map, List.length_replicate, List.length_cons]
    omega
  · cases i with
    | zero =>
      rw [List.cons_append, List.getElem?_cons_zero] at h
      cases h
      exact ⟨x, C, dx, names, [], rfl, fx, wx, xM, hc, hx, rfl, rfl⟩
    | succ i =>
      rw [List.cons_append, List.getElem?_cons_succ] at h
      rcases map_va h un with ⟨d, hd, rfl⟩ | rfl
      · obtain ⟨v, hv, r⟩ := rs.get hd
        refine ⟨v, ?_, r⟩
        unfold L2.start
        rw [List.map_cons, List.cons_append, List.getElem?_cons_succ, List.getElem?_append_left (by rw [List.length_map]; exact (List.getElem?_eq_some_iff.mp hv).1), List.getElem?_map, hv]
        rfl
      · exact True.intro
theorem fieldsOf_ok : ∀ {names : List Str} {fs : List (Str × D)} {ds : List D}, fieldsOf names fs = some ds → fs.map (·.1) = names ∧ ds = fs.map (·.2)
  | [], [], ds, h => by
    have : ds = [] := by simpa [fieldsOf] using h.symm
    subst this
    exact ⟨rfl, rfl⟩
  | [], _ :: _, ds, h => by simp [fieldsOf] at h
  | _ :: _, [], ds, h => by simp [fieldsOf] at h
  | x :: xs, (g, d) :: r, ds, h => by
    unfold fieldsOf at h
    split at h
    · rename_i hx
      subst hx
      obtain ⟨es, he, rfl⟩ := Option.map_eq_some_iff.mp h
      obtain ⟨q1, q2⟩ := fieldsOf_ok he
      subst q2
      exact ⟨by rw [List.map_cons, q1], rfl⟩
    · cases h
theorem out_init {f : Sms} {ds : List D} {c np n : Nat} {names : List Str} {Q : VK} {E : XK} {x C : Addr} (hc : T.cls c = some (C, names)) (hw : e.W = x :: T.wr M)
    (h : Out T (fun cls dd _ H' => E cls dd H') e M F [] [] (init c names np n f ds m) fun d _ M' F' H' => F' x = none → x ∉ M' → ∀ ds' kvs dx', d = .ins c ds' → H' x = some (.ins C dx' kvs) → kvs.map (·.1) = names → Reps T M' F' ds' (kvs.map (·.2)) → Q .non H') :
    OutS T (fun cls dd _ H' => E cls dd H') e M F (runs f (.me c [] :: ds.map .va ++ List.replicate (n - ds.length - 1) .un) m) { nx := fun _ H' => Q .non H', rt := fun _ _ => False } := by
  unfold init at h
  split at h
  · rename_i hl
    rw [hl]
    cases r : runs f (.me c [] :: ds.map .va ++ List.replicate (n - np - 1) .un) m with
    | nx ρ1 m1 =>
      rw [r] at h
      dsimp only at h
      intro M' F' σ' H' s l1 l2
      split at h
      · rename_i c' fs hs
        split at h
        · rename_i hcc
          subst hcc
          obtain ⟨es, he, h⟩ := h.of
          obtain ⟨q1, q2⟩ := fieldsOf_ok he
          subst q2
          obtain ⟨a, Ca, dx, names', kvs, e1, g1, g2, g3, g4, g5, g6, g7⟩ := s.sl 0 _ (slotAt_some hs (by simp))
          rw [hc] at g4
          cases g4
          have hax : a = x := by
            rw [hw] at g2
            rcases List.mem_cons.mp g2 with z | z
            · exact z
            · rcases wr_of z with z | ⟨y, z⟩
              · obtain ⟨l, rfl⟩ := l1
                exact absurd (List.mem_append_left _ z) g3
              · obtain ⟨_, _, _, ps, h4, _⟩ := s.tab a y z
                rw [g5] at h4
                cases h4
          subst hax
          exact h M' F' H' s.bare l1 l2 g1 g3 _ kvs dx rfl g5 (g6.trans q1) g7
        · exact h.elim
      · exact h.elim
    | rt d m1 => rw [r] at h; exact h.elim
    | ct ρ1 m1 => rw [r] at h; exact h.elim
    | ex c2 fs ρ1 m1 => rw [r] at h; exact fun M' F' σ' H' cls dd s l1 l2 x => h M' F' H' cls dd s.bare l1 l2 x
    | bad => rw [r] at h; exact h.elim
  · exact h.elim
/-- an __init__ keeps what its body computes -/
theorem init_ok {f C : Addr} {c : Nat} {names : List Str} {name qual : Str} {params : Arguments} {body : List Stmt} {scope : Scope} {dV kV doc pm cdv ct oc : Value} {an od : Option Addr} {osl : Array (Option Value)} {ps : List Str} {ir : Sms} {n np : Nat}
    (hT : T.cls c = some (C, names)) (lk : T.K.lookup f = some ⟨oc, od, .func (PySem.W.fnOf name qual params body scope dV kV doc pm an cdv ct), osl⟩) (hcd : PySem.W.codeIn T.K cdv qual = true) (S : FnScope N ps scope) (hn : N.length = n) (hle : ps.length ≤ n) (hp : ps.length = np + 1) (hc : chkTs N fl0 scope ir body = true) (nd : needTs T k .nil ir) :
    FnOk T.P T.w T.K T.mg T.base (L2.CX T.P T.w) (k + 1) f (PySem.W.fnOf name qual params body scope dV kV doc pm an cdv ct) ps (spInit T c ps.length (init c names np n ir)) := by
  refine fn_of lk hcd S (fun vs H Q E h => ?_) fun A outer s H vs Q E hr ⟨x, C', names', dx, ws, M, F, ds, m, ev, hl, g1, g2, g3, g4, sr, rs, h⟩ => ?_
  · obtain ⟨_, _, _, _, _, _, _, _, _, _, hl, _⟩ := h
    exact hl
  · subst ev
    rw [hT] at g1
    cases g1
    have lw := rs.length
    rw [List.length_cons] at hl
    refine ⟨_, sndTs gok_def ir _ _ body (cx_def S hr) hc nd, _, M, F, _, m, sr.frameI rs hn (by omega) hT g2 g3 List.mem_cons_self g4, ?_⟩
    have h2 := out_init hT rfl h
    exact h2.imp (fun σ H z => z) (fun v H z => z.elim) fun σ H z => z
/-! ### own exceptions -/
def xl : Nat → List Str → List (Str × Nat)
  | _, [] => []
  | i, x :: xs => (x, i) :: xl (i + 1) xs
theorem xl_len : ∀ {i : Nat} {xs : List Str}, (xl i xs).length = xs.length
  | _, [] => rfl
  | i, x :: xs => by
    unfold xl
    rw [List.length_cons, List.length_cons, xl_len]
theorem xl_mem : ∀ {i : Nat} {xs : List Str} {p : Str × Nat}, p ∈ xl i xs → p.1 ∈ xs
  | _, [], p, h => by cases h
  | i, x :: xs, p, h => by
    unfold xl at h
    rcases List.mem_cons.mp h with z | z
    · subst z; exact List.mem_cons_self
    · exact List.mem_cons_of_mem _ (xl_mem z)
theorem vx_xl : ∀ {i : Nat} {xs : List Str} {ws : List V}, ws.length = xs.length → (∀ j v, ws[j]? = some v → σ[i + j]? = some (some v)) → Vx σ (xl i xs) (xs.zip ws)
  | _, [], ws, _, _ => rfl
  | i, x :: xs, [], h, _ => by cases h
  | i, x :: xs, w :: ws, h, g => ⟨w, xs.zip ws, rfl, by have := g 0 w rfl; simpa using this, vx_xl (by simpa using h) fun j v e => by
      have := g (j + 1) v (by simpa using e)
      rw [show i + (j + 1) = i + 1 + j by omega] at this
      exact this⟩
theorem exc_ok {f C : Addr} {names : List Str} {name qual : Str} {params : Arguments} {body : List Stmt} {scope : Scope} {dV kV doc pm cdv ct oc : Value} {an od : Option Addr} {osl : Array (Option Value)} {ps : List Str}
    (hC : OexC T.K C) (hf : ∀ x ∈ names, PySem.W.findIn T.K (.ref C) x = some none) (hne : names ≠ []) (h9 : names.length ≤ 900) (lk : T.K.lookup f = some ⟨oc, od, .func (PySem.W.fnOf name qual params body scope dV kV doc pm an cdv ct), osl⟩) (hcd : PySem.W.codeIn T.K cdv qual = true) (S : FnScope N ps scope)
    (hp : ps.length = names.length + 1) (hc : xinitB N scope (xl 1 names) body = true) :
    FnOk T.P T.w T.K T.mg T.base (L2.CX T.P T.w) (k + 1) f (PySem.W.fnOf name qual params body scope dV kV doc pm an cdv ct) ps (spExc C names) := by
  refine fn_of lk hcd S (fun vs H Q E h => ?_) fun A outer s H vs Q E hr ⟨a, ws, ev, hl, ha, h⟩ => ?_
  · obtain ⟨a, ws, rfl, hl, _⟩ := h
    rw [List.length_cons, hl, hp]
  · subst ev
    have C1 := (cx_def (T := T) (k := k) (H := H) (E := E) (cdv := cdv) (qual := qual) (f := f) (outer := outer) S hr).1
    refine ⟨_, pss_xinit C1.toCxB (xl 1 names) body hc, a, C, names.zip ws, ?_, hC, fun p hp => hf _ (xl_mem hp), ?_, .inl ⟨ha, by rw [xl_len]; exact h9, fun z => ?_, fun dx h1 h2 => h dx h1 h2⟩⟩
    · unfold L2.start
      rw [List.map_cons, List.cons_append, List.getElem?_cons_zero]
    · refine vx_xl hl fun j v e => ?_
      unfold L2.start
      rw [List.map_cons, List.cons_append, show 1 + j = j + 1 by omega, List.getElem?_cons_succ, List.getElem?_append_left (by rw [List.length_map]; exact (List.getElem?_eq_some_iff.mp e).1), List.getElem?_map, e]
      rfl
    · cases names with
      | nil => exact hne rfl
      | cons x xs => unfold xl at z; cases z
end
end Z
end
section
set_option Elab.async false
set_option linter.all false
set_option maxRecDepth 100000
set_option maxHeartbeats 4000000
set_option autoImplicit false
/-! Z: what the written part tells, as the layer asks it. -/
namespace Z
open PySem PySem.Spec PyProof.Rows L2
abbrev CL := List (Str × List Str)
def clF (K : PySem.W.Frag) (cl : CL) : Nat → Option (Addr × List Str) := fun c => (cl[c]?).map fun p => (He.ga K p.1, p.2)
theorem clF_mem {K : PySem.W.Frag} {cl : CL} {c : Nat} {C : Addr} {names : List Str} (h : clF K cl c = some (C, names)) : ∃ p, cl[c]? = some p ∧ p ∈ cl ∧ C = He.ga K p.1 ∧ names = p.2 := by
  unfold clF at h
  obtain ⟨p, hp, e⟩ := Option.map_eq_some_iff.mp h
  cases e
  exact ⟨p, hp, List.mem_of_getElem? hp, rfl, rfl⟩
theorem lookN_mem {α : Type} : ∀ {tab : List (Nat × α)} {c : Nat} {j : α}, lookN tab c = some j → (c, j) ∈ tab
  | [], c, j, h => by cases h
  | (k, a) :: r, c, j, h => by
    unfold lookN at h
    split at h
    · rename_i e
      cases h
      subst e
      exact List.mem_cons_self
    · exact List.mem_cons_of_mem _ (lookN_mem h)
/-! ### own classes -/
def insB (K : PySem.W.Frag) (C : Addr) : Bool := He.eqO (PySem.W.findIn K (.ref C) "__class__") (some (some (.builtin "object.__class__"))) && (He.eqO (PySem.W.specialIn K (.builtin "object.__class__") "__get__") (some (some (.builtin "getset_descriptor.__get__"))) &&
  (decide (PySem.W.takesIn K (.builtin "object.__class__") = some true) && decide (PySem.W.mroIn K C (.type "object") = some true)))
structure ClsF (K : PySem.W.Frag) (cl : CL) (C : Addr) (names : List Str) : Prop where
  cls : Cls K C
  nd : names.Nodup
  no : ∀ f ∈ cl.flatMap (·.2), NoAttr K C f
  ins : InsT K C
  ne : PySem.W.findIn K (.ref C) "__ne__" = some (some (.builtin "object.__ne__"))
  sub : PySem.W.subIn K (.ref C) (.type "object") = some true
  nf : ∀ q ∈ cl, PySem.W.notFirst K C (.ref (He.ga K q.1)) = true
def clB (K : PySem.W.Frag) (cl : CL) : Bool := cl.all fun p => (He.Fa.cls p.1).ok K && (decide p.2.Nodup && ((cl.flatMap (·.2)).all (fun f => (He.Fa.noat p.1 f).ok K) && (insB K (He.ga K p.1) && (He.eqO (PySem.W.findIn K (.ref (He.ga K p.1)) "__ne__") (some (some (.builtin "object.__ne__"))) &&
  (decide (PySem.W.subIn K (.ref (He.ga K p.1)) (.type "object") = some true) && cl.all (fun q => PySem.W.notFirst K (He.ga K p.1) (.ref (He.ga K q.1))))))))
theorem clB_ok {K : PySem.W.Frag} {cl : CL} (h : clB K cl = true) {p : Str × List Str} (hp : p ∈ cl) : ClsF K cl (He.ga K p.1) p.2 := by
  have h1 := List.all_eq_true.mp h p hp
  simp only [Bool.and_eq_true, decide_eq_true_eq] at h1
  obtain ⟨a1, a2, a3, a4, a5, a6, a7⟩ := h1
  unfold insB at a4
  simp only [Bool.and_eq_true, decide_eq_true_eq] at a4
  obtain ⟨b1, b2, b3, b4⟩ := a4
  have c1 := He.cls_ok a1
  exact ⟨c1, a2, fun f hf => He.noat_ok (List.all_eq_true.mp a3 f hf), ⟨c1, He.eqO_ok b1, He.eqO_ok b2, b3, b4⟩, He.eqO_ok a5, a6, fun q hq => List.all_eq_true.mp a7 q hq⟩
/-! ### isinstance -/
def kinds : List String := ["NoneType", "bool", "int", "str", "tuple", "list", "dict"]
def tyE (a n : String) : Bool := (a == n && a != "NoneType") || (a == "bool" && n == "int")
theorem tyE_ok {d : D} {a n : String} (h : tyOf d = some a) : isTy d (.bt n) = tyE a n ∧ a ∈ kinds := by
  cases d <;> simp only [tyOf, Option.some.injEq, reduceCtorEq] at h <;> subst h <;> unfold isTy tyE kinds <;> refine ⟨?_, by decide⟩
  · simp
  · have e : ∀ m : String, (m == n) = (n == m) := fun m => Bool.beq_comm
    rw [e "bool", show (("bool" : String) != "NoneType") = true by decide, show (("bool" : String) == "bool") = true by decide, Bool.and_true, Bool.true_and, Bool.or_comm]
  all_goals
    have e : ∀ m : String, (m == n) = (n == m) := fun m => Bool.beq_comm
    rw [e]
    simp
def isiB (K : PySem.W.Frag) (cl : CL) (n : String) : Bool := kinds.all (fun a => decide (PySem.W.kitOne K (.type a) (.type n) = some (tyE a n))) && cl.all (fun p => decide (PySem.W.kitOne K (.ref (He.ga K p.1)) (.type n) = some false))
def isoB (K : PySem.W.Frag) (cl : CL) (x : Str) (c : Nat) : Bool := kinds.all (fun a => decide (PySem.W.kitOne K (.type a) (.ref (He.ga K x)) = some false)) && (List.range cl.length).all (fun k => match cl[k]? with
  | some p => decide (PySem.W.kitOne K (.ref (He.ga K p.1)) (.ref (He.ga K x)) = some (k == c))
  | none => true)
/-! ### own exceptions -/
def oexB (K : PySem.W.Frag) (C : Addr) : Bool := (match K.lookup C with
  | some ⟨.type "type", _, .cls cd, sl⟩ => (match cd.mro, sl.toList with
    | .ref C' :: bm, [_, _, _, _, some (.builtin n), _] => C' == C && (n == "ValueError.__new__" && (!cd.hasDel && (cd.hasDict && PySem.HandSPX.refsVE bm)))
    | _, _ => false)
  | _ => false) && (He.eqO (PySem.W.findIn K (.ref C) "__setattr__") (some (some (.builtin "object.__setattr__"))) && (decide (PySem.W.subIn K (.ref C) (.type "BaseException") = some true) && (decide (PySem.W.typeIn K (.ref C) = some (.type "type")) && PySem.W.keepIn K (.ref C))))
theorem oexB_ok {K : PySem.W.Frag} {C : Addr} (h : oexB K C = true) : OexC K C := by
  unfold oexB at h
  simp only [Bool.and_eq_true, decide_eq_true_eq] at h
  obtain ⟨q, h1, h2, h3, h4⟩ := h
  refine ⟨?_, He.eqO_ok h1, h2, h3, h4⟩
  split at q
  · rename_i dd cd sl ho
    split at q
    · rename_i C' bm k0 k1 k2 k3 n k5 hm hs
      simp only [Bool.and_eq_true, beq_iff_eq, Bool.not_eq_true'] at q
      obtain ⟨rfl, rfl, hdel, hd, ht⟩ := q
      obtain ⟨nm, bs, mro, ns, qn, hd', sn, sub, ab, col, del⟩ := cd
      dsimp only at hm hdel hd
      subst hm hdel hd
      have hsl : sl = #[k0, k1, k2, k3, some (.builtin "ValueError.__new__"), k5] := by
        obtain ⟨l⟩ := sl
        simp only at hs
        rw [hs]
      subst hsl
      exact ⟨nm, qn, ns, bs, bm, sn, sub, ab, col, dd, k0, k1, k2, k3, k5, ho, ht⟩
    · cases q
  · cases q
/-- an exception class with its own __init__ -/
def xlB (K : PySem.W.Frag) (p : Str × List Str) : Bool := oexB K (He.ga K p.1) && (p.2.all (fun f => He.eqO (PySem.W.findIn K (.ref (He.ga K p.1)) f) (some none)) && (decide p.2.Nodup && (He.eqO (PySem.W.findIn K (.ref (He.ga K p.1)) "__init__") (some (some (.ref (He.ma K (He.ga K p.1) "__init__")))) &&
  (decide (PySem.W.typeIn K (.ref (He.ma K (He.ga K p.1) "__init__")) = some (.type "function")) && xfB K (He.ga K p.1)))))
def emB (K : PySem.W.Frag) (xl : CL) (y : Str) (cs : List Nat) : Bool := (List.range xl.length).all fun c => match xl[c]? with
  | some p => decide (PySem.W.exmOne K (.ref (He.ga K p.1)) (.ref (He.ga K y)) = some (cs.contains c))
  | none => true
/-! ### all of it -/
structure HF (fa : List He.Fa) (fn : List He.DefD) (ex : List (PySem.W.Frag → Bool)) (cl xl : CL) (T : Tab) : Prop where
  fact : ∀ f ∈ fa, f.ok T.K = true
  defs : ∀ d ∈ fn, ∃ fd, FunD T.K d.name d.qual d.params d.body d.scope (d.dvs T.K) (d.kws T.K) (He.fAd T.K d.at_) fd
  more : ∀ b ∈ ex, b T.K = true
  glo : ∀ x, (He.Fa.glo x).ok T.K = true → T.mg x = some (.ref (He.ga T.K x))
  free : ∀ x, (He.Fa.free x).ok T.K = true → T.mg x = none
  int : ∀ x i, (He.Fa.int x i).ok T.K = true → ∃ t, T.mg x = some (.int i t)
  str : ∀ x z, (He.Fa.str x z).ok T.K = true → ∃ t, T.mg x = some (.str z t)
  cls : T.cls = clF T.K cl
  xcl : T.xcl = clF T.K xl
  xo : ∀ a c d, ¬ T.xo a c d
section
variable {fas : List He.Fa} {fns : List He.DefD} {exs : List (PySem.W.Frag → Bool)} {cl xl : CL} {T : Tab} {k : Nat}
theorem HF.fa (c : HF fas fns exs cl xl T) (i : Nat) {f : He.Fa} (h : fas[i]? = some f) : f.ok T.K = true := c.fact f (List.mem_of_getElem? h)
theorem HF.ex (c : HF fas fns exs cl xl T) (i : Nat) {b : PySem.W.Frag → Bool} (h : exs[i]? = some b) : b T.K = true := c.more b (List.mem_of_getElem? h)
theorem HF.df (c : HF fas fns exs cl xl T) (i : Nat) {d : He.DefD} (h : fns[i]? = some d) : ∃ fd, FunD T.K d.name d.qual d.params d.body d.scope (d.dvs T.K) (d.kws T.K) (He.fAd T.K d.at_) fd := c.defs d (List.mem_of_getElem? h)
theorem gloI (c : HF fas fns exs cl xl T) {x : Str} {i : Int} (h : (He.Fa.int x i).ok T.K = true) : GloF T x (.int i) := by
  obtain ⟨t, e⟩ := c.int x i h
  exact ⟨_, .int i, e, ⟨t, rfl⟩, fun M F => rfl⟩
theorem gloS (c : HF fas fns exs cl xl T) {x z : Str} (h : (He.Fa.str x z).ok T.K = true) : GloF T x (.str z) := by
  obtain ⟨t, e⟩ := c.str x z h
  exact ⟨_, .str z, e, ⟨t, rfl⟩, fun M F => rfl⟩
theorem clsAt (c : HF fas fns exs cl xl T) (hc : clB T.K cl = true) {n : Nat} {C : Addr} {names : List Str} (h : T.cls n = some (C, names)) : ClsF T.K cl C names ∧ ∃ x, cl[n]? = some (x, names) := by
  rw [c.cls] at h
  obtain ⟨p, h1, h2, rfl, rfl⟩ := clF_mem h
  exact ⟨clB_ok hc h2, p.1, h1⟩
def attB (cl : CL) (f : Str) (tab : List (Nat × Nat)) : Bool := tab.all fun p => match cl[p.1]? with
  | some q => decide (q.2[p.2]? = some f)
  | none => true
theorem attF (c : HF fas fns exs cl xl T) (hc : clB T.K cl = true) {f : Str} {tab : List (Nat × Nat)} (h : attB cl f tab = true) : AttF T f tab := fun n j hj C names hC => by
  obtain ⟨q, _, e⟩ := clsAt c hc hC
  have h1 := List.all_eq_true.mp h _ (lookN_mem hj)
  rw [e] at h1
  have h2 : names[j]? = some f := of_decide_eq_true h1
  exact ⟨h2, q.cls, q.no f (List.mem_flatMap.mpr ⟨_, List.mem_of_getElem? e, List.mem_of_getElem? h2⟩), q.nd⟩
theorem fillF (c : HF fas fns exs cl xl T) (hc : clB T.K cl = true) {f : Str} (h : f ∈ cl.flatMap (·.2)) : FillF T f := fun n C names hC => by
  obtain ⟨q, _⟩ := clsAt c hc hC
  exact ⟨q.cls, q.no f h⟩
theorem isiF (c : HF fas fns exs cl xl T) (hc : clB T.K cl = true) {n : String} (h : isiB T.K cl n = true) (hm : (He.Fa.free (Str.ofString n)).ok T.K = true) (h1 : bootBuiltins (Str.ofString n) = some (.type n)) (h2 : Str.ofString n ≠ "__name__") (h3 : (Str.ofString n == ("__debug__" : Str)) = false) : IsiF T (.bt n) := by
  obtain ⟨q1, q2⟩ := Bool.and_eq_true_iff.mp h
  refine ⟨.ty n, .type n, ⟨.ty n, rfl, rfl, c.free _ hm, h1, h2, h3⟩, fun d a ha => ?_, fun m C names hC => ?_⟩
  · obtain ⟨e1, e2⟩ := tyE_ok (n := n) ha
    rw [e1]
    exact of_decide_eq_true (List.all_eq_true.mp q1 a e2)
  · obtain ⟨q, e⟩ := clsAt c hc hC
    refine ⟨q.ins, fun ds => ?_⟩
    rw [c.cls] at hC
    obtain ⟨p, _, h6, rfl, _⟩ := clF_mem hC
    exact of_decide_eq_true (List.all_eq_true.mp q2 p h6)
theorem isoF (c : HF fas fns exs cl xl T) (hc : clB T.K cl = true) {x : Str} {m : Nat} (h : isoB T.K cl x m = true) (hm : (He.Fa.glo x).ok T.K = true) (hx : (cl[m]?).map (·.1) = some x) (h3 : (x == ("__debug__" : Str)) = false) : IsiF T (.own x m) := by
  obtain ⟨q1, q2⟩ := Bool.and_eq_true_iff.mp h
  obtain ⟨p, hp, rfl⟩ := Option.map_eq_some_iff.mp hx
  refine ⟨.ref (He.ga T.K p.1), .ref (He.ga T.K p.1), ⟨.own _, _, p.2, rfl, rfl, by rw [c.cls]; unfold clF; rw [hp]; rfl, c.glo _ hm, h3⟩, fun d a ha => ?_, fun m' C names hC => ?_⟩
  · obtain ⟨_, e2⟩ := tyE_ok (n := "int") ha
    have e3 : isTy d (.own p.1 m) = false := by cases d <;> first | rfl | cases ha
    rw [e3]
    exact of_decide_eq_true (List.all_eq_true.mp q1 a e2)
  · obtain ⟨q, e⟩ := clsAt c hc hC
    refine ⟨q.ins, fun ds => ?_⟩
    rw [c.cls] at hC
    obtain ⟨p', h5, h6, rfl, _⟩ := clF_mem hC
    have h7 := List.all_eq_true.mp q2 m' (List.mem_range.mpr (List.getElem?_eq_some_iff.mp h5).1)
    rw [h5] at h7
    have h8 := of_decide_eq_true h7
    rw [h8]
    rfl
/-! ### defs -/
def DefOk (T : Tab) (k : Nat) (a : Addr) (ps : List Str) (f : Fn) : Prop := PySem.W.keepIn T.K (.ref a) = true ∧ ∃ fd, Binds T.K fd ps [] ∧ FnOk T.P T.w T.K T.mg T.base (L2.CX T.P T.w) k a fd ps (spOf T ps.length f) ∧ ∀ ds m, f ds m ≠ .bad → ds.length = ps.length
theorem fn_len {np n : Nat} {ir : Sms} (ds : List D) (m : Mu) (h : fn np n ir ds m ≠ .bad) : ds.length = np := by
  unfold fn at h
  split at h
  · rename_i e; exact e
  · exact absurd rfl h
theorem defOk {x qual : Str} {params : Arguments} {body : List Stmt} {scope : Scope} {a : Addr} {N ps : List Str} {ir : Sms} {np n : Nat} (F : ∃ fd, FunD T.K x qual params body scope [] [] a fd) (S : FnScope N ps scope)
    (hb : ∀ (kV doc pm : Value) (an : Option Addr) (cdv ct : Value) (us : List Value), us.length = ps.length → bindArgs (PySem.W.fnOf x qual params body scope .none kV doc pm an cdv ct) ⟨us, []⟩ = pure (ps.zip us))
    (hp : ps.length = np) (hn : N.length = n) (hle : np ≤ n) (hc : chkTs N fl0 scope ir body = true) (nd : needTs T k .nil ir) : DefOk T (k + 1) a ps (fn np n ir) := by
  subst hp
  obtain ⟨fd, F⟩ := F
  have B := F.bindsN hb
  obtain ⟨oc, od, dV, kV, doc, pm, an, cdv, ct, osl, e1, lk, hcd, hD, hK⟩ := F.ex
  rw [e1] at lk
  refine ⟨F.kp, fd, B, ?_, fn_len⟩
  rw [e1]
  exact fn_ok lk hcd S hn hle hc nd
theorem DefOk.up {a : Addr} {ps : List Str} {f : Fn} {j : Nat} (h : DefOk T j a ps f) (hk : j ≤ k) : DefOk T k a ps f :=
  let ⟨h1, fd, h2, h3, h4⟩ := h; ⟨h1, fd, h2, h3.mono hk, h4⟩
theorem fnF {x : Str} {ps : List Str} {f : Fn} {j : Nat} (c : HF fas fns exs cl xl T) (hg : (He.Fa.glo x).ok T.K = true) (h : DefOk T j (He.ga T.K x) ps f) (hk : j ≤ k) : FnF T k x f :=
  let ⟨h1, fd, h2, h3, h4⟩ := h; ⟨_, fd, ps, c.glo x hg, h1, h2, h3.mono hk, h4⟩
theorem metF_nil {m : Str} : MetF T k m [] := fun c f h => by cases h
theorem metF {x m : Str} {n : Nat} {ps : List Str} {f : Fn} {j : Nat} {tab : List (Nat × Fn)} (c : HF fas fns exs cl xl T) (hc : clB T.K cl = true) (hx : (cl[n]?).map (·.1) = some x) (hm : (He.Fa.meth x m).ok T.K = true) (hno : m ∉ cl.flatMap (·.2)) (h : DefOk T j (He.ma T.K (He.ga T.K x) m) ps f) (hk : j ≤ k) (r : MetF T k m tab) : MetF T k m ((n, f) :: tab) := fun c' f' hl C names hC => by
  unfold lookN at hl
  split at hl
  · rename_i e
    subst e
    cases hl
    obtain ⟨q, _, e⟩ := clsAt c hc hC
    have hC' := hC
    rw [c.cls] at hC'
    obtain ⟨p, h5, h6, rfl, rfl⟩ := clF_mem hC'
    obtain ⟨h1, fd, h2, h3, h4⟩ := h
    rw [h5] at hx
    have hx : p.1 = x := Option.some.inj hx
    rw [hx] at q ⊢
    exact ⟨_, fd, ps, q.cls, He.meth_ok hm, fun z => hno (List.mem_flatMap.mpr ⟨p, h6, z⟩), h2, h3.mono hk, h4⟩
  · exact r c' f' hl C names hC
theorem spcF_nil {m : Str} {n : Nat} (hk : 2 ≤ k) : SpcF T k m n [] := ⟨hk, fun c f h => by cases h⟩
theorem spcF {x m : Str} {n c1 : Nat} {ps : List Str} {f : Fn} {j : Nat} {tab : List (Nat × Fn)} (c : HF fas fns exs cl xl T) (hx : (cl[c1]?).map (·.1) = some x) (hm : (He.Fa.meth x m).ok T.K = true) (h : DefOk T j (He.ma T.K (He.ga T.K x) m) ps f) (hn : ps.length = n) (hk : j + 2 ≤ k) (r : SpcF T k m n tab) : SpcF T k m n ((c1, f) :: tab) :=
  ⟨r.1, fun c' f' hl C names hC => by
  unfold lookN at hl
  split at hl
  · rename_i e
    subst e
    cases hl
    have hC' := hC
    rw [c.cls] at hC'
    obtain ⟨p, h5, h6, rfl, rfl⟩ := clF_mem hC'
    obtain ⟨h1, fd, h2, h3, h4⟩ := h
    rw [h5] at hx
    have hx : p.1 = x := Option.some.inj hx
    rw [hx]
    have M := He.meth_ok hm
    exact ⟨_, fd, ps, M.1, M.2, h2, hn, ⟨j, hk, h3⟩, h4⟩
  · exact r.2 c' f' hl C names hC⟩
theorem eqF {tab : List (Nat × Fn)} (c : HF fas fns exs cl xl T) (hc : clB T.K cl = true) (r : SpcF T k "__eq__" 2 tab) : EqF T k tab := ⟨r, fun n f hl C names hC => by
  obtain ⟨q, _⟩ := clsAt c hc hC
  refine ⟨q.ne, q.sub, fun c' C' names' hC' => ?_⟩
  rw [c.cls] at hC'
  obtain ⟨p, h5, h6, rfl, rfl⟩ := clF_mem hC'
  exact q.nf p h6⟩
/-! ### instances made -/
theorem init_len {c np n : Nat} {names : List Str} {ir : Sms} (ds : List D) (m : Mu) (h : init c names np n ir ds m ≠ .bad) : ds.length = np ∧ ∀ d m', init c names np n ir ds m = .ok (d, m') → ∃ fs, d = .ins c fs := by
  unfold init at h ⊢
  split at h
  · rename_i e
    refine ⟨e, fun d m' hd => ?_⟩
    rw [if_pos e] at hd
    split at hd
    · split at hd
      · split at hd
        · rename_i ds' m1 _ _ c' fs _ hcc
          cases hf : fieldsOf names fs with
          | none => rw [hf] at hd; cases hd
          | some es => rw [hf] at hd; cases hd; exact ⟨es, rfl⟩
        · cases hd
      · cases hd
    · cases hd
    · cases hd
  · exact absurd rfl h
theorem makF {x qual : Str} {params : Arguments} {body : List Stmt} {scope : Scope} {N ps names : List Str} {ir : Sms} {np n m j : Nat} (c : HF fas fns exs cl xl T) (hx : cl[m]? = some (x, names)) (hg : (He.Fa.glo x).ok T.K = true) (hm : (He.Fa.mkr x).ok T.K = true)
    (F : ∃ fd, FunD T.K "__init__" qual params body scope [] [] (He.ma T.K (He.ga T.K x) "__init__") fd) (S : FnScope N ps scope)
    (hb : ∀ (kV doc pm : Value) (an : Option Addr) (cdv ct : Value) (us : List Value), us.length = ps.length → bindArgs (PySem.W.fnOf "__init__" qual params body scope .none kV doc pm an cdv ct) ⟨us, []⟩ = pure (ps.zip us))
    (hp : ps.length = np + 1) (hn : N.length = n) (hle : ps.length ≤ n) (hc : chkTs N fl0 scope ir body = true) (nd : needTs T j .nil ir) (hk : j + 2 ≤ k) : MakF T k x m (init m names np n ir) := by
  obtain ⟨fd, F⟩ := F
  have B := F.bindsN hb
  obtain ⟨oc, od, dV, kV, doc, pm, an, cdv, ct, osl, e1, lk, hcd, hD, hK⟩ := F.ex
  rw [e1] at lk
  have hT : T.cls m = some (He.ga T.K x, names) := by rw [c.cls]; unfold clF; rw [hx]; rfl
  refine ⟨_, _, names, fd, ps, hT, c.glo x hg, He.mkr_ok hm, B, ⟨j + 1, hk, ?_⟩, fun ds m' h => ?_⟩
  · rw [e1]
    exact init_ok hT lk hcd S hn hle hp hc nd
  · obtain ⟨q1, q2⟩ := init_len ds m' h
    exact ⟨by rw [q1, hp], q2⟩
/-! ### exceptions -/
theorem raiF {x qual : Str} {params : Arguments} {body : List Stmt} {scope : Scope} {N ps names : List Str} {n m : Nat} (c : HF fas fns exs cl xl T) (hx : xl[m]? = some (x, names)) (hg : (He.Fa.glo x).ok T.K = true) (hb0 : xlB T.K (x, names) = true)
    (F : ∃ fd, FunD T.K "__init__" qual params body scope [] [] (He.ma T.K (He.ga T.K x) "__init__") fd) (S : FnScope N ps scope)
    (hb : ∀ (kV doc pm : Value) (an : Option Addr) (cdv ct : Value) (us : List Value), us.length = ps.length → bindArgs (PySem.W.fnOf "__init__" qual params body scope .none kV doc pm an cdv ct) ⟨us, []⟩ = pure (ps.zip us))
    (hne : names ≠ []) (hl : names.length = n) (h9 : n ≤ 100) (hp : ps.length = names.length + 1) (hc : xinitB N scope (Z.xl 1 names) body = true) (hk : 2 ≤ k) : RaiF T k x m n := by
  obtain ⟨fd, F⟩ := F
  have B := F.bindsN hb
  obtain ⟨oc, od, dV, kV, doc, pm, an, cdv, ct, osl, e1, lk, hcd, hD, hK⟩ := F.ex
  rw [e1] at lk
  unfold xlB at hb0
  simp only [Bool.and_eq_true, decide_eq_true_eq] at hb0
  obtain ⟨b1, b2, b3, b4, b5, b6⟩ := hb0
  have hT : T.xcl m = some (He.ga T.K x, names) := by rw [c.xcl]; unfold clF; rw [hx]; rfl
  refine ⟨_, _, names, fd, ps, hT, c.glo x hg, oexB_ok b1, He.eqO_ok b4, b5, B, hl, h9, b3, 1, hk, ?_⟩
  rw [e1]
  exact exc_ok (oexB_ok b1) (fun f hf => He.eqO_ok (List.all_eq_true.mp b2 f hf)) hne (by omega) lk hcd S hp hc
theorem exmF {x : Str} {cs : List Nat} (c : HF fas fns exs cl xl T) (hg : (He.Fa.glo x).ok T.K = true) (h : emB T.K xl x cs = true) : ExmF T x cs := ⟨_, c.glo x hg, fun n C names hC => by
  rw [c.xcl] at hC
  obtain ⟨p, h5, h6, rfl, _⟩ := clF_mem hC
  have h7 := List.all_eq_true.mp h n (List.mem_range.mpr (List.getElem?_eq_some_iff.mp h5).1)
  rw [h5] at h7
  exact of_decide_eq_true h7⟩
def xatB (xl : CL) (f : Str) (tab : List (Nat × Nat)) : Bool := tab.all fun p => match xl[p.1]? with
  | some q => decide (q.2[p.2]? = some f)
  | none => true
theorem xatF (c : HF fas fns exs cl xl T) {f : Str} {tab : List (Nat × Nat)} (h : xatB xl f tab = true) (hx : ∀ p ∈ tab, ∀ q, xl[p.1]? = some q → xlB T.K q = true) : XatF T f tab := fun n j C names hj hC => by
  have hm := lookN_mem hj
  rw [c.xcl] at hC
  obtain ⟨p, h5, h6, rfl, rfl⟩ := clF_mem hC
  have h1 := List.all_eq_true.mp h _ hm
  rw [h5] at h1
  have h2 : p.2[j]? = some f := of_decide_eq_true h1
  have b := hx _ hm p h5
  unfold xlB at b
  simp only [Bool.and_eq_true, decide_eq_true_eq] at b
  obtain ⟨b1, b2, b3, b4, b5, b6⟩ := b
  exact ⟨h2, xfB_ok b6, He.eqO_ok (List.all_eq_true.mp b2 f (List.mem_of_getElem? h2))⟩
end
end Z
end
section
set_option Elab.async false
set_option linter.all false
set_option maxRecDepth 100000
set_option maxHeartbeats 4000000
set_option autoImplicit false
/-! Z: a law's end. -/
namespace Z
open PySem PySem.Spec PyProof.Rows L2
def noPar : Arguments → Bool
  | ⟨[], [], none, [], [], none, []⟩ => true
  | _ => false
theorem noPar_ok {ps : Arguments} (h : noPar ps = true) : ps = ⟨[], [], none, [], [], none, []⟩ := by
  unfold noPar at h
  split at h
  · rfl
  · cases h
def lamB (N : List Str) (ls : Exs) (sc : Scope) (n : Nat) (d : LamD) : Bool := (match nthX ls n with
  | some y => chkE N false fl0 d.scope y d.body
  | none => false) && (LamX.lamSB sc d.scope && noPar d.params)
def flL (N : List Str) (ls : Exs) (sc : Scope) : Fl := ⟨false, false, true, lamB N ls sc⟩
def lamTab (env : PySem.Env) (L : Nat → LamD → Prop) : Nat → Addr → HO → Addr → HO → Prop := fun n f o c' u => ∃ d pm ctv, L n d ∧ o = FunO f (PySem.W.kla_obj "<lambda>" (env.qual ++ "<lambda>") d.params d.body d.scope (cloFrom env.cells d.scope.names []) pm c' ctv) ∧ u = LamX.CodeO c' (env.qual ++ "<lambda>")
def GL (T : Tab) (k : Nat) (N : List Str) (sc : Scope) (env : PySem.Env) (X : Cx) (W : WX) : Prop := CxS T (k + 1) N sc X ∧ Takes X W ∧ X.env = env
theorem lamB_ok {N : List Str} {ls : Exs} {sc : Scope} {n : Nat} {d : LamD} (h : lamB N ls sc n d = true) : (∃ y, nthX ls n = some y ∧ chkE N false fl0 d.scope y d.body = true) ∧ LamX.LamS sc d.scope ∧ noPar d.params = true := by
  unfold lamB at h
  simp only [Bool.and_eq_true] at h
  obtain ⟨h1, h2, h3⟩ := h
  refine ⟨?_, LamX.lamS_by h2, h3⟩
  split at h1
  · rename_i y e; exact ⟨y, e, h1⟩
  · cases h1
section
variable {T : Tab} {k : Nat} {N : List Str} {ls : Exs} {sc : Scope}
theorem gok_law {env : PySem.Env} {c P : Addr} (hl : T.lam = lamTab env fun n d => lamB N ls sc n d = true) (hc : env.code = .ref c) (ht : LamX.TabB T.base T.mg c P) (htb : T.tb = some (P, env.qual ++ "<lambda>")) (hs : env.scope = sc) : GOk T k N ls (flL N ls sc) sc (GL T k N sc env) where
  caps := fun X W ⟨C, tk, he⟩ => by
    have lt : LamT T X fun n d => lamB N ls sc n d = true := fun n f o c' u => by rw [hl, ← he] <;> rfl
    have lc : LamC T X c P := ⟨by rw [he]; exact hc, by rw [C.hbase, C.hmg]; exact ht, by rw [he]; exact htb⟩
    have Ck : CxOk T k N sc X := { C.toCxOk with room := C.room.mono (by omega) }
    have hS : ∀ n d, lamB N ls sc n d = true → LamX.LamS X.env.scope d.scope := fun n d h => by rw [he, hs]; exact (lamB_ok h).2.1
    exact ⟨C.toCxB, fun _ => ⟨Ck, tk⟩, (fun z => by cases z), fun _ n d h => (lamB_ok h).1,
      fun _ n d pos h => pe_zlam C lc lt h (by rw [noPar_ok (lamB_ok h).2.2]; rfl) (hS n d h),
      fun _ i x p1 p2 hx hb => by
        obtain ⟨q1, q2, q3, q4⟩ := nmB_ok hx
        exact pe_zact C tk lt q1 q2 q3 q4 hS (fun n d h q cl pm cv ctv => by rw [noPar_ok (lamB_ok h).2.2]; rfl) hb⟩
  cx := fun X W ⟨C, tk, he⟩ => ⟨{ C with room := C.room.mono (by omega) }, tk⟩
  tr := fun X W ⟨C, tk, he⟩ W' pn xe tk' ho => ⟨tr_cx C ho, tk', he⟩
end
/-! ### the law's def -/
def mkT (P : Program) (w : World) (K : PySem.W.Frag) (mg : Str → Option Value) (base : Heap) (cl xl : CL) (lam : Nat → Addr → HO → Addr → HO → Prop) (tb : Option (Addr × Str)) : Tab :=
  { P := P, w := w, K := K, mg := mg, base := base, cls := clF K cl, xcl := clF K xl, lam := lam, xo := fun _ _ _ => False, tb := tb }
def spLaw (K : PySem.W.Frag) (Po : Option Addr) : Sp := fun vs H Q _ => ∃ (a : Addr) (ns : List Int), vs = [.ref a] ∧ ns.length ≤ 63 ∧ (∀ P, Po = some P → H P = some (.tbl #[])) ∧ SqL K H a (ns.map V.int) ∧ ∀ H', Q (.bl true) H'
theorem sr_start {T : Tab} {H : Hp} (h : ∀ P q, T.tb = some (P, q) → H P = some (.tbl #[])) : ∃ F, SR T ⟨[], T.wr [], F, H⟩ [] F [] [] [] H ∧ ∀ b, (∀ P q, T.tb = some (P, q) → b ≠ P) → F b = H b := by
  classical
  refine ⟨fun b => if ∃ q, T.tb = some (b, q) then none else H b, ⟨fun a o e => ?_, Le.rfl', List.prefix_refl _, fun a o e _ => e, fun a e => e, fun a e => rfl, fun a e z => ?_, fun a h => (by cases h), ⟨rfl, List.nodup_nil, fun n a e => by simp at e⟩, rfl, fun i s e => by simp at e, fun i j s t a e => by simp at e, fun P q e => ?_⟩, fun b hb => if_neg fun ⟨q, z⟩ => hb b q z rfl⟩
  · have e : (if ∃ q, T.tb = some (a, q) then none else H a) = some o := e
    split at e
    · cases e
    · exact e
  · have e : (if ∃ q, T.tb = some (a, q) then none else H a) ≠ none := e
    have z : H a = none := z
    split at e
    · exact e rfl
    · exact e z
  · refine ⟨wr_tb e, ⟨_, h P q e⟩, if_pos ⟨q, e⟩, #[], h P q e, True.intro, fun pos cv hc => ?_⟩
    have z : codeAmong pos [] = some cv := hc
    simp [codeAmong] at z
theorem sqL_F {K : PySem.W.Frag} {F H : Hp} {a : Addr} {xs : List V} (h : SqL K H a xs) (e : ∀ o, H a = some o → (∀ ps, o ≠ .tbl ps) → F a = some o) : SqL K F a xs := by
  rcases h with (h | ⟨o, h⟩) | h
  · exact .inl (.inl (e _ h fun ps z => by cases z))
  · exact .inl (.inr ⟨o, e _ h fun ps z => by cases z⟩)
  · exact .inr h
theorem law_ok {P : Program} {w : World} {K : PySem.W.Frag} {mg : Str → Option Value} {base : Heap} {cl xl : CL} {fas : List He.Fa} {fn' : List He.DefD} {ex : List (PySem.W.Frag → Bool)} {k : Nat} {N : List Str} {ls : Exs} {ir : Sms} {name qual : Str} {params : Arguments} {body : List Stmt} {scope : Scope} {fa c Pt : Addr} {fd : FuncData} {n : Nat}
    (F : FunD K name qual params body scope [] [] fa fd) (S : FnScope N ["script"] scope) (hn : N.length = n) (h1 : 1 ≤ n) (hc : chkTs N (flL N ls scope) scope ir body = true)
    (hHF : ∀ lam tb, HF fas fn' ex cl xl (mkT P w K mg base cl xl lam tb)) (nd : ∀ T : Tab, HF fas fn' ex cl xl T → needTs T k ls ir)
    (hcd : ∀ oc od osl cdv qual' name' params' body' scope' dV kV doc pm an ct, K.lookup fa = some ⟨oc, od, .func (PySem.W.fnOf name' qual' params' body' scope' dV kV doc pm an cdv ct), osl⟩ → PySem.W.codeIn K cdv qual' = true → cdv = .ref c) (ht : LamX.TabB base mg c Pt)
    (pl : ∀ ns : List Int, ns.length ≤ 63 → ∃ m', fn 1 n ir [.lst (ns.map .int)] [] = .ok (.bl true, m')) : FnOk P w K mg base (L2.CX P w) (k + 2) fa fd ["script"] (spLaw K (some Pt)) := by
  obtain ⟨oc, od, dV, kV, doc, pm, an, cdv, ct, osl, rfl, lk, hcd', _, _⟩ := F.ex
  have hcv := hcd _ _ _ _ _ _ _ _ _ _ _ _ _ _ _ lk hcd'
  refine fn_of lk hcd' S (fun vs H Q E ⟨a, ns, e, _⟩ => by rw [e]; rfl) fun A outer s H vs Q E hr ⟨a, ns, ev, hl, hP, hS, hQ⟩ => ?_
  subst ev
  let env := envOfC qual scope s.heap.objs.size fa cdv
  let T := mkT P w K mg base cl xl (lamTab env fun n d => lamB N ls scope n d = true) (some (Pt, env.qual ++ "<lambda>"))
  have HT : HF fas fn' ex cl xl T := hHF _ _
  obtain ⟨C, tk⟩ := cx_def (T := T) (k := k + 1) (H := H) (E := E) (cdv := cdv) (qual := qual) (f := fa) (outer := outer) S hr
  have G := gok_law (T := T) (k := k) (N := N) (ls := ls) (sc := scope) (env := env) (c := c) (P := Pt) rfl hcv ht rfl rfl
  obtain ⟨F0, sr, hF⟩ := sr_start (T := T) (H := H) fun P' q e => by
    have e2 : some (Pt, env.qual ++ "<lambda>") = some (P', q) := e
    cases e2
    exact hP _ rfl
  have hSF : SqL K F0 a (ns.map V.int) := sqL_F hS fun o e no => by
    rw [hF a fun P' q e2 z => ?_]
    · exact e
    · have e3 : some (Pt, env.qual ++ "<lambda>") = some (P', q) := e2
      cases e3
      rw [z, hP _ rfl] at e
      exact no _ (Option.some.inj e).symm
  have rs : Reps T [] F0 [.lst (ns.map D.int)] [.ref a] := Reps.cons ⟨a, _, rfl, hSF, by rw [List.length_map]; exact Nat.le_trans hl (by decide), Reps.of_ints ns⟩ Reps.nil
  obtain ⟨m', hm⟩ := pl ns hl
  refine ⟨_, sndTs G ir _ _ body ⟨C, tk, rfl⟩ hc (nd T HT), _, [], F0, _, [], sr.frame rs hn h1, out_fn (np := 1) ?_⟩
  rw [hm]
  exact fun M' F' H' _ _ _ v rv => by
    have e : v = .bl true := rv
    rw [e]
    exact hQ H'
end Z
end
section
set_option Elab.async false
set_option linter.all false
set_option maxRecDepth 100000
set_option maxHeartbeats 4000000
set_option autoImplicit false
/-! M0: reckoning with layer Z: what each form gives, one rule a form. -/
namespace Z
open PySem
section
variable {α β : Type}
@[simp ↓] theorem bind_match {x : R α} {f : α → R β} : x.bind f = match x with
  | .ok a => f a
  | .ex c fs m => .ex c fs m
  | .bad => .bad := rfl
@[simp ↓] theorem of_match {x : R α} {ρ : Env} {f : α → S} : S.of x ρ f = match x with
  | .ok a => f a
  | .ex c fs m => .ex c fs ρ m
  | .bad => .bad := rfl
@[simp ↓] theorem then_match {x : S} {f : Env → Mu → S} : x.then f = match x with
  | .nx ρ m => f ρ m
  | r => r := rfl
@[simp ↓] theorem rof_match {x : Option α} : R.of x = match x with
  | some a => .ok a
  | none => .bad := rfl
end
section
variable {ρ : Env} {m : Mu} {i : Nat} {a b c x : Ex} {d : D} {es : Exs}
@[simp ↓] theorem ev_var : ev (.var i) ρ m = (R.of (getV ρ i)).bind fun d => .ok (d, m) := rfl
@[simp ↓] theorem ev_con : ev (.con d) ρ m = .ok (d, m) := rfl
@[simp ↓] theorem ev_glo {y : Str} : ev (.glo y d) ρ m = .ok (d, m) := rfl
@[simp ↓] theorem ev_tup : ev (.tup es) ρ m = (evs es ρ m).bind fun p => if p.1.length ≤ line then .ok (.tup p.1, p.2) else .bad := rfl
@[simp ↓] theorem ev_lst : ev (.lst es) ρ m = (evs es ρ m).bind fun p => if p.1.length ≤ line then .ok (.lst p.1, p.2) else .bad := rfl
@[simp ↓] theorem ev_bin {op : BO} : ev (.bin op a b) ρ m = (rdv a ρ m (ev a ρ m)).bind fun p => (rdv b ρ p.2 (ev b ρ p.2)).bind fun q => (R.of (boSem op p.1 q.1)).bind fun d => .ok (d, q.2) := rfl
@[simp ↓] theorem ev_neg : ev (.neg a) ρ m = (ev a ρ m).bind fun p => match p.1 with
    | .int i => .ok (.int (-i), p.2)
    | _ => .bad := rfl
@[simp ↓] theorem ev_cmp {op : CO} : ev (.cmp op a b) ρ m = (rdv a ρ m (ev a ρ m)).bind fun p => (rdv b ρ p.2 (ev b ρ p.2)).bind fun q => cmpR op q.2 p.1 q.1 := rfl
@[simp ↓] theorem ev_cmp2 {o1 o2 : CO} : ev (.cmp2 o1 o2 a b c) ρ m = (ev a ρ m).bind fun p => (ev b ρ p.2).bind fun q => (R.of (coSem o1 p.1 q.1)).bind fun k => match k with
    | true => (ev c ρ q.2).bind fun r => cmpR o2 r.2 q.1 r.1
    | false => .ok (.bl false, q.2) := rfl
@[simp ↓] theorem ev_and : ev (.and a b) ρ m = (ev a ρ m).bind fun p => match p.1 with
    | .bl true => ev b ρ p.2
    | .bl false => .ok (.bl false, p.2)
    | _ => .bad := rfl
@[simp ↓] theorem ev_or : ev (.or a b) ρ m = (ev a ρ m).bind fun p => match p.1 with
    | .bl true => .ok (.bl true, p.2)
    | .bl false => ev b ρ p.2
    | _ => .bad := rfl
@[simp ↓] theorem ev_not : ev (.not a) ρ m = (tst (ev a ρ m)).bind fun p => .ok (.bl (!p.1), p.2) := rfl
@[simp ↓] theorem ev_ife : ev (.ife c a b) ρ m = (tst (ev c ρ m)).bind fun p => match p.1 with
    | true => ev a ρ p.2
    | false => ev b ρ p.2 := rfl
@[simp ↓] theorem ev_idx {j : Ex} : ev (.idx a j) ρ m = (rdv a ρ m (ev a ρ m)).bind fun p => (ev j ρ p.2).bind fun q => match deref q.2 p.1, q.1 with
    | .lst xs, .int i => (R.of (atD xs i)).bind fun d => .ok (d, q.2)
    | .tup xs, .int i => (R.of (atD xs i)).bind fun d => .ok (d, q.2)
    | .dic ks vs, k => (R.of ((key? k).bind fun k => dget? k ks vs)).bind fun d => .ok (d, q.2)
    | _, _ => .bad := rfl
@[simp ↓] theorem ev_slc {lo hi : Ex} : ev (.slc a lo hi) ρ m = (rdv a ρ m (ev a ρ m)).bind fun p => (prt lo p.2 (ev lo ρ p.2)).bind fun q => (prt hi q.2 (ev hi ρ q.2)).bind fun r => match p.1 with
    | .lst xs => .ok (.lst (cutD xs q.1 r.1), r.2)
    | _ => .bad := rfl
@[simp ↓] theorem ev_att {f : Str} {tab : List (Nat × Nat)} : ev (.att a f tab) ρ m = (ev a ρ m).bind fun p => (R.of (attOf p.2 tab p.1)).bind fun d => .ok (d, p.2) := rfl
@[simp ↓] theorem ev_xat {f : Str} {tab : List (Nat × Nat)} : ev (.xat i f tab) ρ m = match slotAt ρ i with
    | .xc c fs => (R.of ((lookN tab c).bind fun k => fs[k]?)).bind fun d => .ok (d, m)
    | _ => .bad := rfl
@[simp ↓] theorem ev_call {y : Str} {f : Fn} : ev (.call y f es) ρ m = (evs es ρ m).bind fun p => f p.1 p.2 := rfl
@[simp ↓] theorem ev_make {y : Str} {n : Nat} {f : Fn} : ev (.make y n f es) ρ m = (evs es ρ m).bind fun p => f p.1 p.2 := rfl
@[simp ↓] theorem ev_meth {y : Str} {tab : List (Nat × Fn)} : ev (.meth a y tab es) ρ m = (ev a ρ m).bind fun p => match inTab tab p.1 with
    | true => (evs es ρ p.2).bind fun q => callTab tab p.1 q.1 q.2
    | false => .bad := rfl
@[simp ↓] theorem ev_bi {y : Bi} : ev (.bi y es) ρ m = (evrs es ρ m).bind fun p => (R.of (biSem y p.1)).bind fun d => .ok (d, p.2) := rfl
@[simp ↓] theorem ev_dget {k : Ex} : ev (.dget a k x) ρ m = (rdv a ρ m (ev a ρ m)).bind fun p => match p.1 with
    | .dic ks vs => (ev k ρ p.2).bind fun q => (ev x ρ q.2).bind fun r => (R.of (key? q.1)).bind fun k => .ok ((dget? k ks vs).getD r.1, r.2)
    | _ => .bad := rfl
@[simp ↓] theorem ev_isi {ts : List Ty} {w : Bool} : ev (.isi a ts w) ρ m = (ev a ρ m).bind fun p => if isRL p.1 = true then .bad else .ok (.bl (ts.any (isTy p.1)), p.2) := rfl
theorem ev_lc {p : Pat} {src : Src} : ev (.lc p src c x) ρ m = (evSrc src true ρ m).bind fun q => (lcL (fun d => bindP p d (roE ρ (pnames p))) (fun ρ m => tst (ev c ρ m)) (ev x) q.1 q.2).tame.bind fun r => .ok (.lst r.1, r.2) := rfl
@[simp ↓] theorem ev_act : ev (.act i es) ρ m = match getV ρ i with
    | some (.lam n) => evN es n ρ m
    | _ => .bad := rfl
@[simp ↓] theorem ev_lam : ev (.lam i) ρ m = .ok (.lam i, m) := rfl
@[simp ↓] theorem ev_tru {tab : List (Nat × Fn)} : ev (.tru tab a) ρ m = (ev a ρ m).bind fun p => (callTab tab p.1 [] p.2).bind fun q => match q.1 with
    | .bl k => .ok (.bl k, q.2)
    | _ => .bad := rfl
@[simp ↓] theorem ev_eqi {neg : Bool} {tab : List (Nat × Fn)} : ev (.eqi neg tab a b) ρ m = (ev a ρ m).bind fun p => (ev b ρ p.2).bind fun q => match isIns q.1 with
    | true => (callTab tab p.1 [q.1] q.2).bind fun r => match r.1 with
      | .bl k => .ok (.bl (if neg then !k else k), r.2)
      | _ => .bad
    | false => .bad := rfl
@[simp ↓] theorem evs_nil : evs .nil ρ m = .ok ([], m) := rfl
@[simp ↓] theorem evs_cons : evs (.cons a es) ρ m = (ev a ρ m).bind fun p => (evs es ρ p.2).bind fun q => .ok (p.1 :: q.1, q.2) := rfl
@[simp ↓] theorem evs_star : evs (.star a es) ρ m = (rdv a ρ m (ev a ρ m)).bind fun p => match items? p.1 with
    | some xs => (evs es ρ p.2).bind fun q => .ok (xs ++ q.1, q.2)
    | none => .bad := rfl
@[simp ↓] theorem evrs_nil : evrs .nil ρ m = .ok ([], m) := rfl
@[simp ↓] theorem evrs_cons : evrs (.cons a es) ρ m = (rdv a ρ m (ev a ρ m)).bind fun p => (evrs es ρ p.2).bind fun q => .ok (p.1 :: q.1, q.2) := rfl
@[simp ↓] theorem evSrc_seq {o : Bool} : evSrc (.seq a) o ρ m = (rdo o a ρ m (ev a ρ m)).bind fun p => (R.of (items? p.1)).bind fun xs => .ok (xs, p.2) := rfl
@[simp ↓] theorem evSrc_rng1 {o : Bool} : evSrc (.rng1 a) o ρ m = (ev a ρ m).bind fun p => match p.1 with
    | .int j => if small j ∧ j ≤ (line : Int) then .ok (rngI 0 j.toNat 1, p.2) else .bad
    | _ => .bad := rfl
@[simp ↓] theorem evSrc_rng2 {o : Bool} : evSrc (.rng2 a b) o ρ m = (ev a ρ m).bind fun p => (ev b ρ p.2).bind fun q => match p.1, q.1 with
    | .int i, .int j => if small i ∧ small j ∧ j - i ≤ (line : Int) then .ok (rngI i (j - i).toNat 1, q.2) else .bad
    | _, _ => .bad := rfl
@[simp ↓] theorem evSrc_rng3 {o : Bool} {c : Int} : evSrc (.rng3 a b c) o ρ m = (ev a ρ m).bind fun p => (ev b ρ p.2).bind fun q => match p.1, q.1 with
    | .int i, .int j => if small i ∧ small j ∧ rngN i j c ≤ line ∧ c ≠ 0 ∧ c.natAbs < 1000000 then .ok (rngI i (rngN i j c) c, q.2) else .bad
    | _, _ => .bad := rfl
@[simp ↓] theorem evSrc_enu {o : Bool} : evSrc (.enu a) o ρ m = (rdo o a ρ m (ev a ρ m)).bind fun p => (R.of (items? p.1)).bind fun xs => .ok (enuF 0 xs, p.2) := rfl
@[simp ↓] theorem evSrc_zip {o : Bool} : evSrc (.zip a b) o ρ m = (rdo o a ρ m (ev a ρ m)).bind fun p => (rdo o b ρ p.2 (ev b ρ p.2)).bind fun q => match p.1, q.1 with
    | .lst xs, .lst ys => .ok (zip2 xs ys, q.2)
    | .tup xs, .tup ys => .ok (zip2 xs ys, q.2)
    | _, _ => .bad := rfl
variable {r : R (D × Mu)}
@[simp ↓] theorem rdv_var : rdv (.var i) ρ m r = (R.of (getR ρ i)).bind fun d => .ok (d, m) := rfl
theorem rdv_no {e : Ex} (h : ∀ i, e ≠ .var i) : rdv e ρ m r = r := by
  cases e <;> first | rfl | exact absurd rfl (h _)
@[simp ↓] theorem rdv_con : rdv (.con d) ρ m r = r := rfl
@[simp ↓] theorem rdv_glo {y : Str} : rdv (.glo y d) ρ m r = r := rfl
@[simp ↓] theorem rdv_tup : rdv (.tup es) ρ m r = r := rfl
@[simp ↓] theorem rdv_lst : rdv (.lst es) ρ m r = r := rfl
@[simp ↓] theorem rdv_bin {op : BO} : rdv (.bin op a b) ρ m r = r := rfl
@[simp ↓] theorem rdv_neg : rdv (.neg a) ρ m r = r := rfl
@[simp ↓] theorem rdv_cmp {op : CO} : rdv (.cmp op a b) ρ m r = r := rfl
@[simp ↓] theorem rdv_cmp2 {o1 o2 : CO} : rdv (.cmp2 o1 o2 a b c) ρ m r = r := rfl
@[simp ↓] theorem rdv_and : rdv (.and a b) ρ m r = r := rfl
@[simp ↓] theorem rdv_or : rdv (.or a b) ρ m r = r := rfl
@[simp ↓] theorem rdv_not : rdv (.not a) ρ m r = r := rfl
@[simp ↓] theorem rdv_ife : rdv (.ife c a b) ρ m r = r := rfl
@[simp ↓] theorem rdv_idx : rdv (.idx a b) ρ m r = r := rfl
@[simp ↓] theorem rdv_slc : rdv (.slc a b c) ρ m r = r := rfl
@[simp ↓] theorem rdv_att {f : Str} {tab : List (Nat × Nat)} : rdv (.att a f tab) ρ m r = r := rfl
@[simp ↓] theorem rdv_xat {f : Str} {tab : List (Nat × Nat)} : rdv (.xat i f tab) ρ m r = r := rfl
@[simp ↓] theorem rdv_call {y : Str} {f : Fn} : rdv (.call y f es) ρ m r = r := rfl
@[simp ↓] theorem rdv_make {y : Str} {n : Nat} {f : Fn} : rdv (.make y n f es) ρ m r = r := rfl
@[simp ↓] theorem rdv_meth {y : Str} {tab : List (Nat × Fn)} : rdv (.meth a y tab es) ρ m r = r := rfl
@[simp ↓] theorem rdv_bi {y : Bi} : rdv (.bi y es) ρ m r = r := rfl
@[simp ↓] theorem rdv_dget : rdv (.dget a b c) ρ m r = r := rfl
@[simp ↓] theorem rdv_isi {ts : List Ty} {w : Bool} : rdv (.isi a ts w) ρ m r = r := rfl
@[simp ↓] theorem rdv_lc {p : Pat} {src : Src} : rdv (.lc p src c x) ρ m r = r := rfl
@[simp ↓] theorem rdv_tru {tab : List (Nat × Fn)} : rdv (.tru tab a) ρ m r = r := rfl
@[simp ↓] theorem rdv_eqi {neg : Bool} {tab : List (Nat × Fn)} : rdv (.eqi neg tab a b) ρ m r = r := rfl
@[simp ↓] theorem rdo_t : rdo true a ρ m r = rdv a ρ m r := rfl
@[simp ↓] theorem rdo_f : rdo false a ρ m r = r := rfl
@[simp ↓] theorem prt_non {q : R (D × Mu)} : prt (.con .non) m q = .ok (none, m) := rfl
@[simp ↓] theorem prt_int {q : R (D × Mu)} {n : Int} : prt (.con (.int n)) m q = q.bind fun p => match p.1 with
    | .int i => .ok (some i, p.2)
    | _ => .bad := rfl
@[simp ↓] theorem prt_var {q : R (D × Mu)} : prt (.var i) m q = q.bind fun p => match p.1 with
    | .int i => .ok (some i, p.2)
    | _ => .bad := rfl
@[simp ↓] theorem prt_bin {q : R (D × Mu)} {op : BO} : prt (.bin op a b) m q = q.bind fun p => match p.1 with
    | .int i => .ok (some i, p.2)
    | _ => .bad := rfl
@[simp ↓] theorem prt_neg {q : R (D × Mu)} : prt (.neg a) m q = q.bind fun p => match p.1 with
    | .int i => .ok (some i, p.2)
    | _ => .bad := rfl
@[simp ↓] theorem tst_match {r : R (D × Mu)} : tst r = match r with
  | .ok p => (R.of (truth p.1)).bind fun k => .ok (k, p.2)
  | .ex c fs m => .ex c fs m
  | .bad => .bad := by cases r <;> rfl
@[simp] theorem cmpR_of {op : CO} {u v : D} : cmpR op m u v = (R.of (coSem op u v)).bind fun k => .ok (.bl k, m) := rfl
end
section
variable {ρ : Env} {m : Mu} {i j : Nat} {e : Ex} {ss tt : Sms} {s : Sm}
@[simp ↓] theorem runs_nil : runs .nil ρ m = .nx ρ m := rfl
@[simp ↓] theorem runs_cons : runs (.cons s ss) ρ m = (run s ρ m).then fun ρ m => runs ss ρ m := rfl
@[simp ↓] theorem run_asg : run (.asg i e) ρ m = S.of (ev e ρ m) ρ fun p => .nx (ρ.set i (.va p.1)) p.2 := rfl
@[simp ↓] theorem run_asgF : run (.asgF i e) ρ m = S.of (ev e ρ m) ρ fun p => if isC p.1 then .nx (ρ.set i (.ow p.1)) p.2 else .bad := rfl
@[simp ↓] theorem run_asgT {p : Pat} : run (.asgT p e) ρ m = S.of (ev e ρ m) ρ fun q => match bindP p q.1 ρ with
    | some ρ' => .nx ρ' q.2
    | none => .bad := rfl
@[simp ↓] theorem run_par {fi fj : Bool} {a b : Ex} : run (.par i j fi fj a b) ρ m = S.of (ev a ρ m) ρ fun p => if (fi && !isC p.1) = true then .bad else S.of (ev b (if fi then roE ρ [] else ρ) p.2) ρ fun q => if (fj && !isC q.1) = true then .bad else
      .nx ((ρ.set i (if fi then .ow p.1 else .va p.1)).set j (if fj then .ow q.1 else .va q.1)) q.2 := rfl
@[simp ↓] theorem run_app : run (.app i e) ρ m = match slotAt ρ i with
    | .ow (.lst xs) => S.of (ev e ρ m) ρ fun p => if xs.length < line then .nx (ρ.set i (.ow (.lst (xs ++ [p.1])))) p.2 else .bad
    | _ => .bad := rfl
@[simp ↓] theorem run_setI {k : Ex} : run (.setI i k e) ρ m = match slotAt ρ i with
    | .ow d => S.of (ev e ρ m) ρ fun p => S.of (ev k ρ p.2) ρ fun q => match storeD d q.1 p.1 with
      | some d' => .nx (ρ.set i (.ow d')) q.2
      | none => .bad
    | _ => .bad := rfl
@[simp ↓] theorem run_setA {f : Str} : run (.setA f e) ρ m = match slotAt ρ 0 with
    | .me c fs => if fs.length < 1000 then S.of (ev e ρ m) ρ fun p => .nx (ρ.set 0 (.me c (putS f p.1 fs))) p.2 else .bad
    | _ => .bad := rfl
@[simp ↓] theorem run_expr : run (.expr e) ρ m = S.of (ev e ρ m) ρ fun p => .nx ρ p.2 := rfl
@[simp ↓] theorem run_ifs {a b : Sms} : run (.ifs e a b) ρ m = S.of (tst (ev e ρ m)) ρ fun p => match p.1 with
    | true => runs a ρ p.2
    | false => runs b ρ p.2 := rfl
@[simp ↓] theorem run_fors {p : Pat} {src : Src} {clr : List Nat} : run (.fors p src ss clr) ρ m = S.of (evSrc src false ρ m) ρ fun q => forL (bindP p) (runs ss) clr q.1 ρ q.2 := rfl
@[simp ↓] theorem run_whl {clr : List Nat} : run (.whl e ss clr) ρ m = whlL (evT e) (runs ss) clr turns ρ m := rfl
@[simp ↓] theorem run_ret : run (.ret e) ρ m = S.of (ev e ρ m) ρ fun p => .rt p.1 p.2 := rfl
@[simp ↓] theorem run_retN : run .retN ρ m = .rt .non m := rfl
@[simp ↓] theorem run_raise {y : Str} {c n : Nat} {es : Exs} : run (.raise y c n es) ρ m = S.of (evs es ρ m) ρ fun p => if p.1.length = n then .ex c p.1 ρ p.2 else .bad := rfl
@[simp ↓] theorem run_newr : run (.newr i e) ρ m = S.of (ev e ρ m) ρ fun p => if isC p.1 then .nx (ρ.set i (.va (.ref p.2.length))) (p.2 ++ [p.1]) else .bad := rfl
@[simp ↓] theorem run_pass : run .pass ρ m = .nx ρ m := rfl
@[simp ↓] theorem run_cont : run .cont ρ m = .ct ρ m := rfl
@[simp ↓] theorem run_frz {is : List Nat} : run (.frz is) ρ m = .nx (freeze ρ is) m := rfl
@[simp ↓] theorem run_augI {k : Ex} {op : BO} : run (.augI i k op e) ρ m = match slotAt ρ i with
    | .ow d => S.of (ev k ρ m) ρ fun q => S.of (R.of (fetchD d q.1)) ρ fun x => S.of (ev e ρ q.2) ρ fun p => S.of (R.of (augO op x p.1)) ρ fun y => match storeD d q.1 y with
      | some d' => .nx (ρ.set i (.ow d')) p.2
      | none => .bad
    | .va (.ref n) => S.of (ev k ρ m) ρ fun q => S.of (R.of ((q.2[n]?).bind fun d => fetchD d q.1)) ρ fun x => S.of (ev e ρ q.2) ρ fun p => S.of (R.of (augO op x p.1)) ρ fun y =>
      match (p.2[n]?).bind fun d => storeD d q.1 y with
      | some d' => .nx ρ (p.2.set n d')
      | none => .bad
    | _ => .bad := rfl
@[simp ↓] theorem run_aug {op : BO} : run (.aug i op e) ρ m = match getV ρ i with
    | some (.int x) => S.of (ev e ρ m) ρ fun p => match op, p.1 with
      | .add, .int y => .nx (ρ.set i (.va (.int (x + y)))) p.2
      | .sub, .int y => .nx (ρ.set i (.va (.int (x - y)))) p.2
      | _, _ => .bad
    | _ => .bad := rfl
@[simp ↓] theorem run_tryx {y : Str} {cs : List Nat} : run (.tryx ss y cs i tt) ρ m = match runs ss ρ m with
    | .ex c' fs ρ' m' => if cs.contains c' = true then (match runs tt (ρ'.set i (.xc c' fs)) m' with
      | .nx ρ2 m2 => .nx ((killX ρ2).set i .un) m2
      | .ct ρ2 m2 => .ct ((killX ρ2).set i .un) m2
      | .rt d m2 => .rt d m2
      | _ => .bad) else .ex c' fs ρ' m'
    | r => r := rfl
end
section
variable {s : Sl} {ρ : Env} {i : Nat} {d : D} {c : Nat} {fs : List D}
@[simp] theorem slotAt_0 : slotAt (s :: ρ) 0 = s := rfl
@[simp] theorem slotAt_s : slotAt (s :: ρ) (i + 1) = slotAt ρ i := rfl
@[simp] theorem getV_0 : getV (.va d :: ρ) 0 = some d := rfl
@[simp] theorem getV_s : getV (s :: ρ) (i + 1) = getV ρ i := rfl
@[simp] theorem getR_va : getR (.va d :: ρ) 0 = some d := rfl
@[simp] theorem getR_ow : getR (.ow d :: ρ) 0 = some d := rfl
@[simp] theorem getR_ro : getR (.ro d :: ρ) 0 = some d := rfl
@[simp] theorem getR_s : getR (s :: ρ) (i + 1) = getR ρ i := rfl
@[simp] theorem roE_eq {ρ : Env} {is : List Nat} : roE ρ is = clear (ρ.map Sl.ro') is := rfl
@[simp] theorem clear_nil {ρ : Env} : clear ρ [] = ρ := rfl
@[simp] theorem clear_cons {ρ : Env} {i : Nat} {is : List Nat} : clear ρ (i :: is) = clear (ρ.set i .un) is := rfl
@[simp] theorem pn_name {i : Nat} : pnames (.name i) = [i] := rfl
@[simp] theorem pn_tup {ps : Pats} : pnames (.tup ps) = pnamess ps := rfl
@[simp] theorem pn_nil : pnamess .nil = [] := rfl
@[simp] theorem pn_cons {p : Pat} {ps : Pats} : pnamess (.cons p ps) = pnames p ++ pnamess ps := rfl
@[simp] theorem ro_va : (Sl.va d).ro' = .va d := rfl
@[simp] theorem ro_ow : (Sl.ow d).ro' = .ro d := rfl
@[simp] theorem ro_ro : (Sl.ro d).ro' = .ro d := rfl
@[simp] theorem ro_un : Sl.un.ro' = .un := rfl
end
section
variable {i j : Int} {b : Bool} {x : Str} {xs ys : List D} {c : Nat} {k n : Nat} {a d : D}
@[simp] theorem truth_bl : truth (.bl b) = some b := rfl
@[simp] theorem co_lt : coSem .lt (.int i) (.int j) = some (decide (i < j)) := rfl
@[simp] theorem co_le : coSem .le (.int i) (.int j) = some (decide (i ≤ j)) := rfl
@[simp] theorem co_gt : coSem .gt (.int i) (.int j) = some (decide (j < i)) := rfl
@[simp] theorem co_ge : coSem .ge (.int i) (.int j) = some (decide (j ≤ i)) := rfl
@[simp] theorem co_is : coSem .is_ .non .non = some true := rfl
@[simp] theorem co_is_i : coSem .is_ (.int i) .non = some false := rfl
@[simp] theorem co_is_s : coSem .is_ (.str x) .non = some false := rfl
@[simp] theorem co_is_t : coSem .is_ (.tup xs) .non = some false := rfl
@[simp] theorem co_is_n : coSem .is_ (.ins c xs) .non = some false := rfl
@[simp] theorem co_isn : coSem .isnot .non .non = some false := rfl
@[simp] theorem co_isn_i : coSem .isnot (.int i) .non = some true := rfl
@[simp] theorem co_isn_t : coSem .isnot (.tup xs) .non = some true := rfl
@[simp] theorem co_eq_i : coSem .eq (.int i) (.int j) = some (decide (i = j)) := rfl
@[simp] theorem co_ne_i : coSem .ne (.int i) (.int j) = some (!decide (i = j)) := rfl
@[simp] theorem co_eq_b {b' : Bool} : coSem .eq (.bl b) (.bl b') = some (b == b') := rfl
@[simp] theorem co_ne_b {b' : Bool} : coSem .ne (.bl b) (.bl b') = some (!(b == b')) := rfl
@[simp] theorem bo_add : boSem .add (.int i) (.int j) = some (.int (i + j)) := rfl
@[simp] theorem bo_sub : boSem .sub (.int i) (.int j) = some (.int (i - j)) := rfl
@[simp] theorem lookN_nil {α : Type} : lookN ([] : List (Nat × α)) n = none := rfl
@[simp] theorem lookN_cons {α : Type} {v : α} {r : List (Nat × α)} : lookN ((k, v) :: r) n = if k = n then some v else lookN r n := rfl
@[simp] theorem isRL_i : isRL (.int i) = false := rfl
@[simp] theorem isRL_b : isRL (.bl b) = false := rfl
@[simp] theorem isRL_n : isRL .non = false := rfl
@[simp] theorem isRL_s : isRL (.str x) = false := rfl
@[simp] theorem isRL_t : isRL (.tup xs) = false := rfl
@[simp] theorem isRL_l : isRL (.lst xs) = false := rfl
@[simp] theorem isRL_o : isRL (.ins c xs) = false := rfl
@[simp] theorem isIns_o : isIns (.ins c xs) = true := rfl
@[simp] theorem isC_l : isC (.lst xs) = true := rfl
@[simp] theorem isC_d {ks : List Key} : isC (.dic ks xs) = true := rfl
@[simp] theorem it_l : items? (.lst xs) = some xs := rfl
@[simp] theorem it_t : items? (.tup xs) = some xs := rfl
@[simp] theorem inTab_ins {tab : List (Nat × Fn)} : inTab tab (.ins c xs) = (lookN tab c).isSome := rfl
@[simp] theorem callTab_ins {tab : List (Nat × Fn)} {m : Mu} : callTab tab (.ins c xs) ys m = match lookN tab c with
    | some f => f (.ins c xs :: ys) m
    | none => .bad := rfl
@[simp] theorem dr_l {m : Mu} : deref m (.lst xs) = .lst xs := rfl
@[simp] theorem dr_t {m : Mu} : deref m (.tup xs) = .tup xs := rfl
@[simp] theorem dr_d {m : Mu} {ks : List Key} : deref m (.dic ks xs) = .dic ks xs := rfl
@[simp] theorem dr_i {m : Mu} : deref m (.ins c xs) = .ins c xs := rfl
@[simp] theorem dr_r {m : Mu} : deref m (.ref n) = (m[n]?).getD .non := rfl
@[simp] theorem attOf_ins {m : Mu} {tab : List (Nat × Nat)} : attOf m tab (.ins c xs) = (lookN tab c).bind fun k => xs[k]? := rfl
@[simp] theorem key_i : key? (.int i) = some (.inl i) := rfl
@[simp] theorem ty_i {t : String} : isTy (.int i) (.bt t) = (t == "int") := rfl
@[simp] theorem ty_b {t : String} : isTy (.bl b) (.bt t) = (t == "int" || t == "bool") := rfl
@[simp] theorem ty_n {t : String} : isTy .non (.bt t) = false := rfl
@[simp] theorem ty_s {t : String} : isTy (.str x) (.bt t) = (t == "str") := rfl
@[simp] theorem ty_l {t : String} : isTy (.lst xs) (.bt t) = (t == "list") := rfl
@[simp] theorem ty_t {t : String} : isTy (.tup xs) (.bt t) = (t == "tuple") := rfl
@[simp] theorem ty_o {t : String} : isTy (.ins c xs) (.bt t) = false := rfl
@[simp] theorem ty_io {y : Str} : isTy (.int i) (.own y k) = false := rfl
@[simp] theorem ty_no {y : Str} : isTy .non (.own y k) = false := rfl
@[simp] theorem ty_oo {y : Str} : isTy (.ins c xs) (.own y k) = (c == k) := rfl
@[simp] theorem bi_len_l : biSem .len [.lst xs] = some (.int xs.length) := rfl
@[simp] theorem bi_len_t : biSem .len [.tup xs] = some (.int xs.length) := rfl
@[simp] theorem bi_tup_l : biSem .tuple [.lst xs] = some (.tup xs) := rfl
@[simp] theorem bi_tup_t : biSem .tuple [.tup xs] = some (.tup xs) := rfl
@[simp] theorem bi_int_i : biSem .int [.int i] = some (.int i) := rfl
@[simp] theorem bi_min2 : biSem .min2 [.int i, .int j] = some (.int (if j < i then j else i)) := rfl
@[simp] theorem bi_max2 : biSem .max2 [.int i, .int j] = some (.int (if j > i then j else i)) := rfl
end

theorem bo_mul {i j : Int} (h : word i ∨ word j) : boSem .mul (.int i) (.int j) = some (.int (i * j)) := if_pos h
theorem bo_pow {i j : Int} (h : 0 ≤ j ∧ j ≤ 1000000 ∧ i.natAbs < 2 ^ 64) : boSem .pow (.int i) (.int j) = some (.int (i ^ j.toNat)) := if_pos h
theorem bo_mod {i j : Int} (h : 0 < j) : boSem .mod (.int i) (.int j) = some (.int (i % j)) := if_pos h
theorem bo_fdiv {i j : Int} (h : 0 < j ∧ j < 1073741824) : boSem .fdiv (.int i) (.int j) = some (.int (i / j)) := if_pos h
theorem atD_nn {xs : List D} {i : Int} (h : 0 ≤ i) : atD xs i = xs[i.toNat]? := by
  unfold atD L2.atI L2.ixN
  rw [if_pos h]
  by_cases h1 : i < xs.length
  · rw [if_pos h1]; rfl
  · rw [if_neg h1]
    rw [List.getElem?_eq_none (by omega)]
    rfl
@[simp] theorem atD_0 {xs : List D} : atD xs 0 = xs[0]? := atD_nn (by decide)
@[simp] theorem atD_1 {xs : List D} : atD xs 1 = xs[1]? := atD_nn (by decide)
@[simp] theorem atD_2 {xs : List D} : atD xs 2 = xs[2]? := atD_nn (by decide)
theorem atD_nat {xs : List D} {n : Nat} : atD xs (n : Int) = xs[n]? := by rw [atD_nn (by omega)]; simp
@[simp] theorem atD_m1 {xs : List D} : atD xs (-1) = xs.getLast? := by
  unfold atD L2.atI L2.ixN
  rw [if_neg (by decide), List.getLast?_eq_getElem?]
  by_cases h : -(xs.length : Int) ≤ -1
  · rw [if_pos h]
    show xs[(-1 + (xs.length : Int)).toNat]? = _
    rw [show (-1 + (xs.length : Int)).toNat = xs.length - 1 by omega]
  · rw [if_neg h, List.getElem?_eq_none (by omega)]
    rfl
@[simp] theorem cut_1 {xs : List D} : cutD xs (some 1) none = xs.drop 1 := by
  unfold cutD HT.sIx
  simp only [show ¬ ((1 : Int) < 0) by decide, if_false]
  rw [List.take_of_length_le]
  · cases xs with
    | nil => rfl
    | cons a r => rw [show min (1 : Int).toNat (a :: r).length = 1 by simp]
  · simp only [List.length_drop]; omega
@[simp] theorem cut_m1 {xs : List D} : cutD xs none (some (-1)) = xs.dropLast := by
  unfold cutD HT.sIx
  simp only [show ((-1 : Int) < 0) by decide, if_true, List.drop_zero, Nat.sub_zero]
  rw [List.dropLast_eq_take, show (-1 + (xs.length : Int)).toNat = xs.length - 1 by omega]
theorem cut_to {xs : List D} {n : Int} (h : 0 ≤ n) : cutD xs none (some n) = xs.take n.toNat := by
  show List.take ((if n < 0 then (n + (xs.length : Int)).toNat else min n.toNat xs.length) - 0) (List.drop 0 xs) = _
  rw [if_neg (by omega)]
  simp only [List.drop_zero, Nat.sub_zero]
  by_cases q : n.toNat ≤ xs.length
  · rw [Nat.min_eq_left q]
  · rw [Nat.min_eq_right (by omega), List.take_of_length_le (Nat.le_refl _), List.take_of_length_le (by omega)]
/-! ### rows of things -/
section
variable {α : Type} {ρ ρ' : Env} {m m' : Mu}
theorem lcL_map {f : α → D} {cnd : α → Bool} {g : α → D} {bnd : D → Option Env} {tc : Env → Mu → R (Bool × Mu)} {te : Env → Mu → R (D × Mu)} : ∀ {xs : List α}, (∀ x ∈ xs, ∃ ρ, bnd (f x) = some ρ ∧ tc ρ m = .ok (cnd x, m) ∧ (cnd x = true → te ρ m = .ok (g x, m))) → lcL bnd tc te (xs.map f) m = .ok ((xs.filter cnd).map g, m)
  | [], _ => rfl
  | x :: xs, h => by
    obtain ⟨ρ, h1, h2, h3⟩ := h x List.mem_cons_self
    have ih := lcL_map (xs := xs) fun y hy => h y (List.mem_cons_of_mem _ hy)
    rw [List.map_cons, lcL, h1]
    simp only [R.of_some, R.bind_ok, h2]
    cases hc : cnd x with
    | true =>
      simp only [h3 hc, R.bind_ok, ih]
      rw [List.filter_cons_of_pos hc]
      rfl
    | false =>
      simp only [ih]
      rw [List.filter_cons_of_neg (by rw [hc]; simp)]
theorem ev_lc_if {p : Pat} {src : Src} {c e : Ex} (xs : List α) (f : α → D) (cnd : α → Bool) (g : α → D) (h1 : evSrc src true ρ m = .ok (xs.map f, m'))
    (h2 : ∀ x ∈ xs, ∃ ρ', bindP p (f x) (roE ρ (pnames p)) = some ρ' ∧ tst (ev c ρ' m') = .ok (cnd x, m') ∧ (cnd x = true → ev e ρ' m' = .ok (g x, m'))) : ev (.lc p src c e) ρ m = .ok (.lst ((xs.filter cnd).map g), m') := by
  show ((evSrc src true ρ m).bind _) = _
  rw [h1]
  show (R.bind (R.tame (lcL _ _ _ (xs.map f) m')) _) = _
  rw [lcL_map (cnd := cnd) (g := g) h2]
  rfl
theorem ev_lc_all {p : Pat} {src : Src} {e : Ex} (xs : List α) (f : α → D) (g : α → D) (h1 : evSrc src true ρ m = .ok (xs.map f, m'))
    (h2 : ∀ x ∈ xs, ∃ ρ', bindP p (f x) (roE ρ (pnames p)) = some ρ' ∧ ev e ρ' m' = .ok (g x, m')) : ev (.lc p src (.con (.bl true)) e) ρ m = .ok (.lst (xs.map g), m') := by
  rw [ev_lc_if xs f (fun _ => true) g h1 fun x hx => ?_]
  · rw [List.filter_eq_self.mpr fun _ _ => rfl]
  · obtain ⟨ρ', q1, q2⟩ := h2 x hx
    exact ⟨ρ', q1, rfl, fun _ => q2⟩
/-- a for whose body goes on -/
theorem forL_fold {σ : Type} {bnd : D → Env → Option Env} {body : Env → Mu → S} {clr : List Nat} {f : α → D} {E : σ → Env} {Mm : σ → Mu} {step : σ → α → σ} {P : σ → List α → Prop} : ∀ {xs : List α} {s : σ}, P s xs →
    (∀ s x r, P s (x :: r) → P (step s x) r ∧ ∃ ρ', bnd (f x) (E s) = some ρ' ∧ ∃ ρ2, (body ρ' (Mm s) = .nx ρ2 (Mm (step s x)) ∨ body ρ' (Mm s) = .ct ρ2 (Mm (step s x))) ∧ clear ρ2 clr = E (step s x)) → forL bnd body clr (xs.map f) (E s) (Mm s) = .nx (E (xs.foldl step s)) (Mm (xs.foldl step s))
  | [], s, _, _ => rfl
  | x :: xs, s, hp, h => by
    obtain ⟨h1, ρ', h2, ρ2, h3, h4⟩ := h s x xs hp
    have ih := forL_fold (xs := xs) h1 h
    rw [List.map_cons, forL, h2]
    rcases h3 with h3 | h3
    · simp only [h3, h4, ih, List.foldl_cons]
    · simp only [h3, h4, ih, List.foldl_cons]
/-- a for that may end by a return: the first item at which ret tells something -/
theorem forL_find {bnd : D → Env → Option Env} {body : Env → Mu → S} {clr : List Nat} {f : α → D} {ret : α → Option D} : ∀ {xs : List α},
    (∀ x ∈ xs, ∃ ρ', bnd (f x) ρ = some ρ' ∧ ((∃ d, ret x = some d ∧ body ρ' m = .rt d m) ∨ (ret x = none ∧ ∃ ρ2, body ρ' m = .nx ρ2 m ∧ clear ρ2 clr = ρ))) →
    forL bnd body clr (xs.map f) ρ m = match xs.findSome? ret with
      | some d => .rt d m
      | none => .nx ρ m
  | [], _ => rfl
  | x :: xs, h => by
    obtain ⟨ρ', h1, h2⟩ := h x List.mem_cons_self
    have ih := forL_find (xs := xs) fun y hy => h y (List.mem_cons_of_mem _ hy)
    rw [List.map_cons, forL, h1]
    rcases h2 with ⟨d, e1, e2⟩ | ⟨e1, ρ2, e2, e3⟩
    · simp only [e2, List.findSome?_cons, e1]
    · simp only [e2, e3, ih, List.findSome?_cons, e1]
end
theorem enuF_eq : ∀ {ds : List D} {n : Nat}, enuF n ds = (ds.zipIdx n).map fun p => .tup [.int p.2, p.1]
  | [], n => rfl
  | d :: ds, n => by
    rw [enuF, enuF_eq, List.zipIdx_cons, List.map_cons]
/-! ### plain data -/
mutual
theorem deq_refl : ∀ {n : Nat} {d : D}, pln n d = true → deq d d = true
  | 0, d, h => by simp [pln] at h
  | n + 1, .non, _ => rfl
  | n + 1, .bl b, _ => by simp [deq]
  | n + 1, .int i, _ => by simp [deq]
  | n + 1, .str s, _ => by simp [deq]
  | n + 1, .tup xs, h => deqs_refl (n := n) (by simpa [pln] using h)
  | n + 1, .lst xs, h => deqs_refl (n := n) (by simpa [pln] using h)
  | n + 1, .ins _ _, h => by simp [pln] at h
  | n + 1, .dic _ _, h => by simp [pln] at h
  | n + 1, .ref _, h => by simp [pln] at h
  | n + 1, .lam _, h => by simp [pln] at h
theorem deqs_refl : ∀ {n : Nat} {xs : List D}, (∀ x ∈ xs, pln n x = true) → deqs xs xs = true
  | n, [], _ => rfl
  | n, x :: xs, h => by
    unfold deqs
    rw [deq_refl (h x List.mem_cons_self), deqs_refl fun y hy => h y (List.mem_cons_of_mem _ hy)]
    rfl
end
end Z
end
section
set_option Elab.async false
set_option linter.all false
set_option maxRecDepth 100000
set_option maxHeartbeats 1000000
set_option autoImplicit false
/-! B1: books of turns, in plain numbers. -/
namespace Bk
abbrev Tn := Int × Int
/-- how far ahead at a tick -/
def off : Int → List Tn → Int → Int
  | o, [], _ => o
  | o, (t, o') :: r, k => if t ≤ k then off o' r k else o
theorem off_cons {o t o' k : Int} {r : List Tn} : off o ((t, o') :: r) k = if t ≤ k then off o' r k else o := rfl
def place : List Tn → Int → Nat
  | [], _ => 0
  | (t, _) :: r, k => if t ≤ k then place r k + 1 else 0
def Asc : Int → List Tn → Prop
  | _, [] => True
  | l, (t, _) :: r => l ≤ t ∧ Asc (t + 1) r
theorem Asc.mono : ∀ {l l' : Int} {ts : List Tn}, Asc l ts → l' ≤ l → Asc l' ts
  | _, _, [], _, _ => True.intro
  | l, l', (t, o) :: r, ⟨h1, h2⟩, h => ⟨by omega, h2⟩
theorem asc_ge : ∀ {l : Int} {ts : List Tn}, Asc l ts → ∀ p ∈ ts, l ≤ p.1
  | l, [], _, p, h => by cases h
  | l, (t, o) :: r, ⟨h1, h2⟩, p, h => by
    rcases List.mem_cons.mp h with e | e
    · subst e; exact h1
    · have := asc_ge h2 p e; omega
theorem foldl_off_ge : ∀ {ts : List Tn} {l : Int} {o k : Int}, Asc l ts → k < l → ts.foldl (fun a p => if p.1 ≤ k then p.2 else a) o = o
  | [], l, o, k, _, _ => rfl
  | (t, o') :: r, l, o, k, ⟨h1, h2⟩, h => by
    rw [List.foldl_cons, if_neg (by show ¬ t ≤ k; omega)]
    exact foldl_off_ge h2 (by omega)
/-- a law's going through all turns -/
theorem foldl_off : ∀ {ts : List Tn} {l : Int} {o k : Int}, Asc l ts → ts.foldl (fun a p => if p.1 ≤ k then p.2 else a) o = off o ts k
  | [], l, o, k, _ => rfl
  | (t, o') :: r, l, o, k, ⟨h1, h2⟩ => by
    rw [List.foldl_cons]
    unfold off
    by_cases h : t ≤ k
    · rw [if_pos h, if_pos h]; exact foldl_off h2
    · rw [if_neg h, if_neg h]; exact foldl_off_ge h2 (by omega)
theorem place_le : ∀ {ts : List Tn} {k : Int}, place ts k ≤ ts.length
  | [], k => Nat.le_refl _
  | (t, o) :: r, k => by
    unfold place
    split
    · have := place_le (ts := r) (k := k); simp only [List.length_cons]; omega
    · omega
theorem place_at : ∀ {ts : List Tn} {l k : Int} {i : Nat} {p : Tn}, Asc l ts → ts[i]? = some p → (i < place ts k ↔ p.1 ≤ k)
  | [], l, k, i, p, _, h => by simp at h
  | (t, o) :: r, l, k, 0, p, ⟨h1, h2⟩, h => by
    have e : (t, o) = p := by simpa using h
    subst e
    unfold place
    by_cases q : t ≤ k
    · rw [if_pos q]; simp [q]
    · rw [if_neg q]; simp [q]
  | (t, o) :: r, l, k, i + 1, p, ⟨h1, h2⟩, h => by
    have h : r[i]? = some p := by simpa using h
    have ih := place_at (k := k) h2 h
    unfold place
    by_cases q : t ≤ k
    · rw [if_pos q, Nat.add_lt_add_iff_right]; exact ih
    · rw [if_neg q]
      have := asc_ge h2 p (List.mem_of_getElem? h)
      constructor
      · omega
      · omega
theorem place_mono : ∀ {ts : List Tn} {k k' : Int}, k ≤ k' → place ts k ≤ place ts k'
  | [], k, k', h => Nat.le_refl _
  | (t, o) :: r, k, k', h => by
    unfold place
    have ih := place_mono (ts := r) h
    split
    · rw [if_pos (by omega)]; omega
    · omega
/-- a place is this one if .. -/
theorem place_is : ∀ {ts : List Tn} {l k : Int} {n : Nat}, Asc l ts → n ≤ ts.length → (∀ i p, i < n → ts[i]? = some p → p.1 ≤ k) → (∀ p, ts[n]? = some p → k < p.1) → place ts k = n := fun {ts l k n} h hn h1 h2 => by
  apply Nat.le_antisymm
  · apply Nat.le_of_not_lt
    intro q
    have hl : n < ts.length := Nat.lt_of_lt_of_le q place_le
    have e : ts[n]? = some ts[n] := List.getElem?_eq_getElem hl
    have := (place_at h e).mp q
    have := h2 _ e
    omega
  · apply Nat.le_of_not_lt
    intro q
    have hl : place ts k < ts.length := Nat.lt_of_lt_of_le q hn
    have e : ts[place ts k]? = some ts[place ts k] := List.getElem?_eq_getElem hl
    have := (place_at (k := k) h e).mpr (h1 _ _ q e)
    omega
/-- how far ahead behind so many turns -/
def offAt (f : Int) (ts : List Tn) : Nat → Int
  | 0 => f
  | n + 1 => (ts[n]?.map (·.2)).getD f
theorem off_at : ∀ {ts : List Tn} {f k : Int}, off f ts k = offAt f ts (place ts k)
  | [], f, k => rfl
  | (t, o) :: r, f, k => by
    unfold off place
    by_cases q : t ≤ k
    · rw [if_pos q, if_pos q, off_at (ts := r)]
      cases hp : place r k with
      | zero => simp [offAt]
      | succ n =>
        have hl : n < r.length := by have := place_le (ts := r) (k := k); omega
        simp [offAt, List.getElem?_eq_getElem hl]
    · rw [if_neg q, if_neg q]; rfl
/-- every offset is between -30 and 30 -/
def Off (b : Int) (f : Int) (ts : List Tn) : Prop := (-b ≤ f ∧ f ≤ b) ∧ ∀ p ∈ ts, -b ≤ p.2 ∧ p.2 ≤ b
theorem off_b : ∀ {ts : List Tn} {b f k : Int}, Off b f ts → -b ≤ off f ts k ∧ off f ts k ≤ b
  | [], b, f, k, h => h.1
  | (t, o) :: r, b, f, k, h => by
    unfold off
    split
    · exact off_b ⟨h.2 (t, o) List.mem_cons_self, fun p hp => h.2 p (List.mem_cons_of_mem _ hp)⟩
    · exact h.1
/-! ### rows: from a tick to the next turn -/
abbrev Rw := Int × Option Int × Int
def rws : Int → Int → List Tn → List Rw
  | l, o, [] => [(l, none, o)]
  | l, o, (t, o') :: r => (l, some t, o) :: rws t o' r
def inn (h : Option Int) (k : Int) : Bool := match h with
  | none => true
  | some h => decide (k < h)
/-- a time is told in a row -/
def cov (t : Int) (r : Rw) : Bool := decide (r.1 ≤ t - r.2.2) && inn r.2.1 (t - r.2.2)
/-- the ticks at which a time is told -/
def mns (l o : Int) (ts : List Tn) (t : Int) : List Int := ((rws l o ts).filter (cov t)).map fun r => t - r.2.2
theorem off_lt {ts : List Tn} {l f k : Int} (h : Asc l ts) (hk : k < l) : off f ts k = f := by
  cases ts with
  | nil => rfl
  | cons p r =>
    obtain ⟨t, o⟩ := p
    have := h.1
    unfold off
    rw [if_neg (by omega)]
theorem mns_nil {l o t : Int} : mns l o [] t = if l ≤ t - o then [t - o] else [] := by
  unfold mns rws
  by_cases h : l ≤ t - o
  · rw [if_pos h, List.filter_cons_of_pos (by simp [cov, inn, h])]; rfl
  · rw [if_neg h, List.filter_cons_of_neg (by simp [cov, h])]; rfl
theorem mns_cons {l o t a b : Int} {r : List Tn} : mns l o ((a, b) :: r) t = (if l ≤ t - o ∧ t - o < a then [t - o] else []) ++ mns a b r t := by
  unfold mns
  rw [rws]
  by_cases h : l ≤ t - o ∧ t - o < a
  · rw [if_pos h, List.filter_cons_of_pos (by simp [cov, inn, h.1, h.2])]; rfl
  · rw [if_neg h, List.filter_cons_of_neg (by simp only [cov, inn, Bool.and_eq_true, decide_eq_true_eq]; exact h)]; rfl
theorem mem_mns : ∀ {ts : List Tn} {l o t k : Int}, Asc l ts → (k ∈ mns l o ts t ↔ l ≤ k ∧ k + off o ts k = t)
  | [], l, o, t, k, _ => by
    rw [mns_nil]
    unfold off
    split
    · simp only [List.mem_singleton]; omega
    · simp only [List.not_mem_nil, false_iff]; omega
  | (a, b) :: r, l, o, t, k, ⟨h1, h2⟩ => by
    rw [mns_cons, List.mem_append, mem_mns (h2.mono (by omega)), off_cons]
    by_cases q : a ≤ k
    · rw [if_pos q]
      constructor
      · rintro (h | h)
        · split at h
          · rename_i h3; have : k = t - o := by simpa using h
            omega
          · simp at h
        · omega
      · intro h; exact .inr ⟨q, h.2⟩
    · rw [if_neg q]
      constructor
      · rintro (h | h)
        · split at h
          · rename_i h3; have : k = t - o := by simpa using h
            omega
          · simp at h
        · omega
      · intro h
        left
        rw [if_pos (by omega)]
        simp only [List.mem_singleton]
        omega
theorem mns_sorted : ∀ {ts : List Tn} {l o t : Int}, Asc l ts → (mns l o ts t).Pairwise (· < ·)
  | [], l, o, t, _ => by
    rw [mns_nil]
    split <;> simp
  | (a, b) :: r, l, o, t, ⟨h1, h2⟩ => by
    rw [mns_cons, List.pairwise_append]
    refine ⟨by split <;> simp, mns_sorted (h2.mono (by omega)), fun x hx y hy => ?_⟩
    have hy := (mem_mns (h2.mono (by omega))).mp hy
    split at hx
    · have : x = t - o := by simpa using hx
      omega
    · simp at hx
/-- ascending lists of the same things -/
theorem asc_eq : ∀ {xs ys : List Int}, xs.Pairwise (· < ·) → ys.Pairwise (· < ·) → (∀ a, a ∈ xs ↔ a ∈ ys) → xs = ys
  | [], [], _, _, _ => rfl
  | [], y :: ys, _, _, h => by have := (h y).mpr List.mem_cons_self; simp at this
  | x :: xs, [], _, _, h => by have := (h x).mp List.mem_cons_self; simp at this
  | x :: xs, y :: ys, h1, h2, h => by
    rw [List.pairwise_cons] at h1 h2
    have e : x = y := by
      rcases List.mem_cons.mp ((h x).mp List.mem_cons_self) with e | e
      · exact e
      · rcases List.mem_cons.mp ((h y).mpr List.mem_cons_self) with e2 | e2
        · exact e2.symm
        · have := h1.1 y e2; have := h2.1 x e; omega
    subst e
    rw [asc_eq h1.2 h2.2 fun a => ?_]
    have := h a
    constructor
    · intro ha
      rcases List.mem_cons.mp (this.mp (List.mem_cons_of_mem _ ha)) with e | e
      · have := h1.1 a ha; omega
      · exact e
    · intro ha
      rcases List.mem_cons.mp (this.mpr (List.mem_cons_of_mem _ ha)) with e | e
      · have := h2.1 a ha; omega
      · exact e
/-- so many ints from one on -/
def rng (a : Int) : Nat → List Int
  | 0 => []
  | n + 1 => a :: rng (a + 1) n
theorem mem_rng : ∀ {n : Nat} {a k : Int}, k ∈ rng a n ↔ a ≤ k ∧ k < a + n
  | 0, a, k => by simp [rng] <;> omega
  | n + 1, a, k => by
    rw [rng, List.mem_cons, mem_rng]
    push_cast
    omega
theorem rng_sorted : ∀ {n : Nat} {a : Int}, (rng a n).Pairwise (· < ·)
  | 0, a => List.Pairwise.nil
  | n + 1, a => List.Pairwise.cons (fun x hx => by have := mem_rng.mp hx; omega) rng_sorted
theorem rng_len : ∀ {n : Nat} {a : Int}, (rng a n).length = n
  | 0, a => rfl
  | n + 1, a => by rw [rng, List.length_cons, rng_len]
theorem rng_eq : ∀ {n : Nat} {a : Int}, rng a n = (List.range n).map fun (k : Nat) => a + (k : Int)
  | 0, a => rfl
  | n + 1, a => by
    rw [rng, rng_eq, List.range_succ_eq_map, List.map_cons, List.map_map]
    congr 1
    · omega
    · apply List.map_congr_left
      intro k _
      show a + 1 + (k : Int) = a + ((k + 1 : Nat) : Int)
      push_cast
      omega
theorem rng_add : ∀ {m n : Nat} {a : Int}, rng a (m + n) = rng a m ++ rng (a + m) n
  | 0, n, a => by simp [rng]
  | m + 1, n, a => by
    rw [show m + 1 + n = (m + n) + 1 by omega, rng, rng, rng_add, show a + 1 + (m : Int) = a + ((m + 1 : Nat) : Int) by omega]
    rfl
/-- a law's looking at all near ticks -/
theorem mns_scan {ts : List Tn} {f t : Int} {b a : Int} {n : Nat} (h : Asc 0 ts) (ho : Off b f ts) (ha : a ≤ max 0 (t - b)) (h0 : 0 ≤ a) (hn : t + b < a + n ∨ t + b < 0) : (rng a n).filter (fun k => decide (k + off f ts k = t)) = mns 0 f ts t := by
  refine asc_eq (List.Pairwise.filter _ rng_sorted) (mns_sorted h) fun k => ?_
  rw [List.mem_filter, mem_rng, mem_mns h]
  have := off_b (k := k) ho
  simp only [decide_eq_true_eq]
  omega
end Bk
end
section
set_option Elab.async false
set_option linter.all false
set_option maxRecDepth 100000
set_option maxHeartbeats 1000000
set_option autoImplicit false
/-! B3: spans of books, breaks, how often times are told. -/
namespace Bk
open Z
/-! ### ascending sets -/
theorem mem_insS {a b : Int} : ∀ {xs : List Int}, b ∈ insS a xs ↔ b = a ∨ b ∈ xs
  | [] => by simp [insS]
  | x :: xs => by
    unfold insS
    split
    · simp
    · split
      · rename_i h; subst h; simp
      · rw [List.mem_cons, mem_insS, List.mem_cons]
        constructor
        · rintro (h | h | h) <;> simp [h]
        · rintro (h | h | h) <;> simp [h]
theorem insS_sorted {a : Int} : ∀ {xs : List Int}, xs.Pairwise (· < ·) → (insS a xs).Pairwise (· < ·)
  | [], _ => by simp [insS]
  | x :: xs, h => by
    unfold insS
    split
    · rename_i q
      exact List.Pairwise.cons (fun y hy => by
        rcases List.mem_cons.mp hy with e | e
        · subst e; exact q
        · have := (List.pairwise_cons.mp h).1 y e; omega) h
    · split
      · exact h
      · obtain ⟨h1, h2⟩ := List.pairwise_cons.mp h
        refine List.Pairwise.cons (fun y hy => ?_) (insS_sorted h2)
        rcases mem_insS.mp hy with e | e
        · omega
        · exact h1 y e
theorem mem_setI {b : Int} : ∀ {xs : List Int}, b ∈ setI xs ↔ b ∈ xs
  | [] => by simp [setI]
  | x :: xs => by rw [setI, mem_insS, mem_setI, List.mem_cons]
theorem setI_sorted : ∀ {xs : List Int}, (setI xs).Pairwise (· < ·)
  | [] => List.Pairwise.nil
  | x :: xs => insS_sorted setI_sorted
theorem insS_len {a : Int} : ∀ {xs : List Int}, (insS a xs).length ≤ xs.length + 1
  | [] => by simp [insS]
  | x :: xs => by
    unfold insS
    split
    · simp
    · split
      · simp
      · have := insS_len (a := a) (xs := xs); simp only [List.length_cons]; omega
theorem setI_len : ∀ {xs : List Int}, (setI xs).length ≤ xs.length
  | [] => Nat.le_refl _
  | x :: xs => by
    have := insS_len (a := x) (xs := setI xs)
    have := setI_len (xs := xs)
    rw [setI, List.length_cons]; omega
/-! ### least and greatest -/
theorem minI_le : ∀ {xs : List Int} {a : Int}, minI a xs ≤ a ∧ ∀ b ∈ xs, minI a xs ≤ b
  | [], a => ⟨Int.le_refl _, fun b h => by cases h⟩
  | x :: xs, a => by
    rw [minI]
    obtain ⟨h1, h2⟩ := minI_le (xs := xs) (a := if x < a then x else a)
    have g1 : (if x < a then x else a) ≤ a := by split <;> omega
    have g2 : (if x < a then x else a) ≤ x := by split <;> omega
    refine ⟨Int.le_trans h1 g1, fun b hb => ?_⟩
    rcases List.mem_cons.mp hb with e | e
    · subst e; exact Int.le_trans h1 g2
    · exact h2 b e
theorem minI_mem : ∀ {xs : List Int} {a : Int}, minI a xs = a ∨ minI a xs ∈ xs
  | [], a => .inl rfl
  | x :: xs, a => by
    rw [minI]
    rcases minI_mem (xs := xs) (a := if x < a then x else a) with h | h
    · rw [h]; split
      · exact .inr List.mem_cons_self
      · exact .inl rfl
    · exact .inr (List.mem_cons_of_mem _ h)
theorem maxI_ge : ∀ {xs : List Int} {a : Int}, a ≤ maxI a xs ∧ ∀ b ∈ xs, b ≤ maxI a xs
  | [], a => ⟨Int.le_refl _, fun b h => by cases h⟩
  | x :: xs, a => by
    rw [maxI]
    obtain ⟨h1, h2⟩ := maxI_ge (xs := xs) (a := if x > a then x else a)
    have g1 : a ≤ (if x > a then x else a) := by split <;> omega
    have g2 : x ≤ (if x > a then x else a) := by split <;> omega
    refine ⟨Int.le_trans g1 h1, fun b hb => ?_⟩
    rcases List.mem_cons.mp hb with e | e
    · subst e; exact Int.le_trans g2 h1
    · exact h2 b e
theorem maxI_mem : ∀ {xs : List Int} {a : Int}, maxI a xs = a ∨ maxI a xs ∈ xs
  | [], a => .inl rfl
  | x :: xs, a => by
    rw [maxI]
    rcases maxI_mem (xs := xs) (a := if x > a then x else a) with h | h
    · rw [h]; split
      · exact .inr List.mem_cons_self
      · exact .inl rfl
    · exact .inr (List.mem_cons_of_mem _ h)
/-! ### spans that hold a tick -/
abbrev R3 := Int × Int × Int
def spf : Int → Int → List Tn → List R3
  | _, _, [] => []
  | l, o, (t, o') :: r => if l < t then (l, t, o) :: spf t o' r else spf t o' r
def lastL : Int → List Tn → Int
  | l, [] => l
  | _, (t, _) :: r => lastL t r
def lastO : Int → List Tn → Int
  | o, [] => o
  | _, (_, o') :: r => lastO o' r
def full (r : Rw) : Bool := match r.2.1 with
  | none => true
  | some h => decide (r.1 < h)
abbrev up (r : R3) : Rw := (r.1, some r.2.1, r.2.2)
theorem spans_eq : ∀ {ts : List Tn} {l o : Int}, (rws l o ts).filter full = (spf l o ts).map up ++ [(lastL l ts, none, lastO o ts)]
  | [], l, o => rfl
  | (t, o') :: r, l, o => by
    rw [rws, spf, lastL, lastO]
    by_cases h : l < t
    · rw [List.filter_cons_of_pos (by simp [full, h]), if_pos h, spans_eq]; rfl
    · rw [List.filter_cons_of_neg (by simp [full, h]), if_neg h, spans_eq]
/-- how often a time is told -/
def cnt (l o : Int) (ts : List Tn) (t : Int) : Nat := (mns l o ts t).length
theorem cnt_eq : ∀ {ts : List Tn} {l o t : Int}, cnt l o ts t = (spf l o ts).countP (fun r => decide (r.1 + r.2.2 ≤ t) && !decide (r.2.1 + r.2.2 ≤ t)) + (if lastL l ts + lastO o ts ≤ t then 1 else 0)
  | [], l, o, t => by
    unfold cnt
    rw [mns_nil, spf, lastL, lastO]
    by_cases h : l ≤ t - o
    · rw [if_pos h, if_pos (by omega)]; rfl
    · rw [if_neg h, if_neg (by omega)]; rfl
  | (a, b) :: r, l, o, t => by
    have ih := cnt_eq (ts := r) (l := a) (o := b) (t := t)
    unfold cnt at ih ⊢
    rw [mns_cons, List.length_append, ih, spf, lastL, lastO]
    have e1 : (if l ≤ t - o ∧ t - o < a then [t - o] else []).length = (if (decide (l + o ≤ t) && !decide (a + o ≤ t)) = true then 1 else 0) := by
      by_cases h2 : l ≤ t - o ∧ t - o < a
      · rw [if_pos h2, if_pos (by simp only [Bool.and_eq_true, decide_eq_true_eq, Bool.not_eq_true', decide_eq_false_iff_not]; omega)]; rfl
      · rw [if_neg h2, if_neg (by simp only [Bool.and_eq_true, decide_eq_true_eq, Bool.not_eq_true', decide_eq_false_iff_not]; omega)]; rfl
    rw [e1]
    by_cases h : l < a
    · rw [if_pos h, List.countP_cons]
      dsimp only
      omega
    · rw [if_neg h, if_neg (show ¬ ((decide (l + o ≤ t) && !decide (a + o ≤ t)) = true) by simp only [Bool.and_eq_true, decide_eq_true_eq, Bool.not_eq_true', decide_eq_false_iff_not]; omega)]
      omega
/-- the times at which something begins or ends -/
def begs (l o : Int) (ts : List Tn) : List Int := (spf l o ts).map (fun r => r.1 + r.2.2) ++ [lastL l ts + lastO o ts]
def ends (l o : Int) (ts : List Tn) : List Int := (spf l o ts).map fun r => r.2.1 + r.2.2
def brks (l o : Int) (ts : List Tn) : List Int := begs l o ts ++ ends l o ts
theorem cnt_same {ts : List Tn} {l o t u : Int} (h : ∀ p ∈ brks l o ts, (p ≤ t ↔ p ≤ u)) : cnt l o ts t = cnt l o ts u := by
  rw [cnt_eq, cnt_eq]
  have e : (spf l o ts).countP (fun r => decide (r.1 + r.2.2 ≤ t) && !decide (r.2.1 + r.2.2 ≤ t)) = (spf l o ts).countP (fun r => decide (r.1 + r.2.2 ≤ u) && !decide (r.2.1 + r.2.2 ≤ u)) := by
    apply List.countP_congr
    intro r hr
    have h1 := h (r.1 + r.2.2) (List.mem_append_left _ (List.mem_append_left _ (List.mem_map.mpr ⟨r, hr, rfl⟩)))
    have h2 := h (r.2.1 + r.2.2) (List.mem_append_right _ (List.mem_map.mpr ⟨r, hr, rfl⟩))
    simp only [h1, h2]
  have h3 := h (lastL l ts + lastO o ts) (List.mem_append_left _ (List.mem_append_right _ List.mem_cons_self))
  rw [e]
  simp only [h3]
theorem cnt_late {ts : List Tn} {l o t : Int} (h1 : lastL l ts + lastO o ts ≤ t) (h2 : ∀ p ∈ ends l o ts, p ≤ t) : cnt l o ts t = 1 := by
  rw [cnt_eq, if_pos h1, List.countP_eq_zero.mpr]
  intro r hr
  have := h2 _ (List.mem_map.mpr ⟨r, hr, rfl⟩)
  simp [this]
/-! ### the spans' own ticks -/
theorem spf_at : ∀ {ts : List Tn} {l o : Int}, Asc l ts → ∀ r ∈ spf l o ts, l ≤ r.1 ∧ r.1 < r.2.1 ∧ off o ts r.1 = r.2.2 ∧ (r.2.1 ≤ lastL l ts)
  | [], l, o, _, r, hr => by cases hr
  | (t, b) :: ts, l, o, ⟨h1, h2⟩, r, hr => by
    rw [spf] at hr
    have tl : ∀ {ts : List Tn} {l : Int}, Asc l ts → l ≤ lastL l ts := by
      intro ts
      induction ts with
      | nil => intro l _; exact Int.le_refl _
      | cons p ts ih =>
        intro l h
        obtain ⟨a, b⟩ := p
        have := ih (l := a) (h.2.mono (by omega))
        have := h.1
        rw [lastL]; omega
    have rcc : r ∈ spf t b ts → l ≤ r.1 ∧ r.1 < r.2.1 ∧ off o ((t, b) :: ts) r.1 = r.2.2 ∧ r.2.1 ≤ lastL l ((t, b) :: ts) := fun hr => by
      obtain ⟨q1, q2, q3, q4⟩ := spf_at (h2.mono (by omega)) r hr
      rw [off_cons, if_pos q1, lastL]
      exact ⟨by omega, q2, q3, q4⟩
    split at hr
    · rcases List.mem_cons.mp hr with e | e
      · subst e
        rename_i hlt
        refine ⟨Int.le_refl _, hlt, ?_, ?_⟩
        · show off o ((t, b) :: ts) l = o
          rw [off_cons, if_neg (by omega)]
        · rw [lastL]; exact tl (h2.mono (Int.le_add_one (Int.le_refl _)))
      · exact rcc e
    · exact rcc hr
theorem last_ge : ∀ {ts : List Tn} {l : Int}, Asc l ts → l ≤ lastL l ts
  | [], l, _ => Int.le_refl _
  | (t, b) :: ts, l, ⟨h1, h2⟩ => by have := last_ge (h2.mono (show t ≤ t + 1 by omega)); rw [lastL]; omega
theorem last_at : ∀ {ts : List Tn} {l o : Int}, Asc l ts → off o ts (lastL l ts) = lastO o ts
  | [], l, o, _ => rfl
  | (t, b) :: ts, l, o, ⟨h1, h2⟩ => by
    have h3 := h2.mono (show t ≤ t + 1 by omega)
    rw [lastL, lastO, off_cons, if_pos (last_ge h3), last_at h3]
/-- each tick lies in a span -/
theorem in_span : ∀ {ts : List Tn} {l o k : Int}, Asc l ts → l ≤ k → ∃ p ∈ begs l o ts, p ≤ k + off o ts k
  | [], l, o, k, _, h => ⟨l + o, List.mem_append_right _ List.mem_cons_self, by simp only [off]; omega⟩
  | (t, b) :: ts, l, o, k, ⟨h1, h2⟩, h => by
    by_cases q : t ≤ k
    · obtain ⟨p, hp, h3⟩ := in_span (o := b) (h2.mono (show t ≤ t + 1 by omega)) q
      refine ⟨p, ?_, by rw [off_cons, if_pos q]; exact h3⟩
      unfold begs at hp ⊢
      rw [spf, lastL, lastO]
      rcases List.mem_append.mp hp with e | e
      · refine List.mem_append_left _ ?_
        split
        · rw [List.map_cons]; exact List.mem_cons_of_mem _ e
        · exact e
      · exact List.mem_append_right _ e
    · refine ⟨l + o, ?_, by rw [off_cons, if_neg q]; omega⟩
      unfold begs
      rw [spf, if_pos (by omega), List.map_cons]
      exact List.mem_append_left _ List.mem_cons_self
theorem begs_told {ts : List Tn} {l o p : Int} (h : Asc l ts) (hp : p ∈ begs l o ts) : ∃ k, l ≤ k ∧ k ≤ lastL l ts ∧ k + off o ts k = p := by
  rcases List.mem_append.mp hp with e | e
  · obtain ⟨r, hr, rfl⟩ := List.mem_map.mp e
    obtain ⟨q1, q2, q3, q4⟩ := spf_at h r hr
    exact ⟨r.1, q1, by omega, by rw [q3]⟩
  · have : p = lastL l ts + lastO o ts := by simpa using e
    subst this
    exact ⟨lastL l ts, last_ge h, Int.le_refl _, by rw [last_at h]⟩
/-! ### runs between breaks -/
def segs : List Int → List (Int × Int)
  | a :: b :: r => (a, b) :: segs (b :: r)
  | _ => []
def lastOf : Int → List Int → Int
  | a, [] => a
  | _, b :: r => lastOf b r
theorem lastOf_ge : ∀ {r : List Int} {a : Int}, (a :: r).Pairwise (· < ·) → ∀ p ∈ a :: r, p ≤ lastOf a r
  | [], a, h, p, hp => by have : p = a := by simpa using hp
                          subst this; exact Int.le_refl _
  | b :: r, a, h, p, hp => by
    obtain ⟨h1, h2⟩ := List.pairwise_cons.mp h
    rw [lastOf]
    rcases List.mem_cons.mp hp with e | e
    · subst e
      have := h1 b List.mem_cons_self
      have := lastOf_ge h2 b List.mem_cons_self
      omega
    · exact lastOf_ge h2 p e
theorem lastOf_mem : ∀ {r : List Int} {a : Int}, lastOf a r ∈ a :: r
  | [], a => List.mem_cons_self
  | b :: r, a => List.mem_cons_of_mem _ lastOf_mem
theorem segs_lt : ∀ {r : List Int} {a : Int}, (a :: r).Pairwise (· < ·) → ∀ p ∈ segs (a :: r), p.1 < p.2 ∧ (∀ q ∈ a :: r, p.1 < q → p.2 ≤ q) ∧ a ≤ p.1 ∧ p.2 ≤ lastOf a r
  | [], a, _, p, h => by cases h
  | b :: r, a, h, p, hp => by
    obtain ⟨h1, h2⟩ := List.pairwise_cons.mp h
    have hab := h1 b List.mem_cons_self
    rw [segs] at hp
    rcases List.mem_cons.mp hp with e | e
    · subst e
      refine ⟨hab, fun q hq hlt => ?_, Int.le_refl _, lastOf_ge h2 b List.mem_cons_self⟩
      rcases List.mem_cons.mp hq with e | e
      · subst e; exact absurd hlt (Int.lt_irrefl _)
      · rcases List.mem_cons.mp e with e2 | e2
        · subst e2; exact Int.le_refl _
        · have := (List.pairwise_cons.mp h2).1 q e2
          show b ≤ q
          omega
    · obtain ⟨q1, q2, q3, q4⟩ := segs_lt h2 p e
      refine ⟨q1, fun q hq hlt => ?_, by omega, q4⟩
      rcases List.mem_cons.mp hq with e2 | e2
      · subst e2; omega
      · exact q2 q e2 hlt
/-- ints from one to behind another -/
def to (a b : Int) : List Int := rng a (b - a).toNat
theorem mem_to {a b k : Int} : k ∈ to a b ↔ a ≤ k ∧ k < b := by
  unfold to
  rw [mem_rng]
  omega
theorem to_app {a b c : Int} (h1 : a ≤ b) (h2 : b ≤ c) : to a c = to a b ++ to b c := by
  unfold to
  rw [show (c - a).toNat = (b - a).toNat + (c - b).toNat by omega, rng_add, show a + ((b - a).toNat : Int) = b by omega]
theorem filter_const {P : Int → Bool} : ∀ {xs : List Int} {v : Bool}, (∀ t ∈ xs, P t = v) → xs.filter P = if v then xs else []
  | [], v, _ => by cases v <;> rfl
  | x :: xs, v, h => by
    have h1 := h x List.mem_cons_self
    have ih := filter_const (xs := xs) fun t ht => h t (List.mem_cons_of_mem _ ht)
    cases v with
    | true => rw [List.filter_cons_of_pos h1, ih]; rfl
    | false => rw [List.filter_cons_of_neg (by rw [h1]; simp), ih]; rfl
theorem seg_filter {P : Int → Bool} {H : Int} : ∀ {r : List Int} {a : Int}, (a :: r).Pairwise (· < ·) → (∀ p ∈ segs (a :: r), ∀ t, p.1 ≤ t → t < p.2 → P t = P p.1) → (∀ t, lastOf a r ≤ t → t < H → P t = false) → lastOf a r ≤ H →
    (to a H).filter P = ((segs (a :: r)).filter fun p => P p.1).flatMap fun p => to p.1 p.2
  | [], a, _, _, h3, h4 => by
    have e := filter_const (P := P) (xs := to a H) (v := false) fun t ht => h3 t (mem_to.mp ht).1 (mem_to.mp ht).2
    rw [e]
    rfl
  | b :: r, a, h1, h2, h3, h4 => by
    obtain ⟨g1, g2⟩ := List.pairwise_cons.mp h1
    have hab := g1 b List.mem_cons_self
    have hbl := lastOf_ge g2 b List.mem_cons_self
    rw [lastOf] at h3 h4
    rw [to_app (show a ≤ b by omega) (show b ≤ H by omega), List.filter_append, seg_filter g2 (fun p hp => h2 p (by rw [segs]; exact List.mem_cons_of_mem _ hp)) h3 h4, segs]
    have e := filter_const (P := P) (xs := to a b) (v := P a) fun t ht => h2 (a, b) (by rw [segs]; exact List.mem_cons_self) t (mem_to.mp ht).1 (mem_to.mp ht).2
    rw [e]
    cases hP : P a with
    | true =>
      have hP' : (fun p : Int × Int => P p.1) (a, b) = true := hP
      rw [List.filter_cons_of_pos (p := fun p : Int × Int => P p.1) hP', List.flatMap_cons]; rfl
    | false =>
      have hP' : ¬ (fun p : Int × Int => P p.1) (a, b) = true := by show ¬ P a = true; rw [hP]; simp
      rw [List.filter_cons_of_neg (p := fun p : Int × Int => P p.1) hP']; rfl
/-! ### spans of times -/
/-- the package's step | the law's step -/
def put (acc : List (Int × Int)) (p : Int × Int) : List (Int × Int) := match acc.getLast? with
  | some q => if q.2 = p.1 then acc.dropLast ++ [(q.1, p.2)] else acc ++ [p]
  | none => acc ++ [p]
def lsp (acc : List (Int × Int)) (t : Int) : List (Int × Int) := put acc (t, t + 1)
theorem put_next {acc : List (Int × Int)} {x z : Int} : lsp (put acc (x, z)) z = put acc (x, z + 1) := by
  have key : ∀ (ys : List (Int × Int)) (a : Int), lsp (ys ++ [(a, z)]) z = ys ++ [(a, z + 1)] := fun ys a => by
    unfold lsp put
    simp
  unfold put
  cases h : acc.getLast? with
  | none => exact key acc x
  | some q =>
    dsimp only
    by_cases e : q.2 = x
    · rw [if_pos e, if_pos e]; exact key _ _
    · rw [if_neg e, if_neg e]; exact key _ _
theorem run_put {acc : List (Int × Int)} {x : Int} : ∀ {n : Nat}, (rng x (n + 1)).foldl lsp acc = put acc (x, x + n + 1)
  | 0 => by simp [rng, lsp]
  | n + 1 => by
    rw [rng_add (m := n + 1) (n := 1), List.foldl_append, run_put (n := n)]
    simp only [rng, List.foldl_cons, List.foldl_nil]
    have e : x + ((n + 1 : Nat) : Int) = x + (n : Int) + 1 := by push_cast; omega
    rw [e, put_next]
theorem to_put {acc : List (Int × Int)} {x y : Int} (h : x < y) : (to x y).foldl lsp acc = put acc (x, y) := by
  unfold to
  obtain ⟨n, hn⟩ : ∃ n, (y - x).toNat = n + 1 := ⟨(y - x).toNat - 1, by omega⟩
  rw [hn, run_put, show x + (n : Int) + 1 = y by omega]
theorem flat_put : ∀ {ps : List (Int × Int)} {acc : List (Int × Int)}, (∀ p ∈ ps, p.1 < p.2) → (ps.flatMap fun p => to p.1 p.2).foldl lsp acc = ps.foldl put acc
  | [], acc, _ => rfl
  | p :: ps, acc, h => by
    rw [List.flatMap_cons, List.foldl_append, to_put (h p List.mem_cons_self), flat_put fun q hq => h q (List.mem_cons_of_mem _ hq), List.foldl_cons]
/-! ### turns that go over a time -/
def overs (t : Int) : Int → Nat → List Tn → List Nat
  | _, _, [] => []
  | o, i, (a, b) :: r => (if a + o ≤ t ∧ t < a + b then [i] else []) ++ overs t b (i + 1) r
theorem over_or : ∀ {ts : List Tn} {l o t : Int} {i : Nat}, overs t o i ts = [] → l + o ≤ t → mns l o ts t ≠ []
  | [], l, o, t, i, _, h => by rw [mns_nil, if_pos (by omega)]; simp
  | (a, b) :: r, l, o, t, i, hv, h => by
    rw [overs, List.append_eq_nil_iff] at hv
    rw [mns_cons]
    by_cases q : t - o < a
    · rw [if_pos (by omega)]; simp
    · have : ¬ (a + o ≤ t ∧ t < a + b) := fun z => by rw [if_pos z] at hv; simp at hv
      have := over_or (l := a) hv.2 (show a + b ≤ t by omega)
      intro z
      exact this (List.append_eq_nil_iff.mp z).2
theorem over_ex : ∀ {ts : List Tn} {l o t : Int} {i : Nat}, overs t o i ts = [] → mns l o ts t = [] → ∀ p ∈ begs l o ts, t < p
  | [], l, o, t, i, hv, hm, p, hp => by
    have : p = l + o := by simpa [begs, spf, lastL, lastO] using hp
    subst this
    apply Int.lt_of_not_ge
    intro z
    exact over_or hv z hm
  | (a, b) :: r, l, o, t, i, hv, hm, p, hp => by
    have hv' := hv
    have hm' := hm
    rw [overs, List.append_eq_nil_iff] at hv
    rw [mns_cons, List.append_eq_nil_iff] at hm
    have ih := over_ex hv.2 hm.2
    unfold begs at hp ih
    rw [spf, lastL, lastO] at hp
    rcases List.mem_append.mp hp with e | e
    · split at e
      · rw [List.map_cons] at e
        rcases List.mem_cons.mp e with e | e
        · subst e
          apply Int.lt_of_not_ge
          intro z
          exact over_or hv' z hm'
        · exact ih p (List.mem_append_left _ e)
      · exact ih p (List.mem_append_left _ e)
    · exact ih p (List.mem_append_right _ e)
end Bk
end
section
set_option Elab.async false
set_option linter.all false
set_option maxRecDepth 100000
set_option maxHeartbeats 1000000
set_option autoImplicit false
/-! M1: == of data, rows of numbers. -/
namespace Z
open PySem
section
variable {n : Nat} {a b d : D} {xs ys : List D} {i j : Int} {is js : List Int} {ps qs : List (Int × Int)}
theorem pln_list {xs : List D} : pln (n + 1) (.lst xs) = xs.all (pln n) := by rw [pln]
theorem pln_tup {xs : List D} : pln (n + 1) (.tup xs) = xs.all (pln n) := by rw [pln]
theorem pln_is : pln (n + 2) (.lst (is.map .int)) = true := by
  rw [pln_list, List.all_eq_true]
  intro x hx
  obtain ⟨i, _, rfl⟩ := List.mem_map.mp hx
  rfl
theorem pln_ti : pln (n + 2) (.tup (is.map .int)) = true := by
  rw [pln_tup, List.all_eq_true]
  intro x hx
  obtain ⟨i, _, rfl⟩ := List.mem_map.mp hx
  rfl
abbrev pD (p : Int × Int) : D := .tup [.int p.1, .int p.2]
theorem pln_ps : pln (n + 3) (.lst (ps.map pD)) = true := by
  rw [pln_list, List.all_eq_true]
  intro x hx
  obtain ⟨i, _, rfl⟩ := List.mem_map.mp hx
  rfl
theorem pln_tps : pln (n + 3) (.tup (ps.map pD)) = true := by
  rw [pln_tup, List.all_eq_true]
  intro x hx
  obtain ⟨i, _, rfl⟩ := List.mem_map.mp hx
  rfl
theorem co_eq_refl (h : pln deep a = true) : coSem .eq a a = some true := by
  show (if pln deep a ∧ pln deep a then some (deq a a) else none) = _
  rw [if_pos ⟨h, h⟩, deq_refl h]
theorem co_ne_refl (h : pln deep a = true) : coSem .ne a a = some false := by
  show (if pln deep a ∧ pln deep a then some (!deq a a) else none) = _
  rw [if_pos ⟨h, h⟩, deq_refl h]
  rfl
theorem deqs_is : ∀ {is js : List Int}, deqs (is.map .int) (js.map .int) = decide (is = js)
  | [], [] => rfl
  | [], j :: js => by simp [deqs]
  | i :: is, [] => by simp [deqs]
  | i :: is, j :: js => by
    rw [List.map_cons, List.map_cons, deqs, deqs_is, deq]
    by_cases h1 : i = j <;> by_cases h2 : is = js <;> simp [h1, h2]
theorem deqs_ps : ∀ {ps qs : List (Int × Int)}, deqs (ps.map pD) (qs.map pD) = decide (ps = qs)
  | [], [] => rfl
  | [], j :: js => by simp [deqs]
  | i :: is, [] => by simp [deqs]
  | (i1, i2) :: is, (j1, j2) :: js => by
    rw [List.map_cons, List.map_cons, deqs, deqs_ps]
    simp only [deq, deqs]
    by_cases h1 : i1 = j1 <;> by_cases h2 : i2 = j2 <;> by_cases h3 : is = js <;> simp [h1, h2, h3]
@[simp] theorem co_eq_is : coSem .eq (.lst (is.map .int)) (.lst (js.map .int)) = some (decide (is = js)) := by
  show (if pln deep (.lst (is.map .int)) ∧ pln deep (.lst (js.map .int)) then some (deq (.lst (is.map .int)) (.lst (js.map .int))) else none) = _
  rw [if_pos ⟨pln_is, pln_is⟩, deq, deqs_is]
@[simp] theorem co_ne_is : coSem .ne (.lst (is.map .int)) (.lst (js.map .int)) = some (!decide (is = js)) := by
  show (if pln deep (.lst (is.map .int)) ∧ pln deep (.lst (js.map .int)) then some (!deq (.lst (is.map .int)) (.lst (js.map .int))) else none) = _
  rw [if_pos ⟨pln_is, pln_is⟩, deq, deqs_is]
@[simp] theorem co_eq_ti : coSem .eq (.tup (is.map .int)) (.tup (js.map .int)) = some (decide (is = js)) := by
  show (if pln deep (.tup (is.map .int)) ∧ pln deep (.tup (js.map .int)) then some (deq (.tup (is.map .int)) (.tup (js.map .int))) else none) = _
  rw [if_pos ⟨pln_ti, pln_ti⟩, deq, deqs_is]
@[simp] theorem co_eq_ps : coSem .eq (.lst (ps.map pD)) (.lst (qs.map pD)) = some (decide (ps = qs)) := by
  show (if pln deep (.lst (ps.map pD)) ∧ pln deep (.lst (qs.map pD)) then some (deq (.lst (ps.map pD)) (.lst (qs.map pD))) else none) = _
  rw [if_pos ⟨pln_ps, pln_ps⟩, deq, deqs_ps]
@[simp] theorem co_ne_ps : coSem .ne (.lst (ps.map pD)) (.lst (qs.map pD)) = some (!decide (ps = qs)) := by
  show (if pln deep (.lst (ps.map pD)) ∧ pln deep (.lst (qs.map pD)) then some (!deq (.lst (ps.map pD)) (.lst (qs.map pD))) else none) = _
  rw [if_pos ⟨pln_ps, pln_ps⟩, deq, deqs_ps]
@[simp] theorem co_ne_is0 : coSem .ne (.lst (is.map .int)) (.lst []) = some (!is.isEmpty) := by
  rw [show D.lst [] = D.lst (([] : List Int).map .int) from rfl, co_ne_is]
  cases is <;> rfl
@[simp] theorem co_eq_is0 : coSem .eq (.lst (is.map .int)) (.lst []) = some is.isEmpty := by
  rw [show D.lst [] = D.lst (([] : List Int).map .int) from rfl, co_eq_is]
  cases is <;> rfl
@[simp] theorem co_ne_ps0 : coSem .ne (.lst (ps.map pD)) (.lst []) = some (!ps.isEmpty) := by
  rw [show D.lst [] = D.lst (([] : List (Int × Int)).map pD) from rfl, co_ne_ps]
  cases ps <;> rfl
@[simp] theorem co_eq_ps0 : coSem .eq (.lst (ps.map pD)) (.lst []) = some ps.isEmpty := by
  rw [show D.lst [] = D.lst (([] : List (Int × Int)).map pD) from rfl, co_eq_ps]
  cases ps <;> rfl
theorem ofInts_map : ∀ {is : List Int}, ofInts (is.map .int) = some is
  | [] => rfl
  | i :: is => by rw [List.map_cons, ofInts, ofInts_map]; rfl
theorem ofBools_map : ∀ {bs : List Bool}, ofBools (bs.map .bl) = some bs
  | [] => rfl
  | b :: bs => by rw [List.map_cons, ofBools, ofBools_map]; rfl
def minL : List Int → Int
  | [] => 0
  | a :: r => minI a r
def maxL : List Int → Int
  | [] => 0
  | a :: r => maxI a r
theorem bi_min_l (h : is ≠ []) : biSem .min1 [.lst (is.map .int)] = some (.int (minL is)) := by
  show (match ofInts (is.map .int) with | some (a :: r) => some (D.int (minI a r)) | _ => none) = _
  rw [ofInts_map]
  cases is with
  | nil => exact absurd rfl h
  | cons a r => rfl
theorem bi_max_l (h : is ≠ []) : biSem .max1 [.lst (is.map .int)] = some (.int (maxL is)) := by
  show (match ofInts (is.map .int) with | some (a :: r) => some (D.int (maxI a r)) | _ => none) = _
  rw [ofInts_map]
  cases is with
  | nil => exact absurd rfl h
  | cons a r => rfl
@[simp] theorem bi_all_l {bs : List Bool} : biSem .all [.lst (bs.map .bl)] = some (.bl (bs.all id)) := by
  show (ofBools (bs.map .bl)).map _ = _
  rw [ofBools_map]; rfl
@[simp] theorem bi_any_l {bs : List Bool} : biSem .any [.lst (bs.map .bl)] = some (.bl (bs.any id)) := by
  show (ofBools (bs.map .bl)).map _ = _
  rw [ofBools_map]; rfl
theorem bi_sset_l (h1 : (setI is).length < 64) (h2 : is.length < 4000) : biSem .sset [.lst (is.map .int)] = some (.lst ((setI is).map .int)) := by
  show (match ofInts (is.map .int) with | some ns => if (setI ns).length < 64 ∧ ns.length < 4000 then some (D.lst ((setI ns).map .int)) else none | none => none) = _
  rw [ofInts_map]
  dsimp only
  rw [if_pos ⟨h1, h2⟩]
theorem minL_le (h : i ∈ is) : minL is ≤ i := by
  cases is with
  | nil => cases h
  | cons a r =>
    obtain ⟨h1, h2⟩ := Bk.minI_le (xs := r) (a := a)
    rcases List.mem_cons.mp h with e | e
    · subst e; exact h1
    · exact h2 i e
theorem minL_mem (h : is ≠ []) : minL is ∈ is := by
  cases is with
  | nil => exact absurd rfl h
  | cons a r =>
    rcases Bk.minI_mem (xs := r) (a := a) with e | e
    · show minI a r ∈ _
      rw [e]; exact List.mem_cons_self
    · exact List.mem_cons_of_mem _ e
theorem maxL_ge (h : i ∈ is) : i ≤ maxL is := by
  cases is with
  | nil => cases h
  | cons a r =>
    obtain ⟨h1, h2⟩ := Bk.maxI_ge (xs := r) (a := a)
    rcases List.mem_cons.mp h with e | e
    · subst e; exact h1
    · exact h2 i e
theorem minL_eq (h1 : is ≠ []) (h2 : js ≠ []) (h3 : ∀ i ∈ is, ∃ j ∈ js, j ≤ i) (h4 : ∀ j ∈ js, ∃ i ∈ is, i ≤ j) : minL is = minL js := by
  obtain ⟨j, hj, q1⟩ := h3 _ (minL_mem h1)
  obtain ⟨i, hi, q2⟩ := h4 _ (minL_mem h2)
  have := minL_le hj
  have := minL_le hi
  omega
/-- xs[-1] = d -/
theorem ixN_last {n : Nat} (h : 0 < n) : L2.ixN n (-1) = some (n - 1) := by
  unfold L2.ixN
  rw [if_neg (by decide), if_pos (by omega)]
  congr 1
  omega
theorem set_last {α : Type} {xs : List α} {x : α} (h : xs ≠ []) : xs.set (xs.length - 1) x = xs.dropLast ++ [x] := by
  have e := List.dropLast_concat_getLast h
  conv => lhs; rw [← e]
  rw [List.set_append_right _ _ (by simp)]
  simp
theorem store_last {xs : List D} {x : D} (h : xs ≠ []) : storeD (.lst xs) (.int (-1)) x = some (.lst (xs.dropLast ++ [x])) := by
  show (L2.ixN xs.length (-1)).map (fun j => D.lst (xs.set j x)) = _
  rw [ixN_last (List.length_pos_iff.mpr h)]
  show some (D.lst (xs.set (xs.length - 1) x)) = _
  rw [set_last h]
theorem zip2_segs : ∀ {is : List Int}, zip2 (is.map .int) ((is.map D.int).drop 1) = (Bk.segs is).map pD
  | [] => rfl
  | [a] => rfl
  | a :: b :: r => congrArg (List.cons _) (zip2_segs (is := b :: r))
end
end Z
end
section
set_option Elab.async false
set_option linter.all false
set_option maxRecDepth 100000
set_option maxHeartbeats 1000000
set_option autoImplicit false
/-! M2: loops whose steps are drawn. -/
namespace Z
open PySem
section
variable {α σ : Type}
theorem forL_ex {bnd : D → Env → Option Env} {body : Env → Mu → S} {clr : List Nat} {f : α → D} {E : σ → Env} {Mm : σ → Mu} {P : σ → List α → Prop} : ∀ {xs : List α} {s : σ}, P s xs →
    (∀ s x r, P s (x :: r) → ∃ s', P s' r ∧ ∃ ρ', bnd (f x) (E s) = some ρ' ∧ ∃ ρ2, (body ρ' (Mm s) = .nx ρ2 (Mm s') ∨ body ρ' (Mm s) = .ct ρ2 (Mm s')) ∧ clear ρ2 clr = E s') →
    ∃ s', P s' [] ∧ forL bnd body clr (xs.map f) (E s) (Mm s) = .nx (E s') (Mm s')
  | [], s, hp, _ => ⟨s, hp, rfl⟩
  | x :: xs, s, hp, h => by
    obtain ⟨s1, h1, ρ', h2, ρ2, h3, h4⟩ := h s x xs hp
    obtain ⟨s2, q1, q2⟩ := forL_ex (xs := xs) h1 h
    refine ⟨s2, q1, ?_⟩
    rw [List.map_cons, forL, h2]
    rcases h3 with h3 | h3
    · simp only [h3, h4, q2]
    · simp only [h3, h4, q2]
theorem lcL_ex {bnd : D → Option Env} {tc : Env → Mu → R (Bool × Mu)} {te : Env → Mu → R (D × Mu)} {f : α → D} {Mm : σ → Mu} {P : σ → Prop} {Q : D → Prop} : ∀ {xs : List α} {s : σ}, P s →
    (∀ s x, x ∈ xs → P s → ∃ s' ρ d, P s' ∧ Q d ∧ bnd (f x) = some ρ ∧ tc ρ (Mm s) = .ok (true, Mm s) ∧ te ρ (Mm s) = .ok (d, Mm s')) →
    ∃ s' ds, P s' ∧ (∀ d ∈ ds, Q d) ∧ ds.length = xs.length ∧ lcL bnd tc te (xs.map f) (Mm s) = .ok (ds, Mm s')
  | [], s, hp, _ => ⟨s, [], hp, (fun d h => by cases h), rfl, rfl⟩
  | x :: xs, s, hp, h => by
    obtain ⟨s1, ρ, d, h1, h2, h3, h4, h5⟩ := h s x List.mem_cons_self hp
    obtain ⟨s2, ds, q1, q2, q3, q4⟩ := lcL_ex (xs := xs) h1 fun s y hy => h s y (List.mem_cons_of_mem _ hy)
    refine ⟨s2, d :: ds, q1, fun y hy => ?_, by rw [List.length_cons, q3, List.length_cons], ?_⟩
    · rcases List.mem_cons.mp hy with e | e
      · subst e; exact h2
      · exact q2 y e
    · rw [List.map_cons, lcL, h3]
      simp only [R.of_some, R.bind_ok, h4, h5, q4]
theorem ev_lc_ex {ρ : Env} {p : Pat} {src : Src} {e : Ex} {m0 : Mu} {Mm : σ → Mu} {P : σ → Prop} {Q : D → Prop} {s : σ} (xs : List α) (f : α → D) (h1 : evSrc src true ρ m0 = .ok (xs.map f, Mm s)) (hp : P s)
    (h2 : ∀ s x, x ∈ xs → P s → ∃ s' ρ' d, P s' ∧ Q d ∧ bindP p (f x) (roE ρ (pnames p)) = some ρ' ∧ ev e ρ' (Mm s) = .ok (d, Mm s')) :
    ∃ s' ds, P s' ∧ (∀ d ∈ ds, Q d) ∧ ds.length = xs.length ∧ ev (.lc p src (.con (.bl true)) e) ρ m0 = .ok (.lst ds, Mm s') := by
  obtain ⟨s', ds, q1, q2, q3, q4⟩ := lcL_ex (bnd := fun d => bindP p d (roE ρ (pnames p))) (tc := fun ρ m => tst (ev (.con (.bl true)) ρ m)) (te := ev e) (f := f) (Mm := Mm) (P := P) (Q := Q) (xs := xs) hp fun s x hx hs => by
    obtain ⟨s', ρ', d, g1, g2, g3, g4⟩ := h2 s x hx hs
    exact ⟨s', ρ', d, g1, g2, g3, rfl, g4⟩
  refine ⟨s', ds, q1, q2, q3, ?_⟩
  show ((evSrc src true ρ m0).bind _) = _
  rw [h1]
  show (R.bind (R.tame (lcL _ _ _ (xs.map f) (Mm s))) _) = _
  rw [q4]
  rfl
theorem ints_of {Q : Int → Prop} : ∀ {ds : List D}, (∀ d ∈ ds, ∃ i, d = .int i ∧ Q i) → ∃ is : List Int, ds = is.map .int ∧ ∀ i ∈ is, Q i
  | [], _ => ⟨[], rfl, fun i h => by cases h⟩
  | d :: ds, h => by
    obtain ⟨i, rfl, hi⟩ := h d List.mem_cons_self
    obtain ⟨is, rfl, hs⟩ := ints_of fun d hd => h d (List.mem_cons_of_mem _ hd)
    exact ⟨i :: is, rfl, fun j hj => by
      rcases List.mem_cons.mp hj with e | e
      · subst e; exact hi
      · exact hs j e⟩
theorem enu_map {f : α → D} {xs : List α} : enuF 0 (xs.map f) = xs.zipIdx.map fun p => .tup [.int p.2, f p.1] := by
  rw [enuF_eq, List.zipIdx_map, List.map_map]
  rfl
theorem rngI_rng {a : Int} {n : Nat} : rngI a n 1 = (Bk.rng a n).map D.int := by
  rw [Bk.rng_eq, List.map_map]
  unfold rngI
  apply List.map_congr_left
  intro k _
  show D.int (a + (k : Int) * 1) = D.int (a + (k : Int))
  rw [Int.mul_one]
end
/-! ### drawing -/
/-- the draw: the script, how many were drawn -/
abbrev drw (ns : List Int) (k : Int) : Mu := [.lst [.lst (ns.map .int), .int k]]
end Z
namespace Bk
open Z
theorem overs_eq {f t : Int} {ts : List Tn} (offAt : Int → List Tn → Nat → Int) (h0 : offAt f ts 0 = f) (hs : ∀ n p, ts[n]? = some p → offAt f ts (n + 1) = p.2) :
    overs t f 0 ts = ts.zipIdx.filterMap fun p => if p.1.1 + offAt f ts p.2 ≤ t ∧ t < p.1.1 + p.1.2 then some p.2 else none := by
  have key : ∀ (r pre : List Tn), ts = pre ++ r → overs t (offAt f ts pre.length) pre.length r = (r.zipIdx pre.length).filterMap fun p => if p.1.1 + offAt f ts p.2 ≤ t ∧ t < p.1.1 + p.1.2 then some p.2 else none := by
    intro r
    induction r with
    | nil => intro pre _; rfl
    | cons p r ih =>
      intro pre e
      obtain ⟨a, b⟩ := p
      have h1 : ts[pre.length]? = some (a, b) := by rw [e]; simp
      have h2 := hs _ _ h1
      have ih := ih (pre ++ [(a, b)]) (by rw [e]; simp)
      rw [List.length_append, List.length_singleton, h2] at ih
      rw [overs, List.zipIdx_cons, List.filterMap_cons]
      dsimp only
      by_cases q : a + offAt f ts pre.length ≤ t ∧ t < a + b
      · rw [if_pos q, if_pos q, ih]; rfl
      · rw [if_neg q, if_neg q, ih]; rfl
  have := key ts [] rfl
  rw [List.length_nil, h0] at this
  exact this
end Bk
end
section
set_option Elab.async false
set_option linter.all false
set_option maxRecDepth 100000
set_option maxHeartbeats 1000000
set_option autoImplicit false
/-! B8: a law's counting of told times against runs between breaks (plain). -/
namespace Bk
open Z
theorem last_get : ∀ {ts : List Tn} {l : Int} {p : Tn}, ts.getLast? = some p → lastL l ts = p.1
  | [], l, p, h => by cases h
  | [x], l, p, h => by
    have e : x = p := by simpa using h
    subst e
    obtain ⟨a, b⟩ := x
    rfl
  | (a, b) :: y :: r, l, p, h => by
    rw [lastL]
    exact last_get (ts := y :: r) (by rw [List.getLast?_cons_cons] at h; exact h)
theorem brks_head {f : Int} {ts : List Tn} : ∃ r, setI (brks 0 f ts) = minL (begs 0 f ts) :: r := by
  have hb : begs 0 f ts ≠ [] := by unfold begs; simp
  have hm : minL (begs 0 f ts) ∈ setI (brks 0 f ts) := mem_setI.mpr (List.mem_append_left _ (minL_mem hb))
  have hs := setI_sorted (xs := brks 0 f ts)
  cases e : setI (brks 0 f ts) with
  | nil => rw [e] at hm; cases hm
  | cons a r =>
    rw [e] at hm hs
    have ha : a ∈ brks 0 f ts := mem_setI.mp (by rw [e]; exact List.mem_cons_self)
    have h1 : minL (begs 0 f ts) ≤ a := by
      rcases List.mem_append.mp ha with q | q
      · exact minL_le q
      · obtain ⟨x, hx, rfl⟩ := List.mem_map.mp q
        have h2 : x.1 + x.2.2 ∈ begs 0 f ts := List.mem_append_left _ (List.mem_map.mpr ⟨x, hx, rfl⟩)
        have h3 : x.1 < x.2.1 := by
          have : ∀ (ts : List Tn) (l o : Int), ∀ x ∈ spf l o ts, x.1 < x.2.1 := by
            intro ts
            induction ts with
            | nil => intro l o x hx; cases hx
            | cons p r ih =>
              intro l o x hx
              obtain ⟨a, b⟩ := p
              rw [spf] at hx
              split at hx
              · rename_i hlt
                rcases List.mem_cons.mp hx with e | e
                · subst e; exact hlt
                · exact ih a b x e
              · exact ih a b x hx
          exact this ts 0 f x hx
        have := minL_le h2
        omega
    rcases List.mem_cons.mp hm with q | q
    · exact ⟨r, by rw [q]⟩
    · have := (List.pairwise_cons.mp hs).1 _ q
      omega
/-- what a law counts, time by time, is what the package counts, run by run -/
theorem runs_filter {f H : Int} {ts : List Tn} (P : Nat → Bool) (hP : P 1 = false) (hH : ∀ p ∈ brks 0 f ts, p ≤ H) :
    (to (minL (begs 0 f ts)) H).filter (fun t => P (cnt 0 f ts t)) = ((segs (setI (brks 0 f ts))).filter fun p => P (cnt 0 f ts p.1)).flatMap fun p => to p.1 p.2 := by
  obtain ⟨r, hr⟩ := brks_head (f := f) (ts := ts)
  have hs := setI_sorted (xs := brks 0 f ts)
  rw [hr] at hs ⊢
  have mem : ∀ p, p ∈ brks 0 f ts ↔ p ∈ minL (begs 0 f ts) :: r := fun p => by rw [← hr, mem_setI]
  refine seg_filter (P := fun t => P (cnt 0 f ts t)) hs (fun p hp t h1 h2 => ?_) (fun t h1 h2 => ?_) ?_
  · obtain ⟨q1, q2, q3, q4⟩ := segs_lt hs p hp
    have e : cnt 0 f ts t = cnt 0 f ts p.1 := cnt_same fun b hb => by
      have hb' := (mem b).mp hb
      constructor
      · intro h
        apply Int.le_of_not_gt
        intro z
        have := q2 b hb' z
        omega
      · intro h; omega
    show P _ = P _
    rw [e]
  · have hall : ∀ b ∈ brks 0 f ts, b ≤ t := fun b hb => by
      have := lastOf_ge hs b ((mem b).mp hb)
      omega
    have e : cnt 0 f ts t = 1 := cnt_late (hall _ (List.mem_append_left _ (List.mem_append_right _ List.mem_cons_self))) fun b hb => hall b (List.mem_append_right _ hb)
    show P _ = false
    rw [e]
    exact hP
  · exact hH _ ((mem _).mpr lastOf_mem)
theorem segs_ok {f : Int} {ts : List Tn} : ∀ p ∈ segs (setI (brks 0 f ts)), p.1 < p.2 := fun p hp => by
  obtain ⟨r, hr⟩ := brks_head (f := f) (ts := ts)
  have hs := setI_sorted (xs := brks 0 f ts)
  rw [hr] at hs hp
  exact (segs_lt hs p hp).1
theorem runs_spans {f H : Int} {ts : List Tn} (P : Nat → Bool) (hP : P 1 = false) (hH : ∀ p ∈ brks 0 f ts, p ≤ H) :
    ((to (minL (begs 0 f ts)) H).filter fun t => P (cnt 0 f ts t)).foldl lsp [] = ((segs (setI (brks 0 f ts))).filter fun p => P (cnt 0 f ts p.1)).foldl put [] := by
  rw [runs_filter P hP hH]
  exact flat_put fun p hp => segs_ok p (List.mem_filter.mp hp).1
theorem runs_all {f H : Int} {ts : List Tn} (hH : ∀ p ∈ brks 0 f ts, p ≤ H) :
    ((to (minL (begs 0 f ts)) H).all fun t => decide (cnt 0 f ts t = 1)) = (segs (setI (brks 0 f ts))).all fun p => decide (cnt 0 f ts p.1 = 1) := by
  have h := runs_filter (f := f) (ts := ts) (H := H) (fun n => !decide (n = 1)) (by decide) hH
  rw [Bool.eq_iff_iff, List.all_eq_true, List.all_eq_true]
  constructor
  · intro h1 p hp
    have e : (to (minL (begs 0 f ts)) H).filter (fun t => !decide (cnt 0 f ts t = 1)) = [] := List.filter_eq_nil_iff.mpr fun t ht => by rw [h1 t ht]; simp
    rw [e] at h
    cases hd : decide (cnt 0 f ts p.1 = 1) with
    | true => rfl
    | false =>
      have hm : p ∈ (segs (setI (brks 0 f ts))).filter fun p => !decide (cnt 0 f ts p.1 = 1) := List.mem_filter.mpr ⟨hp, by rw [hd]; rfl⟩
      have h2 : p.1 ∈ ((segs (setI (brks 0 f ts))).filter fun p => !decide (cnt 0 f ts p.1 = 1)).flatMap fun p => to p.1 p.2 := List.mem_flatMap.mpr ⟨p, hm, mem_to.mpr ⟨Int.le_refl _, segs_ok p hp⟩⟩
      rw [← h] at h2
      cases h2
  · intro h1 t ht
    have e : (segs (setI (brks 0 f ts))).filter (fun p => !decide (cnt 0 f ts p.1 = 1)) = [] := List.filter_eq_nil_iff.mpr fun p hp => by rw [h1 p hp]; simp
    rw [e] at h
    cases hd : decide (cnt 0 f ts t = 1) with
    | true => rfl
    | false =>
      have hm : t ∈ (to (minL (begs 0 f ts)) H).filter fun t => !decide (cnt 0 f ts t = 1) := List.mem_filter.mpr ⟨ht, by rw [hd]; rfl⟩
      rw [h] at hm
      cases hm
/-- the least told time, by the first ticks -/
theorem least_scan {f : Int} {ts : List Tn} {n : Nat} (hA : Asc 0 ts) (hn : lastL 0 ts < n) : minL ((rng 0 n).map fun k => k + off f ts k) = minL (begs 0 f ts) := by
  have h0 : 0 ≤ lastL 0 ts := last_ge hA
  refine minL_eq ?_ (by unfold begs; simp) (fun i hi => ?_) fun j hj => ?_
  · intro z
    have := congrArg List.length z
    rw [List.length_map, rng_len, List.length_nil] at this
    omega
  · obtain ⟨k, hk, rfl⟩ := List.mem_map.mp hi
    exact in_span hA (mem_rng.mp hk).1
  · obtain ⟨k, h1, h2, h3⟩ := begs_told hA hj
    exact ⟨j, List.mem_map.mpr ⟨k, mem_rng.mpr ⟨h1, by omega⟩, h3⟩, Int.le_refl _⟩
theorem count_scan {f t b : Int} {ts : List Tn} {n : Nat} (hA : Asc 0 ts) (ho : Off b f ts) (hb : 0 ≤ b) (hn : t + b < n) : ((rng 0 n).map fun k => k + off f ts k).count t = cnt 0 f ts t := by
  unfold cnt
  rw [← mns_scan (a := 0) (n := n) hA ho (by omega) (Int.le_refl _) (by omega), List.count_eq_countP, List.countP_map, List.countP_eq_length_filter]
  congr 1
/-! ### rows by places -/
theorem rows_next {rows : List Tn} {δ : Type} (g : Tn → Option Int → δ) : ∀ {r : List Tn} {pre : List Tn} {l o : Int}, rows = pre ++ (l, o) :: r →
    (((l, o) :: r).zipIdx pre.length).map (fun p => g p.1 ((rows[p.2 + 1]?).map (·.1))) = (rws l o r).map fun w => g (w.1, w.2.2) w.2.1
  | [], pre, l, o, e => by
    rw [e, rws]
    simp
  | (a, b) :: r, pre, l, o, e => by
    have ih := rows_next (rows := rows) g (r := r) (pre := pre ++ [(l, o)]) (l := a) (o := b) (by rw [e]; simp)
    rw [List.length_append, List.length_singleton] at ih
    rw [List.zipIdx_cons, List.map_cons, ih, rws, List.map_cons]
    congr 1
    rw [e]
    simp
theorem rws_le : ∀ {ts : List Tn} {l o : Int}, Asc l ts → ∀ w ∈ rws l o ts, ∀ h, w.2.1 = some h → w.1 ≤ h
  | [], l, o, _, w, hw, h, e => by
    have : w = (l, none, o) := by simpa [rws] using hw
    subst this
    cases e
  | (a, b) :: r, l, o, ⟨h1, h2⟩, w, hw, h, e => by
    rw [rws] at hw
    rcases List.mem_cons.mp hw with q | q
    · subst q; cases e; exact h1
    · exact rws_le (h2.mono (by omega)) w q h e
end Bk
namespace Z
open PySem
/-! ### dicts of counts -/
open Classical in
theorem dget_repl {k j : Key} {v : D} : ∀ {ks : List Key} {vs : List D}, ks.length = vs.length → dget? k ks (repl j v ks vs) = if k ∈ ks ∧ k = j then some v else dget? k ks vs
  | [], [], _ => by simp [dget?]
  | [], _ :: _, h => by simp at h
  | _ :: _, [], h => by simp at h
  | a :: ks, w :: ws, h => by
    have ih := dget_repl (k := k) (j := j) (v := v) (ks := ks) (vs := ws) (by simpa using h)
    unfold repl dget?
    by_cases e1 : a = k
    · subst e1
      rw [if_pos rfl, if_pos rfl]
      by_cases e2 : a = j
      · rw [if_pos e2, if_pos ⟨List.mem_cons_self, e2⟩]
      · rw [if_neg e2, if_neg (fun z => e2 z.2)]
    · rw [if_neg e1, if_neg e1, ih]
      have : (k ∈ a :: ks ∧ k = j) ↔ (k ∈ ks ∧ k = j) := by
        rw [List.mem_cons]
        constructor
        · rintro ⟨q1 | q1, q2⟩
          · exact absurd q1.symm e1
          · exact ⟨q1, q2⟩
        · rintro ⟨q1, q2⟩; exact ⟨.inr q1, q2⟩
      simp only [this]
theorem dget_none {k : Key} : ∀ {ks : List Key} {vs : List D}, ks.length = vs.length → (dget? k ks vs = none ↔ k ∉ ks)
  | [], [], _ => by simp [dget?]
  | [], _ :: _, h => by simp at h
  | _ :: _, [], h => by simp at h
  | a :: ks, w :: ws, h => by
    have ih := dget_none (k := k) (ks := ks) (vs := ws) (by simpa using h)
    unfold dget?
    by_cases e1 : a = k
    · rw [if_pos e1]; simp [e1]
    · rw [if_neg e1, ih]
      simp [Ne.symm e1]
open Classical in
theorem dget_app {k j : Key} {v : D} : ∀ {ks : List Key} {vs : List D}, ks.length = vs.length → dget? k (ks ++ [j]) (vs ++ [v]) = if k ∈ ks then dget? k ks vs else if k = j then some v else none
  | [], [], _ => by
    simp only [List.nil_append, dget?, List.not_mem_nil, if_false]
    by_cases e : j = k
    · rw [if_pos e, if_pos e.symm]
    · rw [if_neg e, if_neg (Ne.symm e)]
  | [], _ :: _, h => by simp at h
  | _ :: _, [], h => by simp at h
  | a :: ks, w :: ws, h => by
    have ih := dget_app (k := k) (j := j) (v := v) (ks := ks) (vs := ws) (by simpa using h)
    rw [List.cons_append, List.cons_append]
    unfold dget?
    by_cases e1 : a = k
    · rw [if_pos e1, if_pos e1, if_pos (by simp [e1])]
    · rw [if_neg e1, if_neg e1, ih]
      simp [Ne.symm e1]
theorem repl_len {j : Key} {v : D} : ∀ {ks : List Key} {vs : List D}, ks.length = vs.length → (repl j v ks vs).length = vs.length
  | [], [], _ => rfl
  | [], _ :: _, h => by simp at h
  | _ :: _, [], h => by simp at h
  | a :: ks, w :: ws, h => by
    have ih := repl_len (j := j) (v := v) (ks := ks) (vs := ws) (by simpa using h)
    unfold repl
    simp [ih]
theorem dput_len {j : Key} {v : D} {ks : List Key} {vs : List D} (h : ks.length = vs.length) : (dput j v ks vs).1.length = (dput j v ks vs).2.length ∧ (dput j v ks vs).1.length ≤ ks.length + 1 := by
  unfold dput
  split
  · dsimp only; rw [repl_len h]; omega
  · simp [h]
theorem dget_dput {k j : Key} {v : D} {ks : List Key} {vs : List D} (h : ks.length = vs.length) : dget? k (dput j v ks vs).1 (dput j v ks vs).2 = if k = j then some v else dget? k ks vs := by
  unfold dput
  by_cases hj : j ∈ ks
  · have e : (ks.any fun i => decide (i = j)) = true := List.any_eq_true.mpr ⟨j, hj, by simp⟩
    rw [if_pos e]
    dsimp only
    rw [dget_repl h]
    by_cases e2 : k = j
    · subst e2; rw [if_pos ⟨hj, rfl⟩, if_pos rfl]
    · rw [if_neg (fun z => e2 z.2), if_neg e2]
  · have e : ¬ ((ks.any fun i => decide (i = j)) = true) := fun z => by
      obtain ⟨i, hi, q⟩ := List.any_eq_true.mp z
      rw [of_decide_eq_true q] at hi
      exact hj hi
    rw [if_neg e]
    dsimp only
    rw [dget_app h]
    by_cases e2 : k = j
    · subst e2; rw [if_neg hj, if_pos rfl, if_pos rfl]
    · rw [if_neg e2, if_neg e2]
      by_cases e3 : k ∈ ks
      · rw [if_pos e3]
      · rw [if_neg e3, (dget_none h).mpr e3]
/-- a dict that counts -/
structure Cnts (is : List Int) (l : List Int) (ks : List Key) (vs : List D) : Prop where
  len : ks.length = vs.length
  val : ∀ i : Int, (dget? (.inl i) ks vs).getD (.int 0) = .int (l.count i)
  has : ∀ i ∈ is, (dget? (.inl i) ks vs).isSome = true
  sz : ks.length ≤ is.length + l.length
theorem Cnts.put {is l : List Int} {ks : List Key} {vs : List D} (h : Cnts is l ks vs) (t : Int) : Cnts is (l ++ [t]) (dput (.inl t) (.int (l.count t + 1)) ks vs).1 (dput (.inl t) (.int (l.count t + 1)) ks vs).2 where
  len := (dput_len h.len).1
  val := fun i => by
    rw [dget_dput h.len, List.count_append]
    by_cases e : i = t
    · subst e
      rw [if_pos rfl]
      simp
    · have e2 : ¬ ((Sum.inl i : Key) = Sum.inl t) := fun z => e (Sum.inl.inj z)
      rw [if_neg e2, h.val i, List.count_singleton, if_neg (by simpa using Ne.symm e)]
      rfl
  has := fun i hi => by
    rw [dget_dput h.len]
    split
    · rfl
    · exact h.has i hi
  sz := by
    have := (dput_len (j := .inl t) (v := .int (l.count t + 1)) h.len).2
    have := h.sz
    simp only [List.length_append, List.length_singleton]
    omega
theorem Cnts.at {is l : List Int} {ks : List Key} {vs : List D} (h : Cnts is l ks vs) {i : Int} (hi : i ∈ is) : dget? (.inl i) ks vs = some (.int (l.count i)) := by
  have h1 := h.has i hi
  have h2 := h.val i
  cases e : dget? (.inl i) ks vs with
  | none => rw [e] at h1; cases h1
  | some d => rw [e] at h2; rw [show d = .int (l.count i) from h2]
theorem dpairs_map {is : List Int} : dpairs (is.map fun i => D.tup [.int i, .int 0]) = some (is.map fun i => (Sum.inl i, D.int 0)) := by
  induction is with
  | nil => rfl
  | cons i is ih => rw [List.map_cons, dpairs, ih]; rfl
theorem dputsB_ok {is0 : List Int} : ∀ {is : List Int} {ks : List Key} {vs : List D}, ks.length = vs.length → (∀ i : Int, (dget? (.inl i) ks vs).getD (.int 0) = .int 0) →
    let p := dputs (is.map fun i => (Sum.inl i, D.int 0)) ks vs; p.1.length = p.2.length ∧ (∀ i : Int, (dget? (.inl i) p.1 p.2).getD (.int 0) = .int 0) ∧ (∀ i : Int, i ∈ is ∨ (dget? (.inl i) ks vs).isSome = true → (dget? (.inl i) p.1 p.2).isSome = true) ∧ p.1.length ≤ ks.length + is.length
  | [], ks, vs, h1, h2 => ⟨h1, h2, fun i hi => hi.elim (fun z => by cases z) id, by simp [dputs]⟩
  | j :: is, ks, vs, h1, h2 => by
    obtain ⟨q1, q2⟩ := dput_len (j := .inl j) (v := .int 0) h1
    have ih := dputsB_ok (is0 := is0) (is := is) q1 fun i => by
      rw [dget_dput h1]
      split
      · rfl
      · exact h2 i
    obtain ⟨g1, g2, g3, g4⟩ := ih
    refine ⟨g1, g2, fun i hi => g3 i ?_, by simp only [List.length_cons]; exact Nat.le_trans g4 (by omega)⟩
    rw [dget_dput h1]
    by_cases e : i = j
    · right; subst e; rw [if_pos rfl]; rfl
    · have e2 : ¬ ((Sum.inl i : Key) = Sum.inl j) := fun z => e (Sum.inl.inj z)
      rw [if_neg e2]
      rcases hi with z | z
      · rcases List.mem_cons.mp z with z | z
        · exact absurd z e
        · exact .inl z
      · exact .inr z
theorem bi_dict0 {is : List Int} : ∃ ks vs, biSem .dict [.lst (is.map fun i => D.tup [.int i, .int 0])] = some (.dic ks vs) ∧ Cnts is [] ks vs := by
  obtain ⟨h1, h2, h3, h4⟩ := dputsB_ok (is0 := is) (is := is) (ks := []) (vs := []) rfl fun i => rfl
  refine ⟨_, _, ?_, ⟨h1, fun i => ?_, fun i hi => h3 i (.inl hi), by simpa using h4⟩⟩
  · show (dpairs _).map _ = _
    rw [dpairs_map]
    rfl
  · exact h2 i
end Z
end
section
set_option Elab.async false
set_option linter.all false
set_option maxRecDepth 100000
set_option maxHeartbeats 4000000
/-! the program's defs as data of layer Z (printed by gen.py). -/
namespace P35
open PySem Z
def ir_is_integer : Sms := (.cons (.ret (.and (.isi (.var 0) [.bt "int"] false) (.not (.isi (.var 0) [.bt "bool"] false))))
  .nil)
def f_is_integer : Fn := fn 1 1 ir_is_integer
def ir_is_row : Sms := (.cons (.ret (.isi (.var 0) [.bt "list", .bt "tuple"] true))
  .nil)
def f_is_row : Fn := fn 1 1 ir_is_row
def ir_is_number : Sms := (.cons (.ret (.and (.call "is_integer" f_is_integer (.cons (.var 0) .nil)) (.cmp2 .le .le (.var 1) (.var 0) (.var 2))))
  .nil)
def f_is_number : Fn := fn 3 3 ir_is_number
def ir_is_offset : Sms := (.cons (.ret (.and (.call "is_integer" f_is_integer (.cons (.var 0) .nil)) (.cmp2 .le .le (.neg (.con (.int 30))) (.var 0) (.con (.int 30)))))
  .nil)
def f_is_offset : Fn := fn 1 1 ir_is_offset
def ir_check_book : Sms := (.cons (.ifs (.not (.isi (.var 0) [.own "Book" 0] false))
  (.cons (.raise "BadBook" 1 2 (.cons (.con (.str "book")) (.cons (.con .non) .nil)))
  .nil)
  .nil)
  .nil)
def f_check_book : Fn := fn 1 1 ir_check_book
def ir_check_told : Sms := (.cons (.ifs (.or (.not (.call "is_integer" f_is_integer (.cons (.var 0) .nil))) (.not (.cmp2 .le .le (.bin .mul (.neg (.con (.int 9))) (.glo "MOST_TICK" (.int 99999999))) (.var 0) (.bin .mul (.con (.int 9)) (.glo "MOST_TICK" (.int 99999999))))))
  (.cons (.raise "BadTick" 2 1 (.cons (.var 0) .nil))
  .nil)
  .nil)
  .nil)
def f_check_told : Fn := fn 1 1 ir_check_told
def bd_Book_place_0 : Sms := (.cons (.asg 4 (.bin .fdiv (.bin .add (.var 2) (.var 3)) (.con (.int 2))))
  (.cons (.ifs (.cmp .le (.idx (.idx (.att (.var 0) "turns" [(0, 1)]) (.var 4)) (.con (.int 0))) (.var 1))
  (.cons (.asg 2 (.bin .add (.var 4) (.con (.int 1))))
  .nil)
  (.cons (.asg 3 (.var 4))
  .nil))
  .nil))
def wh_Book_place_0 : Sm := (.whl (.cmp .lt (.var 2) (.var 3)) bd_Book_place_0 [4])
def ir_Book_place : Sms := (.cons (.par 2 3 false false (.con (.int 0)) (.bi .len (.cons (.att (.var 0) "turns" [(0, 1)]) .nil)))
  (.cons wh_Book_place_0
  (.cons (.ret (.var 2))
  .nil)))
def m_Book_place : Fn := fn 2 5 ir_Book_place
def bd_meanings_0 : Sms := (.cons (.asg 4 (.bin .sub (.var 1) (.ife (.cmp .gt (.var 3) (.con (.int 0))) (.idx (.idx (.att (.var 0) "turns" [(0, 1)]) (.bin .sub (.var 3) (.con (.int 1)))) (.con (.int 1))) (.att (.var 0) "first" [(0, 0)]))))
  (.cons (.ifs (.and (.cmp .ge (.var 4) (.con (.int 0))) (.cmp .eq (.meth (.var 0) "place" [(0, m_Book_place)] (.cons (.var 4) .nil)) (.var 3)))
  (.cons (.app 2 (.var 4))
  .nil)
  .nil)
  .nil))
def fo_meanings_0 : Sm := (.fors (.name 3) (.rng2 (.meth (.var 0) "place" [(0, m_Book_place)] (.cons (.bin .sub (.var 1) (.con (.int 30))) .nil)) (.bin .add (.meth (.var 0) "place" [(0, m_Book_place)] (.cons (.bin .add (.var 1) (.con (.int 30))) .nil)) (.con (.int 1)))) bd_meanings_0 [3, 4])
def ir_meanings : Sms := (.cons (.expr (.call "check_book" f_check_book (.cons (.var 0) .nil)))
  (.cons (.expr (.call "check_told" f_check_told (.cons (.var 1) .nil)))
  (.cons (.asgF 2 (.lst .nil))
  (.cons fo_meanings_0
  (.cons (.frz [2])
  (.cons (.ret (.var 2))
  .nil))))))
def f_meanings : Fn := fn 2 5 ir_meanings
def ir_told_ahead : Sms := (.cons (.asg 2 (.idx (.idx (.att (.var 0) "turns" [(0, 1)]) (.var 1)) (.con (.int 0))))
  (.cons (.ret (.bin .add (.var 2) (.ife (.cmp .gt (.var 1) (.con (.int 0))) (.idx (.idx (.att (.var 0) "turns" [(0, 1)]) (.bin .sub (.var 1) (.con (.int 1)))) (.con (.int 1))) (.att (.var 0) "first" [(0, 0)]))))
  .nil))
def f_told_ahead : Fn := fn 2 3 ir_told_ahead
def lc_Book_spans_0 : Ex := (.lc (.tup (.cons (.name 2) (.cons (.name 3) .nil))) (.seq (.att (.var 0) "turns" [(0, 1)])) (.con (.bl true)) (.var 2))
@[simp ↓] theorem rdv_lc_Book_spans_0 {ρ : Z.Env} {m : Z.Mu} {r : Z.R (D × Mu)} : rdv lc_Book_spans_0 ρ m r = r := rfl
def lc_Book_spans_1 : Ex := (.lc (.tup (.cons (.name 2) (.cons (.name 3) .nil))) (.seq (.att (.var 0) "turns" [(0, 1)])) (.con (.bl true)) (.var 3))
@[simp ↓] theorem rdv_lc_Book_spans_1 {ρ : Z.Env} {m : Z.Mu} {r : Z.R (D × Mu)} : rdv lc_Book_spans_1 ρ m r = r := rfl
def lc_Book_spans_2 : Ex := (.lc (.tup (.cons (.name 6) (.cons (.name 7) (.cons (.name 3) .nil)))) (.seq (.var 5)) (.or (.cmp .is_ (.var 7) (.con .non)) (.cmp .lt (.var 6) (.var 7))) (.tup (.cons (.var 6) (.cons (.var 7) (.cons (.var 3) .nil)))))
@[simp ↓] theorem rdv_lc_Book_spans_2 {ρ : Z.Env} {m : Z.Mu} {r : Z.R (D × Mu)} : rdv lc_Book_spans_2 ρ m r = r := rfl
def ir_Book_spans : Sms := (.cons (.asg 1 (.lst (.cons (.con (.int 0)) (.star lc_Book_spans_0 .nil))))
  (.cons (.asg 4 (.lst (.cons (.att (.var 0) "first" [(0, 0)]) (.star lc_Book_spans_1 .nil))))
  (.cons (.asg 5 (.bi .zip3 (.cons (.var 1) (.cons (.lst (.star (.slc (.var 1) (.con (.int 1)) (.con .non)) (.cons (.con .non) .nil))) (.cons (.var 4) .nil)))))
  (.cons (.ret lc_Book_spans_2)
  .nil))))
def m_Book_spans : Fn := fn 1 8 ir_Book_spans
def lc_least_told_0 : Ex := (.lc (.tup (.cons (.name 1) (.cons (.name 2) (.cons (.name 3) .nil)))) (.seq (.meth (.var 0) "spans" [(0, m_Book_spans)] .nil)) (.con (.bl true)) (.bin .add (.var 1) (.var 3)))
@[simp ↓] theorem rdv_lc_least_told_0 {ρ : Z.Env} {m : Z.Mu} {r : Z.R (D × Mu)} : rdv lc_least_told_0 ρ m r = r := rfl
def ir_least_told : Sms := (.cons (.expr (.call "check_book" f_check_book (.cons (.var 0) .nil)))
  (.cons (.ret (.bi .min1 (.cons lc_least_told_0 .nil)))
  .nil))
def f_least_told : Fn := fn 1 4 ir_least_told
def ir_Many_init : Sms := (.cons (.setA "ticks" (.bi .tuple (.cons (.var 1) .nil)))
  .nil)
def i_Many : Fn := init 3 ["ticks"] 1 2 ir_Many_init
def ir_Never_init : Sms := (.cons (.setA "turn" (.var 1))
  .nil)
def i_Never : Fn := init 2 ["turn"] 1 2 ir_Never_init
def ir_One_init : Sms := (.cons (.setA "tick" (.var 1))
  .nil)
def i_One : Fn := init 1 ["tick"] 1 2 ir_One_init
def bd_judge_told_0 : Sms := (.cons (.ifs (.cmp2 .le .lt (.call "told_ahead" f_told_ahead (.cons (.var 0) (.cons (.var 3) .nil))) (.var 1) (.bin .add (.var 4) (.var 5)))
  (.cons (.ret (.make "Never" 2 i_Never (.cons (.var 3) .nil)))
  .nil)
  .nil)
  .nil)
def fo_judge_told_0 : Sm := (.fors (.tup (.cons (.name 3) (.cons (.tup (.cons (.name 4) (.cons (.name 5) .nil))) .nil))) (.enu (.att (.var 0) "turns" [(0, 1)])) bd_judge_told_0 [3, 4, 5])
def ir_judge_told : Sms := (.cons (.asg 2 (.call "meanings" f_meanings (.cons (.var 0) (.cons (.var 1) .nil))))
  (.cons (.ifs (.cmp .eq (.bi .len (.cons (.var 2) .nil)) (.con (.int 1)))
  (.cons (.ret (.make "One" 1 i_One (.cons (.idx (.var 2) (.con (.int 0))) .nil)))
  .nil)
  .nil)
  (.cons (.ifs (.cmp .ne (.var 2) (.lst .nil))
  (.cons (.ret (.make "Many" 3 i_Many (.cons (.var 2) .nil)))
  .nil)
  .nil)
  (.cons fo_judge_told_0
  (.cons (.ret (.make "Never" 2 i_Never (.cons (.con .non) .nil)))
  .nil)))))
def f_judge_told : Fn := fn 2 6 ir_judge_told
def lc_counts_0 : Ex := (.lc (.tup (.cons (.name 3) (.cons (.name 4) (.cons (.name 5) .nil)))) (.seq (.var 1)) (.con (.bl true)) (.bin .add (.var 3) (.var 5)))
@[simp ↓] theorem rdv_lc_counts_0 {ρ : Z.Env} {m : Z.Mu} {r : Z.R (D × Mu)} : rdv lc_counts_0 ρ m r = r := rfl
def lc_counts_1 : Ex := (.lc (.tup (.cons (.name 3) (.cons (.name 4) (.cons (.name 5) .nil)))) (.seq (.slc (.var 1) (.con .non) (.neg (.con (.int 1))))) (.con (.bl true)) (.bin .add (.var 4) (.var 5)))
@[simp ↓] theorem rdv_lc_counts_1 {ρ : Z.Env} {m : Z.Mu} {r : Z.R (D × Mu)} : rdv lc_counts_1 ρ m r = r := rfl
def bd_counts_0 : Sms := (.cons (.app 7 (.tup (.cons (.tup (.cons (.var 3) (.cons (.var 4) .nil))) (.cons (.bi .len (.cons (.call "meanings" f_meanings (.cons (.var 0) (.cons (.var 3) .nil))) .nil)) .nil))))
  .nil)
def fo_counts_0 : Sm := (.fors (.tup (.cons (.name 3) (.cons (.name 4) .nil))) (.zip (.var 6) (.slc (.var 6) (.con (.int 1)) (.con .non))) bd_counts_0 [3, 4])
def ir_counts : Sms := (.cons (.expr (.call "check_book" f_check_book (.cons (.var 0) .nil)))
  (.cons (.asg 1 (.meth (.var 0) "spans" [(0, m_Book_spans)] .nil))
  (.cons (.asg 2 lc_counts_0)
  (.cons (.asg 6 (.bi .sset (.cons (.lst (.star (.var 2) (.star lc_counts_1 .nil))) .nil)))
  (.cons (.asgF 7 (.lst .nil))
  (.cons fo_counts_0
  (.cons (.frz [7])
  (.cons (.ret (.var 7))
  .nil))))))))
def f_counts : Fn := fn 1 8 ir_counts
def bd_put_together_0 : Sms := (.cons (.ifs (.and (.cmp .ne (.var 1) (.lst .nil)) (.cmp .eq (.idx (.idx (.var 1) (.neg (.con (.int 1)))) (.con (.int 1))) (.var 2)))
  (.cons (.setI 1 (.neg (.con (.int 1))) (.tup (.cons (.idx (.idx (.var 1) (.neg (.con (.int 1)))) (.con (.int 0))) (.cons (.var 3) .nil))))
  .nil)
  (.cons (.app 1 (.tup (.cons (.var 2) (.cons (.var 3) .nil))))
  .nil))
  .nil)
def fo_put_together_0 : Sm := (.fors (.tup (.cons (.name 2) (.cons (.name 3) .nil))) (.seq (.var 0)) bd_put_together_0 [2, 3])
def ir_put_together : Sms := (.cons (.asgF 1 (.lst .nil))
  (.cons fo_put_together_0
  (.cons (.frz [1])
  (.cons (.ret (.var 1))
  .nil))))
def f_put_together : Fn := fn 1 4 ir_put_together
def lc_gaps_0 : Ex := (.lc (.tup (.cons (.name 1) (.cons (.name 2) .nil))) (.seq (.call "counts" f_counts (.cons (.var 0) .nil))) (.cmp .eq (.var 2) (.con (.int 0))) (.var 1))
@[simp ↓] theorem rdv_lc_gaps_0 {ρ : Z.Env} {m : Z.Mu} {r : Z.R (D × Mu)} : rdv lc_gaps_0 ρ m r = r := rfl
def ir_gaps : Sms := (.cons (.ret (.call "put_together" f_put_together (.cons lc_gaps_0 .nil)))
  .nil)
def f_gaps : Fn := fn 1 3 ir_gaps
def lc_folds_0 : Ex := (.lc (.tup (.cons (.name 1) (.cons (.name 2) .nil))) (.seq (.call "counts" f_counts (.cons (.var 0) .nil))) (.cmp .gt (.var 2) (.con (.int 1))) (.var 1))
@[simp ↓] theorem rdv_lc_folds_0 {ρ : Z.Env} {m : Z.Mu} {r : Z.R (D × Mu)} : rdv lc_folds_0 ρ m r = r := rfl
def ir_folds : Sms := (.cons (.ret (.call "put_together" f_put_together (.cons lc_folds_0 .nil)))
  .nil)
def f_folds : Fn := fn 1 3 ir_folds
def lc_is_plain_0 : Ex := (.lc (.tup (.cons (.name 1) (.cons (.name 2) .nil))) (.seq (.call "counts" f_counts (.cons (.var 0) .nil))) (.con (.bl true)) (.cmp .eq (.var 2) (.con (.int 1))))
@[simp ↓] theorem rdv_lc_is_plain_0 {ρ : Z.Env} {m : Z.Mu} {r : Z.R (D × Mu)} : rdv lc_is_plain_0 ρ m r = r := rfl
def ir_is_plain : Sms := (.cons (.expr (.call "check_book" f_check_book (.cons (.var 0) .nil)))
  (.cons (.ret (.bi .all (.cons lc_is_plain_0 .nil)))
  .nil))
def f_is_plain : Fn := fn 1 3 ir_is_plain
def lc_last_told_0 : Ex := (.lc (.tup (.cons (.name 2) (.cons (.name 3) (.cons (.name 4) .nil)))) (.seq (.slc (.var 1) (.con .non) (.neg (.con (.int 1))))) (.con (.bl true)) (.bin .add (.var 3) (.var 4)))
@[simp ↓] theorem rdv_lc_last_told_0 {ρ : Z.Env} {m : Z.Mu} {r : Z.R (D × Mu)} : rdv lc_last_told_0 ρ m r = r := rfl
def ir_last_told : Sms := (.cons (.expr (.call "check_book" f_check_book (.cons (.var 0) .nil)))
  (.cons (.asg 1 (.meth (.var 0) "spans" [(0, m_Book_spans)] .nil))
  (.cons (.ret (.bi .max1 (.cons (.lst (.cons (.bin .add (.idx (.idx (.var 1) (.neg (.con (.int 1)))) (.con (.int 0))) (.idx (.idx (.var 1) (.neg (.con (.int 1)))) (.con (.int 2)))) (.star lc_last_told_0 .nil))) .nil)))
  .nil)))
def f_last_told : Fn := fn 1 5 ir_last_told
def bd__law_number_0 : Sms := (.cons (.asg 4 (.bin .fdiv (.var 4) (.con (.int 1009))))
  .nil)
def fo__law_number_0 : Sm := (.fors (.name 5) (.rng1 (.bin .mod (.bi .int (.cons (.var 3) .nil)) (.con (.int 60)))) bd__law_number_0 [5])
def ir__law_number : Sms := (.cons (.asgT (.tup (.cons (.name 2) (.cons (.name 3) .nil))) (.ife (.cmp .ne (.var 0) (.lst .nil)) (.tup (.cons (.idx (.var 0) (.bin .mod (.var 1) (.bi .len (.cons (.var 0) .nil)))) (.cons (.bin .fdiv (.var 1) (.bi .len (.cons (.var 0) .nil))) .nil))) (.tup (.cons (.con (.int 12345)) (.cons (.con (.int 0)) .nil)))))
  (.cons (.asg 4 (.ife (.cmp .lt (.var 3) (.con (.int 60))) (.bin .sub (.var 2) (.bin .pow (.con (.int 10)) (.con (.int 18)))) (.con (.int 0))))
  (.cons fo__law_number_0
  (.cons (.ifs (.cmp .gt (.var 4) (.con (.int 0)))
  (.cons (.ret (.bin .mod (.bi .int (.cons (.var 4) .nil)) (.con (.int 1009))))
  .nil)
  .nil)
  (.cons (.asg 6 (.bin .mod (.bin .add (.bin .mul (.bi .int (.cons (.bin .add (.var 2) (.bin .mul (.con (.int 977)) (.var 1))) .nil)) (.con (.int 48271))) (.bin .mul (.con (.int 31)) (.bi .len (.cons (.var 0) .nil)))) (.con (.int 2147483647))))
  (.cons (.asg 6 (.bin .mod (.bin .add (.bin .mul (.var 6) (.var 6)) (.bin .mul (.con (.int 40503)) (.var 1))) (.con (.int 2147483629))))
  (.cons (.ret (.bi .int (.cons (.bin .mod (.bin .add (.bin .mul (.var 6) (.con (.int 69621))) (.bin .fdiv (.var 6) (.con (.int 977)))) (.con (.int 2147483587))) .nil)))
  .nil)))))))
def f__law_number : Fn := fn 2 7 ir__law_number
def ir__law_take : Sms := (.cons (.augI 0 (.con (.int 1)) .add (.con (.int 1)))
  (.cons (.ret (.bin .mod (.bi .int (.cons (.call "_law_number" f__law_number (.cons (.idx (.var 0) (.con (.int 0))) (.cons (.bi .int (.cons (.idx (.var 0) (.con (.int 1))) .nil)) .nil))) .nil)) (.var 1)))
  .nil))
def f__law_take : Fn := fn 2 2 ir__law_take
def ir__law_pick : Sms := (.cons (.ret (.idx (.var 1) (.call "_law_take" f__law_take (.cons (.var 0) (.cons (.bi .len (.cons (.var 1) .nil)) .nil)))))
  .nil)
def f__law_pick : Fn := fn 2 2 ir__law_pick
def bd__law_book_0 : Sms := (.cons (.asg 3 (.ife (.cmp .eq (.var 4) (.con (.int 0))) (.bin .add (.var 3) (.call "_law_pick" f__law_pick (.cons (.var 0) (.cons (.lst (.cons (.con (.int 0)) (.cons (.con (.int 1)) (.cons (.con (.int 2)) (.cons (.con (.int 5)) (.cons (.con (.int 12)) (.cons (.con (.int 30)) .nil))))))) .nil)))) (.bin .add (.var 3) (.call "_law_pick" f__law_pick (.cons (.var 0) (.cons (.lst (.cons (.con (.int 1)) (.cons (.con (.int 1)) (.cons (.con (.int 2)) (.cons (.con (.int 3)) (.cons (.con (.int 7)) (.cons (.con (.int 25)) (.cons (.con (.int 40)) .nil)))))))) .nil))))))
  (.cons (.app 2 (.tup (.cons (.var 3) (.cons (.call "_law_pick" f__law_pick (.cons (.var 0) (.cons (.lst (.cons (.con (.int 0)) (.cons (.con (.int 1)) (.cons (.neg (.con (.int 1))) (.cons (.con (.int 2)) (.cons (.con (.int 3)) (.cons (.neg (.con (.int 3))) (.cons (.con (.int 5)) .nil)))))))) .nil))) .nil))))
  .nil))
def fo__law_book_0 : Sm := (.fors (.name 4) (.rng1 (.call "_law_take" f__law_take (.cons (.var 0) (.cons (.bin .add (.var 1) (.con (.int 1))) .nil)))) bd__law_book_0 [4])
def ir__law_book : Sms := (.cons (.par 2 3 true false (.lst .nil) (.con (.int 0)))
  (.cons fo__law_book_0
  (.cons (.frz [2])
  (.cons (.ret (.tup (.cons (.call "_law_pick" f__law_pick (.cons (.var 0) (.cons (.lst (.cons (.con (.int 0)) (.cons (.con (.int 0)) (.cons (.con (.int 1)) (.cons (.con (.int 2)) (.cons (.neg (.con (.int 2))) (.cons (.con (.int 4)) .nil))))))) .nil))) (.cons (.var 2) .nil))))
  .nil))))
def f__law_book : Fn := fn 2 5 ir__law_book
def bd__law_offset_0 : Sms := (.cons (.asg 2 (.ife (.cmp .le (.var 3) (.var 1)) (.var 4) (.var 2)))
  .nil)
def fo__law_offset_0 : Sm := (.fors (.tup (.cons (.name 3) (.cons (.name 4) .nil))) (.seq (.idx (.var 0) (.con (.int 1)))) bd__law_offset_0 [3, 4])
def ir__law_offset : Sms := (.cons (.asg 2 (.idx (.var 0) (.con (.int 0))))
  (.cons fo__law_offset_0
  (.cons (.ret (.var 2))
  .nil)))
def f__law_offset : Fn := fn 2 5 ir__law_offset
def ir__law_told : Sms := (.cons (.ret (.bin .add (.var 1) (.call "_law_offset" f__law_offset (.cons (.var 0) (.cons (.var 1) .nil)))))
  .nil)
def f__law_told : Fn := fn 2 2 ir__law_told
def lc__law_means_0 : Ex := (.lc (.name 2) (.rng2 (.bi .max2 (.cons (.con (.int 0)) (.cons (.bin .sub (.var 1) (.con (.int 31))) .nil))) (.bi .max2 (.cons (.con (.int 0)) (.cons (.bin .add (.var 1) (.con (.int 32))) .nil)))) (.cmp .eq (.call "_law_told" f__law_told (.cons (.var 0) (.cons (.var 2) .nil))) (.var 1)) (.var 2))
@[simp ↓] theorem rdv_lc__law_means_0 {ρ : Z.Env} {m : Z.Mu} {r : Z.R (D × Mu)} : rdv lc__law_means_0 ρ m r = r := rfl
def ir__law_means : Sms := (.cons (.ret lc__law_means_0)
  .nil)
def f__law_means : Fn := fn 2 3 ir__law_means
def bd_Book_init_0 : Sms := (.cons (.ifs (.or (.not (.isi (.var 5) [.bt "tuple"] false)) (.or (.cmp .ne (.bi .len (.cons (.var 5) .nil)) (.con (.int 2))) (.not (.call "is_number" f_is_number (.cons (.idx (.var 5) (.con (.int 0))) (.cons (.var 3) (.cons (.glo "MOST_TICK" (.int 99999999)) .nil)))))))
  (.cons (.raise "BadBook" 1 2 (.cons (.con (.str "turns")) (.cons (.var 4) .nil)))
  .nil)
  .nil)
  (.cons (.ifs (.not (.call "is_offset" f_is_offset (.cons (.idx (.var 5) (.con (.int 1))) .nil)))
  (.cons (.raise "BadBook" 1 2 (.cons (.con (.str "turns")) (.cons (.var 4) .nil)))
  .nil)
  .nil)
  (.cons (.asg 3 (.bin .add (.idx (.var 5) (.con (.int 0))) (.con (.int 1))))
  .nil)))
def fo_Book_init_0 : Sm := (.fors (.tup (.cons (.name 4) (.cons (.name 5) .nil))) (.enu (.var 2)) bd_Book_init_0 [4, 5])
def ir_Book_init : Sms := (.cons (.ifs (.not (.call "is_offset" f_is_offset (.cons (.var 1) .nil)))
  (.cons (.raise "BadBook" 1 2 (.cons (.con (.str "first")) (.cons (.con .non) .nil)))
  .nil)
  .nil)
  (.cons (.ifs (.not (.call "is_row" f_is_row (.cons (.var 2) .nil)))
  (.cons (.raise "BadBook" 1 2 (.cons (.con (.str "turns")) (.cons (.con .non) .nil)))
  .nil)
  .nil)
  (.cons (.asg 3 (.con (.int 0)))
  (.cons fo_Book_init_0
  (.cons (.setA "first" (.var 1))
  (.cons (.setA "turns" (.bi .tuple (.cons (.var 2) .nil)))
  .nil))))))
def i_Book : Fn := init 0 ["first", "turns"] 2 6 ir_Book_init
def ir__law_built : Sms := (.cons (.ret (.make "Book" 0 i_Book (.cons (.idx (.var 0) (.con (.int 0))) (.cons (.idx (.var 0) (.con (.int 1))) .nil))))
  .nil)
def f__law_built : Fn := fn 1 1 ir__law_built
def bd__law_over_0 : Sms := (.cons (.asg 6 (.ife (.cmp .gt (.var 3) (.con (.int 0))) (.idx (.idx (.idx (.var 0) (.con (.int 1))) (.bin .sub (.var 3) (.con (.int 1)))) (.con (.int 1))) (.idx (.var 0) (.con (.int 0)))))
  (.cons (.ifs (.cmp2 .le .lt (.bin .add (.var 4) (.var 6)) (.var 1) (.bin .add (.var 4) (.var 5)))
  (.cons (.app 2 (.var 3))
  .nil)
  .nil)
  .nil))
def fo__law_over_0 : Sm := (.fors (.tup (.cons (.name 3) (.cons (.tup (.cons (.name 4) (.cons (.name 5) .nil))) .nil))) (.enu (.idx (.var 0) (.con (.int 1)))) bd__law_over_0 [3, 4, 5, 6])
def ir__law_over : Sms := (.cons (.asgF 2 (.lst .nil))
  (.cons fo__law_over_0
  (.cons (.frz [2])
  (.cons (.ret (.var 2))
  .nil))))
def f__law_over : Fn := fn 2 7 ir__law_over
def bd__law_spans_0 : Sms := (.cons (.asg 1 (.ife (.and (.cmp .ne (.var 1) (.lst .nil)) (.cmp .eq (.idx (.idx (.var 1) (.neg (.con (.int 1)))) (.con (.int 1))) (.var 2))) (.bin .add (.slc (.var 1) (.con .non) (.neg (.con (.int 1)))) (.lst (.cons (.tup (.cons (.idx (.idx (.var 1) (.neg (.con (.int 1)))) (.con (.int 0))) (.cons (.bin .add (.var 2) (.con (.int 1))) .nil))) .nil))) (.bin .add (.var 1) (.lst (.cons (.tup (.cons (.var 2) (.cons (.bin .add (.var 2) (.con (.int 1))) .nil))) .nil)))))
  .nil)
def fo__law_spans_0 : Sm := (.fors (.name 2) (.seq (.var 0)) bd__law_spans_0 [2])
def ir__law_spans : Sms := (.cons (.asg 1 (.lst .nil))
  (.cons fo__law_spans_0
  (.cons (.ret (.var 1))
  .nil)))
def f__law_spans : Fn := fn 1 3 ir__law_spans
def ir_Book_offset : Sms := (.cons (.asg 2 (.meth (.var 0) "place" [(0, m_Book_place)] (.cons (.var 1) .nil)))
  (.cons (.ret (.ife (.cmp .gt (.var 2) (.con (.int 0))) (.idx (.idx (.att (.var 0) "turns" [(0, 1)]) (.bin .sub (.var 2) (.con (.int 1)))) (.con (.int 1))) (.att (.var 0) "first" [(0, 0)])))
  .nil))
def m_Book_offset : Fn := fn 2 3 ir_Book_offset
def ir_Book_told : Sms := (.cons (.ret (.bin .add (.var 1) (.meth (.var 0) "offset" [(0, m_Book_offset)] (.cons (.var 1) .nil))))
  .nil)
def m_Book_told : Fn := fn 2 2 ir_Book_told
def ir_Many_bool : Sms := (.cons (.ret (.con (.bl false)))
  .nil)
def m_Many_bool : Fn := fn 1 1 ir_Many_bool
def ir_Many_eq : Sms := (.cons (.ret (.and (.isi (.var 1) [.own "Many" 3] false) (.cmp .eq (.att (.var 0) "ticks" [(3, 0)]) (.att (.var 1) "ticks" [(3, 0)]))))
  .nil)
def m_Many_eq : Fn := fn 2 2 ir_Many_eq
def ir_Never_eq : Sms := (.cons (.ret (.and (.isi (.var 1) [.own "Never" 2] false) (.cmp .eq (.att (.var 0) "turn" [(2, 0)]) (.att (.var 1) "turn" [(2, 0)]))))
  .nil)
def m_Never_eq : Fn := fn 2 2 ir_Never_eq
def ir_One_eq : Sms := (.cons (.ret (.and (.isi (.var 1) [.own "One" 1] false) (.cmp .eq (.att (.var 0) "tick" [(1, 0)]) (.att (.var 1) "tick" [(1, 0)]))))
  .nil)
def m_One_eq : Fn := fn 2 2 ir_One_eq
def ir_Many_shows : Sms := (.cons (.ret (.eqi false [(1, m_One_eq), (2, m_Never_eq), (3, m_Many_eq)] (.call "judge_told" f_judge_told (.cons (.var 1) (.cons (.var 2) .nil))) (.var 0)))
  .nil)
def m_Many_shows : Fn := fn 3 3 ir_Many_shows
def ir_Never_bool : Sms := (.cons (.ret (.con (.bl false)))
  .nil)
def m_Never_bool : Fn := fn 1 1 ir_Never_bool
def ir_Never_shows : Sms := (.cons (.ifs (.cmp .ne (.call "meanings" f_meanings (.cons (.var 1) (.cons (.var 2) .nil))) (.lst .nil))
  (.cons (.ret (.con (.bl false)))
  .nil)
  .nil)
  (.cons (.ifs (.cmp .is_ (.att (.var 0) "turn" [(2, 0)]) (.con .non))
  (.cons (.ret (.cmp .lt (.var 2) (.call "least_told" f_least_told (.cons (.var 1) .nil))))
  .nil)
  .nil)
  (.cons (.ifs (.not (.call "is_number" f_is_number (.cons (.att (.var 0) "turn" [(2, 0)]) (.cons (.con (.int 0)) (.cons (.bin .sub (.bi .len (.cons (.att (.var 1) "turns" [(0, 1)]) .nil)) (.con (.int 1))) .nil)))))
  (.cons (.ret (.con (.bl false)))
  .nil)
  .nil)
  (.cons (.asg 3 (.idx (.idx (.att (.var 1) "turns" [(0, 1)]) (.att (.var 0) "turn" [(2, 0)])) (.con (.int 0))))
  (.cons (.ret (.cmp2 .le .lt (.call "told_ahead" f_told_ahead (.cons (.var 1) (.cons (.att (.var 0) "turn" [(2, 0)]) .nil))) (.var 2) (.meth (.var 1) "told" [(0, m_Book_told)] (.cons (.var 3) .nil))))
  .nil)))))
def m_Never_shows : Fn := fn 3 4 ir_Never_shows
def ir_One_bool : Sms := (.cons (.ret (.con (.bl true)))
  .nil)
def m_One_bool : Fn := fn 1 1 ir_One_bool
def ir_One_shows : Sms := (.cons (.ret (.eqi false [(1, m_One_eq), (2, m_Never_eq), (3, m_Many_eq)] (.call "judge_told" f_judge_told (.cons (.var 1) (.cons (.var 2) .nil))) (.var 0)))
  .nil)
def m_One_shows : Fn := fn 3 3 ir_One_shows
def ls_law : Exs := (.cons (.make "Book" 0 i_Book (.cons (.con (.int 31)) (.cons (.lst .nil) .nil)))
  (.cons (.make "Book" 0 i_Book (.cons (.con (.bl true)) (.cons (.lst .nil) .nil)))
  (.cons (.make "Book" 0 i_Book (.cons (.con (.int 0)) (.cons (.con (.int 3)) .nil)))
  (.cons (.make "Book" 0 i_Book (.cons (.con (.int 0)) (.cons (.lst (.cons (.tup (.cons (.con (.int 1)) (.cons (.con (.int 0)) .nil))) (.cons (.tup (.cons (.con (.int 1)) (.cons (.con (.int 2)) .nil))) .nil))) .nil)))
  (.cons (.make "Book" 0 i_Book (.cons (.con (.int 0)) (.cons (.lst (.cons (.tup (.cons (.con (.int 1)) (.cons (.con (.int 31)) .nil))) .nil)) .nil)))
  (.cons (.make "Book" 0 i_Book (.cons (.con (.int 0)) (.cons (.lst (.cons (.lst (.cons (.con (.int 1)) (.cons (.con (.int 1)) .nil))) .nil)) .nil)))
  (.cons (.make "Book" 0 i_Book (.cons (.con (.int 0)) (.cons (.lst (.cons (.tup (.cons (.con (.int 100000000)) (.cons (.con (.int 1)) .nil))) .nil)) .nil)))
  (.cons (.call "meanings" f_meanings (.cons (.con (.int 3)) (.cons (.con (.int 0)) .nil)))
  (.cons (.call "gaps" f_gaps (.cons (.con .non) .nil))
  .nil)))))))))
def lc_law_0 : Ex := (.lc (.name 6) (.rng3 (.con (.int 0)) (.var 5) 3) (.con (.bl true)) (.or (.cmp .ne (.meth (.var 4) "offset" [(0, m_Book_offset)] (.cons (.var 6) .nil)) (.call "_law_offset" f__law_offset (.cons (.var 3) (.cons (.var 6) .nil)))) (.cmp .ne (.meth (.var 4) "told" [(0, m_Book_told)] (.cons (.var 6) .nil)) (.call "_law_told" f__law_told (.cons (.var 3) (.cons (.var 6) .nil))))))
@[simp ↓] theorem rdv_lc_law_0 {ρ : Z.Env} {m : Z.Mu} {r : Z.R (D × Mu)} : rdv lc_law_0 ρ m r = r := rfl
def lc_law_1 : Ex := (.lc (.tup (.cons (.name 9) (.cons (.tup (.cons (.name 10) (.cons (.name 11) .nil))) .nil))) (.enu (.var 7)) (.con (.bl true)) (.tup (.cons (.var 10) (.cons (.ife (.cmp .lt (.bin .add (.var 9) (.con (.int 1))) (.bi .len (.cons (.var 7) .nil))) (.idx (.idx (.var 7) (.bin .add (.var 9) (.con (.int 1)))) (.con (.int 0))) (.con .non)) (.cons (.var 11) .nil)))))
@[simp ↓] theorem rdv_lc_law_1 {ρ : Z.Env} {m : Z.Mu} {r : Z.R (D × Mu)} : rdv lc_law_1 ρ m r = r := rfl
def lc_law_2 : Ex := (.lc (.name 12) (.seq (.meth (.var 4) "spans" [(0, m_Book_spans)] .nil)) (.con (.bl true)) (.bi .tuple (.cons (.var 12) .nil)))
@[simp ↓] theorem rdv_lc_law_2 {ρ : Z.Env} {m : Z.Mu} {r : Z.R (D × Mu)} : rdv lc_law_2 ρ m r = r := rfl
def lc_law_3 : Ex := (.lc (.name 12) (.seq (.var 8)) (.cmp .ne (.idx (.var 12) (.con (.int 0))) (.idx (.var 12) (.con (.int 1)))) (.var 12))
@[simp ↓] theorem rdv_lc_law_3 {ρ : Z.Env} {m : Z.Mu} {r : Z.R (D × Mu)} : rdv lc_law_3 ρ m r = r := rfl
def lc_law_4 : Ex := (.lc (.name 6) (.rng1 (.bin .add (.var 5) (.con (.int 70)))) (.con (.bl true)) (.call "_law_told" f__law_told (.cons (.var 3) (.cons (.var 6) .nil))))
@[simp ↓] theorem rdv_lc_law_4 {ρ : Z.Env} {m : Z.Mu} {r : Z.R (D × Mu)} : rdv lc_law_4 ρ m r = r := rfl
def lc_law_5 : Ex := (.lc (.name 17) (.rng2 (.var 14) (.bin .add (.var 15) (.con (.int 70)))) (.con (.bl true)) (.tup (.cons (.var 17) (.cons (.con (.int 0)) .nil))))
@[simp ↓] theorem rdv_lc_law_5 {ρ : Z.Env} {m : Z.Mu} {r : Z.R (D × Mu)} : rdv lc_law_5 ρ m r = r := rfl
def bd_law_0 : Sms := (.cons (.setI 16 (.var 17) (.bin .add (.dget (.var 16) (.var 17) (.con (.int 0))) (.con (.int 1))))
  .nil)
def fo_law_0 : Sm := (.fors (.name 17) (.seq (.var 13)) bd_law_0 [17])
def lc_law_6 : Ex := (.lc (.name 12) (.seq (.call "gaps" f_gaps (.cons (.var 4) .nil))) (.con (.bl true)) (.bi .tuple (.cons (.var 12) .nil)))
@[simp ↓] theorem rdv_lc_law_6 {ρ : Z.Env} {m : Z.Mu} {r : Z.R (D × Mu)} : rdv lc_law_6 ρ m r = r := rfl
def lc_law_7 : Ex := (.lc (.name 17) (.rng2 (.var 14) (.bin .add (.var 15) (.con (.int 30)))) (.cmp .eq (.idx (.var 16) (.var 17)) (.con (.int 0))) (.var 17))
@[simp ↓] theorem rdv_lc_law_7 {ρ : Z.Env} {m : Z.Mu} {r : Z.R (D × Mu)} : rdv lc_law_7 ρ m r = r := rfl
def lc_law_8 : Ex := (.lc (.name 12) (.seq (.call "folds" f_folds (.cons (.var 4) .nil))) (.con (.bl true)) (.bi .tuple (.cons (.var 12) .nil)))
@[simp ↓] theorem rdv_lc_law_8 {ρ : Z.Env} {m : Z.Mu} {r : Z.R (D × Mu)} : rdv lc_law_8 ρ m r = r := rfl
def lc_law_9 : Ex := (.lc (.name 17) (.rng2 (.var 14) (.bin .add (.var 15) (.con (.int 30)))) (.cmp .gt (.idx (.var 16) (.var 17)) (.con (.int 1))) (.var 17))
@[simp ↓] theorem rdv_lc_law_9 {ρ : Z.Env} {m : Z.Mu} {r : Z.R (D × Mu)} : rdv lc_law_9 ρ m r = r := rfl
def lc_law_10 : Ex := (.lc (.name 17) (.rng2 (.var 14) (.bin .add (.var 15) (.con (.int 30)))) (.con (.bl true)) (.cmp .eq (.idx (.var 16) (.var 17)) (.con (.int 1))))
@[simp ↓] theorem rdv_lc_law_10 {ρ : Z.Env} {m : Z.Mu} {r : Z.R (D × Mu)} : rdv lc_law_10 ρ m r = r := rfl
def lc_law_11 : Ex := (.lc (.name 17) (.rng2 (.bin .add (.call "last_told" f_last_told (.cons (.var 4) .nil)) (.con (.int 1))) (.bin .add (.var 15) (.con (.int 30)))) (.con (.bl true)) (.cmp .ne (.idx (.var 16) (.var 17)) (.con (.int 1))))
@[simp ↓] theorem rdv_lc_law_11 {ρ : Z.Env} {m : Z.Mu} {r : Z.R (D × Mu)} : rdv lc_law_11 ρ m r = r := rfl
def lc_law_12 : Ex := (.lc (.name 18) (.rng1 (.con (.int 12))) (.con (.bl true)) (.bin .add (.var 14) (.call "_law_take" f__law_take (.cons (.var 1) (.cons (.bin .add (.var 5) (.con (.int 20))) .nil)))))
@[simp ↓] theorem rdv_lc_law_12 {ρ : Z.Env} {m : Z.Mu} {r : Z.R (D × Mu)} : rdv lc_law_12 ρ m r = r := rfl
def lc_law_13 : Ex := (.lc (.name 23) (.rng1 (.con (.int 9))) (.con (.bl true)) (.cmp .ne (.meth (.make "Never" 2 i_Never (.cons (.var 23) .nil)) "shows" [(2, m_Never_shows)] (.cons (.var 4) (.cons (.var 17) .nil))) (.and (.cmp .eq (.var 19) (.lst .nil)) (.cmp .in_ (.var 23) (.var 20)))))
@[simp ↓] theorem rdv_lc_law_13 {ρ : Z.Env} {m : Z.Mu} {r : Z.R (D × Mu)} : rdv lc_law_13 ρ m r = r := rfl
def bd_law_1 : Sms := (.cons (.asgT (.tup (.cons (.name 19) (.cons (.name 20) .nil))) (.tup (.cons (.call "_law_means" f__law_means (.cons (.var 3) (.cons (.var 17) .nil))) (.cons (.call "_law_over" f__law_over (.cons (.var 3) (.cons (.var 17) .nil))) .nil))))
  (.cons (.asg 21 (.call "judge_told" f_judge_told (.cons (.var 4) (.cons (.var 17) .nil))))
  (.cons (.ifs (.or (.cmp .ne (.call "meanings" f_meanings (.cons (.var 4) (.cons (.var 17) .nil))) (.var 19)) (.or (.cmp .ne (.tru [(1, m_One_bool), (2, m_Never_bool), (3, m_Many_bool)] (.var 21)) (.cmp .eq (.bi .len (.cons (.var 19) .nil)) (.con (.int 1)))) (.not (.meth (.var 21) "shows" [(1, m_One_shows), (2, m_Never_shows), (3, m_Many_shows)] (.cons (.var 4) (.cons (.var 17) .nil))))))
  (.cons (.ret (.con (.bl false)))
  .nil)
  .nil)
  (.cons (.asg 22 (.ife (.cmp .eq (.bi .len (.cons (.var 19) .nil)) (.con (.int 1))) (.make "One" 1 i_One (.cons (.idx (.var 19) (.con (.int 0))) .nil)) (.ife (.cmp .ne (.var 19) (.lst .nil)) (.make "Many" 3 i_Many (.cons (.var 19) .nil)) (.make "Never" 2 i_Never (.cons (.ife (.cmp .ne (.var 20) (.lst .nil)) (.idx (.var 20) (.con (.int 0))) (.con .non)) .nil)))))
  (.cons (.ifs (.or (.eqi true [(1, m_One_eq), (2, m_Never_eq), (3, m_Many_eq)] (.var 21) (.var 22)) (.or (.cmp .ne (.meth (.make "One" 1 i_One (.cons (.var 17) .nil)) "shows" [(1, m_One_shows)] (.cons (.var 4) (.cons (.var 17) .nil))) (.cmp .eq (.var 19) (.lst (.cons (.var 17) .nil)))) (.or (.meth (.make "Many" 3 i_Many (.cons (.bin .add (.var 19) (.lst (.cons (.bin .add (.var 17) (.con (.int 99))) .nil))) .nil)) "shows" [(3, m_Many_shows)] (.cons (.var 4) (.cons (.var 17) .nil))) (.and (.cmp .ne (.bi .len (.cons (.var 19) .nil)) (.con (.int 1))) (.cmp .ne (.meth (.make "Many" 3 i_Many (.cons (.var 19) .nil)) "shows" [(3, m_Many_shows)] (.cons (.var 4) (.cons (.var 17) .nil))) (.cmp .gt (.bi .len (.cons (.var 19) .nil)) (.con (.int 1))))))))
  (.cons (.ret (.con (.bl false)))
  .nil)
  .nil)
  (.cons (.ifs (.or (.bi .any (.cons lc_law_13 .nil)) (.or (.cmp .ne (.meth (.make "Never" 2 i_Never (.cons (.con .non) .nil)) "shows" [(2, m_Never_shows)] (.cons (.var 4) (.cons (.var 17) .nil))) (.and (.cmp .eq (.var 19) (.lst .nil)) (.cmp .lt (.var 17) (.var 14)))) (.or (.meth (.make "One" 1 i_One (.cons (.con .non) .nil)) "shows" [(1, m_One_shows)] (.cons (.var 4) (.cons (.var 17) .nil))) (.meth (.make "Never" 2 i_Never (.cons (.con (.str "a")) .nil)) "shows" [(2, m_Never_shows)] (.cons (.var 4) (.cons (.var 17) .nil))))))
  (.cons (.ret (.con (.bl false)))
  .nil)
  .nil)
  .nil))))))
def fo_law_1 : Sm := (.fors (.name 17) (.seq (.bin .add (.lst (.cons (.bin .sub (.var 14) (.con (.int 1))) (.cons (.var 14) .nil))) lc_law_12)) bd_law_1 [17, 19, 20, 21, 22])
def bd_law_2 : Sms := (.cons (.asg 3 (.call "_law_book" f__law_book (.cons (.var 1) (.cons (.con (.int 8)) .nil))))
  (.cons (.asgT (.tup (.cons (.name 4) (.cons (.name 5) .nil))) (.tup (.cons (.call "_law_built" f__law_built (.cons (.var 3) .nil)) (.cons (.bin .add (.ife (.cmp .ne (.idx (.var 3) (.con (.int 1))) (.lst .nil)) (.idx (.idx (.idx (.var 3) (.con (.int 1))) (.neg (.con (.int 1)))) (.con (.int 0))) (.con (.int 0))) (.con (.int 40))) .nil))))
  (.cons (.ifs (.bi .any (.cons lc_law_0 .nil))
  (.cons (.ret (.con (.bl false)))
  .nil)
  .nil)
  (.cons (.asg 7 (.bin .add (.lst (.cons (.tup (.cons (.con (.int 0)) (.cons (.idx (.var 3) (.con (.int 0))) .nil))) .nil)) (.idx (.var 3) (.con (.int 1)))))
  (.cons (.asg 8 lc_law_1)
  (.cons (.ifs (.cmp .notin lc_law_2 (.tup (.cons (.var 8) (.cons lc_law_3 .nil))))
  (.cons (.ret (.con (.bl false)))
  .nil)
  .nil)
  (.cons (.asg 13 lc_law_4)
  (.cons (.asgT (.tup (.cons (.name 14) (.cons (.name 15) .nil))) (.tup (.cons (.bi .min1 (.cons (.slc (.var 13) (.con .non) (.bin .add (.var 5) (.con (.int 35)))) .nil)) (.cons (.var 5) .nil))))
  (.cons (.asgF 16 (.bi .dict (.cons lc_law_5 .nil)))
  (.cons fo_law_0
  (.cons (.ifs (.or (.cmp .ne (.call "least_told" f_least_told (.cons (.var 4) .nil)) (.var 14)) (.or (.cmp .ne lc_law_6 (.call "_law_spans" f__law_spans (.cons lc_law_7 .nil))) (.cmp .ne lc_law_8 (.call "_law_spans" f__law_spans (.cons lc_law_9 .nil)))))
  (.cons (.ret (.con (.bl false)))
  .nil)
  .nil)
  (.cons (.ifs (.or (.cmp .ne (.call "is_plain" f_is_plain (.cons (.var 4) .nil)) (.bi .all (.cons lc_law_10 .nil))) (.bi .any (.cons lc_law_11 .nil)))
  (.cons (.ret (.con (.bl false)))
  .nil)
  .nil)
  (.cons fo_law_1
  .nil)))))))))))))
def fo_law_2 : Sm := (.fors (.name 2) (.rng1 (.con (.int 4))) bd_law_2 [2, 3, 4, 5, 7, 8, 13, 14, 15, 16, 17, 19, 20, 21, 22])
def bd_law_3 : Sms := (.cons (.tryx (.cons (.expr (.act 24 ls_law))
  (.cons (.ret (.con (.bl false)))
  .nil))
  "BadBook" [1] 26
  (.cons (.ifs (.cmp .ne (.tup (.cons (.xat 26 "part" [(1, 0)]) (.cons (.xat 26 "place" [(1, 1)]) .nil))) (.var 25))
  (.cons (.ret (.con (.bl false)))
  .nil)
  .nil)
  .nil))
  .nil)
def fo_law_3 : Sm := (.fors (.tup (.cons (.name 24) (.cons (.name 25) .nil))) (.seq (.tup (.cons (.tup (.cons (.lam 0) (.cons (.tup (.cons (.con (.str "first")) (.cons (.con .non) .nil))) .nil))) (.cons (.tup (.cons (.lam 1) (.cons (.tup (.cons (.con (.str "first")) (.cons (.con .non) .nil))) .nil))) (.cons (.tup (.cons (.lam 2) (.cons (.tup (.cons (.con (.str "turns")) (.cons (.con .non) .nil))) .nil))) (.cons (.tup (.cons (.lam 3) (.cons (.tup (.cons (.con (.str "turns")) (.cons (.con (.int 1)) .nil))) .nil))) (.cons (.tup (.cons (.lam 4) (.cons (.tup (.cons (.con (.str "turns")) (.cons (.con (.int 0)) .nil))) .nil))) (.cons (.tup (.cons (.lam 5) (.cons (.tup (.cons (.con (.str "turns")) (.cons (.con (.int 0)) .nil))) .nil))) (.cons (.tup (.cons (.lam 6) (.cons (.tup (.cons (.con (.str "turns")) (.cons (.con (.int 0)) .nil))) .nil))) (.cons (.tup (.cons (.lam 7) (.cons (.tup (.cons (.con (.str "book")) (.cons (.con .non) .nil))) .nil))) (.cons (.tup (.cons (.lam 8) (.cons (.tup (.cons (.con (.str "book")) (.cons (.con .non) .nil))) .nil))) .nil))))))))))) bd_law_3 [24, 25])
def bd_law_4 : Sms := (.cons (.tryx (.cons (.expr (.call "judge_told" f_judge_told (.cons (.make "Book" 0 i_Book (.cons (.con (.int 0)) (.cons (.lst .nil) .nil))) (.cons (.var 17) .nil))))
  (.cons (.ret (.con (.bl false)))
  .nil))
  "BadTick" [2] 26
  (.cons (.ifs (.cmp .ne (.xat 26 "tick" [(2, 0)]) (.var 17))
  (.cons (.ret (.con (.bl false)))
  .nil)
  .nil)
  .nil))
  .nil)
def fo_law_4 : Sm := (.fors (.name 17) (.seq (.tup (.cons (.con .non) (.cons (.con (.bl true)) (.cons (.con (.int 899999992)) (.cons (.neg (.con (.int 899999992))) .nil)))))) bd_law_4 [17])
def ir_law : Sms := (.cons (.newr 1 (.lst (.cons (.var 0) (.cons (.con (.int 0)) .nil))))
  (.cons fo_law_2
  (.cons fo_law_3
  (.cons fo_law_4
  (.cons (.ret (.con (.bl true)))
  .nil)))))
def f_law : Fn := fn 1 27 ir_law
def ir_Book_eq : Sms := (.cons (.ret (.and (.isi (.var 1) [.own "Book" 0] false) (.cmp .eq (.tup (.cons (.att (.var 0) "first" [(0, 0)]) (.cons (.att (.var 0) "turns" [(0, 1)]) .nil))) (.tup (.cons (.att (.var 1) "first" [(0, 0)]) (.cons (.att (.var 1) "turns" [(0, 1)]) .nil))))))
  .nil)
def m_Book_eq : Fn := fn 2 2 ir_Book_eq
end P35
end
section
set_option Elab.async false
set_option linter.all false
set_option maxRecDepth 100000
set_option maxHeartbeats 1000000
set_option autoImplicit false
namespace P35
open PySem Z
/-! B2: the package's books: what the defs of books give. -/
section
open Bk
abbrev tD (p : Tn) : D := .tup [.int p.1, .int p.2]
abbrev bkD (f : Int) (ts : List Tn) : D := .ins 0 [.int f, .tup (ts.map tD)]
variable {f k t i a b : Int} {ts : List Tn} {m : Mu} {d : D}
@[simp] theorem is_integer_i : f_is_integer [.int i] m = .ok (.bl true, m) := rfl
@[simp] theorem is_integer_b {b : Bool} : f_is_integer [.bl b] m = .ok (.bl false, m) := by cases b <;> rfl
@[simp] theorem is_integer_n : f_is_integer [.non] m = .ok (.bl false, m) := rfl
@[simp] theorem is_integer_s {x : Str} : f_is_integer [.str x] m = .ok (.bl false, m) := rfl
@[simp] theorem is_number_i : f_is_number [.int i, .int a, .int b] m = .ok (.bl (decide (a ≤ i ∧ i ≤ b)), m) := by
  simp [f_is_number, fn, ir_is_number]
  by_cases h : a ≤ i <;> simp [h]
@[simp] theorem is_number_n : f_is_number [.non, .int a, .int b] m = .ok (.bl false, m) := rfl
@[simp] theorem is_number_s {x : Str} : f_is_number [.str x, .int a, .int b] m = .ok (.bl false, m) := rfl
@[simp] theorem is_offset_i : f_is_offset [.int i] m = .ok (.bl (decide (-30 ≤ i ∧ i ≤ 30)), m) := by
  simp [f_is_offset, fn, ir_is_offset]
  by_cases h : -30 ≤ i <;> simp [h]
@[simp] theorem is_row_l {xs : List D} : f_is_row [.lst xs] m = .ok (.bl true, m) := rfl
@[simp] theorem is_row_t {xs : List D} : f_is_row [.tup xs] m = .ok (.bl true, m) := rfl
@[simp] theorem check_book_b : f_check_book [bkD f ts] m = .ok (.non, m) := rfl
theorem check_told_i (h1 : -899999991 ≤ t) (h2 : t ≤ 899999991) : f_check_told [.int t] m = .ok (.non, m) := by
  simp [f_check_told, fn, ir_check_told, boSem, word, h1, h2]
theorem tD_at {j : Nat} : (ts.map tD)[j]? = ts[j]?.map tD := List.getElem?_map
theorem at_tD {ts : List Tn} {j : Nat} {p : Tn} (h : ts[j]? = some p) : (ts.map tD)[j]? = some (.tup [.int p.1, .int p.2]) := by rw [tD_at, h]; rfl
/-- the search's frame -/
abbrev plE (f : Int) (ts : List Tn) (k : Int) (lo hi : Nat) : Z.Env := [.va (bkD f ts), .va (.int k), .va (.int lo), .va (.int hi), .un]
theorem place_loop (hA : Asc 0 ts) : ∀ (n lo hi : Nat), hi - lo ≤ n → lo ≤ hi → hi ≤ ts.length → (∀ i p, i < lo → ts[i]? = some p → p.1 ≤ k) → (∀ i p, hi ≤ i → ts[i]? = some p → k < p.1) → ∀ g, n < g →
    whlL (evT (.cmp .lt (.var 2) (.var 3))) (runs bd_Book_place_0) [4] g (plE f ts k lo hi) m = .nx (plE f ts k (place ts k) (place ts k)) m := by
  intro n
  induction n with
  | zero =>
    intro lo hi h1 h2 h3 h4 h5 g hg
    obtain ⟨g, rfl⟩ : ∃ g', g = g' + 1 := ⟨g - 1, by omega⟩
    have e : lo = hi := by omega
    subst e
    have hp := place_is hA h3 h4 fun p hp => h5 _ p (Nat.le_refl _) hp
    unfold whlL
    simp [evT, plE]
    rw [hp]
  | succ n ih =>
    intro lo hi h1 h2 h3 h4 h5 g hg
    obtain ⟨g, rfl⟩ : ∃ g', g = g' + 1 := ⟨g - 1, by omega⟩
    unfold whlL
    by_cases e : lo = hi
    · subst e
      have hp := place_is hA h3 h4 fun p hp => h5 _ p (Nat.le_refl _) hp
      simp [evT, plE]
      rw [hp]
    · have hlt : lo < hi := by omega
      have hl2 : ((lo : Int) < hi) := by omega
      obtain ⟨md, hmd⟩ : ∃ md : Nat, (lo + hi) / 2 = md := ⟨_, rfl⟩
      have hmi : ((lo : Int) + hi) / 2 = (md : Int) := by omega
      have hml : md < ts.length := by omega
      have hat := List.getElem?_eq_getElem hml
      have hat2 : atD (ts.map tD) (md : Int) = some (.tup [.int ts[md].1, .int ts[md].2]) := by rw [atD_nat, at_tD hat]
      by_cases q : ts[md].1 ≤ k
      · have hr : runs bd_Book_place_0 (plE f ts k lo hi) m = .nx ((plE f ts k (md + 1) hi).set 4 (.va (.int md))) m := by
          simp [bd_Book_place_0, plE, boSem, hmi, hat2, q]
        have := ih (md + 1) hi (by omega) (by omega) h3 (fun i p hi' hp => ?_) h5 g (by omega)
        · simp [evT, plE, hl2] at hr this ⊢
          rw [hr]
          simp [clear]
          exact this
        · have := (place_at (k := k) hA hp).mp (Nat.lt_of_lt_of_le hi' ((place_at hA hat).mpr q))
          exact this
      · have hr : runs bd_Book_place_0 (plE f ts k lo hi) m = .nx ((plE f ts k lo md).set 4 (.va (.int md))) m := by
          simp [bd_Book_place_0, plE, boSem, hmi, hat2, q]
        have := ih lo md (by omega) (by omega) (by omega) h4 (fun i p hi' hp => ?_) g (by omega)
        · simp [evT, plE, hl2] at hr this ⊢
          rw [hr]
          simp [clear]
          exact this
        · have q1 := (place_at (k := k) hA hp)
          have q2 := (place_at (k := k) hA hat)
          apply Int.lt_of_not_ge
          intro z
          have := q1.mpr z
          have : md < place ts k := by omega
          exact q (q2.mp this)
theorem Book_place_ok (hA : Asc 0 ts) (hl : ts.length < 900000) : m_Book_place [bkD f ts, .int k] m = .ok (.int (place ts k), m) := by
  have h := place_loop (f := f) (m := m) (k := k) hA ts.length 0 ts.length (by omega) (by omega) (Nat.le_refl _) (fun i p h => by omega) (fun i p h e => by
    have := (List.getElem?_eq_some_iff.mp e).1
    omega) turns (by unfold turns; omega)
  simp [m_Book_place, fn, ir_Book_place, wh_Book_place_0]
  simp [plE] at h
  rw [h]
  simp
theorem offD (hA : Asc 0 ts) : off f ts k = if place ts k = 0 then f else ((ts[place ts k - 1]?).map (·.2)).getD f := by
  rw [off_at]
  cases place ts k with
  | zero => rfl
  | succ n => simp [offAt]
theorem Book_offset_ok (hA : Asc 0 ts) (hl : ts.length < 900000) : m_Book_offset [bkD f ts, .int k] m = .ok (.int (off f ts k), m) := by
  rw [offD hA]
  simp [m_Book_offset, fn, ir_Book_offset, Book_place_ok hA hl]
  by_cases h : place ts k = 0
  · simp [h]
  · have hp := place_le (ts := ts) (k := k)
    have hlt : place ts k - 1 < ts.length := by omega
    have e : atD (ts.map tD) ((place ts k : Int) - 1) = some (.tup [.int ts[place ts k - 1].1, .int ts[place ts k - 1].2]) := by
      rw [show ((place ts k : Int) - 1) = ((place ts k - 1 : Nat) : Int) by omega, atD_nat, at_tD (List.getElem?_eq_getElem hlt)]
    have h0 : 0 < place ts k := by omega
    simp [h, h0, e, List.getElem?_eq_getElem hlt]
theorem Book_told_ok (hA : Asc 0 ts) (hl : ts.length < 900000) : m_Book_told [bkD f ts, .int k] m = .ok (.int (k + off f ts k), m) := by
  simp [m_Book_told, fn, ir_Book_told, Book_offset_ok hA hl]
end

end P35
end
section
set_option Elab.async false
set_option linter.all false
set_option maxRecDepth 100000
set_option maxHeartbeats 1000000
set_option autoImplicit false
namespace P35
open PySem Z
/-! B4: spans, meanings, counts of books. -/
section
open Bk
variable {f k t i a b : Int} {ts : List Tn} {m : Mu} {d : D}
abbrev hD : Option Int → D
  | none => .non
  | some h => .int h
abbrev rD (r : Rw) : D := .tup [.int r.1, hD r.2.1, .int r.2.2]
/-- a book as laws draw it -/
structure Bok (f : Int) (ts : List Tn) : Prop where
  asc : Asc 0 ts
  off : Off 30 f ts
  len : ts.length ≤ 24
  hi : ∀ p ∈ ts, p.1 ≤ 99999999
theorem Bok.l9 (h : Bok f ts) : ts.length < 900000 := by have := h.len; omega
theorem zip3_rws : ∀ {ts : List Tn} {l o : Int}, zip3 (.int l :: ts.map fun p => .int p.1) ((ts.map fun p => D.int p.1) ++ [.non]) (.int o :: ts.map fun p => .int p.2) = (rws l o ts).map rD
  | [], l, o => rfl
  | (t, b) :: r, l, o => congrArg (List.cons _) (zip3_rws (ts := r) (l := t) (o := b))
theorem full_rD {r : Rw} {ρ : Z.Env} (h6 : getV ρ 6 = some (.int r.1)) (h7 : getV ρ 7 = some (hD r.2.1)) (r6 : getR ρ 6 = some (.int r.1)) (r7 : getR ρ 7 = some (hD r.2.1)) :
    tst (ev (.or (.cmp .is_ (.var 7) (.con .non)) (.cmp .lt (.var 6) (.var 7))) ρ m) = .ok (full r, m) := by
  obtain ⟨l, h, o⟩ := r
  cases h with
  | none =>
    simp only [hD] at h7 r7
    simp [r7, full]
  | some h =>
    simp only [hD] at h7 r7 h6 r6
    simp [r7, r6, full]
def spn (f : Int) (ts : List Tn) : List Rw := (rws 0 f ts).filter full
theorem Book_spans_ok (hB : Bok f ts) : m_Book_spans [bkD f ts] m = .ok (.lst ((spn f ts).map rD), m) := by
  have hl := hB.len
  have e0 : ∀ s1 s2 s3 s4 s5 s6 s7 : Sl, ev lc_Book_spans_0 [.va (bkD f ts), s1, s2, s3, s4, s5, s6, s7] m = .ok (.lst (ts.map fun p => D.int p.1), m) := fun s1 s2 s3 s4 s5 s6 s7 =>
    ev_lc_all ts tD (fun p => D.int p.1) (by simp) fun p hp => ⟨_, rfl, rfl⟩
  have e1 : ∀ s1 s2 s3 s4 s5 s6 s7 : Sl, ev lc_Book_spans_1 [.va (bkD f ts), s1, s2, s3, s4, s5, s6, s7] m = .ok (.lst (ts.map fun p => D.int p.2), m) := fun s1 s2 s3 s4 s5 s6 s7 =>
    ev_lc_all ts tD (fun p => D.int p.2) (by simp) fun p hp => ⟨_, rfl, rfl⟩
  have e2 : ∀ s0 s1 s2 s3 s4 s6 s7 : Sl, ev lc_Book_spans_2 [s0, s1, s2, s3, s4, .va (.lst ((rws 0 f ts).map rD)), s6, s7] m = .ok (.lst ((spn f ts).map rD), m) := fun s0 s1 s2 s3 s4 s6 s7 =>
    ev_lc_if (rws 0 f ts) rD full rD (by simp) fun r hr => ⟨_, rfl, full_rD rfl rfl rfl rfl, fun _ => by simp [line]⟩
  have l1 : ts.length + 1 ≤ line := by unfold line; omega
  simp [m_Book_spans, fn, ir_Book_spans, e0, e1, e2, l1, biSem, zip3_rws]
theorem told_ahead_ok {j : Nat} {p : Tn} (hl : ts[j]? = some p) : f_told_ahead [bkD f ts, .int j] m = .ok (.int (p.1 + offAt f ts j), m) := by
  have e1 : atD (ts.map tD) (j : Int) = some (.tup [.int p.1, .int p.2]) := by rw [atD_nat, at_tD hl]
  cases j with
  | zero =>
    have e1 : atD (ts.map tD) 0 = some (.tup [.int p.1, .int p.2]) := e1
    simp only [atD_0] at e1
    simp [f_told_ahead, fn, ir_told_ahead, offAt, hl]
  | succ j =>
    have hj : j < ts.length := by have := (List.getElem?_eq_some_iff.mp hl).1; omega
    have e2 : atD (ts.map tD) (((j + 1 : Nat) : Int) - 1) = some (.tup [.int ts[j].1, .int ts[j].2]) := by
      rw [show ((j + 1 : Nat) : Int) - 1 = (j : Int) by omega, atD_nat, at_tD (List.getElem?_eq_getElem hj)]
    have h0 : (0 : Int) < ((j + 1 : Nat) : Int) := by omega
    simp only [f_told_ahead, fn, ir_told_ahead]
    simp [e1, e2, offAt, List.getElem?_eq_getElem hj, -Int.natCast_add, h0]
/-! ### meanings -/
def mstep (f : Int) (ts : List Tn) (t : Int) (p : Int) : Option Int := if 0 ≤ t - offAt f ts p.toNat ∧ (place ts (t - offAt f ts p.toNat) : Int) = p then some (t - offAt f ts p.toNat) else none
def mfold (f : Int) (ts : List Tn) (t : Int) (s : List Int) (p : Int) : List Int := match mstep f ts t p with
  | some x => s ++ [x]
  | none => s
theorem mfold_eq {f t : Int} {ts : List Tn} : ∀ {ps : List Int} {s : List Int}, ps.foldl (mfold f ts t) s = s ++ ps.filterMap (mstep f ts t)
  | [], s => by simp
  | p :: ps, s => by
    rw [List.foldl_cons, mfold_eq, mfold, List.filterMap_cons]
    cases mstep f ts t p <;> simp
theorem offAt_s {n : Nat} : offAt f ts (n + 1) = (ts[n]?.map (·.2)).getD f := rfl
theorem offAt_b {n : Nat} (h : Off 30 f ts) : -30 ≤ offAt f ts n ∧ offAt f ts n ≤ 30 := by
  cases n with
  | zero => exact h.1
  | succ n =>
    rw [offAt_s]
    cases e : ts[n]? with
    | none => exact h.1
    | some p => exact h.2 p (List.mem_of_getElem? e)
theorem mscan_eq (hB : Bok f ts) : (rng (place ts (t - 30)) (place ts (t + 30) + 1 - place ts (t - 30))).filterMap (mstep f ts t) = mns 0 f ts t := by
  have hp : ∀ p x, mstep f ts t p = some x → 0 ≤ x ∧ (place ts x : Int) = p ∧ x + off f ts x = t := fun p x h => by
    unfold mstep at h
    split at h
    · rename_i q
      cases h
      refine ⟨q.1, q.2, ?_⟩
      rw [off_at]
      have e : place ts (t - offAt f ts p.toNat) = p.toNat := by omega
      rw [e]
      omega
    · cases h
  refine asc_eq ?_ (mns_sorted hB.asc) fun x => ?_
  · refine List.Pairwise.filterMap _ (S := fun a b => a < b) (fun p p' hpp x hx x' hx' => ?_) rng_sorted
    obtain ⟨_, q1, _⟩ := hp p x hx
    obtain ⟨_, q2, _⟩ := hp p' x' hx'
    apply Int.lt_of_not_ge
    intro z
    have := place_mono (ts := ts) z
    omega
  · rw [List.mem_filterMap, mem_mns hB.asc]
    constructor
    · rintro ⟨p, _, h⟩
      obtain ⟨q1, _, q3⟩ := hp p x h
      exact ⟨q1, q3⟩
    · rintro ⟨h1, h2⟩
      have hb := off_b (k := x) hB.off
      have hm1 := place_mono (ts := ts) (show t - 30 ≤ x by omega)
      have hm2 := place_mono (ts := ts) (show x ≤ t + 30 by omega)
      refine ⟨place ts x, mem_rng.mpr ⟨by omega, by omega⟩, ?_⟩
      unfold mstep
      rw [Int.toNat_natCast, ← off_at, show t - off f ts x = x by omega, if_pos ⟨h1, rfl⟩]
theorem meanings_ok (hB : Bok f ts) (h1 : -899999991 ≤ t) (h2 : t ≤ 899999991) : f_meanings [bkD f ts, .int t] m = .ok (.lst ((mns 0 f ts t).map .int), m) := by
  have hl := hB.len
  have hp1 := place_le (ts := ts) (k := t - 30)
  have hp2 := place_le (ts := ts) (k := t + 30)
  have hL : run fo_meanings_0 [.va (bkD f ts), .va (.int t), .ow (.lst []), .un, .un] m = .nx [.va (bkD f ts), .va (.int t), .ow (.lst ((mns 0 f ts t).map .int)), .un, .un] m := by
    have key := forL_fold (bnd := bindP (.name 3)) (body := runs bd_meanings_0) (clr := [3, 4]) (f := D.int) (E := fun s : List Int => [.va (bkD f ts), .va (.int t), .ow (.lst (s.map .int)), .un, .un]) (Mm := fun _ => m) (step := mfold f ts t)
      (P := fun s r => s.length + r.length ≤ 100 ∧ ∀ p ∈ r, 0 ≤ p ∧ p ≤ ts.length) (xs := rng (place ts (t - 30)) (place ts (t + 30) + 1 - place ts (t - 30))) (s := []) ⟨by rw [rng_len]; simp only [List.length_nil]; omega, fun p hp => by
        have := mem_rng.mp hp
        omega⟩ (fun s p r ⟨hs, hr⟩ => ?_)
    · rw [mfold_eq, mscan_eq hB] at key
      simp only [List.map_nil, List.nil_append] at key
      have hs1 : small (place ts (t - 30) : Int) := by unfold small; omega
      have hs2 : small ((place ts (t + 30) : Int) + 1) := by unfold small; omega
      have hs3 : (place ts (t + 30) : Int) + 1 - place ts (t - 30) ≤ (16777216 : Int) := by omega
      have hn : ((place ts (t + 30) : Int) + 1 - place ts (t - 30)).toNat = place ts (t + 30) + 1 - place ts (t - 30) := by omega
      simp [fo_meanings_0, Book_place_ok hB.asc hB.l9, hs1, hs2, hs3, hn, rngI_rng]
      exact key
    · have hp := hr p List.mem_cons_self
      refine ⟨⟨?_, fun q hq => hr q (List.mem_cons_of_mem _ hq)⟩, _, rfl, ?_⟩
      · have hs' : s.length + (r.length + 1) ≤ 100 := hs
        show (mfold f ts t s p).length + r.length ≤ 100
        unfold mfold
        split
        · rw [List.length_append, List.length_singleton]; omega
        · omega
      · have hlen : (s.map D.int).length < line := by
          have hs' : s.length + (r.length + 1) ≤ 100 := hs
          rw [List.length_map]; unfold line; omega
        obtain ⟨tk, htk⟩ : ∃ tk, t - offAt f ts p.toNat = tk := ⟨_, rfl⟩
        have ha : ∀ (x3 x2 : Sl), runs bd_meanings_0 [.va (bkD f ts), .va (.int t), .ow (.lst (s.map .int)), .va (.int p), .un] m = .nx [.va (bkD f ts), .va (.int t), .ow (.lst ((mfold f ts t s p).map .int)), .va (.int p), .va (.int tk)] m := fun _ _ => by
          have hoff : (0 < p ∧ ∃ t' o, atD (ts.map tD) (p - 1) = some (.tup [.int t', .int o]) ∧ offAt f ts p.toNat = o) ∨ (¬ 0 < p ∧ offAt f ts p.toNat = f) := by
            by_cases h0 : 0 < p
            · obtain ⟨n, hn⟩ : ∃ n : Nat, p = (n : Int) + 1 := ⟨(p - 1).toNat, by omega⟩
              have hnl : n < ts.length := by omega
              refine .inl ⟨h0, ts[n].1, ts[n].2, ?_, ?_⟩
              · rw [show p - 1 = (n : Int) by omega, atD_nat, at_tD (List.getElem?_eq_getElem hnl)]
              · rw [show p.toNat = n + 1 by omega, offAt_s]
                simp [List.getElem?_eq_getElem hnl]
            · exact .inr ⟨h0, by rw [show p.toNat = 0 by omega]; rfl⟩
          unfold bd_meanings_0 mfold mstep
          rcases hoff with ⟨h0, t', o, e2, e3⟩ | ⟨h0, e3⟩
          · rw [e3] at htk ⊢
            by_cases q1 : 0 ≤ tk
            · by_cases q2 : (place ts tk : Int) = p
              · simp [h0, e2, htk, q1, q2, Book_place_ok hB.asc hB.l9] at hlen ⊢
                simp [hlen]
              · simp [h0, e2, htk, q1, q2, Book_place_ok hB.asc hB.l9]
            · simp [h0, e2, htk, q1]
          · rw [e3] at htk ⊢
            by_cases q1 : 0 ≤ tk
            · by_cases q2 : (place ts tk : Int) = p
              · simp [h0, htk, q1, q2, Book_place_ok hB.asc hB.l9] at hlen ⊢
                simp [hlen]
              · simp [h0, htk, q1, q2, Book_place_ok hB.asc hB.l9]
            · simp [h0, htk, q1]
        exact ⟨_, .inl (ha .un .un), rfl⟩
  have e1 : f_check_book [bkD f ts] m = .ok (.non, m) := check_book_b
  simp [f_meanings, fn, ir_meanings, check_told_i h1 h2, e1, hL, freeze, line]
end

end P35
end
section
set_option Elab.async false
set_option linter.all false
set_option maxRecDepth 100000
set_option maxHeartbeats 1000000
set_option autoImplicit false
namespace P35
open PySem Z
/-! B5: gaps, folds, the least told, the last. -/
section
open Bk
variable {f k t i a b : Int} {ts : List Tn} {m : Mu} {d : D}
theorem spn_begs : (spn f ts).map (fun r => r.1 + r.2.2) = begs 0 f ts := by
  unfold spn begs
  rw [spans_eq, List.map_append, List.map_map]
  rfl
theorem spn_len (hB : Bok f ts) : (spn f ts).length ≤ 25 := by
  have h : ∀ (ts : List Tn) (l o : Int), (rws l o ts).length = ts.length + 1 := by
    intro ts
    induction ts with
    | nil => intro l o; rfl
    | cons p r ih => intro l o; obtain ⟨a, b⟩ := p; rw [rws, List.length_cons, ih]; rfl
  have h1 := List.length_filter_le full (rws 0 f ts)
  rw [h] at h1
  have := hB.len
  unfold spn
  omega
theorem begs_ne : begs 0 f ts ≠ [] := by unfold begs; simp
theorem last_hi : ∀ {ts : List Tn} {l : Int}, l ≤ 99999999 → (∀ p ∈ ts, p.1 ≤ 99999999) → lastL l ts ≤ 99999999
  | [], l, h, _ => h
  | (a, b) :: r, l, h, h2 => by
    rw [lastL]
    exact last_hi (h2 (a, b) List.mem_cons_self) fun p hp => h2 p (List.mem_cons_of_mem _ hp)
theorem brks_b (hB : Bok f ts) : ∀ p ∈ brks 0 f ts, -30 ≤ p ∧ p ≤ 100000029 := fun p hp => by
  have hL := last_hi (l := 0) (by omega) hB.hi
  rcases List.mem_append.mp hp with e | e
  · obtain ⟨k, h1, h2, h3⟩ := begs_told hB.asc e
    have := off_b (k := k) hB.off
    omega
  · obtain ⟨r, hr, rfl⟩ := List.mem_map.mp e
    obtain ⟨q1, q2, q3, q4⟩ := spf_at hB.asc r hr
    have := off_b (k := r.1) hB.off
    omega
theorem least_told_ok (hB : Bok f ts) : f_least_told [bkD f ts] m = .ok (.int (minL (begs 0 f ts)), m) := by
  have e0 : ∀ s1 s2 s3 : Sl, ev lc_least_told_0 [.va (bkD f ts), s1, s2, s3] m = .ok (.lst ((begs 0 f ts).map .int), m) := fun s1 s2 s3 => by
    have h := ev_lc_all (p := .tup (.cons (.name 1) (.cons (.name 2) (.cons (.name 3) .nil)))) (src := .seq (.meth (.var 0) "spans" [(0, m_Book_spans)] .nil)) (e := .bin .add (.var 1) (.var 3)) (ρ := [.va (bkD f ts), s1, s2, s3]) (m := m) (m' := m) (spn f ts) rD (fun r => D.int (r.1 + r.2.2)) (by simp [Book_spans_ok hB]) fun r hr => ⟨_, rfl, by simp⟩
    unfold lc_least_told_0
    rw [h, ← spn_begs, List.map_map]
    rfl
  have e1 : f_check_book [bkD f ts] m = .ok (.non, m) := check_book_b
  simp [f_least_told, fn, ir_least_told, e0, e1, bi_min_l begs_ne]
abbrev cD (f : Int) (ts : List Tn) (p : Int × Int) : D := .tup [pD p, .int (cnt 0 f ts p.1)]
/-- the runs of times between breaks -/
def runsOf (f : Int) (ts : List Tn) : List (Int × Int) := segs (setI (brks 0 f ts))
theorem runs_mem : ∀ {is : List Int} {p : Int × Int}, p ∈ segs is → p.1 ∈ is ∧ p.2 ∈ is
  | [], p, h => by cases h
  | [a], p, h => by cases h
  | a :: b :: r, p, h => by
    rw [segs] at h
    rcases List.mem_cons.mp h with e | e
    · subst e; simp
    · obtain ⟨q1, q2⟩ := runs_mem e
      exact ⟨List.mem_cons_of_mem _ q1, List.mem_cons_of_mem _ q2⟩
theorem segs_len : ∀ {is : List Int}, (segs is).length ≤ is.length
  | [] => Nat.le_refl _
  | [a] => by simp [segs]
  | a :: b :: r => by have := segs_len (is := b :: r); rw [segs]; simp only [List.length_cons] at this ⊢; omega
theorem brks_len (hB : Bok f ts) : (brks 0 f ts).length ≤ 50 := by
  have h := spn_len hB
  unfold spn at h
  rw [spans_eq] at h
  unfold brks begs ends
  simp only [List.length_append, List.length_map, List.length_singleton] at h ⊢
  omega
theorem counts_ok (hB : Bok f ts) : f_counts [bkD f ts] m = .ok (.lst ((runsOf f ts).map (cD f ts)), m) := by
  have hl := hB.len
  have e0 : ∀ s0 s2 s3 s4 s5 s6 s7 : Sl, ev lc_counts_0 [s0, .va (.lst ((spn f ts).map rD)), s2, s3, s4, s5, s6, s7] m = .ok (.lst ((begs 0 f ts).map .int), m) := fun s0 s2 s3 s4 s5 s6 s7 => by
    have h := ev_lc_all (p := .tup (.cons (.name 3) (.cons (.name 4) (.cons (.name 5) .nil)))) (src := .seq (.var 1)) (e := .bin .add (.var 3) (.var 5)) (ρ := [s0, .va (.lst ((spn f ts).map rD)), s2, s3, s4, s5, s6, s7]) (m := m) (m' := m) (spn f ts) rD (fun r => D.int (r.1 + r.2.2)) (by simp) fun r hr => ⟨_, rfl, by simp⟩
    unfold lc_counts_0
    rw [h, ← spn_begs, List.map_map]
    rfl
  have hdl : ((spn f ts).map rD).dropLast = (spf 0 f ts).map fun r => rD (up r) := by
    unfold spn
    rw [spans_eq, List.map_append, List.map_map]
    simp
  have e1 : ∀ s0 s2 s3 s4 s5 s6 s7 : Sl, ev lc_counts_1 [s0, .va (.lst ((spn f ts).map rD)), s2, s3, s4, s5, s6, s7] m = .ok (.lst ((ends 0 f ts).map .int), m) := fun s0 s2 s3 s4 s5 s6 s7 => by
    have h := ev_lc_all (p := .tup (.cons (.name 3) (.cons (.name 4) (.cons (.name 5) .nil)))) (src := .seq (.slc (.var 1) (.con .non) (.neg (.con (.int 1))))) (e := .bin .add (.var 4) (.var 5)) (ρ := [s0, .va (.lst ((spn f ts).map rD)), s2, s3, s4, s5, s6, s7]) (m := m) (m' := m) (spf 0 f ts) (fun r => rD (up r)) (fun r => D.int (r.2.1 + r.2.2)) (by simp [hdl]) fun r hr => ⟨_, rfl, by simp⟩
    unfold lc_counts_1
    rw [h]
    unfold ends
    rw [List.map_map]
    rfl
  have hset : biSem .sset [.lst ((begs 0 f ts).map D.int ++ (ends 0 f ts).map D.int)] = some (.lst ((setI (brks 0 f ts)).map .int)) := by
    rw [← List.map_append]
    have h2 := brks_len hB
    have h3 := setI_len (xs := brks 0 f ts)
    exact bi_sset_l (is := brks 0 f ts) (by omega) (by omega)
  have hll : (begs 0 f ts).length + (ends 0 f ts).length ≤ line := by
    have h2 := brks_len hB
    unfold brks at h2
    rw [List.length_append] at h2
    unfold line; omega
  have eC : f_check_book [bkD f ts] m = .ok (.non, m) := check_book_b
  have hrl : (runsOf f ts).length ≤ 50 := by
    have h2 := brks_len hB
    have h3 := setI_len (xs := brks 0 f ts)
    have h4 := segs_len (is := setI (brks 0 f ts))
    unfold runsOf
    omega
  have hL : ∀ s1 s2 : Sl, run fo_counts_0 [.va (bkD f ts), s1, s2, .un, .un, .un, .va (.lst ((setI (brks 0 f ts)).map .int)), .ow (.lst [])] m = .nx [.va (bkD f ts), s1, s2, .un, .un, .un, .va (.lst ((setI (brks 0 f ts)).map .int)), .ow (.lst ((runsOf f ts).map (cD f ts)))] m := fun s1 s2 => by
    have key := forL_fold (bnd := bindP (.tup (.cons (.name 3) (.cons (.name 4) .nil)))) (body := runs bd_counts_0) (clr := [3, 4]) (f := pD) (E := fun s : List (Int × Int) => [.va (bkD f ts), s1, s2, .un, .un, .un, .va (.lst ((setI (brks 0 f ts)).map .int)), .ow (.lst (s.map (cD f ts)))]) (Mm := fun _ => m) (step := fun s p => s ++ [p])
      (P := fun s r => s.length + r.length ≤ 50 ∧ ∀ p ∈ r, -30 ≤ p.1 ∧ p.1 ≤ 100000029) (xs := runsOf f ts) (s := []) ⟨by simpa using hrl, fun p hp => brks_b hB _ (mem_setI.mp (runs_mem hp).1)⟩ (fun s p r ⟨hs, hr⟩ => ?_)
    · have e : ∀ (l s : List (Int × Int)), l.foldl (fun s p => s ++ [p]) s = s ++ l := by
        intro l
        induction l with
        | nil => intro s; simp
        | cons p l ih => intro s; rw [List.foldl_cons, ih]; simp
      rw [e] at key
      simp only [List.map_nil, List.nil_append] at key
      have hz := zip2_segs (is := setI (brks 0 f ts))
      rw [List.drop_one] at hz
      simp [fo_counts_0, hz]
      exact key
    · have hs' : s.length + (r.length + 1) ≤ 50 := hs
      have hp := hr p List.mem_cons_self
      refine ⟨⟨?_, fun q hq => hr q (List.mem_cons_of_mem _ hq)⟩, _, rfl, ?_⟩
      · show (s ++ [p]).length + r.length ≤ 50
        rw [List.length_append, List.length_singleton]; omega
      · have hlen : s.length < line := by unfold line; omega
        refine ⟨[.va (bkD f ts), s1, s2, .va (.int p.1), .va (.int p.2), .un, .va (.lst ((setI (brks 0 f ts)).map .int)), .ow (.lst ((s ++ [p]).map (cD f ts)))], .inl ?_, rfl⟩
        simp [bd_counts_0, meanings_ok hB (show -899999991 ≤ p.1 by omega) (show p.1 ≤ 899999991 by omega), line, cnt] at hlen ⊢
        simp [hlen]
        rfl
  simp [f_counts, fn, ir_counts, eC, Book_spans_ok hB, e0, e1, hset, hll, hL, freeze, line]
theorem put_together_ok {ps : List (Int × Int)} (hl : ps.length < 900000) : f_put_together [.lst (ps.map pD)] m = .ok (.lst ((ps.foldl put []).map pD), m) := by
  have hL : run fo_put_together_0 [.va (.lst (ps.map pD)), .ow (.lst []), .un, .un] m = .nx [.va (.lst (ps.map pD)), .ow (.lst ((ps.foldl put []).map pD)), .un, .un] m := by
    have key := forL_fold (bnd := bindP (.tup (.cons (.name 2) (.cons (.name 3) .nil)))) (body := runs bd_put_together_0) (clr := [2, 3]) (f := pD) (E := fun s : List (Int × Int) => [.va (.lst (ps.map pD)), .ow (.lst (s.map pD)), .un, .un]) (Mm := fun _ => m) (step := put)
      (P := fun s r => s.length + r.length ≤ 900000) (xs := ps) (s := []) (by simp; omega) (fun s p r hs => ?_)
    · simp only [List.map_nil] at key
      simp [fo_put_together_0]
      exact key
    · have hs' : s.length + (r.length + 1) ≤ 900000 := hs
      have hpl : (put s p).length ≤ s.length + 1 := by
        unfold put
        split
        · split <;> simp <;> omega
        · simp
      refine ⟨by show (put s p).length + r.length ≤ 900000; omega, _, rfl, [.va (.lst (ps.map pD)), .ow (.lst ((put s p).map pD)), .va (.int p.1), .va (.int p.2)], .inl ?_, rfl⟩
      have hlen : s.length < line := by unfold line; omega
      have hlm : (s.map pD).getLast? = s.getLast?.map pD := by simp
      unfold put
      cases hg : s.getLast? with
      | none =>
        have hs0 : s = [] := List.getLast?_eq_none_iff.mp hg
        subst hs0
        have e0 : coSem .ne (.lst []) (.lst []) = some false := rfl
        simp [bd_put_together_0, line, e0]
      | some q =>
        have hne : s ≠ [] := fun z => by subst z; cases hg
        have hie : s.isEmpty = false := by cases s with
          | nil => exact absurd rfl hne
          | cons a r => rfl
        rw [hg] at hlm
        dsimp only [Option.map_some] at hlm
        have hst : ∀ x, storeD (.lst (s.map pD)) (.int (-1)) x = some (.lst ((s.map pD).dropLast ++ [x])) := fun x => store_last (by simpa using hne)
        by_cases hq : q.2 = p.1
        · simp [bd_put_together_0, line, hie, hlm, hq, hst]
        · simp [bd_put_together_0, line, hie, hlm, hq] at hlen ⊢
          simp [hlen]
  simp [f_put_together, fn, ir_put_together, hL, freeze, line]
theorem gaps_ok (hB : Bok f ts) : f_gaps [bkD f ts] m = .ok (.lst ((((runsOf f ts).filter fun p => decide (cnt 0 f ts p.1 = 0)).foldl put []).map pD), m) := by
  have e0 : ∀ s1 s2 : Sl, ev lc_gaps_0 [.va (bkD f ts), s1, s2] m = .ok (.lst (((runsOf f ts).filter fun p => decide (cnt 0 f ts p.1 = 0)).map pD), m) := fun s1 s2 =>
    ev_lc_if (runsOf f ts) (cD f ts) _ pD (by simp [counts_ok hB]) fun p hp => ⟨_, rfl, by simp <;> omega, fun _ => rfl⟩
  have h1 : ((runsOf f ts).filter fun p => decide (cnt 0 f ts p.1 = 0)).length < 900000 := by
    have h2 := brks_len hB
    have h3 := setI_len (xs := brks 0 f ts)
    have h4 := segs_len (is := setI (brks 0 f ts))
    have h5 := List.length_filter_le (fun p => decide (cnt 0 f ts p.1 = 0)) (runsOf f ts)
    unfold runsOf at h5 ⊢
    omega
  simp [f_gaps, fn, ir_gaps, e0, put_together_ok h1]
theorem folds_ok (hB : Bok f ts) : f_folds [bkD f ts] m = .ok (.lst ((((runsOf f ts).filter fun p => decide (1 < cnt 0 f ts p.1)).foldl put []).map pD), m) := by
  have e0 : ∀ s1 s2 : Sl, ev lc_folds_0 [.va (bkD f ts), s1, s2] m = .ok (.lst (((runsOf f ts).filter fun p => decide (1 < cnt 0 f ts p.1)).map pD), m) := fun s1 s2 =>
    ev_lc_if (runsOf f ts) (cD f ts) _ pD (by simp [counts_ok hB]) fun p hp => ⟨_, rfl, by simp <;> omega, fun _ => rfl⟩
  have h1 : ((runsOf f ts).filter fun p => decide (1 < cnt 0 f ts p.1)).length < 900000 := by
    have h2 := brks_len hB
    have h3 := setI_len (xs := brks 0 f ts)
    have h4 := segs_len (is := setI (brks 0 f ts))
    have h5 := List.length_filter_le (fun p => decide (1 < cnt 0 f ts p.1)) (runsOf f ts)
    unfold runsOf at h5 ⊢
    omega
  simp [f_folds, fn, ir_folds, e0, put_together_ok h1]
theorem is_plain_ok (hB : Bok f ts) : f_is_plain [bkD f ts] m = .ok (.bl ((runsOf f ts).all fun p => decide (cnt 0 f ts p.1 = 1)), m) := by
  have e0 : ∀ s1 s2 : Sl, ev lc_is_plain_0 [.va (bkD f ts), s1, s2] m = .ok (.lst (((runsOf f ts).map fun p => decide (cnt 0 f ts p.1 = 1)).map .bl), m) := fun s1 s2 => by
    rw [List.map_map]
    exact ev_lc_all (runsOf f ts) (cD f ts) _ (by simp [counts_ok hB]) fun p hp => ⟨_, rfl, by simp <;> omega⟩
  have e1 : f_check_book [bkD f ts] m = .ok (.non, m) := check_book_b
  simp only [f_is_plain, fn, ir_is_plain]
  simp [e0, e1, -List.map_map, List.all_map, Function.comp_def]
theorem last_told_ok (hB : Bok f ts) : f_last_told [bkD f ts] m = .ok (.int (maxL ((lastL 0 ts + lastO f ts) :: ends 0 f ts)), m) := by
  have hdl : ((spn f ts).map rD).dropLast = (spf 0 f ts).map fun r => rD (up r) := by
    unfold spn
    rw [spans_eq, List.map_append, List.map_map]
    simp
  have hgl : ((spn f ts).map rD).getLast? = some (rD (lastL 0 ts, none, lastO f ts)) := by
    unfold spn
    rw [spans_eq, List.map_append]
    simp
  have e1 : ∀ s0 s2 s3 s4 : Sl, ev lc_last_told_0 [s0, .va (.lst ((spn f ts).map rD)), s2, s3, s4] m = .ok (.lst ((ends 0 f ts).map .int), m) := fun s0 s2 s3 s4 => by
    have h := ev_lc_all (p := .tup (.cons (.name 2) (.cons (.name 3) (.cons (.name 4) .nil)))) (src := .seq (.slc (.var 1) (.con .non) (.neg (.con (.int 1))))) (e := .bin .add (.var 3) (.var 4)) (ρ := [s0, .va (.lst ((spn f ts).map rD)), s2, s3, s4]) (m := m) (m' := m) (spf 0 f ts) (fun r => rD (up r)) (fun r => D.int (r.2.1 + r.2.2)) (by simp [hdl]) fun r hr => ⟨_, rfl, by simp⟩
    unfold lc_last_told_0
    rw [h]
    unfold ends
    rw [List.map_map]
    rfl
  have eC : f_check_book [bkD f ts] m = .ok (.non, m) := check_book_b
  have hll : (ends 0 f ts).length + 1 ≤ line := by
    have h2 := brks_len hB
    unfold brks begs at h2
    simp only [List.length_append, List.length_singleton] at h2
    unfold line; omega
  have hm := bi_max_l (is := (lastL 0 ts + lastO f ts) :: ends 0 f ts) (by simp)
  simp only [List.map_cons] at hm
  simp [f_last_told, fn, ir_last_told, eC, Book_spans_ok hB, hgl, e1, hll, hm]
end

end P35
end
section
set_option Elab.async false
set_option linter.all false
set_option maxRecDepth 100000
set_option maxHeartbeats 1000000
set_option autoImplicit false
namespace P35
open PySem Z
/-! B6: what a told time means: One, Never, Many. -/
section
open Bk
variable {f k t i a b : Int} {ts : List Tn} {m : Mu} {d : D}
theorem overs_ok : overs t f 0 ts = ts.zipIdx.filterMap fun p => if p.1.1 + offAt f ts p.2 ≤ t ∧ t < p.1.1 + p.1.2 then some p.2 else none :=
  overs_eq offAt rfl fun n p h => by rw [offAt_s, h]; rfl
theorem zip_at {ts : List Tn} {p : Tn × Nat} (h : p ∈ ts.zipIdx) : ts[p.2]? = some p.1 := by
  have := List.mem_zipIdx_iff_getElem? (l := ts) (x := p)
  exact this.mp h
@[simp] theorem mk_One : i_One [d] m = .ok (.ins 1 [d], m) := rfl
@[simp] theorem mk_Never : i_Never [d] m = .ok (.ins 2 [d], m) := rfl
@[simp] theorem mk_Many {xs : List D} : i_Many [.lst xs] m = .ok (.ins 3 [.tup xs], m) := rfl
def judgeD (f : Int) (ts : List Tn) (t : Int) : D := match mns 0 f ts t with
  | [k] => .ins 1 [.int k]
  | [] => .ins 2 [match overs t f 0 ts with
    | [] => .non
    | i :: _ => .int i]
  | ks => .ins 3 [.tup (ks.map .int)]
theorem judge_told_ok (hB : Bok f ts) (h1 : -899999991 ≤ t) (h2 : t ≤ 899999991) : f_judge_told [bkD f ts, .int t] m = .ok (judgeD f ts t, m) := by
  have hm := meanings_ok (m := m) hB h1 h2
  unfold judgeD
  have hL : run fo_judge_told_0 [.va (bkD f ts), .va (.int t), .va (.lst []), .un, .un, .un] m = match overs t f 0 ts with
      | [] => .nx [.va (bkD f ts), .va (.int t), .va (.lst []), .un, .un, .un] m
      | i :: _ => .rt (.ins 2 [.int i]) m := by
    have key := forL_find (bnd := bindP (.tup (.cons (.name 3) (.cons (.tup (.cons (.name 4) (.cons (.name 5) .nil))) .nil)))) (body := runs bd_judge_told_0) (clr := [3, 4, 5]) (m := m) (ρ := [.va (bkD f ts), .va (.int t), .va (.lst []), .un, .un, .un])
      (f := fun p : Tn × Nat => .tup [.int p.2, tD p.1]) (ret := fun p => (if p.1.1 + offAt f ts p.2 ≤ t ∧ t < p.1.1 + p.1.2 then some p.2 else none).map fun (i : Nat) => D.ins 2 [.int i]) (xs := ts.zipIdx) fun p hp => ?_
    · have e : run fo_judge_told_0 [.va (bkD f ts), .va (.int t), .va (.lst []), .un, .un, .un] m = forL (bindP (.tup (.cons (.name 3) (.cons (.tup (.cons (.name 4) (.cons (.name 5) .nil))) .nil)))) (runs bd_judge_told_0) [3, 4, 5] (ts.zipIdx.map fun p => .tup [.int p.2, tD p.1]) [.va (bkD f ts), .va (.int t), .va (.lst []), .un, .un, .un] m := by
        rw [← enu_map]
        simp [fo_judge_told_0]
      rw [e, key, overs_ok, ← List.head?_filterMap]
      have e2 : ∀ (l : List (Tn × Nat)) (g : Tn × Nat → Option Nat), (l.filterMap fun p => (g p).map fun (i : Nat) => D.ins 2 [.int i]) = (l.filterMap g).map fun (i : Nat) => D.ins 2 [.int i] := fun l g => by
        rw [List.map_filterMap]
      rw [e2]
      cases (ts.zipIdx.filterMap fun p => if p.1.1 + offAt f ts p.2 ≤ t ∧ t < p.1.1 + p.1.2 then some p.2 else none) <;> rfl
    · have hat := zip_at hp
      have ha := told_ahead_ok (f := f) (m := m) hat
      refine ⟨_, rfl, ?_⟩
      by_cases q1 : p.1.1 + offAt f ts p.2 ≤ t
      · by_cases q2 : t < p.1.1 + p.1.2
        · refine .inl ⟨_, by rw [if_pos ⟨q1, q2⟩]; rfl, ?_⟩
          simp [bd_judge_told_0, ha, q1, q2]
        · refine .inr ⟨by rw [if_neg (fun z => q2 z.2)]; rfl, [.va (bkD f ts), .va (.int t), .va (.lst []), .va (.int p.2), .va (.int p.1.1), .va (.int p.1.2)], ?_, rfl⟩
          simp [bd_judge_told_0, ha, q1, q2]
      · refine .inr ⟨by rw [if_neg (fun z => q1 z.1)]; rfl, [.va (bkD f ts), .va (.int t), .va (.lst []), .va (.int p.2), .va (.int p.1.1), .va (.int p.1.2)], ?_, rfl⟩
        simp [bd_judge_told_0, ha, q1]
  cases hc : mns 0 f ts t with
  | nil =>
    rw [hc] at hm
    have e0 : coSem .ne (.lst []) (.lst []) = some false := rfl
    simp [f_judge_told, fn, ir_judge_told, hm, line, e0, hL]
    cases overs t f 0 ts with
    | nil => simp
    | cons i r => simp
  | cons x r =>
    rw [hc] at hm
    cases r with
    | nil => simp [f_judge_told, fn, ir_judge_told, hm]
    | cons y r =>
      have hne : coSem .ne (.lst (.int x :: .int y :: r.map .int)) (.lst []) = some true := co_ne_is0 (is := x :: y :: r)
      have hl : ¬ ((r.length : Int) + 1 + 1 = 1) := by omega
      simp [f_judge_told, fn, ir_judge_told, hm, line, hne, hl]
@[simp] theorem One_eq_ii : m_One_eq [.ins 1 [.int a], .ins 1 [.int b]] m = .ok (.bl (decide (a = b)), m) := rfl
@[simp] theorem One_eq_in : m_One_eq [.ins 1 [.int a], .ins 1 [.non]] m = .ok (.bl false, m) := rfl
@[simp] theorem One_eq_o2 {xs : List D} : m_One_eq [.ins 1 [d], .ins 2 xs] m = .ok (.bl false, m) := rfl
@[simp] theorem One_eq_o3 {xs : List D} : m_One_eq [.ins 1 [d], .ins 3 xs] m = .ok (.bl false, m) := rfl
@[simp] theorem Never_eq_o1 {xs : List D} : m_Never_eq [.ins 2 [d], .ins 1 xs] m = .ok (.bl false, m) := rfl
@[simp] theorem Never_eq_o3 {xs : List D} : m_Never_eq [.ins 2 [d], .ins 3 xs] m = .ok (.bl false, m) := rfl
@[simp] theorem Never_eq_nn : m_Never_eq [.ins 2 [.non], .ins 2 [.non]] m = .ok (.bl true, m) := rfl
@[simp] theorem Never_eq_ii : m_Never_eq [.ins 2 [.int a], .ins 2 [.int b]] m = .ok (.bl (decide (a = b)), m) := rfl
@[simp] theorem Many_eq_o1 {xs : List D} : m_Many_eq [.ins 3 [d], .ins 1 xs] m = .ok (.bl false, m) := rfl
@[simp] theorem Many_eq_o2 {xs : List D} : m_Many_eq [.ins 3 [d], .ins 2 xs] m = .ok (.bl false, m) := rfl
@[simp] theorem Many_eq_ii {is js : List Int} : m_Many_eq [.ins 3 [.tup (is.map .int)], .ins 3 [.tup (js.map .int)]] m = .ok (.bl (decide (is = js)), m) := by
  simp [m_Many_eq, fn, ir_Many_eq]
@[simp] theorem One_bool_ok : m_One_bool [.ins 1 [d]] m = .ok (.bl true, m) := rfl
@[simp] theorem Never_bool_ok : m_Never_bool [.ins 2 [d]] m = .ok (.bl false, m) := rfl
@[simp] theorem Many_bool_ok : m_Many_bool [.ins 3 [d]] m = .ok (.bl false, m) := rfl
theorem One_shows_ok (hB : Bok f ts) (h1 : -899999991 ≤ t) (h2 : t ≤ 899999991) : m_One_shows [.ins 1 [.int a], bkD f ts, .int t] m = .ok (.bl (decide (mns 0 f ts t = [a])), m) := by
  simp [m_One_shows, fn, ir_One_shows, judge_told_ok hB h1 h2]
  unfold judgeD
  cases hc : mns 0 f ts t with
  | nil => simp
  | cons x r =>
    cases r with
    | nil => simp
    | cons y r => simp
theorem One_shows_n (hB : Bok f ts) (h1 : -899999991 ≤ t) (h2 : t ≤ 899999991) : m_One_shows [.ins 1 [.non], bkD f ts, .int t] m = .ok (.bl false, m) := by
  simp [m_One_shows, fn, ir_One_shows, judge_told_ok hB h1 h2]
  unfold judgeD
  cases hc : mns 0 f ts t with
  | nil => simp
  | cons x r =>
    cases r with
    | nil => simp
    | cons y r => simp
theorem Many_shows_ok {is : List Int} (hB : Bok f ts) (h1 : -899999991 ≤ t) (h2 : t ≤ 899999991) : m_Many_shows [.ins 3 [.tup (is.map .int)], bkD f ts, .int t] m = .ok (.bl (decide (1 < (mns 0 f ts t).length ∧ mns 0 f ts t = is)), m) := by
  simp [m_Many_shows, fn, ir_Many_shows, judge_told_ok hB h1 h2]
  unfold judgeD
  cases hc : mns 0 f ts t with
  | nil => simp
  | cons x r =>
    cases r with
    | nil => simp
    | cons y r =>
      have := Many_eq_ii (m := m) (is := x :: y :: r) (js := is)
      simp only [List.map_cons] at this
      simp [this]
theorem Never_shows_n (hB : Bok f ts) (h1 : -899999991 ≤ t) (h2 : t ≤ 899999991) : m_Never_shows [.ins 2 [.non], bkD f ts, .int t] m = .ok (.bl (decide (mns 0 f ts t = [] ∧ t < minL (begs 0 f ts))), m) := by
  have hm := meanings_ok (m := m) hB h1 h2
  cases hc : mns 0 f ts t with
  | nil =>
    rw [hc] at hm
    have e0 : coSem .ne (.lst []) (.lst []) = some false := rfl
    simp [m_Never_shows, fn, ir_Never_shows, hm, line, e0, least_told_ok hB]
  | cons x r =>
    rw [hc] at hm
    have hne : coSem .ne (.lst (.int x :: r.map .int)) (.lst []) = some true := co_ne_is0 (is := x :: r)
    simp [m_Never_shows, fn, ir_Never_shows, hm, line, hne]
theorem Never_shows_s {x : Str} (hB : Bok f ts) (h1 : -899999991 ≤ t) (h2 : t ≤ 899999991) : m_Never_shows [.ins 2 [.str x], bkD f ts, .int t] m = .ok (.bl false, m) := by
  have hm := meanings_ok (m := m) hB h1 h2
  cases hc : mns 0 f ts t with
  | nil =>
    rw [hc] at hm
    have e0 : coSem .ne (.lst []) (.lst []) = some false := rfl
    simp [m_Never_shows, fn, ir_Never_shows, hm, line, e0]
  | cons y r =>
    rw [hc] at hm
    have hne : coSem .ne (.lst (.int y :: r.map .int)) (.lst []) = some true := co_ne_is0 (is := y :: r)
    simp [m_Never_shows, fn, ir_Never_shows, hm, line, hne]
theorem mem_overs {j : Nat} : j ∈ overs t f 0 ts ↔ ∃ p, ts[j]? = some p ∧ p.1 + offAt f ts j ≤ t ∧ t < p.1 + p.2 := by
  rw [overs_ok, List.mem_filterMap]
  constructor
  · rintro ⟨p, hp, e⟩
    have hat := zip_at hp
    split at e
    · rename_i q
      cases e
      exact ⟨_, hat, q⟩
    · cases e
  · rintro ⟨p, hp, q⟩
    exact ⟨(p, j), List.mem_zipIdx_iff_getElem?.mpr hp, by rw [if_pos q]⟩
/-- at a turn's own tick told time is as far ahead as the turn says -/
theorem off_turn (hB : Bok f ts) {j : Nat} {p : Tn} (h : ts[j]? = some p) : off f ts p.1 = p.2 := by
  have e : place ts p.1 = j + 1 := by
    have hl := (List.getElem?_eq_some_iff.mp h).1
    refine place_is hB.asc (by omega) (fun i q hi hq => ?_) fun q hq => ?_
    · have h1 := (place_at (k := q.1) hB.asc hq).mpr (Int.le_refl _)
      by_cases e : i = j
      · subst e; rw [h] at hq; cases hq; exact Int.le_refl _
      · apply Int.le_of_lt
        apply Int.lt_of_not_ge
        intro z
        have h2 := (place_at (k := q.1) hB.asc h).mpr z
        have h3 : ∀ (ts : List Tn) (l : Int) (i j : Nat) (p q : Tn), Asc l ts → ts[i]? = some q → ts[j]? = some p → i < j → q.1 < p.1 := by
          intro ts
          induction ts with
          | nil => intro l i j p q _ h; simp at h
          | cons x r ih =>
            intro l i j p q ⟨g1, g2⟩ hi hj hij
            obtain ⟨a, b⟩ := x
            cases j with
            | zero => omega
            | succ j =>
              cases i with
              | zero =>
                have e1 : (a, b) = q := by simpa using hi
                subst e1
                have := asc_ge g2 p (List.mem_of_getElem? (by simpa using hj))
                show a < p.1
                omega
              | succ i => exact ih (a + 1) i j p q g2 (by simpa using hi) (by simpa using hj) (by omega)
        have := h3 ts 0 i j p q hB.asc hq h (by omega)
        omega
    · have h3 : ∀ (ts : List Tn) (l : Int) (j : Nat) (p q : Tn), Asc l ts → ts[j + 1]? = some q → ts[j]? = some p → p.1 < q.1 := by
        intro ts
        induction ts with
        | nil => intro l j p q _ h; simp at h
        | cons x r ih =>
          intro l j p q ⟨g1, g2⟩ hi hj
          obtain ⟨a, b⟩ := x
          cases j with
          | zero =>
            have e1 : (a, b) = p := by simpa using hj
            subst e1
            have := asc_ge g2 q (List.mem_of_getElem? (by simpa using hi))
            show a < q.1
            omega
          | succ j => exact ih (a + 1) j p q g2 (by simpa using hi) (by simpa using hj)
      exact h3 ts 0 j p q hB.asc hq h
  rw [off_at, e, offAt_s, h]
  rfl
theorem Never_shows_i {j : Nat} (hB : Bok f ts) (h1 : -899999991 ≤ t) (h2 : t ≤ 899999991) : m_Never_shows [.ins 2 [.int j], bkD f ts, .int t] m = .ok (.bl (decide (mns 0 f ts t = [] ∧ j ∈ overs t f 0 ts)), m) := by
  have hm := meanings_ok (m := m) hB h1 h2
  cases hc : mns 0 f ts t with
  | nil =>
    rw [hc] at hm
    have e0 : coSem .ne (.lst []) (.lst []) = some false := rfl
    by_cases hj : j < ts.length
    · have hat := List.getElem?_eq_getElem hj
      have ha := told_ahead_ok (f := f) (m := m) hat
      have hat2 : atD (ts.map tD) (j : Int) = some (.tup [.int ts[j].1, .int ts[j].2]) := by rw [atD_nat, at_tD hat]
      have hnum : (0 : Int) ≤ j ∧ (j : Int) ≤ (ts.length : Int) - 1 := by omega
      have ho := off_turn hB hat
      have hmem : j ∈ overs t f 0 ts ↔ (ts[j].1 + offAt f ts j ≤ t ∧ t < ts[j].1 + ts[j].2) := by
        rw [mem_overs]
        constructor
        · rintro ⟨p, hp, q⟩; rw [hat] at hp; cases hp; exact q
        · intro q; exact ⟨_, hat, q⟩
      have hn2 : (j : Int) ≤ (ts.length : Int) - 1 := hnum.2
      by_cases q1 : ts[j].1 + offAt f ts j ≤ t
      · simp [m_Never_shows, fn, ir_Never_shows, hm, line, e0, hn2, hat2, ha, q1, Book_told_ok hB.asc hB.l9, ho, hmem]
      · simp [m_Never_shows, fn, ir_Never_shows, hm, line, e0, hn2, hat2, ha, q1, Book_told_ok hB.asc hB.l9, ho, hmem]
    · have hn2 : ¬ ((j : Int) ≤ (ts.length : Int) - 1) := by omega
      have hmem : ¬ (j ∈ overs t f 0 ts) := by
        rw [mem_overs]
        rintro ⟨p, hp, q⟩
        exact hj (List.getElem?_eq_some_iff.mp hp).1
      simp [m_Never_shows, fn, ir_Never_shows, hm, line, e0, hn2, hmem]
  | cons x r =>
    rw [hc] at hm
    have hne : coSem .ne (.lst (.int x :: r.map .int)) (.lst []) = some true := co_ne_is0 (is := x :: r)
    simp [m_Never_shows, fn, ir_Never_shows, hm, line, hne]
end

end P35
end
section
set_option Elab.async false
set_option linter.all false
set_option maxRecDepth 100000
set_option maxHeartbeats 1000000
set_option autoImplicit false
namespace P35
open PySem Z
/-! B7: what laws draw: numbers, books. -/
section
open Bk
variable {f k t i a b : Int} {ts : List Tn} {m : Mu} {d : D} {ns : List Int}
theorem at_ints {n : Int} (h1 : 0 ≤ n) (h2 : n < ns.length) : ∃ c, atD (ns.map D.int) n = some (.int c) := by
  rw [atD_nn h1]
  have hl : n.toNat < ns.length := by omega
  exact ⟨ns[n.toNat], by rw [List.getElem?_map, List.getElem?_eq_getElem hl]; rfl⟩
theorem law_number_ok (hl : ns.length ≤ 63) : ∃ r, f__law_number [.lst (ns.map .int), .int k] m = .ok (.int r, m) := by
  have hA : ∃ c n : Int, runs ir__law_number [.va (.lst (ns.map .int)), .va (.int k), .un, .un, .un, .un, .un] m = runs (match ir__law_number with | .cons _ r => r | r => r) [.va (.lst (ns.map .int)), .va (.int k), .va (.int c), .va (.int n), .un, .un, .un] m := by
    cases ns with
    | nil =>
      have e0 : coSem .ne (.lst []) (.lst []) = some false := rfl
      exact ⟨12345, 0, by simp [ir__law_number, e0, line, bindP, bindPs]⟩
    | cons x r =>
      have hne : coSem .ne (.lst (.int x :: r.map .int)) (.lst []) = some true := co_ne_is0 (is := x :: r)
      have hL : (0 : Int) < (x :: r).length := by simp only [List.length_cons]; omega
      have hL2 : ((x :: r).length : Int) < 1073741824 := by omega
      obtain ⟨c, hc⟩ := at_ints (ns := x :: r) (n := k % (x :: r).length) (Int.emod_nonneg _ (by omega)) (Int.emod_lt_of_pos _ hL)
      simp only [List.map_cons, List.length_cons, Int.natCast_add, Int.natCast_one] at hc hL hL2
      refine ⟨c, k / ((r.length : Int) + 1), ?_⟩
      simp [ir__law_number, hne, line, boSem, hL, hL2, hc, bindP, bindPs]
  obtain ⟨c, n, hA⟩ := hA
  have hB : ∀ x : Int, run fo__law_number_0 [.va (.lst (ns.map .int)), .va (.int k), .va (.int c), .va (.int n), .va (.int x), .un, .un] m = .nx [.va (.lst (ns.map .int)), .va (.int k), .va (.int c), .va (.int n), .va (.int ((rng 0 (n % 60).toNat).foldl (fun s _ => s / 1009) x)), .un, .un] m := fun x => by
    have key := forL_fold (bnd := bindP (.name 5)) (body := runs bd__law_number_0) (clr := [5]) (f := D.int) (E := fun s : Int => [.va (.lst (ns.map .int)), .va (.int k), .va (.int c), .va (.int n), .va (.int s), .un, .un]) (Mm := fun _ => m) (step := fun s _ => s / 1009) (P := fun _ _ => True) (xs := rng 0 (n % 60).toNat) (s := x) trivial
      (fun s x r _ => ⟨trivial, _, rfl, [.va (.lst (ns.map .int)), .va (.int k), .va (.int c), .va (.int n), .va (.int (s / 1009)), .va (.int x), .un], .inl (by simp [bd__law_number_0, boSem]), rfl⟩)
    have h1 : (0 : Int) ≤ n % 60 := Int.emod_nonneg _ (by decide)
    have h2 : n % 60 < 60 := Int.emod_lt_of_pos _ (by decide)
    have h3 : small (n % 60) := by unfold small; omega
    have h4 : n % 60 ≤ 16777216 := by omega
    simp [fo__law_number_0, boSem, h3, h4, rngI_rng]
    exact key
  have hC : ∃ r, runs ir__law_number [.va (.lst (ns.map .int)), .va (.int k), .un, .un, .un, .un, .un] m = .rt (.int r) m := by
    rw [hA]
    have hp : boSem .pow (.int 10) (.int 18) = some (.int 1000000000000000000) := bo_pow (i := 10) (j := 18) (by decide)
    have w1 : ∀ y : Int, boSem .mul (.int 977) (.int y) = some (.int (977 * y)) := fun y => bo_mul (.inl (by unfold word; omega))
    have w2 : ∀ y : Int, boSem .mul (.int y) (.int 48271) = some (.int (y * 48271)) := fun y => bo_mul (.inr (by unfold word; omega))
    have w3 : ∀ y : Int, boSem .mul (.int 31) (.int y) = some (.int (31 * y)) := fun y => bo_mul (.inl (by unfold word; omega))
    have w4 : ∀ y : Int, boSem .mul (.int (y % 2147483647)) (.int (y % 2147483647)) = some (.int (y % 2147483647 * (y % 2147483647))) := fun y => bo_mul (.inl (by
      have h1 := Int.emod_nonneg y (show (2147483647 : Int) ≠ 0 by decide)
      have h2 := Int.emod_lt_of_pos y (show (0 : Int) < 2147483647 by decide)
      unfold word; omega))
    have w5 : ∀ y : Int, boSem .mul (.int 40503) (.int y) = some (.int (40503 * y)) := fun y => bo_mul (.inl (by unfold word; omega))
    have w6 : ∀ y : Int, boSem .mul (.int y) (.int 69621) = some (.int (y * 69621)) := fun y => bo_mul (.inr (by unfold word; omega))
    have m1 : ∀ y : Int, boSem .mod (.int y) (.int 2147483647) = some (.int (y % 2147483647)) := fun y => bo_mod (by decide)
    have m2 : ∀ y : Int, boSem .mod (.int y) (.int 2147483629) = some (.int (y % 2147483629)) := fun y => bo_mod (by decide)
    have m3 : ∀ y : Int, boSem .mod (.int y) (.int 2147483587) = some (.int (y % 2147483587)) := fun y => bo_mod (by decide)
    have m4 : ∀ y : Int, boSem .mod (.int y) (.int 1009) = some (.int (y % 1009)) := fun y => bo_mod (by decide)
    have m5 : ∀ y : Int, boSem .fdiv (.int y) (.int 977) = some (.int (y / 977)) := fun y => bo_fdiv (by decide)
    by_cases q : n < 60
    · by_cases q2 : 0 < (rng 0 (n % 60).toNat).foldl (fun s _ => s / 1009) (c - 1000000000000000000)
      · exact ⟨_, by simp [ir__law_number, q, hp, hB, q2, m4]; rfl⟩
      · exact ⟨_, by simp [ir__law_number, q, hp, hB, q2, w1, w2, w3, w4, w5, w6, m1, m2, m3, m5]; rfl⟩
    · by_cases q2 : 0 < (rng 0 (n % 60).toNat).foldl (fun s _ => s / 1009) (0 : Int)
      · exact ⟨_, by simp [ir__law_number, q, hp, hB, q2, m4]; rfl⟩
      · exact ⟨_, by simp [ir__law_number, q, hp, hB, q2, w1, w2, w3, w4, w5, w6, m1, m2, m3, m5]; rfl⟩
  obtain ⟨r, hC⟩ := hC
  refine ⟨r, ?_⟩
  simp [f__law_number, fn, hC]
theorem law_take_ok {n : Int} (hl : ns.length ≤ 63) (hn : 0 < n) : ∃ r, f__law_take [.ref 0, .int n] (drw ns k) = .ok (.int r, drw ns (k + 1)) ∧ 0 ≤ r ∧ r < n := by
  obtain ⟨r, hr⟩ := law_number_ok (m := drw ns (k + 1)) (k := k + 1) hl
  refine ⟨r % n, ?_, Int.emod_nonneg _ (by omega), Int.emod_lt_of_pos _ hn⟩
  have hm : boSem .mod (.int r) (.int n) = some (.int (r % n)) := bo_mod hn
  have e1 : L2.ixN 2 1 = some 1 := by decide
  simp [f__law_take, fn, ir__law_take, fetchD, augO, storeD, e1, hr, hm]
theorem law_pick_ok {xs : List D} (hl : ns.length ≤ 63) (hx : xs ≠ []) : ∃ x ∈ xs, f__law_pick [.ref 0, .lst xs] (drw ns k) = .ok (x, drw ns (k + 1)) := by
  have h0 : 0 < xs.length := List.length_pos_iff.mpr hx
  obtain ⟨r, hr, h1, h2⟩ := law_take_ok (k := k) (n := xs.length) hl (by omega)
  have hlt : r.toNat < xs.length := by omega
  refine ⟨xs[r.toNat], List.getElem_mem hlt, ?_⟩
  have e : atD xs r = some xs[r.toNat] := by rw [atD_nn h1, List.getElem?_eq_getElem hlt]
  simp [f__law_pick, fn, ir__law_pick, hr, e]
/-- a drawn book -/
structure Drawn (n : Nat) (f : Int) (ts : List Tn) : Prop where
  asc : Asc 0 ts
  off : Off 5 f ts
  len : ts.length ≤ n
  hi : ∀ p ∈ ts, p.1 ≤ 40 * n
theorem Off_mono {b c f : Int} {ts : List Tn} (h : Off b f ts) (hb : b ≤ c) : Off c f ts := ⟨by have := h.1; omega, fun p hp => by have := h.2 p hp; omega⟩
theorem Drawn.bok {n : Nat} (h : Drawn n f ts) (hn : n ≤ 24) : Bok f ts := ⟨h.asc, Off_mono h.off (by omega), by have := h.len; omega, fun p hp => by have := h.hi p hp; omega⟩
theorem asc_snoc : ∀ {ts : List Tn} {l : Int} {p : Tn}, Asc l ts → (∀ q ∈ ts, q.1 < p.1) → l ≤ p.1 → Asc l (ts ++ [p])
  | [], l, p, _, _, h => ⟨h, trivial⟩
  | (a, b) :: r, l, p, ⟨h1, h2⟩, hq, h => ⟨h1, asc_snoc h2 (fun q hq' => hq q (List.mem_cons_of_mem _ hq')) (by have : a < p.1 := hq (a, b) List.mem_cons_self; omega)⟩
theorem law_book_ok {n : Nat} (hl : ns.length ≤ 63) (hn : n ≤ 24) : ∃ f ts k', f__law_book [.ref 0, .int n] (drw ns k) = .ok (.tup [.int f, .lst (ts.map tD)], drw ns k') ∧ Drawn n f ts := by
  obtain ⟨cn, hcn, c1, c2⟩ := law_take_ok (k := k) (n := (n : Int) + 1) hl (by omega)
  obtain ⟨⟨ts, tick, kk, step⟩, hP, hL⟩ := forL_ex (bnd := bindP (.name 4)) (body := runs bd__law_book_0) (clr := [4]) (f := D.int) (E := fun s : List Tn × Int × Int × Nat => [.va (.ref 0), .va (.int n), .ow (.lst (s.1.map tD)), .va (.int s.2.1), .un]) (Mm := fun s => drw ns s.2.2.1)
    (P := fun s r => Asc 0 s.1 ∧ (∀ q ∈ s.1, -5 ≤ q.2 ∧ q.2 ≤ 5) ∧ s.1.length = s.2.2.2 ∧ (∀ q ∈ s.1, q.1 ≤ s.2.1) ∧ s.2.1 ≤ 40 * (s.2.2.2 : Int) ∧ 0 ≤ s.2.1 ∧ s.2.2.2 + r.length = cn.toNat ∧ r = rng s.2.2.2 r.length) (xs := rng 0 cn.toNat) (s := ([], 0, k + 1, 0))
    ⟨trivial, (fun q h => by cases h), rfl, (fun q h => by cases h), by simp, by simp, by simp [rng_len], by simp [rng_len]⟩ fun ⟨ts, tick, kk, step⟩ x r ⟨h1, h2, h3, h4, h5, h6, h7, h8⟩ => by
      simp only [List.length_cons] at h7 h8
      rw [rng] at h8
      simp only [List.cons.injEq] at h8
      obtain ⟨h8, h9⟩ := h8
      have h3' : ts.length = step := h3
      have h6' : 0 ≤ tick := h6
      have h5' : tick ≤ 40 * (step : Int) := h5
      have hlen : ts.length < line := by unfold line; omega
      have hlen' : ts.length < 16777216 := hlen
      -- the tick
      have hT : ∃ tick', ev (.ife (.cmp .eq (.var 4) (.con (.int 0))) (.bin .add (.var 3) (.call "_law_pick" f__law_pick (.cons (.var 0) (.cons (.lst (.cons (.con (.int 0)) (.cons (.con (.int 1)) (.cons (.con (.int 2)) (.cons (.con (.int 5)) (.cons (.con (.int 12)) (.cons (.con (.int 30)) .nil))))))) .nil)))) (.bin .add (.var 3) (.call "_law_pick" f__law_pick (.cons (.var 0) (.cons (.lst (.cons (.con (.int 1)) (.cons (.con (.int 1)) (.cons (.con (.int 2)) (.cons (.con (.int 3)) (.cons (.con (.int 7)) (.cons (.con (.int 25)) (.cons (.con (.int 40)) .nil)))))))) .nil)))))
          [.va (.ref 0), .va (.int n), .ow (.lst (ts.map tD)), .va (.int tick), .va (.int x)] (drw ns kk) = .ok (.int tick', drw ns (kk + 1)) ∧ (∀ q ∈ ts, q.1 < tick') ∧ tick' ≤ tick + 40 ∧ 0 ≤ tick' := by
        by_cases hx : x = 0
        · obtain ⟨y, hy, hp⟩ := law_pick_ok (k := kk) (xs := [.int 0, .int 1, .int 2, .int 5, .int 12, .int 30]) hl (by simp)
          obtain ⟨v, rfl, v1, v2⟩ : ∃ v : Int, y = .int v ∧ 0 ≤ v ∧ v ≤ 30 := by
            simp only [List.mem_cons, List.not_mem_nil, or_false] at hy
            rcases hy with e | e | e | e | e | e <;> exact ⟨_, e, by decide, by decide⟩
          refine ⟨tick + v, by simp [hx, hp, line], fun q hq => ?_, by omega, by omega⟩
          have : ts = [] := List.length_eq_zero_iff.mp (by omega)
          subst this
          cases hq
        · obtain ⟨y, hy, hp⟩ := law_pick_ok (k := kk) (xs := [.int 1, .int 1, .int 2, .int 3, .int 7, .int 25, .int 40]) hl (by simp)
          obtain ⟨v, rfl, v1, v2⟩ : ∃ v : Int, y = .int v ∧ 1 ≤ v ∧ v ≤ 40 := by
            simp only [List.mem_cons, List.not_mem_nil, or_false] at hy
            rcases hy with e | e | e | e | e | e | e <;> exact ⟨_, e, by decide, by decide⟩
          refine ⟨tick + v, by simp [hx, hp, line], fun q hq => ?_, by omega, by omega⟩
          have := h4 q hq
          dsimp only at this
          omega
      obtain ⟨tick', hT, g1, g2, g3⟩ := hT
      obtain ⟨y, hy, hp⟩ := law_pick_ok (k := kk + 1) (xs := [.int 0, .int 1, .int (-1), .int 2, .int 3, .int (-3), .int 5]) hl (by simp)
      obtain ⟨o, rfl, o1, o2⟩ : ∃ v : Int, y = .int v ∧ -5 ≤ v ∧ v ≤ 5 := by
        simp only [List.mem_cons, List.not_mem_nil, or_false] at hy
        rcases hy with e | e | e | e | e | e | e <;> exact ⟨_, e, by decide, by decide⟩
      refine ⟨(ts ++ [(tick', o)], tick', kk + 1 + 1, step + 1), ⟨asc_snoc h1 g1 g3, fun q hq => ?_, by simp [h3'], fun q hq => ?_, by dsimp only at h5 ⊢; push_cast; omega, g3, by dsimp only at h7 ⊢; omega, ?_⟩, _, rfl, [.va (.ref 0), .va (.int n), .ow (.lst ((ts ++ [(tick', o)]).map tD)), .va (.int tick'), .va (.int x)], .inl ?_, rfl⟩
      · rcases List.mem_append.mp hq with e | e
        · exact h2 q e
        · have : q = (tick', o) := by simpa using e
          subst this; exact ⟨o1, o2⟩
      · rcases List.mem_append.mp hq with e | e
        · have := g1 q e; dsimp only; omega
        · have : q = (tick', o) := by simpa using e
          subst this; exact Int.le_refl _
      · dsimp only at h9 ⊢
        rw [show ((step + 1 : Nat) : Int) = (step : Int) + 1 by push_cast; rfl]
        exact h9
      · show runs bd__law_book_0 [.va (.ref 0), .va (.int n), .ow (.lst (ts.map tD)), .va (.int tick), .va (.int x)] (drw ns kk) = _
        simp only [bd__law_book_0]
        rw [runs_cons, run_asg, hT]
        simp [hp, line, hlen']
  obtain ⟨h1, h2, h3, h4, h5, h6, h7, h8⟩ := hP
  dsimp only at h1 h2 h3 h4 h5 h6 h7 h8 hL
  obtain ⟨y, hy, hp⟩ := law_pick_ok (k := kk) (xs := [.int 0, .int 0, .int 1, .int 2, .int (-2), .int 4]) hl (by simp)
  obtain ⟨o, rfl, o1, o2⟩ : ∃ v : Int, y = .int v ∧ -5 ≤ v ∧ v ≤ 5 := by
    simp only [List.mem_cons, List.not_mem_nil, or_false] at hy
    rcases hy with e | e | e | e | e | e <;> exact ⟨_, e, by decide, by decide⟩
  refine ⟨o, ts, kk + 1, ?_, h1, ⟨⟨o1, o2⟩, h2⟩, by simp only [List.length_nil] at h7; omega, fun q hq => by have := h4 q hq; simp only [List.length_nil] at h7; omega⟩
  have hs : small cn := by unfold small; omega
  have hs2 : cn ≤ 16777216 := by omega
  have hF : run fo__law_book_0 [.va (.ref 0), .va (.int n), .ow (.lst []), .va (.int 0), .un] (drw ns k) = .nx [.va (.ref 0), .va (.int n), .ow (.lst (ts.map tD)), .va (.int tick), .un] (drw ns kk) := by
    simp only [List.map_nil] at hL
    simp only [fo__law_book_0]
    simp [hcn, hs, hs2, rngI_rng]
    exact hL
  simp [f__law_book, fn, ir__law_book, line, hF, freeze, hp]
/-! ### a law's own ticks -/
abbrev tlD (f : Int) (ts : List Tn) : D := .tup [.int f, .lst (ts.map tD)]
theorem law_offset_ok (hA : Asc 0 ts) : f__law_offset [tlD f ts, .int k] m = .ok (.int (off f ts k), m) := by
  have hL : run fo__law_offset_0 [.va (tlD f ts), .va (.int k), .va (.int f), .un, .un] m = .nx [.va (tlD f ts), .va (.int k), .va (.int (off f ts k)), .un, .un] m := by
    have key := forL_fold (bnd := bindP (.tup (.cons (.name 3) (.cons (.name 4) .nil)))) (body := runs bd__law_offset_0) (clr := [3, 4]) (f := tD) (E := fun s : Int => [.va (tlD f ts), .va (.int k), .va (.int s), .un, .un]) (Mm := fun _ => m) (step := fun a p => if p.1 ≤ k then p.2 else a) (P := fun _ _ => True) (xs := ts) (s := f) trivial
      (fun s x r _ => ⟨trivial, _, rfl, [.va (tlD f ts), .va (.int k), .va (.int (if x.1 ≤ k then x.2 else s)), .va (.int x.1), .va (.int x.2)], .inl (by by_cases h : x.1 ≤ k <;> simp [bd__law_offset_0, h]), rfl⟩)
    rw [foldl_off hA] at key
    simp [fo__law_offset_0]
    exact key
  simp [f__law_offset, fn, ir__law_offset, hL]
theorem law_told_ok (hA : Asc 0 ts) : f__law_told [tlD f ts, .int k] m = .ok (.int (k + off f ts k), m) := by
  simp [f__law_told, fn, ir__law_told, law_offset_ok hA]
theorem law_built_ok (hB : Bok f ts) : f__law_built [tlD f ts] m = .ok (bkD f ts, m) := by
  have hf := hB.off.1
  have hL : run fo_Book_init_0 [.me 0 [], .va (.int f), .va (.lst (ts.map tD)), .va (.int 0), .un, .un] m = .nx [.me 0 [], .va (.int f), .va (.lst (ts.map tD)), .va (.int (ts.foldl (fun _ p => p.1 + 1) 0)), .un, .un] m := by
    have key := forL_fold (bnd := bindP (.tup (.cons (.name 4) (.cons (.name 5) .nil)))) (body := runs bd_Book_init_0) (clr := [4, 5]) (f := fun p : Tn × Nat => .tup [.int p.2, tD p.1]) (E := fun s : Int => [.me 0 [], .va (.int f), .va (.lst (ts.map tD)), .va (.int s), .un, .un]) (Mm := fun _ => m) (step := fun _ p => p.1.1 + 1)
      (P := fun s r => Asc s (r.map (·.1)) ∧ ∀ p ∈ r, p.1 ∈ ts) (xs := ts.zipIdx) (s := 0) ⟨by rw [List.zipIdx_map_fst]; exact hB.asc, fun p hp => by
        obtain ⟨q, j⟩ := p
        exact List.fst_mem_of_mem_zipIdx hp⟩ (fun s x r ⟨hs, hr⟩ => ?_)
    · have e : ∀ (l : List Tn) (n : Nat) (s : Int), (l.zipIdx n).foldl (fun _ p => p.1.1 + 1) s = l.foldl (fun _ p => p.1 + 1) s := by
        intro l
        induction l with
        | nil => intro n s; rfl
        | cons x r ih => intro n s; rw [List.zipIdx_cons, List.foldl_cons, List.foldl_cons, ih]
      rw [e] at key
      simp only [fo_Book_init_0]
      simp [enu_map]
      exact key
    · obtain ⟨⟨p1, p2⟩, j⟩ := x
      have hs1 : s ≤ p1 := hs.1
      have hm := hr ((p1, p2), j) List.mem_cons_self
      have ho := hB.off.2 _ hm
      have hh := hB.hi _ hm
      dsimp only at ho hh
      refine ⟨⟨hs.2, fun p hp => hr p (List.mem_cons_of_mem _ hp)⟩, _, rfl, [.me 0 [], .va (.int f), .va (.lst (ts.map tD)), .va (.int (p1 + 1)), .va (.int j), .va (.tup [.int p1, .int p2])], .inl ?_, rfl⟩
      simp [bd_Book_init_0, hs1, hh, ho]
  have e1 : ¬ (Str.ofString "first" = Str.ofString "turns") := by decide
  simp [f__law_built, fn, ir__law_built, i_Book, init, ir_Book_init, hf, hL, putS, Z.fieldsOf, e1]
theorem law_means_ok (hB : Bok f ts) (h1 : -899999991 ≤ t) (h2 : t ≤ 899999991) : f__law_means [tlD f ts, .int t] m = .ok (.lst ((mns 0 f ts t).map .int), m) := by
  have e0 : ∀ s2 : Sl, ev lc__law_means_0 [.va (tlD f ts), .va (.int t), s2] m = .ok (.lst ((mns 0 f ts t).map .int), m) := fun s2 => by
    have hm1 : (if (31 : Int) < t then t - 31 else 0) = max 0 (t - 31) := by split <;> omega
    have hm2 : (if (0 : Int) < t + 32 then t + 32 else 0) = max 0 (t + 32) := by split <;> omega
    have s1 : small (max 0 (t - 31)) := by unfold small; omega
    have s2' : small (max 0 (t + 32)) := by unfold small; omega
    have s3 : max 0 (t + 32) - max 0 (t - 31) ≤ 16777216 := by omega
    have h := ev_lc_if (p := .name 2) (src := .rng2 (.bi .max2 (.cons (.con (.int 0)) (.cons (.bin .sub (.var 1) (.con (.int 31))) .nil))) (.bi .max2 (.cons (.con (.int 0)) (.cons (.bin .add (.var 1) (.con (.int 32))) .nil)))) (c := .cmp .eq (.call "_law_told" f__law_told (.cons (.var 0) (.cons (.var 2) .nil))) (.var 1)) (e := .var 2)
      (ρ := [.va (tlD f ts), .va (.int t), s2]) (m := m) (m' := m) (rng (max 0 (t - 31)) (max 0 (t + 32) - max 0 (t - 31)).toNat) D.int (fun k => decide (k + off f ts k = t)) D.int (by simp [hm1, hm2, s1, s2', s3, rngI_rng]) fun x hx => ⟨_, rfl, by simp [law_told_ok hB.asc], fun _ => rfl⟩
    unfold lc__law_means_0
    rw [h, mns_scan hB.asc hB.off (by omega) (by omega) (by omega)]
  simp [f__law_means, fn, ir__law_means, e0]
end

end P35
end
section
set_option Elab.async false
set_option linter.all false
set_option maxRecDepth 100000
set_option maxHeartbeats 1000000
set_option autoImplicit false
namespace P35
open PySem Z
/-! B9: one round of the law. -/
section
open Bk
variable {f k t i a b e : Int} {ts : List Tn} {m : Mu} {d : D} {ns : List Int}
theorem runs_step {s : Sm} {ss : Sms} {ρ ρ' : Z.Env} {m m' : Mu} (h : Z.run s ρ m = .nx ρ' m') : runs (.cons s ss) ρ m = runs ss ρ' m' := by
  rw [runs_cons, h]
  rfl
def fmS {α β : Type} (g : α → Option β) (s : List β) (p : α) : List β := match g p with
  | some x => s ++ [x]
  | none => s
theorem foldl_fm {α β : Type} {g : α → Option β} : ∀ {l : List α} {s : List β}, l.foldl (fmS g) s = s ++ l.filterMap g
  | [], s => by simp
  | p :: l, s => by
    rw [List.foldl_cons, foldl_fm, List.filterMap_cons, fmS]
    cases g p <;> simp
def ovG (f t : Int) (ts : List Tn) (p : Tn × Nat) : Option Nat := if p.1.1 + offAt f ts p.2 ≤ t ∧ t < p.1.1 + p.1.2 then some p.2 else none
theorem law_over_ok (hB : Bok f ts) : f__law_over [tlD f ts, .int t] m = .ok (.lst ((overs t f 0 ts).map fun (i : Nat) => D.int i), m) := by
  have hl := hB.len
  have hL : Z.run fo__law_over_0 [.va (tlD f ts), .va (.int t), .ow (.lst []), .un, .un, .un, .un] m = .nx [.va (tlD f ts), .va (.int t), .ow (.lst ((overs t f 0 ts).map fun (i : Nat) => D.int i)), .un, .un, .un, .un] m := by
    have key := forL_fold (bnd := bindP (.tup (.cons (.name 3) (.cons (.tup (.cons (.name 4) (.cons (.name 5) .nil))) .nil)))) (body := runs bd__law_over_0) (clr := [3, 4, 5, 6]) (f := fun p : Tn × Nat => .tup [.int p.2, tD p.1])
      (E := fun s : List Nat => [.va (tlD f ts), .va (.int t), .ow (.lst (s.map fun (i : Nat) => D.int i)), .un, .un, .un, .un]) (Mm := fun _ => m) (step := fmS (ovG f t ts))
      (P := fun s r => s.length + r.length ≤ 100 ∧ ∀ p ∈ r, ts[p.2]? = some p.1) (xs := ts.zipIdx) (s := []) ⟨by simp; omega, fun p hp => zip_at hp⟩ (fun s p r ⟨hs, hr⟩ => ?_)
    · have ho : ts.zipIdx.filterMap (ovG f t ts) = overs t f 0 ts := by rw [overs_ok]; rfl
      rw [foldl_fm, ho] at key
      simp only [List.map_nil, List.nil_append] at key
      simp only [fo__law_over_0]
      simp [enu_map]
      exact key
    · have hs' : s.length + (r.length + 1) ≤ 100 := hs
      have hlen : s.length < 16777216 := by omega
      have hat := hr p List.mem_cons_self
      obtain ⟨⟨p1, p2⟩, j⟩ := p
      have hoff : (0 < j ∧ ∃ t' o, atD (ts.map tD) ((j : Int) - 1) = some (.tup [.int t', .int o]) ∧ offAt f ts j = o) ∨ (j = 0 ∧ offAt f ts j = f) := by
        cases j with
        | zero => exact .inr ⟨rfl, rfl⟩
        | succ n =>
          have hnl : n < ts.length := by have := (List.getElem?_eq_some_iff.mp hat).1; omega
          refine .inl ⟨by omega, ts[n].1, ts[n].2, ?_, ?_⟩
          · rw [show ((n + 1 : Nat) : Int) - 1 = (n : Int) by omega, atD_nat, at_tD (List.getElem?_eq_getElem hnl)]
          · rw [offAt_s]; simp [List.getElem?_eq_getElem hnl]
      refine ⟨⟨?_, fun q hq => hr q (List.mem_cons_of_mem _ hq)⟩, [.va (tlD f ts), .va (.int t), .ow (.lst (s.map fun (i : Nat) => D.int i)), .va (.int j), .va (.int p1), .va (.int p2), .un], rfl,
        [.va (tlD f ts), .va (.int t), .ow (.lst ((fmS (ovG f t ts) s ((p1, p2), j)).map fun (i : Nat) => D.int i)), .va (.int j), .va (.int p1), .va (.int p2), .va (.int (offAt f ts j))], .inl ?_, rfl⟩
      · show (fmS (ovG f t ts) s ((p1, p2), j)).length + r.length ≤ 100
        unfold fmS
        split
        · rw [List.length_append, List.length_singleton]; omega
        · omega
      · unfold fmS ovG
        dsimp only
        rcases hoff with ⟨h0, t', o, e2, e3⟩ | ⟨h0, e3⟩
        · have h0' : (0 : Int) < j := by omega
          rw [e3]
          by_cases q1 : p1 + o ≤ t
          · by_cases q2 : t < p1 + p2
            · simp [bd__law_over_0, h0, e2, q1, q2, line, hlen]
            · simp [bd__law_over_0, h0, e2, q1, q2, line, hlen]
          · simp [bd__law_over_0, h0, e2, q1, line, hlen]
        · rw [e3]
          subst h0
          by_cases q1 : p1 + f ≤ t
          · by_cases q2 : t < p1 + p2
            · simp [bd__law_over_0, q1, q2, line, hlen]
            · simp [bd__law_over_0, q1, q2, line, hlen]
          · simp [bd__law_over_0, q1, line, hlen]
  simp [f__law_over, fn, ir__law_over, hL, line, freeze]
theorem put_len {s : List (Int × Int)} {p : Int × Int} : (put s p).length ≤ s.length + 1 := by
  unfold put
  split
  · split <;> simp <;> omega
  · simp
theorem law_spans_ok {is : List Int} (hl : is.length ≤ 900000) : f__law_spans [.lst (is.map .int)] m = .ok (.lst ((is.foldl lsp []).map pD), m) := by
  have hL : Z.run fo__law_spans_0 [.va (.lst (is.map .int)), .va (.lst []), .un] m = .nx [.va (.lst (is.map .int)), .va (.lst ((is.foldl lsp []).map pD)), .un] m := by
    have key := forL_fold (bnd := bindP (.name 2)) (body := runs bd__law_spans_0) (clr := [2]) (f := D.int) (E := fun s : List (Int × Int) => [.va (.lst (is.map .int)), .va (.lst (s.map pD)), .un]) (Mm := fun _ => m) (step := lsp) (P := fun s r => s.length + r.length ≤ 900000) (xs := is) (s := []) (by simpa using hl) (fun s x r hs => ?_)
    · simp only [List.map_nil] at key
      simp [fo__law_spans_0]
      exact key
    · have hs' : s.length + (r.length + 1) ≤ 900000 := hs
      have hpl := put_len (s := s) (p := (x, x + 1))
      refine ⟨by show (put s (x, x + 1)).length + r.length ≤ 900000; omega, [.va (.lst (is.map .int)), .va (.lst (s.map pD)), .va (.int x)], rfl, [.va (.lst (is.map .int)), .va (.lst ((lsp s x).map pD)), .va (.int x)], .inl ?_, rfl⟩
      have hlm : (s.map pD).getLast? = s.getLast?.map pD := by simp
      unfold lsp put
      cases hg : s.getLast? with
      | none =>
        have hs0 : s = [] := List.getLast?_eq_none_iff.mp hg
        subst hs0
        have e0 : coSem .ne (.lst []) (.lst []) = some false := rfl
        simp [bd__law_spans_0, line, e0, boSem]
      | some q =>
        have hie : s.isEmpty = false := by cases s with
          | nil => cases hg
          | cons a r => rfl
        rw [hg] at hlm
        dsimp only [Option.map_some] at hlm
        have g1 : s.length - 1 + 1 ≤ 16777216 := by omega
        have g2 : s.length + 1 ≤ 16777216 := by omega
        by_cases hq : q.2 = x
        · simp [bd__law_spans_0, line, hie, hlm, hq, boSem, g1]
        · simp [bd__law_spans_0, line, hie, hlm, hq, boSem, g2]
  simp [f__law_spans, fn, ir__law_spans, hL, line]
/-! ### the law's frame -/
abbrev LV (ns : List Int) (s2 s3 s4 s5 s7 s8 s13 s14 s15 s16 s17 s19 s20 s21 s22 : Sl) : Z.Env := [.va (.lst (ns.map .int)), .va (.ref 0), s2, s3, s4, s5, .un, s7, s8, .un, .un, .un, .un, s13, s14, s15, s16, s17, .un, s19, s20, s21, s22, .un, .un, .un, .un]
theorem any_false {α : Type} {xs : List α} : biSem .any [.lst (xs.map fun _ => D.bl false)] = some (.bl false) := by
  have := bi_any_l (bs := xs.map fun _ => false)
  rw [List.map_map] at this
  have e : ∀ (xs : List α), (xs.map fun _ => false).any id = false := by
    intro xs
    induction xs with
    | nil => rfl
    | cons x xs ih => rw [List.map_cons, List.any_cons, ih]; rfl
  rw [e] at this
  exact this
theorem pln_rows {n : Nat} {l : List Rw} : pln (n + 3) (.lst (l.map rD)) = true := by
  rw [pln_list, List.all_eq_true]
  intro x hx
  obtain ⟨⟨l, h, o⟩, _, rfl⟩ := List.mem_map.mp hx
  cases h <;> rfl
theorem notin_2 {a x : D} (h1 : pln 39 a = true) (h2 : pln 39 x = true) : coSem .notin a (.tup [x, a]) = some false := by
  have e : pln deep (.tup [x, a]) = true := by
    rw [show deep = 39 + 1 from rfl, pln_tup]
    simp [h1, h2]
  show (if pln deep1 a ∧ pln deep (.tup [x, a]) then some (![x, a].any fun y => deq y a) else none) = _
  rw [if_pos ⟨h1, e⟩]
  simp [deq_refl h1]
theorem end_ok {s2 s4 s5 s7 s8 s13 s14 s15 s16 s17 s19 s20 s21 s22 : Sl} : ev (.bin .add (.ife (.cmp .ne (.idx (.var 3) (.con (.int 1))) (.lst .nil)) (.idx (.idx (.idx (.var 3) (.con (.int 1))) (.neg (.con (.int 1)))) (.con (.int 0))) (.con (.int 0))) (.con (.int 40))) (LV ns s2 (.va (tlD f ts)) s4 s5 s7 s8 s13 s14 s15 s16 s17 s19 s20 s21 s22) m = .ok (.int (lastL 0 ts + 40), m) := by
  cases h : ts.getLast? with
  | none =>
    have : ts = [] := List.getLast?_eq_none_iff.mp h
    subst this
    have e0 : coSem .ne (.lst []) (.lst []) = some false := rfl
    simp [line, e0, lastL]
  | some p =>
    have e1 := last_get (l := 0) h
    have hie : ts.isEmpty = false := by cases ts with
      | nil => cases h
      | cons a r => rfl
    have e2 : coSem .ne (.lst (ts.map tD)) (.lst []) = some true := by have := co_ne_ps0 (ps := ts); rw [hie] at this; exact this
    simp [line, e2, h, e1]
section
variable {s2 s3 s4 s5 s7 s8 s13 s14 s15 s16 s17 s19 s20 s21 s22 : Sl}
theorem lc0_ok (hB : Bok f ts) (h1 : 0 ≤ e) (h2 : e ≤ 100000) : ∃ n : Nat, ev lc_law_0 (LV ns s2 (.va (tlD f ts)) (.va (bkD f ts)) (.va (.int e)) s7 s8 s13 s14 s15 s16 s17 s19 s20 s21 s22) m = .ok (.lst ((List.range n).map fun _ => D.bl false), m) := by
  have hs : small e := by unfold small; omega
  have hs0 : small 0 := by unfold small; omega
  have hn : rngN 0 e 3 ≤ 16777216 := by
    unfold rngN
    rw [if_pos (by decide)]
    split <;> omega
  refine ⟨rngN 0 e 3, ev_lc_all (List.range (rngN 0 e 3)) (fun k => D.int (0 + (k : Int) * 3)) (fun _ => D.bl false) (by simp [hs, hs0, hn, rngI]) fun x hx => ⟨_, rfl, ?_⟩⟩
  simp [Book_offset_ok hB.asc hB.l9, Book_told_ok hB.asc hB.l9, law_offset_ok hB.asc, law_told_ok hB.asc]
theorem lc1_ok (hB : Bok f ts) : ev lc_law_1 (LV ns s2 s3 s4 s5 (.va (.lst (((0, f) :: ts).map tD))) s8 s13 s14 s15 s16 s17 s19 s20 s21 s22) m = .ok (.lst ((rws 0 f ts).map rD), m) := by
  have hl := hB.len
  have h := ev_lc_all (p := .tup (.cons (.name 9) (.cons (.tup (.cons (.name 10) (.cons (.name 11) .nil))) .nil))) (src := .enu (.var 7)) (e := .tup (.cons (.var 10) (.cons (.ife (.cmp .lt (.bin .add (.var 9) (.con (.int 1))) (.bi .len (.cons (.var 7) .nil))) (.idx (.idx (.var 7) (.bin .add (.var 9) (.con (.int 1)))) (.con (.int 0))) (.con .non)) (.cons (.var 11) .nil))))
    (ρ := LV ns s2 s3 s4 s5 (.va (.lst (((0, f) :: ts).map tD))) s8 s13 s14 s15 s16 s17 s19 s20 s21 s22) (m := m) (m' := m) (((0, f) :: ts).zipIdx) (fun p => D.tup [.int p.2, tD p.1]) (fun p => D.tup [.int p.1.1, hD ((((0, f) :: ts)[p.2 + 1]?).map (·.1)), .int p.1.2])
    (by rw [← enu_map]; simp) fun x hx => ⟨_, rfl, ?_⟩
  · unfold lc_law_1
    rw [h]
    have := rows_next (rows := (0, f) :: ts) (fun q h => D.tup [.int q.1, hD h, .int q.2]) (r := ts) (pre := []) (l := 0) (o := f) rfl
    simp only [List.length_nil] at this
    rw [this]
  · obtain ⟨⟨p1, p2⟩, j⟩ := x
    cases hj : ((0, f) :: ts)[j + 1]? with
    | none =>
      have hlt : ¬ ((j : Int) + 1 < (ts.length : Int) + 1) := by
        have := List.getElem?_eq_none_iff.mp hj
        simp only [List.length_cons] at this
        omega
      have hlt2 : ¬ ((j : Int) < (ts.length : Int)) := by omega
      simp [line, hlt2, hj]
    | some q =>
      have hlt : ((j : Int) < (ts.length : Int)) := by
        have := (List.getElem?_eq_some_iff.mp hj).1
        simp only [List.length_cons] at this
        omega
      have e2 : atD (D.tup [.int 0, .int f] :: ts.map tD) ((j : Int) + 1) = some (.tup [.int q.1, .int q.2]) := by
        rw [show ((j : Int) + 1) = ((j + 1 : Nat) : Int) by omega, atD_nat, show (D.tup [.int 0, .int f] :: ts.map tD) = ((0, f) :: ts).map tD from rfl, at_tD hj]
      rw [List.getElem?_cons_succ] at hj
      simp [line, hlt, hj, e2]
theorem lc2_ok (hB : Bok f ts) : ev lc_law_2 (LV ns s2 s3 (.va (bkD f ts)) s5 s7 s8 s13 s14 s15 s16 s17 s19 s20 s21 s22) m = .ok (.lst ((spn f ts).map rD), m) :=
  ev_lc_all (spn f ts) rD rD (by simp [Book_spans_ok hB]) fun x hx => ⟨_, rfl, by simp⟩
theorem lc3_ok (hB : Bok f ts) : ev lc_law_3 (LV ns s2 s3 s4 s5 s7 (.va (.lst ((rws 0 f ts).map rD))) s13 s14 s15 s16 s17 s19 s20 s21 s22) m = .ok (.lst ((spn f ts).map rD), m) :=
  ev_lc_if (rws 0 f ts) rD full rD (by simp) fun x hx => ⟨_, rfl, by
    have hle := rws_le hB.asc x hx
    obtain ⟨l, h, o⟩ := x
    cases h with
    | none =>
      have e0 : coSem .ne (.int l) .non = some true := rfl
      simp [full, e0]
    | some h =>
      have hle : l ≤ h := hle h rfl
      have e : (!decide (l = h)) = decide (l < h) := by
        by_cases q : l = h
        · simp [q]
        · simp [q]; omega
      simp [full, e], fun _ => rfl⟩
theorem lc4_ok (hB : Bok f ts) (h1 : 0 ≤ e) (h2 : e ≤ 100000) : ev lc_law_4 (LV ns s2 (.va (tlD f ts)) s4 (.va (.int e)) s7 s8 s13 s14 s15 s16 s17 s19 s20 s21 s22) m = .ok (.lst (((rng 0 (e + 70).toNat).map fun k => k + off f ts k).map .int), m) := by
  have hs : small (e + 70) := by unfold small; omega
  have hs2 : e + 70 ≤ 16777216 := by omega
  rw [List.map_map]
  exact ev_lc_all (rng 0 (e + 70).toNat) D.int _ (by simp [hs, hs2, rngI_rng]) fun x hx => ⟨_, rfl, by simp [law_told_ok hB.asc]⟩
theorem lc5_ok (h1 : -100000 ≤ a) (h2 : a ≤ 100000) (h3 : -100000 ≤ e) (h4 : e ≤ 100000) : ev lc_law_5 (LV ns s2 s3 s4 s5 s7 s8 s13 (.va (.int a)) (.va (.int e)) s16 s17 s19 s20 s21 s22) m = .ok (.lst ((to a (e + 70)).map fun i => D.tup [.int i, .int 0]), m) := by
  have hs : small a := by unfold small; omega
  have hs1 : small (e + 70) := by unfold small; omega
  have hs2 : e + 70 - a ≤ 16777216 := by omega
  exact ev_lc_all (rng a (e + 70 - a).toNat) D.int _ (by simp [hs, hs1, hs2, rngI_rng]) fun x hx => ⟨_, rfl, by simp [line]⟩
theorem lc6_ok (hB : Bok f ts) : ev lc_law_6 (LV ns s2 s3 (.va (bkD f ts)) s5 s7 s8 s13 s14 s15 s16 s17 s19 s20 s21 s22) m = .ok (.lst ((((runsOf f ts).filter fun p => decide (cnt 0 f ts p.1 = 0)).foldl put []).map pD), m) :=
  ev_lc_all _ pD pD (by simp [gaps_ok hB]) fun x hx => ⟨_, rfl, by simp⟩
theorem lc8_ok (hB : Bok f ts) : ev lc_law_8 (LV ns s2 s3 (.va (bkD f ts)) s5 s7 s8 s13 s14 s15 s16 s17 s19 s20 s21 s22) m = .ok (.lst ((((runsOf f ts).filter fun p => decide (1 < cnt 0 f ts p.1)).foldl put []).map pD), m) :=
  ev_lc_all _ pD pD (by simp [folds_ok hB]) fun x hx => ⟨_, rfl, by simp⟩
variable {ks : List Key} {vs : List D} {is l : List Int}
theorem lc7_ok (hc : Cnts is l ks vs) (hi : ∀ i ∈ to a (e + 30), i ∈ is) (h1 : -100000 ≤ a) (h2 : a ≤ 100000) (h3 : -100000 ≤ e) (h4 : e ≤ 100000) : ev lc_law_7 (LV ns s2 s3 s4 s5 s7 s8 s13 (.va (.int a)) (.va (.int e)) (.ow (.dic ks vs)) s17 s19 s20 s21 s22) m = .ok (.lst (((to a (e + 30)).filter fun t => decide (l.count t = 0)).map .int), m) := by
  have hs : small a := by unfold small; omega
  have hs1 : small (e + 30) := by unfold small; omega
  have hs2 : e + 30 - a ≤ 16777216 := by omega
  exact ev_lc_if (rng a (e + 30 - a).toNat) D.int _ D.int (by simp [hs, hs1, hs2, rngI_rng]) fun x hx => ⟨_, rfl, by simp [hc.at (hi x hx)] <;> omega, fun _ => rfl⟩
theorem lc9_ok (hc : Cnts is l ks vs) (hi : ∀ i ∈ to a (e + 30), i ∈ is) (h1 : -100000 ≤ a) (h2 : a ≤ 100000) (h3 : -100000 ≤ e) (h4 : e ≤ 100000) : ev lc_law_9 (LV ns s2 s3 s4 s5 s7 s8 s13 (.va (.int a)) (.va (.int e)) (.ow (.dic ks vs)) s17 s19 s20 s21 s22) m = .ok (.lst (((to a (e + 30)).filter fun t => decide (1 < l.count t)).map .int), m) := by
  have hs : small a := by unfold small; omega
  have hs1 : small (e + 30) := by unfold small; omega
  have hs2 : e + 30 - a ≤ 16777216 := by omega
  exact ev_lc_if (rng a (e + 30 - a).toNat) D.int _ D.int (by simp [hs, hs1, hs2, rngI_rng]) fun x hx => ⟨_, rfl, by simp [hc.at (hi x hx)] <;> omega, fun _ => rfl⟩
theorem lc10_ok (hc : Cnts is l ks vs) (hi : ∀ i ∈ to a (e + 30), i ∈ is) (h1 : -100000 ≤ a) (h2 : a ≤ 100000) (h3 : -100000 ≤ e) (h4 : e ≤ 100000) : ev lc_law_10 (LV ns s2 s3 s4 s5 s7 s8 s13 (.va (.int a)) (.va (.int e)) (.ow (.dic ks vs)) s17 s19 s20 s21 s22) m = .ok (.lst (((to a (e + 30)).map fun t => decide (l.count t = 1)).map .bl), m) := by
  have hs : small a := by unfold small; omega
  have hs1 : small (e + 30) := by unfold small; omega
  have hs2 : e + 30 - a ≤ 16777216 := by omega
  rw [List.map_map]
  exact ev_lc_all (rng a (e + 30 - a).toNat) D.int _ (by simp [hs, hs1, hs2, rngI_rng]) fun x hx => ⟨_, rfl, by simp [hc.at (hi x hx)] <;> omega⟩
theorem lc11_ok (hB : Bok f ts) (hc : Cnts is l ks vs) (hm : maxL ((lastL 0 ts + lastO f ts) :: ends 0 f ts) = b) (hi : ∀ i ∈ to (b + 1) (e + 30), i ∈ is ∧ l.count i = 1) (h1 : -100000 ≤ b) (h2 : b ≤ 100000) (h3 : -100000 ≤ e) (h4 : e ≤ 100000) : ev lc_law_11 (LV ns s2 s3 (.va (bkD f ts)) s5 s7 s8 s13 (.va (.int a)) (.va (.int e)) (.ow (.dic ks vs)) s17 s19 s20 s21 s22) m = .ok (.lst ((to (b + 1) (e + 30)).map fun _ => D.bl false), m) := by
  have hs : small (b + 1) := by unfold small; omega
  have hs1 : small (e + 30) := by unfold small; omega
  have hs2 : e + 30 - (b + 1) ≤ 16777216 := by omega
  have hlt := last_told_ok (m := m) hB
  rw [hm] at hlt
  exact ev_lc_all (rng (b + 1) (e + 30 - (b + 1)).toNat) D.int _ (by simp [hs, hs1, hs2, rngI_rng, hlt]) fun x hx => ⟨_, rfl, by simp [hc.at (hi x hx).1, (hi x hx).2]⟩
theorem lc12_ok (hl : ns.length ≤ 63) (h1 : 0 ≤ e) : ∃ (is : List Int) (k' : Int), ev lc_law_12 (LV ns s2 s3 s4 (.va (.int e)) s7 s8 s13 (.va (.int a)) s15 s16 s17 s19 s20 s21 s22) (drw ns k) = .ok (.lst (is.map .int), drw ns k') ∧ (∀ i ∈ is, a ≤ i ∧ i < a + e + 20) ∧ is.length = 12 := by
  have hs : small 12 := by unfold small; omega
  obtain ⟨k', ds, _, q2, q3, q4⟩ := ev_lc_ex (p := .name 18) (src := .rng1 (.con (.int 12))) (e := .bin .add (.var 14) (.call "_law_take" f__law_take (.cons (.var 1) (.cons (.bin .add (.var 5) (.con (.int 20))) .nil)))) (ρ := LV ns s2 s3 s4 (.va (.int e)) s7 s8 s13 (.va (.int a)) s15 s16 s17 s19 s20 s21 s22)
    (m0 := drw ns k) (Mm := fun k : Int => drw ns k) (P := fun _ => True) (Q := fun d => ∃ i, d = .int i ∧ a ≤ i ∧ i < a + e + 20) (s := k) (rng 0 12) D.int (by simp [hs, rngI_rng]) trivial fun s x hx _ => by
      obtain ⟨r, hr, r1, r2⟩ := law_take_ok (k := s) (n := e + 20) hl (by omega)
      exact ⟨s + 1, _, .int (a + r), trivial, ⟨_, rfl, by omega, by omega⟩, rfl, by simp [hr]⟩
  obtain ⟨is, rfl, g⟩ := ints_of q2
  exact ⟨is, k', q4, g, by rw [List.length_map, rng_len] at q3; exact q3⟩
/-- the times are counted -/
theorem fo0_ok (hc : Cnts is [] ks vs) (hl : is.length + l.length ≤ 900000) : ∃ ks' vs', Cnts is l ks' vs' ∧ Z.run fo_law_0 (LV ns s2 s3 s4 s5 s7 s8 (.va (.lst (l.map .int))) s14 s15 (.ow (.dic ks vs)) .un s19 s20 s21 s22) m = .nx (LV ns s2 s3 s4 s5 s7 s8 (.va (.lst (l.map .int))) s14 s15 (.ow (.dic ks' vs')) .un s19 s20 s21 s22) m := by
  obtain ⟨⟨l', ks', vs'⟩, ⟨hP, hlen⟩, hL⟩ := forL_ex (bnd := bindP (.name 17)) (body := runs bd_law_0) (clr := [17]) (f := D.int) (E := fun s : List Int × List Key × List D => LV ns s2 s3 s4 s5 s7 s8 (.va (.lst (l.map .int))) s14 s15 (.ow (.dic s.2.1 s.2.2)) .un s19 s20 s21 s22) (Mm := fun _ => m)
    (P := fun s r => Cnts is s.1 s.2.1 s.2.2 ∧ s.1 ++ r = l) (xs := l) (s := ([], ks, vs)) ⟨hc, rfl⟩ fun ⟨l', ks', vs'⟩ x r ⟨hP, hlen⟩ => by
      have hP : Cnts is l' ks' vs' := hP
      have hlen : l' ++ x :: r = l := hlen
      refine ⟨(l' ++ [x], _, _), ⟨hP.put x, by simp only [List.append_assoc, List.singleton_append]; exact hlen⟩, LV ns s2 s3 s4 s5 s7 s8 (.va (.lst (l.map .int))) s14 s15 (.ow (.dic ks' vs')) (.va (.int x)) s19 s20 s21 s22, rfl,
        LV ns s2 s3 s4 s5 s7 s8 (.va (.lst (l.map .int))) s14 s15 (.ow (.dic (dput (.inl x) (.int (l'.count x + 1)) ks' vs').1 (dput (.inl x) (.int (l'.count x + 1)) ks' vs').2)) (.va (.int x)) s19 s20 s21 s22, .inl ?_, rfl⟩
      have hsz := hP.sz
      have hll := congrArg List.length hlen
      simp only [List.length_append, List.length_cons] at hll
      have hk : ks'.length < 16777216 := by omega
      have hv := hP.val x
      simp [bd_law_0, hv, storeD, line, hk]
  refine ⟨ks', vs', ?_, ?_⟩
  · have e : l' = l := by simpa using hlen
    rw [← e]; exact hP
  · simp only [fo_law_0]
    simp
    exact hL
end
end

end P35
end
section
set_option Elab.async false
set_option linter.all false
set_option maxRecDepth 100000
set_option maxHeartbeats 1000000
set_option autoImplicit false
namespace P35
open PySem Z
/-! B10: the law. -/
section
open Bk
variable {f k t i a b e : Int} {ts : List Tn} {m : Mu} {d : D} {ns : List Int}
theorem mns_len : (mns 0 f ts t).length ≤ ts.length + 1 := by
  have h : ∀ (ts : List Tn) (l o : Int), (rws l o ts).length = ts.length + 1 := by
    intro ts
    induction ts with
    | nil => intro l o; rfl
    | cons p r ih => intro l o; obtain ⟨a, b⟩ := p; rw [rws, List.length_cons, ih]; rfl
  have h1 := List.length_filter_le (cov t) (rws 0 f ts)
  rw [h] at h1
  unfold mns
  rw [List.length_map]
  exact h1
theorem judge_bool : callTab [(1, m_One_bool), (2, m_Never_bool), (3, m_Many_bool)] (judgeD f ts t) [] m = .ok (.bl (decide (((mns 0 f ts t).length : Int) = 1)), m) := by
  unfold judgeD
  cases mns 0 f ts t with
  | nil => rfl
  | cons x r =>
    cases r with
    | nil => rfl
    | cons y r =>
      have hn : ¬ (((x :: y :: r).length : Int) = 1) := by simp only [List.length_cons]; omega
      rw [decide_eq_false hn]
      rfl
theorem judge_in {T : List (Nat × Fn)} (h : ∀ c, c = 1 ∨ c = 2 ∨ c = 3 → (lookN T c).isSome = true) : inTab T (judgeD f ts t) = true := by
  unfold judgeD
  cases mns 0 f ts t with
  | nil => exact h _ (.inr (.inl rfl))
  | cons x r =>
    cases r with
    | nil => exact h _ (.inl rfl)
    | cons y r => exact h _ (.inr (.inr rfl))
theorem judge_ins : isIns (judgeD f ts t) = true := by
  unfold judgeD
  cases mns 0 f ts t with
  | nil => rfl
  | cons x r => cases r <;> rfl
theorem judge_shows (hB : Bok f ts) (h1 : -899999991 ≤ t) (h2 : t ≤ 899999991) : callTab [(1, m_One_shows), (2, m_Never_shows), (3, m_Many_shows)] (judgeD f ts t) [bkD f ts, .int t] m = .ok (.bl true, m) := by
  unfold judgeD
  cases hM : mns 0 f ts t with
  | nil =>
    cases hO : overs t f 0 ts with
    | nil =>
      have hlt : t < minL (begs 0 f ts) := over_ex hO hM _ (minL_mem begs_ne)
      have := Never_shows_n (m := m) hB h1 h2
      rw [decide_eq_true ⟨hM, hlt⟩] at this
      exact this
    | cons j r =>
      have := Never_shows_i (m := m) (j := j) hB h1 h2
      rw [decide_eq_true ⟨hM, by rw [hO]; exact List.mem_cons_self⟩] at this
      exact this
  | cons x r =>
    cases r with
    | nil =>
      have := One_shows_ok (m := m) (a := x) hB h1 h2
      rw [decide_eq_true hM] at this
      exact this
    | cons y r =>
      have := Many_shows_ok (m := m) (is := x :: y :: r) hB h1 h2
      rw [decide_eq_true ⟨by rw [hM]; simp, hM⟩] at this
      exact this
theorem judge_eq : callTab [(1, m_One_eq), (2, m_Never_eq), (3, m_Many_eq)] (judgeD f ts t) [judgeD f ts t] m = .ok (.bl true, m) := by
  unfold judgeD
  cases hM : mns 0 f ts t with
  | nil =>
    cases hO : overs t f 0 ts with
    | nil => exact Never_eq_nn
    | cons j r =>
      have := Never_eq_ii (m := m) (a := j) (b := j)
      rw [decide_eq_true rfl] at this
      exact this
  | cons x r =>
    cases r with
    | nil =>
      have := One_eq_ii (m := m) (a := x) (b := x)
      rw [decide_eq_true rfl] at this
      exact this
    | cons y r =>
      have := Many_eq_ii (m := m) (is := x :: y :: r) (js := x :: y :: r)
      rw [decide_eq_true rfl] at this
      exact this
theorem many_more (hB : Bok f ts) (h1 : -899999991 ≤ t) (h2 : t ≤ 899999991) : m_Many_shows [.ins 3 [.tup ((mns 0 f ts t).map D.int ++ [.int a])], bkD f ts, .int t] m = .ok (.bl false, m) := by
  have := Many_shows_ok (m := m) (is := mns 0 f ts t ++ [a]) hB h1 h2
  rw [List.map_append, decide_eq_false (fun z => by
    have := congrArg List.length z.2
    simp at this)] at this
  exact this
theorem many_same (hB : Bok f ts) (h1 : -899999991 ≤ t) (h2 : t ≤ 899999991) : m_Many_shows [.ins 3 [.tup ((mns 0 f ts t).map D.int)], bkD f ts, .int t] m = .ok (.bl (decide ((1 : Int) < (mns 0 f ts t).length)), m) := by
  have := Many_shows_ok (m := m) (is := mns 0 f ts t) hB h1 h2
  rw [this]
  congr 3
  simp
  omega
theorem co_eq_is1 {is : List Int} : coSem .eq (.lst (is.map .int)) (.lst [.int a]) = some (decide (is = [a])) := co_eq_is (is := is) (js := [a])
theorem co_in_nat {j : Nat} {O : List Nat} : coSem .in_ (.int j) (.lst (O.map fun (i : Nat) => D.int i)) = some (decide (j ∈ O)) := by
  have e1 : pln deep1 (.int (j : Int)) = true := rfl
  have e2 : pln deep (.lst (O.map fun (i : Nat) => D.int i)) = true := by
    rw [show deep = 39 + 1 from rfl, pln_list, List.all_eq_true]
    intro x hx
    obtain ⟨i, _, rfl⟩ := List.mem_map.mp hx
    rfl
  show (if pln deep1 (.int (j : Int)) ∧ pln deep (.lst (O.map fun (i : Nat) => D.int i)) then some ((O.map fun (i : Nat) => D.int i).any fun x => deq x (.int j)) else none) = _
  rw [if_pos ⟨e1, e2⟩, List.any_map]
  congr 1
  rw [Bool.eq_iff_iff, List.any_eq_true, decide_eq_true_eq]
  constructor
  · rintro ⟨x, hx, h⟩
    have h : ((x : Int) == (j : Int)) = true := h
    have : x = j := by have := beq_iff_eq.mp h; omega
    subst this; exact hx
  · intro h
    exact ⟨j, h, by show ((j : Int) == (j : Int)) = true; simp⟩
section
variable {s2 s3 s4 s5 s7 s8 s13 s14 s15 s16 s17 s19 s20 s21 s22 : Sl}
theorem due_ok (hl : ts.length ≤ 24) : ev (.ife (.cmp .eq (.bi .len (.cons (.var 19) .nil)) (.con (.int 1))) (.make "One" 1 i_One (.cons (.idx (.var 19) (.con (.int 0))) .nil)) (.ife (.cmp .ne (.var 19) (.lst .nil)) (.make "Many" 3 i_Many (.cons (.var 19) .nil)) (.make "Never" 2 i_Never (.cons (.ife (.cmp .ne (.var 20) (.lst .nil)) (.idx (.var 20) (.con (.int 0))) (.con .non)) .nil))))
    (LV ns s2 s3 s4 s5 s7 s8 s13 s14 s15 s16 s17 (.va (.lst ((mns 0 f ts t).map .int))) (.va (.lst ((overs t f 0 ts).map fun (i : Nat) => D.int i))) s21 s22) m = .ok (judgeD f ts t, m) := by
  unfold judgeD
  have e0 : coSem .ne (.lst []) (.lst []) = some false := rfl
  cases hM : mns 0 f ts t with
  | nil =>
    cases hO : overs t f 0 ts with
    | nil => simp [line, e0]
    | cons j r =>
      have e1 : coSem .ne (.lst (.int j :: r.map fun (i : Nat) => D.int i)) (.lst []) = some true := by
        have := co_ne_is0 (is := (j : Int) :: r.map fun (i : Nat) => (i : Int))
        rw [List.map_cons, List.map_map] at this
        exact this
      simp [line, e0, e1]
  | cons x r =>
    cases r with
    | nil => simp [line]
    | cons y r =>
      have hn : ¬ ((r.length : Int) + 1 + 1 = 1) := by omega
      have e1 : coSem .ne (.lst (.int x :: .int y :: r.map .int)) (.lst []) = some true := co_ne_is0 (is := x :: y :: r)
      simp [line, hn, e1]
theorem lc13_ok (hB : Bok f ts) (h1 : -899999991 ≤ t) (h2 : t ≤ 899999991) : ev lc_law_13 (LV ns s2 s3 (.va (bkD f ts)) s5 s7 s8 s13 s14 s15 s16 (.va (.int t)) (.va (.lst ((mns 0 f ts t).map .int))) (.va (.lst ((overs t f 0 ts).map fun (i : Nat) => D.int i))) s21 s22) m = .ok (.lst ((rng 0 9).map fun _ => D.bl false), m) := by
  have hs : small 9 := by unfold small; omega
  refine ev_lc_all (rng 0 9) D.int _ (by simp [hs, rngI_rng]) fun x hx => ⟨_, rfl, ?_⟩
  obtain ⟨j, rfl⟩ : ∃ j : Nat, x = (j : Int) := ⟨x.toNat, by have := mem_rng.mp hx; omega⟩
  cases hM : (mns 0 f ts t).isEmpty with
  | true =>
    have hM2 : (mns 0 f ts t = []) = True := eq_true (List.isEmpty_iff.mp hM)
    simp [Never_shows_i hB h1 h2, line, hM, co_in_nat, hM2]
  | false =>
    have hM2 : ¬ (mns 0 f ts t = []) := fun z => by rw [z] at hM; cases hM
    simp [Never_shows_i hB h1 h2, line, hM, hM2]
theorem time_ok (hB : Bok f ts) (h1 : -899999991 ≤ t) (h2 : t ≤ 899999991) : runs bd_law_1 (LV ns s2 (.va (tlD f ts)) (.va (bkD f ts)) s5 s7 s8 s13 (.va (.int (minL (begs 0 f ts)))) s15 s16 (.va (.int t)) .un .un .un .un) m =
    .nx (LV ns s2 (.va (tlD f ts)) (.va (bkD f ts)) s5 s7 s8 s13 (.va (.int (minL (begs 0 f ts)))) s15 s16 (.va (.int t)) (.va (.lst ((mns 0 f ts t).map .int))) (.va (.lst ((overs t f 0 ts).map fun (i : Nat) => D.int i))) (.va (judgeD f ts t)) (.va (judgeD f ts t))) m := by
  have hl := hB.len
  have hml := mns_len (f := f) (ts := ts) (t := t)
  have hl1 : (mns 0 f ts t).length + 1 ≤ 16777216 := by omega
  unfold bd_law_1
  rw [runs_step (ρ' := LV ns s2 (.va (tlD f ts)) (.va (bkD f ts)) s5 s7 s8 s13 (.va (.int (minL (begs 0 f ts)))) s15 s16 (.va (.int t)) (.va (.lst ((mns 0 f ts t).map .int))) (.va (.lst ((overs t f 0 ts).map fun (i : Nat) => D.int i))) .un .un) (m' := m) (by simp [law_means_ok hB h1 h2, law_over_ok hB, line, bindP, bindPs])]
  rw [runs_step (ρ' := LV ns s2 (.va (tlD f ts)) (.va (bkD f ts)) s5 s7 s8 s13 (.va (.int (minL (begs 0 f ts)))) s15 s16 (.va (.int t)) (.va (.lst ((mns 0 f ts t).map .int))) (.va (.lst ((overs t f 0 ts).map fun (i : Nat) => D.int i))) (.va (judgeD f ts t)) .un) (m' := m) (by simp [judge_told_ok hB h1 h2])]
  rw [runs_step (ρ' := LV ns s2 (.va (tlD f ts)) (.va (bkD f ts)) s5 s7 s8 s13 (.va (.int (minL (begs 0 f ts)))) s15 s16 (.va (.int t)) (.va (.lst ((mns 0 f ts t).map .int))) (.va (.lst ((overs t f 0 ts).map fun (i : Nat) => D.int i))) (.va (judgeD f ts t)) .un) (m' := m) (by
    have hin := judge_in (f := f) (ts := ts) (t := t) (T := [(1, m_One_shows), (2, m_Never_shows), (3, m_Many_shows)]) fun c hc => by rcases hc with rfl | rfl | rfl <;> rfl
    simp [meanings_ok hB h1 h2, judge_bool, judge_shows hB h1 h2, hin])]
  rw [runs_step (ρ' := LV ns s2 (.va (tlD f ts)) (.va (bkD f ts)) s5 s7 s8 s13 (.va (.int (minL (begs 0 f ts)))) s15 s16 (.va (.int t)) (.va (.lst ((mns 0 f ts t).map .int))) (.va (.lst ((overs t f 0 ts).map fun (i : Nat) => D.int i))) (.va (judgeD f ts t)) (.va (judgeD f ts t))) (m' := m) (by rw [run_asg, due_ok hl]; rfl)]
  rw [runs_step (ρ' := LV ns s2 (.va (tlD f ts)) (.va (bkD f ts)) s5 s7 s8 s13 (.va (.int (minL (begs 0 f ts)))) s15 s16 (.va (.int t)) (.va (.lst ((mns 0 f ts t).map .int))) (.va (.lst ((overs t f 0 ts).map fun (i : Nat) => D.int i))) (.va (judgeD f ts t)) (.va (judgeD f ts t))) (m' := m) (by
    by_cases hc : ((mns 0 f ts t).length : Int) = 1
    · simp [judge_ins, judge_eq, One_shows_ok hB h1 h2, co_eq_is1, boSem, hl1, many_more hB h1 h2, line, hc]
    · simp [judge_ins, judge_eq, One_shows_ok hB h1 h2, co_eq_is1, boSem, hl1, many_more hB h1 h2, many_same hB h1 h2, line, hc])]
  rw [runs_step (ρ' := LV ns s2 (.va (tlD f ts)) (.va (bkD f ts)) s5 s7 s8 s13 (.va (.int (minL (begs 0 f ts)))) s15 s16 (.va (.int t)) (.va (.lst ((mns 0 f ts t).map .int))) (.va (.lst ((overs t f 0 ts).map fun (i : Nat) => D.int i))) (.va (judgeD f ts t)) (.va (judgeD f ts t))) (m' := m) (by
    cases hM : (mns 0 f ts t).isEmpty with
    | true =>
      have hM2 : (mns 0 f ts t = []) = True := eq_true (List.isEmpty_iff.mp hM)
      simp [lc13_ok hB h1 h2, any_false, Never_shows_n hB h1 h2, One_shows_n hB h1 h2, Never_shows_s hB h1 h2, line, hM, hM2]
    | false =>
      have hM2 : ¬ (mns 0 f ts t = []) := fun z => by rw [z] at hM; cases hM
      simp [lc13_ok hB h1 h2, any_false, Never_shows_n hB h1 h2, One_shows_n hB h1 h2, Never_shows_s hB h1 h2, line, hM, hM2])]
  rfl
end
theorem round_ok {s2 : Sl} (hl : ns.length ≤ 63) : ∃ (k' : Int) (ρ2 : Z.Env), runs bd_law_2 (LV ns s2 .un .un .un .un .un .un .un .un .un .un .un .un .un .un) (drw ns k) = .nx ρ2 (drw ns k') ∧ clear ρ2 [2, 3, 4, 5, 7, 8, 13, 14, 15, 16, 17, 19, 20, 21, 22] = LV ns .un .un .un .un .un .un .un .un .un .un .un .un .un .un .un := by
  obtain ⟨f, ts, k1, hbk, hD⟩ := law_book_ok (k := k) (n := 8) hl (by decide)
  have hB := hD.bok (by decide)
  have hL0 := last_ge hD.asc
  have hLh : lastL 0 ts ≤ 320 := by
    have : ∀ (ts : List Tn) (l : Int), l ≤ 320 → (∀ p ∈ ts, p.1 ≤ 320) → lastL l ts ≤ 320 := by
      intro ts
      induction ts with
      | nil => intro l h _; exact h
      | cons p r ih => intro l h h2; obtain ⟨a, b⟩ := p; rw [lastL]; exact ih a (h2 (a, b) List.mem_cons_self) fun p hp => h2 p (List.mem_cons_of_mem _ hp)
    exact this ts 0 (by decide) fun p hp => by have := hD.hi p hp; omega
  obtain ⟨e, he⟩ : ∃ e, lastL 0 ts + 40 = e := ⟨_, rfl⟩
  obtain ⟨lo, hlo⟩ : ∃ lo, minL (begs 0 f ts) = lo := ⟨_, rfl⟩
  have hbr : ∀ p ∈ brks 0 f ts, p ≤ lastL 0 ts + 5 := fun p hp => by
    rcases List.mem_append.mp hp with q | q
    · obtain ⟨k, g1, g2, g3⟩ := begs_told hD.asc q
      have := off_b (k := k) hD.off
      omega
    · obtain ⟨r, hr, rfl⟩ := List.mem_map.mp q
      obtain ⟨q1, q2, q3, q4⟩ := spf_at hD.asc r hr
      have := off_b (k := r.1) hD.off
      omega
  have hlob : -5 ≤ lo ∧ lo ≤ lastL 0 ts + 5 := by
    have hm := minL_mem (is := begs 0 f ts) begs_ne
    rw [hlo] at hm
    obtain ⟨k, g1, g2, g3⟩ := begs_told hD.asc hm
    have := off_b (k := k) hD.off
    omega
  obtain ⟨n0, hc0⟩ := lc0_ok (ns := ns) (m := drw ns k1) (e := e) (s2 := s2) (s7 := .un) (s8 := .un) (s13 := .un) (s14 := .un) (s15 := .un) (s16 := .un) (s17 := .un) (s19 := .un) (s20 := .un) (s21 := .un) (s22 := .un) hB (by omega) (by omega)
  obtain ⟨ev1, hev⟩ : ∃ l, ((rng 0 (e + 70).toNat).map fun k => k + off f ts k) = l := ⟨_, rfl⟩
  have hevl : ev1.length = (e + 70).toNat := by rw [← hev, List.length_map, rng_len]
  obtain ⟨ks, vs, hdic, hcn⟩ := bi_dict0 (is := to lo (e + 70))
  have htl : (to lo (e + 70)).length = (e + 70 - lo).toNat := rng_len
  obtain ⟨ks', vs', hcn', hf0⟩ := fo0_ok (m := drw ns k1) (ns := ns) (l := ev1) (s2 := s2) (s3 := .va (tlD f ts)) (s4 := .va (bkD f ts)) (s5 := .va (.int e)) (s7 := .va (.lst (((0, f) :: ts).map tD))) (s8 := .va (.lst ((rws 0 f ts).map rD))) (s14 := .va (.int lo)) (s15 := .va (.int e)) (s19 := .un) (s20 := .un) (s21 := .un) (s22 := .un) hcn (by omega)
  obtain ⟨is, k2, hc12, his, his2⟩ := lc12_ok (ns := ns) (k := k1) (e := e) (a := lo) (s2 := s2) (s3 := .va (tlD f ts)) (s4 := .va (bkD f ts)) (s7 := .va (.lst (((0, f) :: ts).map tD))) (s8 := .va (.lst ((rws 0 f ts).map rD))) (s13 := .va (.lst (ev1.map .int))) (s15 := .va (.int e)) (s16 := .ow (.dic ks' vs')) (s17 := .un) (s19 := .un) (s20 := .un) (s21 := .un) (s22 := .un) hl (by omega)
  have hct : ∀ t, t < e + 30 → ev1.count t = cnt 0 f ts t := fun t ht => by
    rw [← hev]
    exact count_scan hB.asc hB.off (by decide) (by omega)
  have hin : ∀ i ∈ to lo (e + 30), i ∈ to lo (e + 70) := fun i hi => by
    have := mem_to.mp hi
    exact mem_to.mpr (by omega)
  have hfl : ∀ (P : Nat → Bool), (to lo (e + 30)).filter (fun t => P (ev1.count t)) = (to lo (e + 30)).filter fun t => P (cnt 0 f ts t) := fun P => by
    apply List.filter_congr
    intro t ht
    rw [hct t (mem_to.mp ht).2]
  have hbr2 : ∀ p ∈ brks 0 f ts, p ≤ e + 30 := fun p hp => by have := hbr p hp; omega
  have hg := runs_spans (f := f) (ts := ts) (H := e + 30) (fun n => decide (n = 0)) (by decide) hbr2
  have hfo := runs_spans (f := f) (ts := ts) (H := e + 30) (fun n => decide (1 < n)) (by decide) hbr2
  have hal := runs_all (f := f) (ts := ts) (H := e + 30) hbr2
  rw [hlo] at hg hfo hal
  have hfll : ∀ (P : Int → Bool), ((to lo (e + 30)).filter P).length ≤ 900000 := fun P => by
    have h1 := List.length_filter_le P (to lo (e + 30))
    have h2 : (to lo (e + 30)).length = (e + 30 - lo).toNat := rng_len
    omega
  obtain ⟨bl, hbl⟩ : ∃ b, maxL ((lastL 0 ts + lastO f ts) :: ends 0 f ts) = b := ⟨_, rfl⟩
  have hblb : -5 ≤ bl ∧ bl ≤ lastL 0 ts + 5 ∧ lo ≤ bl := by
    have hLm : lastL 0 ts + lastO f ts ∈ begs 0 f ts := List.mem_append_right _ List.mem_cons_self
    have g1 := maxL_ge (is := (lastL 0 ts + lastO f ts) :: ends 0 f ts) List.mem_cons_self
    have g2 := minL_le hLm
    have g3 : bl ∈ (lastL 0 ts + lastO f ts) :: ends 0 f ts := by
      rw [← hbl]
      rcases Bk.maxI_mem (xs := ends 0 f ts) (a := lastL 0 ts + lastO f ts) with q | q
      · show maxI _ _ ∈ _
        rw [q]; exact List.mem_cons_self
      · exact List.mem_cons_of_mem _ q
    have g4 : bl ≤ lastL 0 ts + 5 := by
      rcases List.mem_cons.mp g3 with q | q
      · rw [q]; exact hbr _ (List.mem_append_left _ hLm)
      · exact hbr _ (List.mem_append_right _ q)
    rw [hbl] at g1
    rw [hlo] at g2
    omega
  have hone : ∀ i ∈ to (bl + 1) (e + 30), i ∈ to lo (e + 70) ∧ ev1.count i = 1 := fun i hi => by
    obtain ⟨g1, g2⟩ := mem_to.mp hi
    refine ⟨mem_to.mpr (by omega), ?_⟩
    rw [hct i g2]
    have gm : ∀ x ∈ (lastL 0 ts + lastO f ts) :: ends 0 f ts, x ≤ i := fun x hx => by
      have := maxL_ge hx
      rw [hbl] at this
      omega
    exact cnt_late (gm _ List.mem_cons_self) fun p hp => gm p (List.mem_cons_of_mem _ hp)
  have hmin : biSem .min1 [.lst ((ev1.map D.int).take (e + 35).toNat)] = some (.int lo) := by
    have e1 : ev1.take (e + 35).toNat = (rng 0 (e + 35).toNat).map fun k => k + off f ts k := by
      rw [← hev, ← List.map_take]
      congr 1
      rw [show (e + 70).toNat = (e + 35).toNat + 35 by omega, rng_add]
      exact List.take_left' rng_len
    rw [← List.map_take, e1, bi_min_l (by
      intro z
      have := congrArg List.length z
      rw [List.length_map, rng_len, List.length_nil] at this
      omega), least_scan hB.asc (by omega), hlo]
  have hcut : cutD (ev1.map D.int) none (some (e + 35)) = (ev1.map D.int).take (e + 35).toNat := cut_to (by omega)
  refine ⟨k2, LV ns s2 (.va (tlD f ts)) (.va (bkD f ts)) (.va (.int e)) (.va (.lst (((0, f) :: ts).map tD))) (.va (.lst ((rws 0 f ts).map rD))) (.va (.lst (ev1.map .int))) (.va (.int lo)) (.va (.int e)) (.ow (.dic ks' vs')) .un .un .un .un .un, ?_, rfl⟩
  unfold bd_law_2
  rw [runs_step (ρ' := LV ns s2 (.va (tlD f ts)) .un .un .un .un .un .un .un .un .un .un .un .un .un) (m' := drw ns k1) (by
    have hbk' : f__law_book [.ref 0, .int 8] (drw ns k) = .ok (.tup [.int f, .lst (ts.map tD)], drw ns k1) := hbk
    simp [hbk'])]
  rw [runs_step (ρ' := LV ns s2 (.va (tlD f ts)) (.va (bkD f ts)) (.va (.int e)) .un .un .un .un .un .un .un .un .un .un .un) (m' := drw ns k1) (by
    have he2 := end_ok (f := f) (ts := ts) (ns := ns) (m := drw ns k1) (s2 := s2) (s4 := .un) (s5 := .un) (s7 := .un) (s8 := .un) (s13 := .un) (s14 := .un) (s15 := .un) (s16 := .un) (s17 := .un) (s19 := .un) (s20 := .un) (s21 := .un) (s22 := .un)
    rw [he] at he2
    rw [run_asgT, ev_tup, evs_cons, ev_call, evs_cons, ev_var]
    simp only [R.bind_ok, R.of_some, getV_s, getV_0, evs_nil, law_built_ok hB]
    rw [evs_cons, he2]
    simp [line, bindP, bindPs])]
  rw [runs_step (ρ' := LV ns s2 (.va (tlD f ts)) (.va (bkD f ts)) (.va (.int e)) .un .un .un .un .un .un .un .un .un .un .un) (m' := drw ns k1) (by simp [hc0, any_false])]
  rw [runs_step (ρ' := LV ns s2 (.va (tlD f ts)) (.va (bkD f ts)) (.va (.int e)) (.va (.lst (((0, f) :: ts).map tD))) .un .un .un .un .un .un .un .un .un .un) (m' := drw ns k1) (by
    have := hB.len
    have h1 : ts.length + 1 ≤ 16777216 := by omega
    have h2 : 1 + ts.length ≤ 16777216 := by omega
    simp [line, boSem, h1, h2])]
  rw [runs_step (ρ' := LV ns s2 (.va (tlD f ts)) (.va (bkD f ts)) (.va (.int e)) (.va (.lst (((0, f) :: ts).map tD))) (.va (.lst ((rws 0 f ts).map rD))) .un .un .un .un .un .un .un .un .un) (m' := drw ns k1) (by rw [run_asg, lc1_ok hB]; rfl)]
  rw [runs_step (ρ' := LV ns s2 (.va (tlD f ts)) (.va (bkD f ts)) (.va (.int e)) (.va (.lst (((0, f) :: ts).map tD))) (.va (.lst ((rws 0 f ts).map rD))) .un .un .un .un .un .un .un .un .un) (m' := drw ns k1) (by
    simp [lc2_ok hB, lc3_ok hB, line, notin_2 (pln_rows (n := 36)) (pln_rows (n := 36))])]
  rw [runs_step (ρ' := LV ns s2 (.va (tlD f ts)) (.va (bkD f ts)) (.va (.int e)) (.va (.lst (((0, f) :: ts).map tD))) (.va (.lst ((rws 0 f ts).map rD))) (.va (.lst (ev1.map .int))) .un .un .un .un .un .un .un .un) (m' := drw ns k1) (by rw [run_asg, lc4_ok hB (by omega) (by omega), hev]; rfl)]
  rw [runs_step (ρ' := LV ns s2 (.va (tlD f ts)) (.va (bkD f ts)) (.va (.int e)) (.va (.lst (((0, f) :: ts).map tD))) (.va (.lst ((rws 0 f ts).map rD))) (.va (.lst (ev1.map .int))) (.va (.int lo)) (.va (.int e)) .un .un .un .un .un .un) (m' := drw ns k1) (by
    simp [hcut, hmin, line, bindP, bindPs])]
  rw [runs_step (ρ' := LV ns s2 (.va (tlD f ts)) (.va (bkD f ts)) (.va (.int e)) (.va (.lst (((0, f) :: ts).map tD))) (.va (.lst ((rws 0 f ts).map rD))) (.va (.lst (ev1.map .int))) (.va (.int lo)) (.va (.int e)) (.ow (.dic ks vs)) .un .un .un .un .un) (m' := drw ns k1) (by
    simp [lc5_ok (show -100000 ≤ lo by omega) (show lo ≤ 100000 by omega) (show -100000 ≤ e by omega) (show e ≤ 100000 by omega), hdic])]
  rw [runs_step hf0]
  rw [runs_step (ρ' := LV ns s2 (.va (tlD f ts)) (.va (bkD f ts)) (.va (.int e)) (.va (.lst (((0, f) :: ts).map tD))) (.va (.lst ((rws 0 f ts).map rD))) (.va (.lst (ev1.map .int))) (.va (.int lo)) (.va (.int e)) (.ow (.dic ks' vs')) .un .un .un .un .un) (m' := drw ns k1) (by
    have h7 := fun (s2 s3 s4 s5 s7 s8 s13 s17 s19 s20 s21 s22 : Sl) => lc7_ok (ns := ns) (m := drw ns k1) (s2 := s2) (s3 := s3) (s4 := s4) (s5 := s5) (s7 := s7) (s8 := s8) (s13 := s13) (s17 := s17) (s19 := s19) (s20 := s20) (s21 := s21) (s22 := s22) (a := lo) (e := e) hcn' hin (by omega) (by omega) (by omega) (by omega)
    have h9 := fun (s2 s3 s4 s5 s7 s8 s13 s17 s19 s20 s21 s22 : Sl) => lc9_ok (ns := ns) (m := drw ns k1) (s2 := s2) (s3 := s3) (s4 := s4) (s5 := s5) (s7 := s7) (s8 := s8) (s13 := s13) (s17 := s17) (s19 := s19) (s20 := s20) (s21 := s21) (s22 := s22) (a := lo) (e := e) hcn' hin (by omega) (by omega) (by omega) (by omega)
    have q7 := law_spans_ok (m := drw ns k1) (hfll fun t => decide (ev1.count t = 0))
    have q9 := law_spans_ok (m := drw ns k1) (hfll fun t => decide (1 < ev1.count t))
    rw [hfl fun n => decide (n = 0), hg] at q7
    rw [hfl fun n => decide (1 < n), hfo] at q9
    simp only [hfl fun n => decide (n = 0)] at h7
    simp only [hfl fun n => decide (1 < n)] at h9
    simp [least_told_ok hB, hlo, lc6_ok hB, lc8_ok hB, h7, h9, q7, q9, runsOf])]
  rw [runs_step (ρ' := LV ns s2 (.va (tlD f ts)) (.va (bkD f ts)) (.va (.int e)) (.va (.lst (((0, f) :: ts).map tD))) (.va (.lst ((rws 0 f ts).map rD))) (.va (.lst (ev1.map .int))) (.va (.int lo)) (.va (.int e)) (.ow (.dic ks' vs')) .un .un .un .un .un) (m' := drw ns k1) (by
    have h10 := fun (s2 s3 s4 s5 s7 s8 s13 s17 s19 s20 s21 s22 : Sl) => lc10_ok (ns := ns) (m := drw ns k1) (s2 := s2) (s3 := s3) (s4 := s4) (s5 := s5) (s7 := s7) (s8 := s8) (s13 := s13) (s17 := s17) (s19 := s19) (s20 := s20) (s21 := s21) (s22 := s22) (a := lo) (e := e) hcn' hin (by omega) (by omega) (by omega) (by omega)
    have h11 := fun (s2 s3 s5 s7 s8 s13 s17 s19 s20 s21 s22 : Sl) => lc11_ok (ns := ns) (m := drw ns k1) (s2 := s2) (s3 := s3) (s5 := s5) (s7 := s7) (s8 := s8) (s13 := s13) (s17 := s17) (s19 := s19) (s20 := s20) (s21 := s21) (s22 := s22) (a := lo) (e := e) (b := bl) hB hcn' hbl hone (by omega) (by omega) (by omega) (by omega)
    have ha : (((to lo (e + 30)).map fun t => decide (ev1.count t = 1)).all id) = (runsOf f ts).all fun p => decide (cnt 0 f ts p.1 = 1) := by
      unfold runsOf
      rw [← hal, List.all_map]
      rw [Bool.eq_iff_iff, List.all_eq_true, List.all_eq_true]
      constructor
      · intro g t ht; have := g t ht; rw [← hct t (mem_to.mp ht).2]; exact this
      · intro g t ht; have := g t ht; show decide (ev1.count t = 1) = true; rw [hct t (mem_to.mp ht).2]; exact this
    have hb := bi_all_l (bs := (to lo (e + 30)).map fun t => decide (ev1.count t = 1))
    rw [ha] at hb
    rw [run_ifs, ev_or, ev_cmp]
    simp only [rdv_call, rdv_bi, ev_call, evs_cons, ev_var, getV_s, getV_0, R.of_some, R.bind_ok, evs_nil, is_plain_ok hB, ev_bi, evrs_cons, rdv_lc_law_10, h10, evrs_nil, hb, cmpR_of, co_ne_b, rdv_lc_law_11, h11, any_false]
    simp)]
  rw [runs_step (ρ' := LV ns s2 (.va (tlD f ts)) (.va (bkD f ts)) (.va (.int e)) (.va (.lst (((0, f) :: ts).map tD))) (.va (.lst ((rws 0 f ts).map rD))) (.va (.lst (ev1.map .int))) (.va (.int lo)) (.va (.int e)) (.ow (.dic ks' vs')) .un .un .un .un .un) (m' := drw ns k2) (by
    have key := forL_fold (bnd := bindP (.name 17)) (body := runs bd_law_1) (clr := [17, 19, 20, 21, 22]) (f := D.int) (E := fun _ : Unit => LV ns s2 (.va (tlD f ts)) (.va (bkD f ts)) (.va (.int e)) (.va (.lst (((0, f) :: ts).map tD))) (.va (.lst ((rws 0 f ts).map rD))) (.va (.lst (ev1.map .int))) (.va (.int lo)) (.va (.int e)) (.ow (.dic ks' vs')) .un .un .un .un .un) (Mm := fun _ => drw ns k2) (step := fun s _ => s)
      (P := fun _ r => ∀ t ∈ r, -899999991 ≤ t ∧ t ≤ 899999991) (xs := (lo - 1) :: lo :: is) (s := ()) (fun t ht => by
        rcases List.mem_cons.mp ht with q | q
        · omega
        · rcases List.mem_cons.mp q with q | q
          · omega
          · have := his t q; omega) (fun s t r hr => by
        obtain ⟨g1, g2⟩ := hr t List.mem_cons_self
        have ht := time_ok (ns := ns) (m := drw ns k2) (s2 := s2) (s5 := .va (.int e)) (s7 := .va (.lst (((0, f) :: ts).map tD))) (s8 := .va (.lst ((rws 0 f ts).map rD))) (s13 := .va (.lst (ev1.map .int))) (s15 := .va (.int e)) (s16 := .ow (.dic ks' vs')) hB g1 g2
        rw [hlo] at ht
        exact ⟨fun u hu => hr u (List.mem_cons_of_mem _ hu), _, rfl, _, .inl ht, rfl⟩)
    have hsl : is.length + 1 + 1 ≤ 16777216 := by omega
    simp only [fo_law_1]
    simp only [List.map_cons] at hc12 key
    have hbo : 2 + is.length ≤ 16777216 := by omega
    have hbo2 : is.length + 1 + 1 ≤ 16777216 := by omega
    simp [hc12, boSem, line, hbo]
    exact key)]
  rfl
end

end P35
end
section
set_option Elab.async false
set_option linter.all false
set_option maxRecDepth 100000
set_option maxHeartbeats 1000000
set_option autoImplicit false
namespace P35
open PySem Z
/-! B11: law k35, whole. -/
section
open Bk
variable {m : Mu} {ns : List Int}
abbrev LV0 (ns : List Int) : Z.Env := LV ns .un .un .un .un .un .un .un .un .un .un .un .un .un .un .un
theorem loop2_ok (hl : ns.length ≤ 63) : ∃ k' : Int, Z.run fo_law_2 (LV0 ns) (drw ns 0) = .nx (LV0 ns) (drw ns k') := by
  obtain ⟨k', _, hL⟩ := forL_ex (bnd := bindP (.name 2)) (body := runs bd_law_2) (clr := [2, 3, 4, 5, 7, 8, 13, 14, 15, 16, 17, 19, 20, 21, 22]) (f := D.int) (E := fun _ : Int => LV0 ns) (Mm := fun k => drw ns k) (P := fun _ _ => True) (xs := rng 0 4) (s := 0) trivial fun k x r _ => by
    obtain ⟨k', ρ2, h1, h2⟩ := round_ok (k := k) (s2 := .va (.int x)) hl
    exact ⟨k', trivial, LV ns (.va (.int x)) .un .un .un .un .un .un .un .un .un .un .un .un .un .un, rfl, ρ2, .inl h1, h2⟩
  have hs : small 4 := by unfold small; omega
  refine ⟨k', ?_⟩
  simp only [fo_law_2]
  simp [hs, rngI_rng]
  exact hL
abbrev LW (ns : List Int) (s17 s24 s25 s26 : Sl) : Z.Env := [.va (.lst (ns.map .int)), .va (.ref 0), .un, .un, .un, .un, .un, .un, .un, .un, .un, .un, .un, .un, .un, .un, .un, s17, .un, .un, .un, .un, .un, .un, s24, s25, s26]
theorem bb0 : i_Book [.int 31, .lst []] m = .ex 1 [.str "first", .non] m := by simp [i_Book, init, ir_Book_init]
theorem is_offset_b {b : Bool} : f_is_offset [.bl b] m = .ok (.bl false, m) := by simp [f_is_offset, fn, ir_is_offset]
theorem is_row_i {i : Int} : f_is_row [.int i] m = .ok (.bl false, m) := by simp [f_is_row, fn, ir_is_row]
theorem bb1 : i_Book [.bl true, .lst []] m = .ex 1 [.str "first", .non] m := by simp [i_Book, init, ir_Book_init, is_offset_b]
theorem bb2 : i_Book [.int 0, .int 3] m = .ex 1 [.str "turns", .non] m := by simp [i_Book, init, ir_Book_init, is_row_i]
theorem bb3 : i_Book [.int 0, .lst [.tup [.int 1, .int 0], .tup [.int 1, .int 2]]] m = .ex 1 [.str "turns", .int 1] m := by
  simp [i_Book, init, ir_Book_init, fo_Book_init_0, bd_Book_init_0, enuF, forL, bindP, bindPs]
theorem bb4 : i_Book [.int 0, .lst [.tup [.int 1, .int 31]]] m = .ex 1 [.str "turns", .int 0] m := by
  simp [i_Book, init, ir_Book_init, fo_Book_init_0, bd_Book_init_0, enuF, forL, bindP, bindPs]
theorem bb5 : i_Book [.int 0, .lst [.lst [.int 1, .int 1]]] m = .ex 1 [.str "turns", .int 0] m := by
  simp [i_Book, init, ir_Book_init, fo_Book_init_0, bd_Book_init_0, enuF, forL, bindP, bindPs]
theorem bb6 : i_Book [.int 0, .lst [.tup [.int 100000000, .int 1]]] m = .ex 1 [.str "turns", .int 0] m := by
  simp [i_Book, init, ir_Book_init, fo_Book_init_0, bd_Book_init_0, enuF, forL, bindP, bindPs]
theorem check_book_no {d : D} (h1 : isRL d = false) (h2 : isTy d (.own "Book" 0) = false) : f_check_book [d] m = .ex 1 [.str "book", .non] m := by
  simp [f_check_book, fn, ir_check_book, h1, h2]
theorem bb7 : f_meanings [.int 3, .int 0] m = .ex 1 [.str "book", .non] m := by
  simp [f_meanings, fn, ir_meanings, check_book_no (d := .int 3) rfl rfl]
theorem bb8 : f_gaps [.non] m = .ex 1 [.str "book", .non] m := by
  have e : f_counts [.non] m = .ex 1 [.str "book", .non] m := by simp [f_counts, fn, ir_counts, check_book_no (d := .non) rfl rfl]
  have e2 : ∀ s1 s2 : Sl, ev lc_gaps_0 [.va .non, s1, s2] m = .ex 1 [.str "book", .non] m := fun s1 s2 => by
    unfold lc_gaps_0
    rw [ev_lc]
    simp [e]
  simp [f_gaps, fn, ir_gaps, e2]
theorem bk0 : i_Book [.int 0, .lst []] m = .ok (bkD 0 [], m) := by
  have e1 : ¬ (Str.ofString "first" = Str.ofString "turns") := by decide
  simp [i_Book, init, ir_Book_init, fo_Book_init_0, enuF, forL, putS, Z.fieldsOf, e1]
theorem act_ok {n : Nat} {p q : D} (h : ∀ ρ : Z.Env, evN ls_law n ρ m = .ex 1 [p, q] m) (hw : coSem .ne (.tup [p, q]) (.tup [p, q]) = some false) :
    runs bd_law_3 (LW ns .un (.va (.lam n)) (.va (.tup [p, q])) .un) m = .nx (LW ns .un (.va (.lam n)) (.va (.tup [p, q])) .un) m := by
  simp [bd_law_3, h, hw, line, killX]
theorem loop3_ok : Z.run fo_law_3 (LW ns .un .un .un .un) m = .nx (LW ns .un .un .un .un) m := by
  have key := forL_fold (bnd := bindP (.tup (.cons (.name 24) (.cons (.name 25) .nil)))) (body := runs bd_law_3) (clr := [24, 25]) (f := fun x : Nat × D × D => .tup [.lam x.1, .tup [x.2.1, x.2.2]]) (E := fun _ : Unit => LW ns .un .un .un .un) (Mm := fun _ => m) (step := fun s _ => s)
    (P := fun _ r => ∀ x ∈ r, (∀ ρ : Z.Env, evN ls_law x.1 ρ m = .ex 1 [x.2.1, x.2.2] m) ∧ coSem .ne (.tup [x.2.1, x.2.2]) (.tup [x.2.1, x.2.2]) = some false)
    (xs := [(0, .str "first", .non), (1, .str "first", .non), (2, .str "turns", .non), (3, .str "turns", .int 1), (4, .str "turns", .int 0), (5, .str "turns", .int 0), (6, .str "turns", .int 0), (7, .str "book", .non), (8, .str "book", .non)]) (s := ()) (fun x hx => by
      have w1 : coSem .ne (.tup [.str "first", .non]) (.tup [.str "first", .non]) = some false := co_ne_refl (by decide +kernel)
      have w2 : coSem .ne (.tup [.str "turns", .non]) (.tup [.str "turns", .non]) = some false := co_ne_refl (by decide +kernel)
      have w3 : coSem .ne (.tup [.str "turns", .int 1]) (.tup [.str "turns", .int 1]) = some false := co_ne_refl (by decide +kernel)
      have w4 : coSem .ne (.tup [.str "turns", .int 0]) (.tup [.str "turns", .int 0]) = some false := co_ne_refl (by decide +kernel)
      have w5 : coSem .ne (.tup [.str "book", .non]) (.tup [.str "book", .non]) = some false := co_ne_refl (by decide +kernel)
      simp only [List.mem_cons, List.not_mem_nil, or_false] at hx
      rcases hx with e | e | e | e | e | e | e | e | e <;> subst e
      · exact ⟨fun ρ => by simp [ls_law, evN, bb0, line], w1⟩
      · exact ⟨fun ρ => by simp [ls_law, evN, bb1, line], w1⟩
      · exact ⟨fun ρ => by simp [ls_law, evN, bb2, line], w2⟩
      · exact ⟨fun ρ => by simp [ls_law, evN, bb3, line], w3⟩
      · exact ⟨fun ρ => by simp [ls_law, evN, bb4, line], w4⟩
      · exact ⟨fun ρ => by simp [ls_law, evN, bb5, line], w4⟩
      · exact ⟨fun ρ => by simp [ls_law, evN, bb6, line], w4⟩
      · exact ⟨fun ρ => by simp [ls_law, evN, bb7, line], w5⟩
      · exact ⟨fun ρ => by simp [ls_law, evN, bb8, line], w5⟩)
    (fun s x r hr => by
      obtain ⟨n, p, q⟩ := x
      obtain ⟨h1, h2⟩ := hr _ List.mem_cons_self
      exact ⟨fun y hy => hr y (List.mem_cons_of_mem _ hy), _, rfl, _, .inl (act_ok h1 h2), rfl⟩)
  simp only [List.map_cons, List.map_nil] at key
  simp only [fo_law_3]
  simp [line]
  exact key
theorem judge_no {d : D} (h : f_check_told [d] m = .ex 2 [d] m) : f_judge_told [bkD 0 [], d] m = .ex 2 [d] m := by
  have e1 : f_check_book [bkD 0 []] m = .ok (.non, m) := check_book_b
  have e2 : f_meanings [bkD 0 [], d] m = .ex 2 [d] m := by simp [f_meanings, fn, ir_meanings, e1, h]
  simp [f_judge_told, fn, ir_judge_told, e2]
theorem loop4_ok : Z.run fo_law_4 (LW ns .un .un .un .un) m = .nx (LW ns .un .un .un .un) m := by
  have key := forL_fold (bnd := bindP (.name 17)) (body := runs bd_law_4) (clr := [17]) (f := fun x : D => x) (E := fun _ : Unit => LW ns .un .un .un .un) (Mm := fun _ => m) (step := fun s _ => s)
    (P := fun _ r => ∀ x ∈ r, f_check_told [x] m = .ex 2 [x] m ∧ coSem .ne x x = some false) (xs := [.non, .bl true, .int 899999992, .int (-899999992)]) (s := ()) (fun x hx => by
      simp only [List.mem_cons, List.not_mem_nil, or_false] at hx
      rcases hx with e | e | e | e <;> subst e
      · exact ⟨by simp [f_check_told, fn, ir_check_told], co_ne_refl (by decide +kernel)⟩
      · exact ⟨by simp [f_check_told, fn, ir_check_told], co_ne_refl (by decide +kernel)⟩
      · exact ⟨by simp [f_check_told, fn, ir_check_told, bo_mul (i := -9) (j := 99999999) (.inl (by decide)), bo_mul (i := 9) (j := 99999999) (.inl (by decide))], co_ne_refl (by decide +kernel)⟩
      · exact ⟨by simp [f_check_told, fn, ir_check_told, bo_mul (i := -9) (j := 99999999) (.inl (by decide)), bo_mul (i := 9) (j := 99999999) (.inl (by decide))], co_ne_refl (by decide +kernel)⟩)
    (fun s x r hr => by
      obtain ⟨h1, h2⟩ := hr _ List.mem_cons_self
      refine ⟨fun y hy => hr y (List.mem_cons_of_mem _ hy), LW ns (.va x) .un .un .un, rfl, LW ns (.va x) .un .un .un, .inl ?_, rfl⟩
      have hj := judge_no h1
      simp [bd_law_4, bk0, hj, line, h2, killX])
  simp only [List.map_cons, List.map_nil] at key
  simp only [fo_law_4]
  simp [line]
  exact key
theorem plain : ∀ ns : List Int, ns.length ≤ 63 → ∃ m', f_law [.lst (ns.map .int)] [] = .ok (.bl true, m') := by
  intro ns hl
  obtain ⟨k', h2⟩ := loop2_ok hl
  refine ⟨drw ns k', ?_⟩
  have e : runs ir_law (LV ns .un .un .un .un .un .un .un .un .un .un .un .un .un .un .un |>.set 1 .un) [] = .rt (.bl true) (drw ns k') := by
    unfold ir_law
    rw [runs_step (ρ' := LV0 ns) (m' := drw ns 0) (by simp [line, drw])]
    rw [runs_step h2, runs_step loop3_ok, runs_step loop4_ok]
    rfl
  simp only [f_law, fn]
  simp at e ⊢
  rw [e]
end

end P35
end
section
set_option Elab.async false
set_option linter.all false
set_option maxRecDepth 100000
set_option maxHeartbeats 0
/-! the law's glue (printed by gen2.py). -/
namespace G35
open PySem PySem.Spec PyProof.Rows L2 Z P35
def top (i : Nat) : Stmt := PySem.Challenge.pw_zonebooks_k35_books_of_many_turns.main.body.getD i (.Pass ⟨0, 0, 0, 0⟩)
abbrev cl : CL := [("Book", ["first", "turns"]), ("One", ["tick"]), ("Never", ["turn"]), ("Many", ["ticks"])]
abbrev xl : CL := [("ZoneError", []), ("BadBook", ["part", "place"]), ("BadTick", ["tick"])]
theorem forall_cons {α : Type} {P : α → Prop} {a : α} {l : List α} (h : P a) (r : ∀ x ∈ l, P x) : ∀ x ∈ a :: l, P x := fun x hx => by rcases List.mem_cons.mp hx with e | e; (subst e; exact h); exact r x e
abbrev s_BadBook_init : Stmt := inClass (top 2) 0
def d_BadBook_init : He.DefD := ⟨("BadBook", some "__init__"), "__init__", "BadBook.__init__", defArgs s_BadBook_init, defBody s_BadBook_init, defScope s_BadBook_init, [], []⟩
abbrev s_BadTick_init : Stmt := inClass (top 3) 0
def d_BadTick_init : He.DefD := ⟨("BadTick", some "__init__"), "__init__", "BadTick.__init__", defArgs s_BadTick_init, defBody s_BadTick_init, defScope s_BadTick_init, [], []⟩
abbrev s_is_integer : Stmt := top 5
def d_is_integer : He.DefD := ⟨("is_integer", none), "is_integer", "is_integer", defArgs s_is_integer, defBody s_is_integer, defScope s_is_integer, [], []⟩
abbrev s_is_row : Stmt := top 6
def d_is_row : He.DefD := ⟨("is_row", none), "is_row", "is_row", defArgs s_is_row, defBody s_is_row, defScope s_is_row, [], []⟩
abbrev s_is_number : Stmt := top 7
def d_is_number : He.DefD := ⟨("is_number", none), "is_number", "is_number", defArgs s_is_number, defBody s_is_number, defScope s_is_number, [], []⟩
abbrev s_is_offset : Stmt := top 11
def d_is_offset : He.DefD := ⟨("is_offset", none), "is_offset", "is_offset", defArgs s_is_offset, defBody s_is_offset, defScope s_is_offset, [], []⟩
abbrev s_check_book : Stmt := top 12
def d_check_book : He.DefD := ⟨("check_book", none), "check_book", "check_book", defArgs s_check_book, defBody s_check_book, defScope s_check_book, [], []⟩
abbrev s_check_told : Stmt := top 13
def d_check_told : He.DefD := ⟨("check_told", none), "check_told", "check_told", defArgs s_check_told, defBody s_check_told, defScope s_check_told, [], []⟩
abbrev s_Book_place : Stmt := inClass (top 10) 3
def d_Book_place : He.DefD := ⟨("Book", some "place"), "place", "Book.place", defArgs s_Book_place, defBody s_Book_place, defScope s_Book_place, [], []⟩
abbrev s_meanings : Stmt := top 14
def d_meanings : He.DefD := ⟨("meanings", none), "meanings", "meanings", defArgs s_meanings, defBody s_meanings, defScope s_meanings, [], []⟩
abbrev s_told_ahead : Stmt := top 18
def d_told_ahead : He.DefD := ⟨("told_ahead", none), "told_ahead", "told_ahead", defArgs s_told_ahead, defBody s_told_ahead, defScope s_told_ahead, [], []⟩
abbrev s_Book_spans : Stmt := inClass (top 10) 5
def d_Book_spans : He.DefD := ⟨("Book", some "spans"), "spans", "Book.spans", defArgs s_Book_spans, defBody s_Book_spans, defScope s_Book_spans, [], []⟩
abbrev s_least_told : Stmt := top 19
def d_least_told : He.DefD := ⟨("least_told", none), "least_told", "least_told", defArgs s_least_told, defBody s_least_told, defScope s_least_told, [], []⟩
abbrev s_Many_init : Stmt := inClass (top 17) 0
def d_Many_init : He.DefD := ⟨("Many", some "__init__"), "__init__", "Many.__init__", defArgs s_Many_init, defBody s_Many_init, defScope s_Many_init, [], []⟩
abbrev s_Never_init : Stmt := inClass (top 16) 0
def d_Never_init : He.DefD := ⟨("Never", some "__init__"), "__init__", "Never.__init__", defArgs s_Never_init, defBody s_Never_init, defScope s_Never_init, [], []⟩
abbrev s_One_init : Stmt := inClass (top 15) 0
def d_One_init : He.DefD := ⟨("One", some "__init__"), "__init__", "One.__init__", defArgs s_One_init, defBody s_One_init, defScope s_One_init, [], []⟩
abbrev s_judge_told : Stmt := top 20
def d_judge_told : He.DefD := ⟨("judge_told", none), "judge_told", "judge_told", defArgs s_judge_told, defBody s_judge_told, defScope s_judge_told, [], []⟩
abbrev s_counts : Stmt := top 23
def d_counts : He.DefD := ⟨("counts", none), "counts", "counts", defArgs s_counts, defBody s_counts, defScope s_counts, [], []⟩
abbrev s_put_together : Stmt := top 24
def d_put_together : He.DefD := ⟨("put_together", none), "put_together", "put_together", defArgs s_put_together, defBody s_put_together, defScope s_put_together, [], []⟩
abbrev s_gaps : Stmt := top 21
def d_gaps : He.DefD := ⟨("gaps", none), "gaps", "gaps", defArgs s_gaps, defBody s_gaps, defScope s_gaps, [], []⟩
abbrev s_folds : Stmt := top 22
def d_folds : He.DefD := ⟨("folds", none), "folds", "folds", defArgs s_folds, defBody s_folds, defScope s_folds, [], []⟩
abbrev s_is_plain : Stmt := top 25
def d_is_plain : He.DefD := ⟨("is_plain", none), "is_plain", "is_plain", defArgs s_is_plain, defBody s_is_plain, defScope s_is_plain, [], []⟩
abbrev s_last_told : Stmt := top 26
def d_last_told : He.DefD := ⟨("last_told", none), "last_told", "last_told", defArgs s_last_told, defBody s_last_told, defScope s_last_told, [], []⟩
abbrev s__law_number : Stmt := top 28
def d__law_number : He.DefD := ⟨("_law_number", none), "_law_number", "_law_number", defArgs s__law_number, defBody s__law_number, defScope s__law_number, [], []⟩
abbrev s__law_take : Stmt := top 29
def d__law_take : He.DefD := ⟨("_law_take", none), "_law_take", "_law_take", defArgs s__law_take, defBody s__law_take, defScope s__law_take, [], []⟩
abbrev s__law_pick : Stmt := top 30
def d__law_pick : He.DefD := ⟨("_law_pick", none), "_law_pick", "_law_pick", defArgs s__law_pick, defBody s__law_pick, defScope s__law_pick, [], []⟩
abbrev s__law_book : Stmt := top 31
def d__law_book : He.DefD := ⟨("_law_book", none), "_law_book", "_law_book", defArgs s__law_book, defBody s__law_book, defScope s__law_book, [], []⟩
abbrev s__law_offset : Stmt := top 32
def d__law_offset : He.DefD := ⟨("_law_offset", none), "_law_offset", "_law_offset", defArgs s__law_offset, defBody s__law_offset, defScope s__law_offset, [], []⟩
abbrev s__law_told : Stmt := top 33
def d__law_told : He.DefD := ⟨("_law_told", none), "_law_told", "_law_told", defArgs s__law_told, defBody s__law_told, defScope s__law_told, [], []⟩
abbrev s__law_means : Stmt := top 34
def d__law_means : He.DefD := ⟨("_law_means", none), "_law_means", "_law_means", defArgs s__law_means, defBody s__law_means, defScope s__law_means, [], []⟩
abbrev s_Book_init : Stmt := inClass (top 10) 0
def d_Book_init : He.DefD := ⟨("Book", some "__init__"), "__init__", "Book.__init__", defArgs s_Book_init, defBody s_Book_init, defScope s_Book_init, [], []⟩
abbrev s__law_built : Stmt := top 35
def d__law_built : He.DefD := ⟨("_law_built", none), "_law_built", "_law_built", defArgs s__law_built, defBody s__law_built, defScope s__law_built, [], []⟩
abbrev s__law_over : Stmt := top 36
def d__law_over : He.DefD := ⟨("_law_over", none), "_law_over", "_law_over", defArgs s__law_over, defBody s__law_over, defScope s__law_over, [], []⟩
abbrev s__law_spans : Stmt := top 37
def d__law_spans : He.DefD := ⟨("_law_spans", none), "_law_spans", "_law_spans", defArgs s__law_spans, defBody s__law_spans, defScope s__law_spans, [], []⟩
abbrev s_Book_offset : Stmt := inClass (top 10) 2
def d_Book_offset : He.DefD := ⟨("Book", some "offset"), "offset", "Book.offset", defArgs s_Book_offset, defBody s_Book_offset, defScope s_Book_offset, [], []⟩
abbrev s_Book_told : Stmt := inClass (top 10) 4
def d_Book_told : He.DefD := ⟨("Book", some "told"), "told", "Book.told", defArgs s_Book_told, defBody s_Book_told, defScope s_Book_told, [], []⟩
abbrev s_Many_bool : Stmt := inClass (top 17) 1
def d_Many_bool : He.DefD := ⟨("Many", some "__bool__"), "__bool__", "Many.__bool__", defArgs s_Many_bool, defBody s_Many_bool, defScope s_Many_bool, [], []⟩
abbrev s_Many_eq : Stmt := inClass (top 17) 2
def d_Many_eq : He.DefD := ⟨("Many", some "__eq__"), "__eq__", "Many.__eq__", defArgs s_Many_eq, defBody s_Many_eq, defScope s_Many_eq, [], []⟩
abbrev s_Never_eq : Stmt := inClass (top 16) 2
def d_Never_eq : He.DefD := ⟨("Never", some "__eq__"), "__eq__", "Never.__eq__", defArgs s_Never_eq, defBody s_Never_eq, defScope s_Never_eq, [], []⟩
abbrev s_One_eq : Stmt := inClass (top 15) 2
def d_One_eq : He.DefD := ⟨("One", some "__eq__"), "__eq__", "One.__eq__", defArgs s_One_eq, defBody s_One_eq, defScope s_One_eq, [], []⟩
abbrev s_Many_shows : Stmt := inClass (top 17) 3
def d_Many_shows : He.DefD := ⟨("Many", some "shows"), "shows", "Many.shows", defArgs s_Many_shows, defBody s_Many_shows, defScope s_Many_shows, [], []⟩
abbrev s_Never_bool : Stmt := inClass (top 16) 1
def d_Never_bool : He.DefD := ⟨("Never", some "__bool__"), "__bool__", "Never.__bool__", defArgs s_Never_bool, defBody s_Never_bool, defScope s_Never_bool, [], []⟩
abbrev s_Never_shows : Stmt := inClass (top 16) 3
def d_Never_shows : He.DefD := ⟨("Never", some "shows"), "shows", "Never.shows", defArgs s_Never_shows, defBody s_Never_shows, defScope s_Never_shows, [], []⟩
abbrev s_One_bool : Stmt := inClass (top 15) 1
def d_One_bool : He.DefD := ⟨("One", some "__bool__"), "__bool__", "One.__bool__", defArgs s_One_bool, defBody s_One_bool, defScope s_One_bool, [], []⟩
abbrev s_One_shows : Stmt := inClass (top 15) 3
def d_One_shows : He.DefD := ⟨("One", some "shows"), "shows", "One.shows", defArgs s_One_shows, defBody s_One_shows, defScope s_One_shows, [], []⟩
abbrev s_law : Stmt := top 38
def d_law : He.DefD := ⟨("law", none), "law", "law", defArgs s_law, defBody s_law, defScope s_law, [], []⟩
abbrev s_Book_eq : Stmt := inClass (top 10) 1
def d_Book_eq : He.DefD := ⟨("Book", some "__eq__"), "__eq__", "Book.__eq__", defArgs s_Book_eq, defBody s_Book_eq, defScope s_Book_eq, [], []⟩
def fns : List He.DefD := [d_BadBook_init, d_BadTick_init, d_is_integer, d_is_row, d_is_number, d_is_offset, d_check_book, d_check_told, d_Book_place, d_meanings, d_told_ahead, d_Book_spans, d_least_told, d_Many_init, d_Never_init, d_One_init, d_judge_told, d_counts, d_put_together, d_gaps, d_folds, d_is_plain, d_last_told, d__law_number, d__law_take, d__law_pick, d__law_book, d__law_offset, d__law_told, d__law_means, d_Book_init, d__law_built, d__law_over, d__law_spans, d_Book_offset, d_Book_told, d_Many_bool, d_Many_eq, d_Never_eq, d_One_eq, d_Many_shows, d_Never_bool, d_Never_shows, d_One_bool, d_One_shows, d_law, d_Book_eq]
def fas : List He.Fa := [.glo "BadBook", .glo "BadTick", .free "int", .free "isinstance", .free "bool", .free "tuple", .free "list", .glo "is_integer", .glo "Book", .int "MOST_TICK" 99999999, .free "len", .free "set", .free "zip", .glo "check_book", .glo "check_told", .meth "Book" "place", .free "range", .free "min", .meth "Book" "spans", .glo "Many", .mkr "Many", .glo "Never", .mkr "Never", .glo "One", .mkr "One", .glo "meanings", .free "enumerate", .glo "told_ahead", .free "sorted", .glo "put_together", .glo "counts", .free "all", .free "max", .glo "_law_number", .glo "_law_take", .glo "_law_pick", .glo "_law_offset", .glo "_law_told", .glo "is_offset", .glo "is_row", .glo "is_number", .mkr "Book", .meth "Book" "offset", .meth "Many" "__eq__", .meth "Never" "__eq__", .meth "One" "__eq__", .glo "judge_told", .glo "least_told", .meth "Book" "told", .glo "_law_book", .glo "_law_built", .free "any", .free "dict", .glo "gaps", .glo "_law_spans", .glo "folds", .glo "is_plain", .glo "last_told", .glo "_law_means", .glo "_law_over", .meth "Many" "__bool__", .meth "Never" "__bool__", .meth "One" "__bool__", .meth "Many" "shows", .meth "Never" "shows", .meth "One" "shows", .glo "law"]
def exs : List (PySem.W.Frag → Bool) := [fun K => xlB K ("BadBook", ["part", "place"]), fun K => xlB K ("BadTick", ["tick"]), fun K => clB K cl, fun K => isiB K cl "int", fun K => isiB K cl "bool", fun K => isiB K cl "tuple", fun K => isiB K cl "list", fun K => isoB K cl "Book" 0, fun K => isoB K cl "Many" 3, fun K => isoB K cl "Never" 2, fun K => isoB K cl "One" 1, fun K => emB K xl "BadBook" [1], fun K => emB K xl "BadTick" [2]]
abbrev HFx (T : Tab) : Prop := HF fas fns exs cl xl T
theorem sc_BadBook_init : FnScope ["self", "part", "place"] ["self", "part", "place"] (defScope s_BadBook_init) := ⟨rfl, rfl, rfl, by decide +kernel, rfl, by decide +kernel, by decide +kernel⟩
theorem ra_BadBook {T : Tab} (c : HFx T) {k : Nat} (hk : 2 ≤ k) : RaiF T k "BadBook" 1 2 := raiF c rfl (c.fa 0 rfl) (c.ex (b := fun K => xlB K ("BadBook", ["part", "place"])) 0 rfl) (c.df (d := d_BadBook_init) 0 rfl) sc_BadBook_init (fun _ _ _ _ _ _ us hl => match us, hl with | [_, _, _], _ => rfl) (by decide) rfl (by decide) rfl (by kernel_rfl) hk
theorem sc_BadTick_init : FnScope ["self", "tick"] ["self", "tick"] (defScope s_BadTick_init) := ⟨rfl, rfl, rfl, by decide +kernel, rfl, by decide +kernel, by decide +kernel⟩
theorem ra_BadTick {T : Tab} (c : HFx T) {k : Nat} (hk : 2 ≤ k) : RaiF T k "BadTick" 2 1 := raiF c rfl (c.fa 1 rfl) (c.ex (b := fun K => xlB K ("BadTick", ["tick"])) 1 rfl) (c.df (d := d_BadTick_init) 1 rfl) sc_BadTick_init (fun _ _ _ _ _ _ us hl => match us, hl with | [_, _], _ => rfl) (by decide) rfl (by decide) rfl (by kernel_rfl) hk
theorem sc_is_integer : FnScope ["thing"] ["thing"] (defScope s_is_integer) := ⟨rfl, rfl, rfl, by decide +kernel, rfl, by decide +kernel, by decide +kernel⟩
theorem ck_is_integer : chkTs ["thing"] fl0 (defScope s_is_integer) ir_is_integer (defBody s_is_integer) = true := by kernel_rfl
theorem nd_is_integer {T : Tab} (c : HFx T) : needTs T 0 .nil ir_is_integer :=
  (And.intro (And.intro (And.intro True.intro (And.intro (c.free _ (c.fa 3 rfl)) (forall_cons (isiF c (c.ex (b := fun K => clB K cl) 2 rfl) (c.ex (b := fun K => isiB K cl "int") 3 rfl) (c.fa 2 rfl) rfl (by decide) (by decide)) (fun t h => by cases h)))) (And.intro True.intro (And.intro (c.free _ (c.fa 3 rfl)) (forall_cons (isiF c (c.ex (b := fun K => clB K cl) 2 rfl) (c.ex (b := fun K => isiB K cl "bool") 4 rfl) (c.fa 4 rfl) rfl (by decide) (by decide)) (fun t h => by cases h))))) True.intro)
theorem ok_is_integer {T : Tab} (c : HFx T) : DefOk T 1 (He.fAd T.K d_is_integer.at_) ["thing"] f_is_integer := defOk (c.df (d := d_is_integer) 2 rfl) sc_is_integer (fun _ _ _ _ _ _ us hl => match us, hl with | [_], _ => rfl) rfl rfl (by decide) ck_is_integer (nd_is_integer c)
theorem sc_is_row : FnScope ["thing"] ["thing"] (defScope s_is_row) := ⟨rfl, rfl, rfl, by decide +kernel, rfl, by decide +kernel, by decide +kernel⟩
theorem ck_is_row : chkTs ["thing"] fl0 (defScope s_is_row) ir_is_row (defBody s_is_row) = true := by kernel_rfl
theorem nd_is_row {T : Tab} (c : HFx T) : needTs T 0 .nil ir_is_row :=
  (And.intro (And.intro True.intro (And.intro (c.free _ (c.fa 3 rfl)) (forall_cons (isiF c (c.ex (b := fun K => clB K cl) 2 rfl) (c.ex (b := fun K => isiB K cl "list") 6 rfl) (c.fa 6 rfl) rfl (by decide) (by decide)) (forall_cons (isiF c (c.ex (b := fun K => clB K cl) 2 rfl) (c.ex (b := fun K => isiB K cl "tuple") 5 rfl) (c.fa 5 rfl) rfl (by decide) (by decide)) (fun t h => by cases h))))) True.intro)
theorem ok_is_row {T : Tab} (c : HFx T) : DefOk T 1 (He.fAd T.K d_is_row.at_) ["thing"] f_is_row := defOk (c.df (d := d_is_row) 3 rfl) sc_is_row (fun _ _ _ _ _ _ us hl => match us, hl with | [_], _ => rfl) rfl rfl (by decide) ck_is_row (nd_is_row c)
theorem sc_is_number : FnScope ["thing", "least", "most"] ["thing", "least", "most"] (defScope s_is_number) := ⟨rfl, rfl, rfl, by decide +kernel, rfl, by decide +kernel, by decide +kernel⟩
theorem ck_is_number : chkTs ["thing", "least", "most"] fl0 (defScope s_is_number) ir_is_number (defBody s_is_number) = true := by kernel_rfl
theorem nd_is_number {T : Tab} (c : HFx T) : needTs T 1 .nil ir_is_number :=
  (And.intro (And.intro (And.intro (fnF c (c.fa 7 rfl) (ok_is_integer c) (by decide)) (And.intro True.intro True.intro)) (And.intro True.intro (And.intro True.intro True.intro))) True.intro)
theorem ok_is_number {T : Tab} (c : HFx T) : DefOk T 2 (He.fAd T.K d_is_number.at_) ["thing", "least", "most"] f_is_number := defOk (c.df (d := d_is_number) 4 rfl) sc_is_number (fun _ _ _ _ _ _ us hl => match us, hl with | [_, _, _], _ => rfl) rfl rfl (by decide) ck_is_number (nd_is_number c)
theorem sc_is_offset : FnScope ["offset"] ["offset"] (defScope s_is_offset) := ⟨rfl, rfl, rfl, by decide +kernel, rfl, by decide +kernel, by decide +kernel⟩
theorem ck_is_offset : chkTs ["offset"] fl0 (defScope s_is_offset) ir_is_offset (defBody s_is_offset) = true := by kernel_rfl
theorem nd_is_offset {T : Tab} (c : HFx T) : needTs T 1 .nil ir_is_offset :=
  (And.intro (And.intro (And.intro (fnF c (c.fa 7 rfl) (ok_is_integer c) (by decide)) (And.intro True.intro True.intro)) (And.intro True.intro (And.intro True.intro True.intro))) True.intro)
theorem ok_is_offset {T : Tab} (c : HFx T) : DefOk T 2 (He.fAd T.K d_is_offset.at_) ["offset"] f_is_offset := defOk (c.df (d := d_is_offset) 5 rfl) sc_is_offset (fun _ _ _ _ _ _ us hl => match us, hl with | [_], _ => rfl) rfl rfl (by decide) ck_is_offset (nd_is_offset c)
theorem sc_check_book : FnScope ["book"] ["book"] (defScope s_check_book) := ⟨rfl, rfl, rfl, by decide +kernel, rfl, by decide +kernel, by decide +kernel⟩
theorem ck_check_book : chkTs ["book"] fl0 (defScope s_check_book) ir_check_book (defBody s_check_book) = true := by kernel_rfl
theorem nd_check_book {T : Tab} (c : HFx T) : needTs T 2 .nil ir_check_book :=
  (And.intro (And.intro (And.intro True.intro (And.intro (c.free _ (c.fa 3 rfl)) (forall_cons (isoF c (c.ex (b := fun K => clB K cl) 2 rfl) (c.ex (b := fun K => isoB K cl "Book" 0) 7 rfl) (c.fa 8 rfl) rfl (by decide)) (fun t h => by cases h)))) (And.intro (And.intro (And.intro (ra_BadBook c (by decide)) (And.intro True.intro (And.intro True.intro True.intro))) True.intro) True.intro)) True.intro)
theorem ok_check_book {T : Tab} (c : HFx T) : DefOk T 3 (He.fAd T.K d_check_book.at_) ["book"] f_check_book := defOk (c.df (d := d_check_book) 6 rfl) sc_check_book (fun _ _ _ _ _ _ us hl => match us, hl with | [_], _ => rfl) rfl rfl (by decide) ck_check_book (nd_check_book c)
theorem sc_check_told : FnScope ["told"] ["told"] (defScope s_check_told) := ⟨rfl, rfl, rfl, by decide +kernel, rfl, by decide +kernel, by decide +kernel⟩
theorem ck_check_told : chkTs ["told"] fl0 (defScope s_check_told) ir_check_told (defBody s_check_told) = true := by kernel_rfl
theorem nd_check_told {T : Tab} (c : HFx T) : needTs T 2 .nil ir_check_told :=
  (And.intro (And.intro (And.intro (And.intro (fnF c (c.fa 7 rfl) (ok_is_integer c) (by decide)) (And.intro True.intro True.intro)) (And.intro (And.intro True.intro (gloI c (c.fa 9 rfl))) (And.intro True.intro (And.intro True.intro (gloI c (c.fa 9 rfl)))))) (And.intro (And.intro (And.intro (ra_BadTick c (by decide)) (And.intro True.intro True.intro)) True.intro) True.intro)) True.intro)
theorem ok_check_told {T : Tab} (c : HFx T) : DefOk T 3 (He.fAd T.K d_check_told.at_) ["told"] f_check_told := defOk (c.df (d := d_check_told) 7 rfl) sc_check_told (fun _ _ _ _ _ _ us hl => match us, hl with | [_], _ => rfl) rfl rfl (by decide) ck_check_told (nd_check_told c)
theorem sc_Book_place : FnScope ["self", "tick", "low", "high", "middle"] ["self", "tick"] (defScope s_Book_place) := ⟨rfl, rfl, rfl, by decide +kernel, rfl, by decide +kernel, by decide +kernel⟩
theorem ck_Book_place : chkTs ["self", "tick", "low", "high", "middle"] fl0 (defScope s_Book_place) ir_Book_place (defBody s_Book_place) = true := by kernel_rfl
theorem nd_Book_place {T : Tab} (c : HFx T) : needTs T 0 .nil ir_Book_place :=
  (And.intro (And.intro True.intro (And.intro (c.free _ (c.fa 10 rfl)) (And.intro (And.intro (c.free _ (c.fa 11 rfl)) (c.free _ (c.fa 12 rfl))) (And.intro (And.intro True.intro (attF c (c.ex (b := fun K => clB K cl) 2 rfl) (by decide))) True.intro)))) (And.intro (And.intro (And.intro True.intro True.intro) (And.intro (And.intro (And.intro True.intro True.intro) True.intro) (And.intro (And.intro (And.intro (And.intro (And.intro (And.intro True.intro (attF c (c.ex (b := fun K => clB K cl) 2 rfl) (by decide))) True.intro) True.intro) True.intro) (And.intro (And.intro (And.intro True.intro True.intro) True.intro) (And.intro True.intro True.intro))) True.intro))) (And.intro True.intro True.intro)))
theorem ok_Book_place {T : Tab} (c : HFx T) : DefOk T 1 (He.fAd T.K d_Book_place.at_) ["self", "tick"] m_Book_place := defOk (c.df (d := d_Book_place) 8 rfl) sc_Book_place (fun _ _ _ _ _ _ us hl => match us, hl with | [_, _], _ => rfl) rfl rfl (by decide) ck_Book_place (nd_Book_place c)
theorem sc_meanings : FnScope ["book", "told", "found", "place", "tick"] ["book", "told"] (defScope s_meanings) := ⟨rfl, rfl, rfl, by decide +kernel, rfl, by decide +kernel, by decide +kernel⟩
theorem ck_meanings : chkTs ["book", "told", "found", "place", "tick"] fl0 (defScope s_meanings) ir_meanings (defBody s_meanings) = true := by kernel_rfl
theorem nd_meanings {T : Tab} (c : HFx T) : needTs T 3 .nil ir_meanings :=
  (And.intro (And.intro (fnF c (c.fa 13 rfl) (ok_check_book c) (by decide)) (And.intro True.intro True.intro)) (And.intro (And.intro (fnF c (c.fa 14 rfl) (ok_check_told c) (by decide)) (And.intro True.intro True.intro)) (And.intro True.intro (And.intro (And.intro (And.intro (And.intro True.intro (And.intro (metF (x := "Book") c (c.ex (b := fun K => clB K cl) 2 rfl) rfl (c.fa 15 rfl) (by decide) (ok_Book_place c) (by decide) metF_nil) (And.intro (And.intro True.intro True.intro) True.intro))) (And.intro (And.intro (And.intro True.intro (And.intro (metF (x := "Book") c (c.ex (b := fun K => clB K cl) 2 rfl) rfl (c.fa 15 rfl) (by decide) (ok_Book_place c) (by decide) metF_nil) (And.intro (And.intro True.intro True.intro) True.intro))) True.intro) (c.free _ (c.fa 16 rfl)))) (And.intro (And.intro True.intro (And.intro (And.intro True.intro True.intro) (And.intro (And.intro (And.intro (And.intro True.intro (attF c (c.ex (b := fun K => clB K cl) 2 rfl) (by decide))) (And.intro True.intro True.intro)) True.intro) (And.intro True.intro (attF c (c.ex (b := fun K => clB K cl) 2 rfl) (by decide)))))) (And.intro (And.intro (And.intro (And.intro True.intro True.intro) (And.intro (And.intro True.intro (And.intro (metF (x := "Book") c (c.ex (b := fun K => clB K cl) 2 rfl) rfl (c.fa 15 rfl) (by decide) (ok_Book_place c) (by decide) metF_nil) (And.intro True.intro True.intro))) True.intro)) (And.intro (And.intro True.intro True.intro) True.intro)) True.intro))) (And.intro True.intro (And.intro True.intro True.intro))))))
theorem ok_meanings {T : Tab} (c : HFx T) : DefOk T 4 (He.fAd T.K d_meanings.at_) ["book", "told"] f_meanings := defOk (c.df (d := d_meanings) 9 rfl) sc_meanings (fun _ _ _ _ _ _ us hl => match us, hl with | [_, _], _ => rfl) rfl rfl (by decide) ck_meanings (nd_meanings c)
theorem sc_told_ahead : FnScope ["book", "turn", "tick"] ["book", "turn"] (defScope s_told_ahead) := ⟨rfl, rfl, rfl, by decide +kernel, rfl, by decide +kernel, by decide +kernel⟩
theorem ck_told_ahead : chkTs ["book", "turn", "tick"] fl0 (defScope s_told_ahead) ir_told_ahead (defBody s_told_ahead) = true := by kernel_rfl
theorem nd_told_ahead {T : Tab} (c : HFx T) : needTs T 0 .nil ir_told_ahead :=
  (And.intro (And.intro (And.intro (And.intro True.intro (attF c (c.ex (b := fun K => clB K cl) 2 rfl) (by decide))) True.intro) True.intro) (And.intro (And.intro True.intro (And.intro (And.intro True.intro True.intro) (And.intro (And.intro (And.intro (And.intro True.intro (attF c (c.ex (b := fun K => clB K cl) 2 rfl) (by decide))) (And.intro True.intro True.intro)) True.intro) (And.intro True.intro (attF c (c.ex (b := fun K => clB K cl) 2 rfl) (by decide)))))) True.intro))
theorem ok_told_ahead {T : Tab} (c : HFx T) : DefOk T 1 (He.fAd T.K d_told_ahead.at_) ["book", "turn"] f_told_ahead := defOk (c.df (d := d_told_ahead) 10 rfl) sc_told_ahead (fun _ _ _ _ _ _ us hl => match us, hl with | [_, _], _ => rfl) rfl rfl (by decide) ck_told_ahead (nd_told_ahead c)
theorem sc_Book_spans : FnScope ["self", "begins", "begin", "offset", "offsets", "rows", "low", "high"] ["self"] (defScope s_Book_spans) := ⟨rfl, rfl, rfl, by decide +kernel, rfl, by decide +kernel, by decide +kernel⟩
theorem ck_Book_spans : chkTs ["self", "begins", "begin", "offset", "offsets", "rows", "low", "high"] fl0 (defScope s_Book_spans) ir_Book_spans (defBody s_Book_spans) = true := by kernel_rfl
theorem nd_Book_spans {T : Tab} (c : HFx T) : needTs T 0 .nil ir_Book_spans :=
  (And.intro (And.intro True.intro (And.intro (And.intro (And.intro True.intro (attF c (c.ex (b := fun K => clB K cl) 2 rfl) (by decide))) (And.intro True.intro True.intro)) True.intro)) (And.intro (And.intro (And.intro True.intro (attF c (c.ex (b := fun K => clB K cl) 2 rfl) (by decide))) (And.intro (And.intro (And.intro True.intro (attF c (c.ex (b := fun K => clB K cl) 2 rfl) (by decide))) (And.intro True.intro True.intro)) True.intro)) (And.intro (And.intro (c.free _ (c.fa 6 rfl)) (And.intro (And.intro (c.free _ (c.fa 11 rfl)) (c.free _ (c.fa 12 rfl))) (And.intro True.intro (And.intro (And.intro (And.intro True.intro (And.intro True.intro True.intro)) (And.intro True.intro True.intro)) (And.intro True.intro True.intro))))) (And.intro (And.intro True.intro (And.intro (And.intro (And.intro True.intro True.intro) (And.intro True.intro True.intro)) (And.intro True.intro (And.intro True.intro (And.intro True.intro True.intro))))) True.intro))))
theorem ok_Book_spans {T : Tab} (c : HFx T) : DefOk T 1 (He.fAd T.K d_Book_spans.at_) ["self"] m_Book_spans := defOk (c.df (d := d_Book_spans) 11 rfl) sc_Book_spans (fun _ _ _ _ _ _ us hl => match us, hl with | [_], _ => rfl) rfl rfl (by decide) ck_Book_spans (nd_Book_spans c)
theorem sc_least_told : FnScope ["book", "low", "high", "offset"] ["book"] (defScope s_least_told) := ⟨rfl, rfl, rfl, by decide +kernel, rfl, by decide +kernel, by decide +kernel⟩
theorem ck_least_told : chkTs ["book", "low", "high", "offset"] fl0 (defScope s_least_told) ir_least_told (defBody s_least_told) = true := by kernel_rfl
theorem nd_least_told {T : Tab} (c : HFx T) : needTs T 3 .nil ir_least_told :=
  (And.intro (And.intro (fnF c (c.fa 13 rfl) (ok_check_book c) (by decide)) (And.intro True.intro True.intro)) (And.intro (And.intro (c.free _ (c.fa 17 rfl)) (And.intro (And.intro (c.free _ (c.fa 11 rfl)) (c.free _ (c.fa 12 rfl))) (And.intro (And.intro (And.intro True.intro (And.intro (metF (x := "Book") c (c.ex (b := fun K => clB K cl) 2 rfl) rfl (c.fa 18 rfl) (by decide) (ok_Book_spans c) (by decide) metF_nil) True.intro)) (And.intro True.intro (And.intro True.intro True.intro))) True.intro))) True.intro))
theorem ok_least_told {T : Tab} (c : HFx T) : DefOk T 4 (He.fAd T.K d_least_told.at_) ["book"] f_least_told := defOk (c.df (d := d_least_told) 12 rfl) sc_least_told (fun _ _ _ _ _ _ us hl => match us, hl with | [_], _ => rfl) rfl rfl (by decide) ck_least_told (nd_least_told c)
theorem sc_Many_init : FnScope ["self", "ticks"] ["self", "ticks"] (defScope s_Many_init) := ⟨rfl, rfl, rfl, by decide +kernel, rfl, by decide +kernel, by decide +kernel⟩
theorem ck_Many_init : chkTs ["self", "ticks"] fl0 (defScope s_Many_init) ir_Many_init (defBody s_Many_init) = true := by kernel_rfl
theorem nd_Many_init {T : Tab} (c : HFx T) : needTs T 0 .nil ir_Many_init :=
  (And.intro (And.intro (fillF c (c.ex (b := fun K => clB K cl) 2 rfl) (by decide)) (And.intro (c.free _ (c.fa 5 rfl)) (And.intro (And.intro (c.free _ (c.fa 11 rfl)) (c.free _ (c.fa 12 rfl))) (And.intro True.intro True.intro)))) True.intro)
theorem mk_Many {T : Tab} (c : HFx T) {k : Nat} (hk : 2 ≤ k) : MakF T k "Many" 3 i_Many := makF c rfl (c.fa 19 rfl) (c.fa 20 rfl) (c.df (d := d_Many_init) 13 rfl) sc_Many_init (fun _ _ _ _ _ _ us hl => match us, hl with | [_, _], _ => rfl) rfl rfl (by decide) ck_Many_init (nd_Many_init c) hk
theorem sc_Never_init : FnScope ["self", "turn"] ["self", "turn"] (defScope s_Never_init) := ⟨rfl, rfl, rfl, by decide +kernel, rfl, by decide +kernel, by decide +kernel⟩
theorem ck_Never_init : chkTs ["self", "turn"] fl0 (defScope s_Never_init) ir_Never_init (defBody s_Never_init) = true := by kernel_rfl
theorem nd_Never_init {T : Tab} (c : HFx T) : needTs T 0 .nil ir_Never_init :=
  (And.intro (And.intro (fillF c (c.ex (b := fun K => clB K cl) 2 rfl) (by decide)) True.intro) True.intro)
theorem mk_Never {T : Tab} (c : HFx T) {k : Nat} (hk : 2 ≤ k) : MakF T k "Never" 2 i_Never := makF c rfl (c.fa 21 rfl) (c.fa 22 rfl) (c.df (d := d_Never_init) 14 rfl) sc_Never_init (fun _ _ _ _ _ _ us hl => match us, hl with | [_, _], _ => rfl) rfl rfl (by decide) ck_Never_init (nd_Never_init c) hk
theorem sc_One_init : FnScope ["self", "tick"] ["self", "tick"] (defScope s_One_init) := ⟨rfl, rfl, rfl, by decide +kernel, rfl, by decide +kernel, by decide +kernel⟩
theorem ck_One_init : chkTs ["self", "tick"] fl0 (defScope s_One_init) ir_One_init (defBody s_One_init) = true := by kernel_rfl
theorem nd_One_init {T : Tab} (c : HFx T) : needTs T 0 .nil ir_One_init :=
  (And.intro (And.intro (fillF c (c.ex (b := fun K => clB K cl) 2 rfl) (by decide)) True.intro) True.intro)
theorem mk_One {T : Tab} (c : HFx T) {k : Nat} (hk : 2 ≤ k) : MakF T k "One" 1 i_One := makF c rfl (c.fa 23 rfl) (c.fa 24 rfl) (c.df (d := d_One_init) 15 rfl) sc_One_init (fun _ _ _ _ _ _ us hl => match us, hl with | [_, _], _ => rfl) rfl rfl (by decide) ck_One_init (nd_One_init c) hk
theorem sc_judge_told : FnScope ["book", "told", "ticks", "place", "tick", "offset"] ["book", "told"] (defScope s_judge_told) := ⟨rfl, rfl, rfl, by decide +kernel, rfl, by decide +kernel, by decide +kernel⟩
theorem ck_judge_told : chkTs ["book", "told", "ticks", "place", "tick", "offset"] fl0 (defScope s_judge_told) ir_judge_told (defBody s_judge_told) = true := by kernel_rfl
theorem nd_judge_told {T : Tab} (c : HFx T) : needTs T 4 .nil ir_judge_told :=
  (And.intro (And.intro (fnF c (c.fa 25 rfl) (ok_meanings c) (by decide)) (And.intro True.intro (And.intro True.intro True.intro))) (And.intro (And.intro (And.intro (And.intro (c.free _ (c.fa 10 rfl)) (And.intro (And.intro (c.free _ (c.fa 11 rfl)) (c.free _ (c.fa 12 rfl))) (And.intro True.intro True.intro))) True.intro) (And.intro (And.intro (And.intro (mk_One c (by decide)) (And.intro (And.intro True.intro True.intro) True.intro)) True.intro) True.intro)) (And.intro (And.intro (And.intro True.intro True.intro) (And.intro (And.intro (And.intro (mk_Many c (by decide)) (And.intro True.intro True.intro)) True.intro) True.intro)) (And.intro (And.intro (And.intro (And.intro True.intro (attF c (c.ex (b := fun K => clB K cl) 2 rfl) (by decide))) (c.free _ (c.fa 26 rfl))) (And.intro (And.intro (And.intro (And.intro (fnF c (c.fa 27 rfl) (ok_told_ahead c) (by decide)) (And.intro True.intro (And.intro True.intro True.intro))) (And.intro True.intro (And.intro True.intro True.intro))) (And.intro (And.intro (And.intro (mk_Never c (by decide)) (And.intro True.intro True.intro)) True.intro) True.intro)) True.intro)) (And.intro (And.intro (mk_Never c (by decide)) (And.intro True.intro True.intro)) True.intro)))))
theorem ok_judge_told {T : Tab} (c : HFx T) : DefOk T 5 (He.fAd T.K d_judge_told.at_) ["book", "told"] f_judge_told := defOk (c.df (d := d_judge_told) 16 rfl) sc_judge_told (fun _ _ _ _ _ _ us hl => match us, hl with | [_, _], _ => rfl) rfl rfl (by decide) ck_judge_told (nd_judge_told c)
theorem sc_counts : FnScope ["book", "rows", "begins", "low", "high", "offset", "ends", "found"] ["book"] (defScope s_counts) := ⟨rfl, rfl, rfl, by decide +kernel, rfl, by decide +kernel, by decide +kernel⟩
theorem ck_counts : chkTs ["book", "rows", "begins", "low", "high", "offset", "ends", "found"] fl0 (defScope s_counts) ir_counts (defBody s_counts) = true := by kernel_rfl
theorem nd_counts {T : Tab} (c : HFx T) : needTs T 4 .nil ir_counts :=
  (And.intro (And.intro (fnF c (c.fa 13 rfl) (ok_check_book c) (by decide)) (And.intro True.intro True.intro)) (And.intro (And.intro True.intro (And.intro (metF (x := "Book") c (c.ex (b := fun K => clB K cl) 2 rfl) rfl (c.fa 18 rfl) (by decide) (ok_Book_spans c) (by decide) metF_nil) True.intro)) (And.intro (And.intro True.intro (And.intro True.intro (And.intro True.intro True.intro))) (And.intro (And.intro (c.free _ (c.fa 28 rfl)) (And.intro (And.intro (c.free _ (c.fa 11 rfl)) (c.free _ (c.fa 12 rfl))) (And.intro (And.intro True.intro (And.intro (And.intro (And.intro True.intro (And.intro True.intro True.intro)) (And.intro True.intro (And.intro True.intro True.intro))) True.intro)) True.intro))) (And.intro True.intro (And.intro (And.intro (And.intro True.intro (And.intro (And.intro True.intro (And.intro True.intro True.intro)) (c.free _ (c.fa 12 rfl)))) (And.intro (And.intro (And.intro True.intro (And.intro True.intro True.intro)) (And.intro (And.intro (c.free _ (c.fa 10 rfl)) (And.intro (And.intro (c.free _ (c.fa 11 rfl)) (c.free _ (c.fa 12 rfl))) (And.intro (And.intro (fnF c (c.fa 25 rfl) (ok_meanings c) (by decide)) (And.intro True.intro (And.intro True.intro True.intro))) True.intro))) True.intro)) True.intro)) (And.intro True.intro (And.intro True.intro True.intro))))))))
theorem ok_counts {T : Tab} (c : HFx T) : DefOk T 5 (He.fAd T.K d_counts.at_) ["book"] f_counts := defOk (c.df (d := d_counts) 17 rfl) sc_counts (fun _ _ _ _ _ _ us hl => match us, hl with | [_], _ => rfl) rfl rfl (by decide) ck_counts (nd_counts c)
theorem sc_put_together : FnScope ["spans", "found", "low", "high"] ["spans"] (defScope s_put_together) := ⟨rfl, rfl, rfl, by decide +kernel, rfl, by decide +kernel, by decide +kernel⟩
theorem ck_put_together : chkTs ["spans", "found", "low", "high"] fl0 (defScope s_put_together) ir_put_together (defBody s_put_together) = true := by kernel_rfl
theorem nd_put_together {T : Tab} (c : HFx T) : needTs T 0 .nil ir_put_together :=
  (And.intro True.intro (And.intro (And.intro True.intro (And.intro (And.intro (And.intro (And.intro True.intro True.intro) (And.intro (And.intro (And.intro True.intro True.intro) True.intro) True.intro)) (And.intro (And.intro (And.intro True.intro (And.intro (And.intro (And.intro True.intro True.intro) True.intro) (And.intro True.intro True.intro))) True.intro) (And.intro (And.intro True.intro (And.intro True.intro True.intro)) True.intro))) True.intro)) (And.intro True.intro (And.intro True.intro True.intro))))
theorem ok_put_together {T : Tab} (c : HFx T) : DefOk T 1 (He.fAd T.K d_put_together.at_) ["spans"] f_put_together := defOk (c.df (d := d_put_together) 18 rfl) sc_put_together (fun _ _ _ _ _ _ us hl => match us, hl with | [_], _ => rfl) rfl rfl (by decide) ck_put_together (nd_put_together c)
theorem sc_gaps : FnScope ["book", "pair", "many"] ["book"] (defScope s_gaps) := ⟨rfl, rfl, rfl, by decide +kernel, rfl, by decide +kernel, by decide +kernel⟩
theorem ck_gaps : chkTs ["book", "pair", "many"] fl0 (defScope s_gaps) ir_gaps (defBody s_gaps) = true := by kernel_rfl
theorem nd_gaps {T : Tab} (c : HFx T) : needTs T 5 .nil ir_gaps :=
  (And.intro (And.intro (fnF c (c.fa 29 rfl) (ok_put_together c) (by decide)) (And.intro (And.intro (And.intro (fnF c (c.fa 30 rfl) (ok_counts c) (by decide)) (And.intro True.intro True.intro)) (And.intro (And.intro True.intro True.intro) True.intro)) True.intro)) True.intro)
theorem ok_gaps {T : Tab} (c : HFx T) : DefOk T 6 (He.fAd T.K d_gaps.at_) ["book"] f_gaps := defOk (c.df (d := d_gaps) 19 rfl) sc_gaps (fun _ _ _ _ _ _ us hl => match us, hl with | [_], _ => rfl) rfl rfl (by decide) ck_gaps (nd_gaps c)
theorem sc_folds : FnScope ["book", "pair", "many"] ["book"] (defScope s_folds) := ⟨rfl, rfl, rfl, by decide +kernel, rfl, by decide +kernel, by decide +kernel⟩
theorem ck_folds : chkTs ["book", "pair", "many"] fl0 (defScope s_folds) ir_folds (defBody s_folds) = true := by kernel_rfl
theorem nd_folds {T : Tab} (c : HFx T) : needTs T 5 .nil ir_folds :=
  (And.intro (And.intro (fnF c (c.fa 29 rfl) (ok_put_together c) (by decide)) (And.intro (And.intro (And.intro (fnF c (c.fa 30 rfl) (ok_counts c) (by decide)) (And.intro True.intro True.intro)) (And.intro (And.intro True.intro True.intro) True.intro)) True.intro)) True.intro)
theorem ok_folds {T : Tab} (c : HFx T) : DefOk T 6 (He.fAd T.K d_folds.at_) ["book"] f_folds := defOk (c.df (d := d_folds) 20 rfl) sc_folds (fun _ _ _ _ _ _ us hl => match us, hl with | [_], _ => rfl) rfl rfl (by decide) ck_folds (nd_folds c)
theorem sc_is_plain : FnScope ["book", "pair", "many"] ["book"] (defScope s_is_plain) := ⟨rfl, rfl, rfl, by decide +kernel, rfl, by decide +kernel, by decide +kernel⟩
theorem ck_is_plain : chkTs ["book", "pair", "many"] fl0 (defScope s_is_plain) ir_is_plain (defBody s_is_plain) = true := by kernel_rfl
theorem nd_is_plain {T : Tab} (c : HFx T) : needTs T 5 .nil ir_is_plain :=
  (And.intro (And.intro (fnF c (c.fa 13 rfl) (ok_check_book c) (by decide)) (And.intro True.intro True.intro)) (And.intro (And.intro (c.free _ (c.fa 31 rfl)) (And.intro (And.intro (c.free _ (c.fa 11 rfl)) (c.free _ (c.fa 12 rfl))) (And.intro (And.intro (And.intro (fnF c (c.fa 30 rfl) (ok_counts c) (by decide)) (And.intro True.intro True.intro)) (And.intro True.intro (And.intro True.intro True.intro))) True.intro))) True.intro))
theorem ok_is_plain {T : Tab} (c : HFx T) : DefOk T 6 (He.fAd T.K d_is_plain.at_) ["book"] f_is_plain := defOk (c.df (d := d_is_plain) 21 rfl) sc_is_plain (fun _ _ _ _ _ _ us hl => match us, hl with | [_], _ => rfl) rfl rfl (by decide) ck_is_plain (nd_is_plain c)
theorem sc_last_told : FnScope ["book", "rows", "low", "high", "offset"] ["book"] (defScope s_last_told) := ⟨rfl, rfl, rfl, by decide +kernel, rfl, by decide +kernel, by decide +kernel⟩
theorem ck_last_told : chkTs ["book", "rows", "low", "high", "offset"] fl0 (defScope s_last_told) ir_last_told (defBody s_last_told) = true := by kernel_rfl
theorem nd_last_told {T : Tab} (c : HFx T) : needTs T 3 .nil ir_last_told :=
  (And.intro (And.intro (fnF c (c.fa 13 rfl) (ok_check_book c) (by decide)) (And.intro True.intro True.intro)) (And.intro (And.intro True.intro (And.intro (metF (x := "Book") c (c.ex (b := fun K => clB K cl) 2 rfl) rfl (c.fa 18 rfl) (by decide) (ok_Book_spans c) (by decide) metF_nil) True.intro)) (And.intro (And.intro (c.free _ (c.fa 32 rfl)) (And.intro (And.intro (c.free _ (c.fa 11 rfl)) (c.free _ (c.fa 12 rfl))) (And.intro (And.intro (And.intro (And.intro (And.intro True.intro True.intro) True.intro) (And.intro (And.intro True.intro True.intro) True.intro)) (And.intro (And.intro (And.intro True.intro (And.intro True.intro True.intro)) (And.intro True.intro (And.intro True.intro True.intro))) True.intro)) True.intro))) True.intro)))
theorem ok_last_told {T : Tab} (c : HFx T) : DefOk T 4 (He.fAd T.K d_last_told.at_) ["book"] f_last_told := defOk (c.df (d := d_last_told) 22 rfl) sc_last_told (fun _ _ _ _ _ _ us hl => match us, hl with | [_], _ => rfl) rfl rfl (by decide) ck_last_told (nd_last_told c)
theorem sc__law_number : FnScope ["script", "index", "cell", "turn", "rest", "step", "blend"] ["script", "index"] (defScope s__law_number) := ⟨rfl, rfl, rfl, by decide +kernel, rfl, by decide +kernel, by decide +kernel⟩
theorem ck__law_number : chkTs ["script", "index", "cell", "turn", "rest", "step", "blend"] fl0 (defScope s__law_number) ir__law_number (defBody s__law_number) = true := by kernel_rfl
theorem nd__law_number {T : Tab} (c : HFx T) : needTs T 0 .nil ir__law_number :=
  (And.intro (And.intro (And.intro True.intro True.intro) (And.intro (And.intro (And.intro True.intro (And.intro True.intro (And.intro (c.free _ (c.fa 10 rfl)) (And.intro (And.intro (c.free _ (c.fa 11 rfl)) (c.free _ (c.fa 12 rfl))) (And.intro True.intro True.intro))))) (And.intro (And.intro True.intro (And.intro (c.free _ (c.fa 10 rfl)) (And.intro (And.intro (c.free _ (c.fa 11 rfl)) (c.free _ (c.fa 12 rfl))) (And.intro True.intro True.intro)))) True.intro)) (And.intro True.intro (And.intro True.intro True.intro)))) (And.intro (And.intro (And.intro True.intro True.intro) (And.intro (And.intro True.intro (And.intro True.intro True.intro)) True.intro)) (And.intro (And.intro (And.intro (And.intro (And.intro (c.free _ (c.fa 2 rfl)) (And.intro (And.intro (c.free _ (c.fa 11 rfl)) (c.free _ (c.fa 12 rfl))) (And.intro True.intro True.intro))) True.intro) (c.free _ (c.fa 16 rfl))) (And.intro (And.intro True.intro True.intro) True.intro)) (And.intro (And.intro (And.intro True.intro True.intro) (And.intro (And.intro (And.intro (And.intro (c.free _ (c.fa 2 rfl)) (And.intro (And.intro (c.free _ (c.fa 11 rfl)) (c.free _ (c.fa 12 rfl))) (And.intro True.intro True.intro))) True.intro) True.intro) True.intro)) (And.intro (And.intro (And.intro (And.intro (And.intro (c.free _ (c.fa 2 rfl)) (And.intro (And.intro (c.free _ (c.fa 11 rfl)) (c.free _ (c.fa 12 rfl))) (And.intro (And.intro True.intro (And.intro True.intro True.intro)) True.intro))) True.intro) (And.intro True.intro (And.intro (c.free _ (c.fa 10 rfl)) (And.intro (And.intro (c.free _ (c.fa 11 rfl)) (c.free _ (c.fa 12 rfl))) (And.intro True.intro True.intro))))) True.intro) (And.intro (And.intro (And.intro (And.intro True.intro True.intro) (And.intro True.intro True.intro)) True.intro) (And.intro (And.intro (c.free _ (c.fa 2 rfl)) (And.intro (And.intro (c.free _ (c.fa 11 rfl)) (c.free _ (c.fa 12 rfl))) (And.intro (And.intro (And.intro (And.intro True.intro True.intro) (And.intro True.intro True.intro)) True.intro) True.intro))) True.intro)))))))
theorem ok__law_number {T : Tab} (c : HFx T) : DefOk T 1 (He.fAd T.K d__law_number.at_) ["script", "index"] f__law_number := defOk (c.df (d := d__law_number) 23 rfl) sc__law_number (fun _ _ _ _ _ _ us hl => match us, hl with | [_, _], _ => rfl) rfl rfl (by decide) ck__law_number (nd__law_number c)
theorem sc__law_take : FnScope ["draw", "many"] ["draw", "many"] (defScope s__law_take) := ⟨rfl, rfl, rfl, by decide +kernel, rfl, by decide +kernel, by decide +kernel⟩
theorem ck__law_take : chkTs ["draw", "many"] fl0 (defScope s__law_take) ir__law_take (defBody s__law_take) = true := by kernel_rfl
theorem nd__law_take {T : Tab} (c : HFx T) : needTs T 1 .nil ir__law_take :=
  (And.intro (And.intro True.intro True.intro) (And.intro (And.intro (And.intro (c.free _ (c.fa 2 rfl)) (And.intro (And.intro (c.free _ (c.fa 11 rfl)) (c.free _ (c.fa 12 rfl))) (And.intro (And.intro (fnF c (c.fa 33 rfl) (ok__law_number c) (by decide)) (And.intro (And.intro True.intro True.intro) (And.intro (And.intro (c.free _ (c.fa 2 rfl)) (And.intro (And.intro (c.free _ (c.fa 11 rfl)) (c.free _ (c.fa 12 rfl))) (And.intro (And.intro True.intro True.intro) True.intro))) True.intro))) True.intro))) True.intro) True.intro))
theorem ok__law_take {T : Tab} (c : HFx T) : DefOk T 2 (He.fAd T.K d__law_take.at_) ["draw", "many"] f__law_take := defOk (c.df (d := d__law_take) 24 rfl) sc__law_take (fun _ _ _ _ _ _ us hl => match us, hl with | [_, _], _ => rfl) rfl rfl (by decide) ck__law_take (nd__law_take c)
theorem sc__law_pick : FnScope ["draw", "items"] ["draw", "items"] (defScope s__law_pick) := ⟨rfl, rfl, rfl, by decide +kernel, rfl, by decide +kernel, by decide +kernel⟩
theorem ck__law_pick : chkTs ["draw", "items"] fl0 (defScope s__law_pick) ir__law_pick (defBody s__law_pick) = true := by kernel_rfl
theorem nd__law_pick {T : Tab} (c : HFx T) : needTs T 2 .nil ir__law_pick :=
  (And.intro (And.intro True.intro (And.intro (fnF c (c.fa 34 rfl) (ok__law_take c) (by decide)) (And.intro True.intro (And.intro (And.intro (c.free _ (c.fa 10 rfl)) (And.intro (And.intro (c.free _ (c.fa 11 rfl)) (c.free _ (c.fa 12 rfl))) (And.intro True.intro True.intro))) True.intro)))) True.intro)
theorem ok__law_pick {T : Tab} (c : HFx T) : DefOk T 3 (He.fAd T.K d__law_pick.at_) ["draw", "items"] f__law_pick := defOk (c.df (d := d__law_pick) 25 rfl) sc__law_pick (fun _ _ _ _ _ _ us hl => match us, hl with | [_, _], _ => rfl) rfl rfl (by decide) ck__law_pick (nd__law_pick c)
theorem sc__law_book : FnScope ["draw", "most", "turns", "tick", "turn"] ["draw", "most"] (defScope s__law_book) := ⟨rfl, rfl, rfl, by decide +kernel, rfl, by decide +kernel, by decide +kernel⟩
theorem ck__law_book : chkTs ["draw", "most", "turns", "tick", "turn"] fl0 (defScope s__law_book) ir__law_book (defBody s__law_book) = true := by kernel_rfl
theorem nd__law_book {T : Tab} (c : HFx T) : needTs T 3 .nil ir__law_book :=
  (And.intro (And.intro True.intro True.intro) (And.intro (And.intro (And.intro (And.intro (fnF c (c.fa 34 rfl) (ok__law_take c) (by decide)) (And.intro True.intro (And.intro (And.intro True.intro True.intro) True.intro))) (c.free _ (c.fa 16 rfl))) (And.intro (And.intro (And.intro True.intro True.intro) (And.intro (And.intro True.intro (And.intro (fnF c (c.fa 35 rfl) (ok__law_pick c) (by decide)) (And.intro True.intro (And.intro (And.intro True.intro (And.intro True.intro (And.intro True.intro (And.intro True.intro (And.intro True.intro (And.intro True.intro True.intro)))))) True.intro)))) (And.intro True.intro (And.intro (fnF c (c.fa 35 rfl) (ok__law_pick c) (by decide)) (And.intro True.intro (And.intro (And.intro True.intro (And.intro True.intro (And.intro True.intro (And.intro True.intro (And.intro True.intro (And.intro True.intro (And.intro True.intro True.intro))))))) True.intro)))))) (And.intro (And.intro True.intro (And.intro (And.intro (fnF c (c.fa 35 rfl) (ok__law_pick c) (by decide)) (And.intro True.intro (And.intro (And.intro True.intro (And.intro True.intro (And.intro True.intro (And.intro True.intro (And.intro True.intro (And.intro True.intro (And.intro True.intro True.intro))))))) True.intro))) True.intro)) True.intro))) (And.intro True.intro (And.intro (And.intro (And.intro (fnF c (c.fa 35 rfl) (ok__law_pick c) (by decide)) (And.intro True.intro (And.intro (And.intro True.intro (And.intro True.intro (And.intro True.intro (And.intro True.intro (And.intro True.intro (And.intro True.intro True.intro)))))) True.intro))) (And.intro True.intro True.intro)) True.intro))))
theorem ok__law_book {T : Tab} (c : HFx T) : DefOk T 4 (He.fAd T.K d__law_book.at_) ["draw", "most"] f__law_book := defOk (c.df (d := d__law_book) 26 rfl) sc__law_book (fun _ _ _ _ _ _ us hl => match us, hl with | [_, _], _ => rfl) rfl rfl (by decide) ck__law_book (nd__law_book c)
theorem sc__law_offset : FnScope ["told", "tick", "found", "begin", "offset"] ["told", "tick"] (defScope s__law_offset) := ⟨rfl, rfl, rfl, by decide +kernel, rfl, by decide +kernel, by decide +kernel⟩
theorem ck__law_offset : chkTs ["told", "tick", "found", "begin", "offset"] fl0 (defScope s__law_offset) ir__law_offset (defBody s__law_offset) = true := by kernel_rfl
theorem nd__law_offset {T : Tab} (c : HFx T) : needTs T 0 .nil ir__law_offset :=
  (And.intro (And.intro True.intro True.intro) (And.intro (And.intro (And.intro True.intro True.intro) (And.intro (And.intro (And.intro True.intro True.intro) (And.intro True.intro True.intro)) True.intro)) (And.intro True.intro True.intro)))
theorem ok__law_offset {T : Tab} (c : HFx T) : DefOk T 1 (He.fAd T.K d__law_offset.at_) ["told", "tick"] f__law_offset := defOk (c.df (d := d__law_offset) 27 rfl) sc__law_offset (fun _ _ _ _ _ _ us hl => match us, hl with | [_, _], _ => rfl) rfl rfl (by decide) ck__law_offset (nd__law_offset c)
theorem sc__law_told : FnScope ["told", "tick"] ["told", "tick"] (defScope s__law_told) := ⟨rfl, rfl, rfl, by decide +kernel, rfl, by decide +kernel, by decide +kernel⟩
theorem ck__law_told : chkTs ["told", "tick"] fl0 (defScope s__law_told) ir__law_told (defBody s__law_told) = true := by kernel_rfl
theorem nd__law_told {T : Tab} (c : HFx T) : needTs T 1 .nil ir__law_told :=
  (And.intro (And.intro True.intro (And.intro (fnF c (c.fa 36 rfl) (ok__law_offset c) (by decide)) (And.intro True.intro (And.intro True.intro True.intro)))) True.intro)
theorem ok__law_told {T : Tab} (c : HFx T) : DefOk T 2 (He.fAd T.K d__law_told.at_) ["told", "tick"] f__law_told := defOk (c.df (d := d__law_told) 28 rfl) sc__law_told (fun _ _ _ _ _ _ us hl => match us, hl with | [_, _], _ => rfl) rfl rfl (by decide) ck__law_told (nd__law_told c)
theorem sc__law_means : FnScope ["told", "time", "tick"] ["told", "time"] (defScope s__law_means) := ⟨rfl, rfl, rfl, by decide +kernel, rfl, by decide +kernel, by decide +kernel⟩
theorem ck__law_means : chkTs ["told", "time", "tick"] fl0 (defScope s__law_means) ir__law_means (defBody s__law_means) = true := by kernel_rfl
theorem nd__law_means {T : Tab} (c : HFx T) : needTs T 2 .nil ir__law_means :=
  (And.intro (And.intro (And.intro (And.intro (c.free _ (c.fa 32 rfl)) (And.intro (And.intro (c.free _ (c.fa 11 rfl)) (c.free _ (c.fa 12 rfl))) (And.intro True.intro (And.intro (And.intro True.intro True.intro) True.intro)))) (And.intro (And.intro (c.free _ (c.fa 32 rfl)) (And.intro (And.intro (c.free _ (c.fa 11 rfl)) (c.free _ (c.fa 12 rfl))) (And.intro True.intro (And.intro (And.intro True.intro True.intro) True.intro)))) (c.free _ (c.fa 16 rfl)))) (And.intro (And.intro (And.intro (fnF c (c.fa 37 rfl) (ok__law_told c) (by decide)) (And.intro True.intro (And.intro True.intro True.intro))) True.intro) True.intro)) True.intro)
theorem ok__law_means {T : Tab} (c : HFx T) : DefOk T 3 (He.fAd T.K d__law_means.at_) ["told", "time"] f__law_means := defOk (c.df (d := d__law_means) 29 rfl) sc__law_means (fun _ _ _ _ _ _ us hl => match us, hl with | [_, _], _ => rfl) rfl rfl (by decide) ck__law_means (nd__law_means c)
theorem sc_Book_init : FnScope ["self", "first", "turns", "last", "place", "pair"] ["self", "first", "turns"] (defScope s_Book_init) := ⟨rfl, rfl, rfl, by decide +kernel, rfl, by decide +kernel, by decide +kernel⟩
theorem ck_Book_init : chkTs ["self", "first", "turns", "last", "place", "pair"] fl0 (defScope s_Book_init) ir_Book_init (defBody s_Book_init) = true := by kernel_rfl
theorem nd_Book_init {T : Tab} (c : HFx T) : needTs T 2 .nil ir_Book_init :=
  (And.intro (And.intro (And.intro (fnF c (c.fa 38 rfl) (ok_is_offset c) (by decide)) (And.intro True.intro True.intro)) (And.intro (And.intro (And.intro (ra_BadBook c (by decide)) (And.intro True.intro (And.intro True.intro True.intro))) True.intro) True.intro)) (And.intro (And.intro (And.intro (fnF c (c.fa 39 rfl) (ok_is_row c) (by decide)) (And.intro True.intro True.intro)) (And.intro (And.intro (And.intro (ra_BadBook c (by decide)) (And.intro True.intro (And.intro True.intro True.intro))) True.intro) True.intro)) (And.intro True.intro (And.intro (And.intro (And.intro True.intro (c.free _ (c.fa 26 rfl))) (And.intro (And.intro (And.intro (And.intro True.intro (And.intro (c.free _ (c.fa 3 rfl)) (forall_cons (isiF c (c.ex (b := fun K => clB K cl) 2 rfl) (c.ex (b := fun K => isiB K cl "tuple") 5 rfl) (c.fa 5 rfl) rfl (by decide) (by decide)) (fun t h => by cases h)))) (And.intro (And.intro (And.intro (c.free _ (c.fa 10 rfl)) (And.intro (And.intro (c.free _ (c.fa 11 rfl)) (c.free _ (c.fa 12 rfl))) (And.intro True.intro True.intro))) True.intro) (And.intro (fnF c (c.fa 40 rfl) (ok_is_number c) (by decide)) (And.intro (And.intro True.intro True.intro) (And.intro True.intro (And.intro (gloI c (c.fa 9 rfl)) True.intro)))))) (And.intro (And.intro (And.intro (ra_BadBook c (by decide)) (And.intro True.intro (And.intro True.intro True.intro))) True.intro) True.intro)) (And.intro (And.intro (And.intro (fnF c (c.fa 38 rfl) (ok_is_offset c) (by decide)) (And.intro (And.intro True.intro True.intro) True.intro)) (And.intro (And.intro (And.intro (ra_BadBook c (by decide)) (And.intro True.intro (And.intro True.intro True.intro))) True.intro) True.intro)) (And.intro (And.intro (And.intro True.intro True.intro) True.intro) True.intro)))) (And.intro (And.intro (fillF c (c.ex (b := fun K => clB K cl) 2 rfl) (by decide)) True.intro) (And.intro (And.intro (fillF c (c.ex (b := fun K => clB K cl) 2 rfl) (by decide)) (And.intro (c.free _ (c.fa 5 rfl)) (And.intro (And.intro (c.free _ (c.fa 11 rfl)) (c.free _ (c.fa 12 rfl))) (And.intro True.intro True.intro)))) True.intro))))))
theorem mk_Book {T : Tab} (c : HFx T) {k : Nat} (hk : 4 ≤ k) : MakF T k "Book" 0 i_Book := makF c rfl (c.fa 8 rfl) (c.fa 41 rfl) (c.df (d := d_Book_init) 30 rfl) sc_Book_init (fun _ _ _ _ _ _ us hl => match us, hl with | [_, _, _], _ => rfl) rfl rfl (by decide) ck_Book_init (nd_Book_init c) hk
theorem sc__law_built : FnScope ["told"] ["told"] (defScope s__law_built) := ⟨rfl, rfl, rfl, by decide +kernel, rfl, by decide +kernel, by decide +kernel⟩
theorem ck__law_built : chkTs ["told"] fl0 (defScope s__law_built) ir__law_built (defBody s__law_built) = true := by kernel_rfl
theorem nd__law_built {T : Tab} (c : HFx T) : needTs T 4 .nil ir__law_built :=
  (And.intro (And.intro (mk_Book c (by decide)) (And.intro (And.intro True.intro True.intro) (And.intro (And.intro True.intro True.intro) True.intro))) True.intro)
theorem ok__law_built {T : Tab} (c : HFx T) : DefOk T 5 (He.fAd T.K d__law_built.at_) ["told"] f__law_built := defOk (c.df (d := d__law_built) 31 rfl) sc__law_built (fun _ _ _ _ _ _ us hl => match us, hl with | [_], _ => rfl) rfl rfl (by decide) ck__law_built (nd__law_built c)
theorem sc__law_over : FnScope ["told", "time", "found", "place", "tick", "offset", "ahead"] ["told", "time"] (defScope s__law_over) := ⟨rfl, rfl, rfl, by decide +kernel, rfl, by decide +kernel, by decide +kernel⟩
theorem ck__law_over : chkTs ["told", "time", "found", "place", "tick", "offset", "ahead"] fl0 (defScope s__law_over) ir__law_over (defBody s__law_over) = true := by kernel_rfl
theorem nd__law_over {T : Tab} (c : HFx T) : needTs T 0 .nil ir__law_over :=
  (And.intro True.intro (And.intro (And.intro (And.intro (And.intro True.intro True.intro) (c.free _ (c.fa 26 rfl))) (And.intro (And.intro (And.intro True.intro True.intro) (And.intro (And.intro (And.intro (And.intro True.intro True.intro) (And.intro True.intro True.intro)) True.intro) (And.intro True.intro True.intro))) (And.intro (And.intro (And.intro (And.intro True.intro True.intro) (And.intro True.intro (And.intro True.intro True.intro))) (And.intro (And.intro True.intro True.intro) True.intro)) True.intro))) (And.intro True.intro (And.intro True.intro True.intro))))
theorem ok__law_over {T : Tab} (c : HFx T) : DefOk T 1 (He.fAd T.K d__law_over.at_) ["told", "time"] f__law_over := defOk (c.df (d := d__law_over) 32 rfl) sc__law_over (fun _ _ _ _ _ _ us hl => match us, hl with | [_, _], _ => rfl) rfl rfl (by decide) ck__law_over (nd__law_over c)
theorem sc__law_spans : FnScope ["times", "found", "time"] ["times"] (defScope s__law_spans) := ⟨rfl, rfl, rfl, by decide +kernel, rfl, by decide +kernel, by decide +kernel⟩
theorem ck__law_spans : chkTs ["times", "found", "time"] fl0 (defScope s__law_spans) ir__law_spans (defBody s__law_spans) = true := by kernel_rfl
theorem nd__law_spans {T : Tab} (c : HFx T) : needTs T 0 .nil ir__law_spans :=
  (And.intro True.intro (And.intro (And.intro True.intro (And.intro (And.intro (And.intro (And.intro True.intro True.intro) (And.intro (And.intro (And.intro True.intro True.intro) True.intro) True.intro)) (And.intro (And.intro (And.intro True.intro (And.intro True.intro True.intro)) (And.intro (And.intro (And.intro (And.intro True.intro True.intro) True.intro) (And.intro (And.intro True.intro True.intro) True.intro)) True.intro)) (And.intro True.intro (And.intro (And.intro True.intro (And.intro (And.intro True.intro True.intro) True.intro)) True.intro)))) True.intro)) (And.intro True.intro True.intro)))
theorem ok__law_spans {T : Tab} (c : HFx T) : DefOk T 1 (He.fAd T.K d__law_spans.at_) ["times"] f__law_spans := defOk (c.df (d := d__law_spans) 33 rfl) sc__law_spans (fun _ _ _ _ _ _ us hl => match us, hl with | [_], _ => rfl) rfl rfl (by decide) ck__law_spans (nd__law_spans c)
theorem sc_Book_offset : FnScope ["self", "tick", "place"] ["self", "tick"] (defScope s_Book_offset) := ⟨rfl, rfl, rfl, by decide +kernel, rfl, by decide +kernel, by decide +kernel⟩
theorem ck_Book_offset : chkTs ["self", "tick", "place"] fl0 (defScope s_Book_offset) ir_Book_offset (defBody s_Book_offset) = true := by kernel_rfl
theorem nd_Book_offset {T : Tab} (c : HFx T) : needTs T 1 .nil ir_Book_offset :=
  (And.intro (And.intro True.intro (And.intro (metF (x := "Book") c (c.ex (b := fun K => clB K cl) 2 rfl) rfl (c.fa 15 rfl) (by decide) (ok_Book_place c) (by decide) metF_nil) (And.intro True.intro True.intro))) (And.intro (And.intro (And.intro True.intro True.intro) (And.intro (And.intro (And.intro (And.intro True.intro (attF c (c.ex (b := fun K => clB K cl) 2 rfl) (by decide))) (And.intro True.intro True.intro)) True.intro) (And.intro True.intro (attF c (c.ex (b := fun K => clB K cl) 2 rfl) (by decide))))) True.intro))
theorem ok_Book_offset {T : Tab} (c : HFx T) : DefOk T 2 (He.fAd T.K d_Book_offset.at_) ["self", "tick"] m_Book_offset := defOk (c.df (d := d_Book_offset) 34 rfl) sc_Book_offset (fun _ _ _ _ _ _ us hl => match us, hl with | [_, _], _ => rfl) rfl rfl (by decide) ck_Book_offset (nd_Book_offset c)
theorem sc_Book_told : FnScope ["self", "tick"] ["self", "tick"] (defScope s_Book_told) := ⟨rfl, rfl, rfl, by decide +kernel, rfl, by decide +kernel, by decide +kernel⟩
theorem ck_Book_told : chkTs ["self", "tick"] fl0 (defScope s_Book_told) ir_Book_told (defBody s_Book_told) = true := by kernel_rfl
theorem nd_Book_told {T : Tab} (c : HFx T) : needTs T 2 .nil ir_Book_told :=
  (And.intro (And.intro True.intro (And.intro True.intro (And.intro (metF (x := "Book") c (c.ex (b := fun K => clB K cl) 2 rfl) rfl (c.fa 42 rfl) (by decide) (ok_Book_offset c) (by decide) metF_nil) (And.intro True.intro True.intro)))) True.intro)
theorem ok_Book_told {T : Tab} (c : HFx T) : DefOk T 3 (He.fAd T.K d_Book_told.at_) ["self", "tick"] m_Book_told := defOk (c.df (d := d_Book_told) 35 rfl) sc_Book_told (fun _ _ _ _ _ _ us hl => match us, hl with | [_, _], _ => rfl) rfl rfl (by decide) ck_Book_told (nd_Book_told c)
theorem sc_Many_bool : FnScope ["self"] ["self"] (defScope s_Many_bool) := ⟨rfl, rfl, rfl, by decide +kernel, rfl, by decide +kernel, by decide +kernel⟩
theorem ck_Many_bool : chkTs ["self"] fl0 (defScope s_Many_bool) ir_Many_bool (defBody s_Many_bool) = true := by kernel_rfl
theorem nd_Many_bool {T : Tab} (c : HFx T) : needTs T 0 .nil ir_Many_bool :=
  (And.intro True.intro True.intro)
theorem ok_Many_bool {T : Tab} (c : HFx T) : DefOk T 1 (He.fAd T.K d_Many_bool.at_) ["self"] m_Many_bool := defOk (c.df (d := d_Many_bool) 36 rfl) sc_Many_bool (fun _ _ _ _ _ _ us hl => match us, hl with | [_], _ => rfl) rfl rfl (by decide) ck_Many_bool (nd_Many_bool c)
theorem sc_Many_eq : FnScope ["self", "other"] ["self", "other"] (defScope s_Many_eq) := ⟨rfl, rfl, rfl, by decide +kernel, rfl, by decide +kernel, by decide +kernel⟩
theorem ck_Many_eq : chkTs ["self", "other"] fl0 (defScope s_Many_eq) ir_Many_eq (defBody s_Many_eq) = true := by kernel_rfl
theorem nd_Many_eq {T : Tab} (c : HFx T) : needTs T 0 .nil ir_Many_eq :=
  (And.intro (And.intro (And.intro True.intro (And.intro (c.free _ (c.fa 3 rfl)) (forall_cons (isoF c (c.ex (b := fun K => clB K cl) 2 rfl) (c.ex (b := fun K => isoB K cl "Many" 3) 8 rfl) (c.fa 19 rfl) rfl (by decide)) (fun t h => by cases h)))) (And.intro (And.intro True.intro (attF c (c.ex (b := fun K => clB K cl) 2 rfl) (by decide))) (And.intro True.intro (attF c (c.ex (b := fun K => clB K cl) 2 rfl) (by decide))))) True.intro)
theorem ok_Many_eq {T : Tab} (c : HFx T) : DefOk T 1 (He.fAd T.K d_Many_eq.at_) ["self", "other"] m_Many_eq := defOk (c.df (d := d_Many_eq) 37 rfl) sc_Many_eq (fun _ _ _ _ _ _ us hl => match us, hl with | [_, _], _ => rfl) rfl rfl (by decide) ck_Many_eq (nd_Many_eq c)
theorem sc_Never_eq : FnScope ["self", "other"] ["self", "other"] (defScope s_Never_eq) := ⟨rfl, rfl, rfl, by decide +kernel, rfl, by decide +kernel, by decide +kernel⟩
theorem ck_Never_eq : chkTs ["self", "other"] fl0 (defScope s_Never_eq) ir_Never_eq (defBody s_Never_eq) = true := by kernel_rfl
theorem nd_Never_eq {T : Tab} (c : HFx T) : needTs T 0 .nil ir_Never_eq :=
  (And.intro (And.intro (And.intro True.intro (And.intro (c.free _ (c.fa 3 rfl)) (forall_cons (isoF c (c.ex (b := fun K => clB K cl) 2 rfl) (c.ex (b := fun K => isoB K cl "Never" 2) 9 rfl) (c.fa 21 rfl) rfl (by decide)) (fun t h => by cases h)))) (And.intro (And.intro True.intro (attF c (c.ex (b := fun K => clB K cl) 2 rfl) (by decide))) (And.intro True.intro (attF c (c.ex (b := fun K => clB K cl) 2 rfl) (by decide))))) True.intro)
theorem ok_Never_eq {T : Tab} (c : HFx T) : DefOk T 1 (He.fAd T.K d_Never_eq.at_) ["self", "other"] m_Never_eq := defOk (c.df (d := d_Never_eq) 38 rfl) sc_Never_eq (fun _ _ _ _ _ _ us hl => match us, hl with | [_, _], _ => rfl) rfl rfl (by decide) ck_Never_eq (nd_Never_eq c)
theorem sc_One_eq : FnScope ["self", "other"] ["self", "other"] (defScope s_One_eq) := ⟨rfl, rfl, rfl, by decide +kernel, rfl, by decide +kernel, by decide +kernel⟩
theorem ck_One_eq : chkTs ["self", "other"] fl0 (defScope s_One_eq) ir_One_eq (defBody s_One_eq) = true := by kernel_rfl
theorem nd_One_eq {T : Tab} (c : HFx T) : needTs T 0 .nil ir_One_eq :=
  (And.intro (And.intro (And.intro True.intro (And.intro (c.free _ (c.fa 3 rfl)) (forall_cons (isoF c (c.ex (b := fun K => clB K cl) 2 rfl) (c.ex (b := fun K => isoB K cl "One" 1) 10 rfl) (c.fa 23 rfl) rfl (by decide)) (fun t h => by cases h)))) (And.intro (And.intro True.intro (attF c (c.ex (b := fun K => clB K cl) 2 rfl) (by decide))) (And.intro True.intro (attF c (c.ex (b := fun K => clB K cl) 2 rfl) (by decide))))) True.intro)
theorem ok_One_eq {T : Tab} (c : HFx T) : DefOk T 1 (He.fAd T.K d_One_eq.at_) ["self", "other"] m_One_eq := defOk (c.df (d := d_One_eq) 39 rfl) sc_One_eq (fun _ _ _ _ _ _ us hl => match us, hl with | [_, _], _ => rfl) rfl rfl (by decide) ck_One_eq (nd_One_eq c)
theorem sc_Many_shows : FnScope ["self", "book", "told"] ["self", "book", "told"] (defScope s_Many_shows) := ⟨rfl, rfl, rfl, by decide +kernel, rfl, by decide +kernel, by decide +kernel⟩
theorem ck_Many_shows : chkTs ["self", "book", "told"] fl0 (defScope s_Many_shows) ir_Many_shows (defBody s_Many_shows) = true := by kernel_rfl
theorem nd_Many_shows {T : Tab} (c : HFx T) : needTs T 5 .nil ir_Many_shows :=
  (And.intro (And.intro (eqF c (c.ex (b := fun K => clB K cl) 2 rfl) (spcF (x := "One") c rfl (c.fa 45 rfl) (ok_One_eq c) rfl (by decide) (spcF (x := "Never") c rfl (c.fa 44 rfl) (ok_Never_eq c) rfl (by decide) (spcF (x := "Many") c rfl (c.fa 43 rfl) (ok_Many_eq c) rfl (by decide) (spcF_nil (by decide)))))) (And.intro (And.intro (fnF c (c.fa 46 rfl) (ok_judge_told c) (by decide)) (And.intro True.intro (And.intro True.intro True.intro))) True.intro)) True.intro)
theorem ok_Many_shows {T : Tab} (c : HFx T) : DefOk T 6 (He.fAd T.K d_Many_shows.at_) ["self", "book", "told"] m_Many_shows := defOk (c.df (d := d_Many_shows) 40 rfl) sc_Many_shows (fun _ _ _ _ _ _ us hl => match us, hl with | [_, _, _], _ => rfl) rfl rfl (by decide) ck_Many_shows (nd_Many_shows c)
theorem sc_Never_bool : FnScope ["self"] ["self"] (defScope s_Never_bool) := ⟨rfl, rfl, rfl, by decide +kernel, rfl, by decide +kernel, by decide +kernel⟩
theorem ck_Never_bool : chkTs ["self"] fl0 (defScope s_Never_bool) ir_Never_bool (defBody s_Never_bool) = true := by kernel_rfl
theorem nd_Never_bool {T : Tab} (c : HFx T) : needTs T 0 .nil ir_Never_bool :=
  (And.intro True.intro True.intro)
theorem ok_Never_bool {T : Tab} (c : HFx T) : DefOk T 1 (He.fAd T.K d_Never_bool.at_) ["self"] m_Never_bool := defOk (c.df (d := d_Never_bool) 41 rfl) sc_Never_bool (fun _ _ _ _ _ _ us hl => match us, hl with | [_], _ => rfl) rfl rfl (by decide) ck_Never_bool (nd_Never_bool c)
theorem sc_Never_shows : FnScope ["self", "book", "told", "tick"] ["self", "book", "told"] (defScope s_Never_shows) := ⟨rfl, rfl, rfl, by decide +kernel, rfl, by decide +kernel, by decide +kernel⟩
theorem ck_Never_shows : chkTs ["self", "book", "told", "tick"] fl0 (defScope s_Never_shows) ir_Never_shows (defBody s_Never_shows) = true := by kernel_rfl
theorem nd_Never_shows {T : Tab} (c : HFx T) : needTs T 4 .nil ir_Never_shows :=
  (And.intro (And.intro (And.intro (And.intro (fnF c (c.fa 25 rfl) (ok_meanings c) (by decide)) (And.intro True.intro (And.intro True.intro True.intro))) True.intro) (And.intro (And.intro True.intro True.intro) True.intro)) (And.intro (And.intro (And.intro (And.intro True.intro (attF c (c.ex (b := fun K => clB K cl) 2 rfl) (by decide))) True.intro) (And.intro (And.intro (And.intro True.intro (And.intro (fnF c (c.fa 47 rfl) (ok_least_told c) (by decide)) (And.intro True.intro True.intro))) True.intro) True.intro)) (And.intro (And.intro (And.intro (fnF c (c.fa 40 rfl) (ok_is_number c) (by decide)) (And.intro (And.intro True.intro (attF c (c.ex (b := fun K => clB K cl) 2 rfl) (by decide))) (And.intro True.intro (And.intro (And.intro (And.intro (c.free _ (c.fa 10 rfl)) (And.intro (And.intro (c.free _ (c.fa 11 rfl)) (c.free _ (c.fa 12 rfl))) (And.intro (And.intro True.intro (attF c (c.ex (b := fun K => clB K cl) 2 rfl) (by decide))) True.intro))) True.intro) True.intro)))) (And.intro (And.intro True.intro True.intro) True.intro)) (And.intro (And.intro (And.intro (And.intro True.intro (attF c (c.ex (b := fun K => clB K cl) 2 rfl) (by decide))) (And.intro True.intro (attF c (c.ex (b := fun K => clB K cl) 2 rfl) (by decide)))) True.intro) (And.intro (And.intro (And.intro (fnF c (c.fa 27 rfl) (ok_told_ahead c) (by decide)) (And.intro True.intro (And.intro (And.intro True.intro (attF c (c.ex (b := fun K => clB K cl) 2 rfl) (by decide))) True.intro))) (And.intro True.intro (And.intro True.intro (And.intro (metF (x := "Book") c (c.ex (b := fun K => clB K cl) 2 rfl) rfl (c.fa 48 rfl) (by decide) (ok_Book_told c) (by decide) metF_nil) (And.intro True.intro True.intro))))) True.intro)))))
theorem ok_Never_shows {T : Tab} (c : HFx T) : DefOk T 5 (He.fAd T.K d_Never_shows.at_) ["self", "book", "told"] m_Never_shows := defOk (c.df (d := d_Never_shows) 42 rfl) sc_Never_shows (fun _ _ _ _ _ _ us hl => match us, hl with | [_, _, _], _ => rfl) rfl rfl (by decide) ck_Never_shows (nd_Never_shows c)
theorem sc_One_bool : FnScope ["self"] ["self"] (defScope s_One_bool) := ⟨rfl, rfl, rfl, by decide +kernel, rfl, by decide +kernel, by decide +kernel⟩
theorem ck_One_bool : chkTs ["self"] fl0 (defScope s_One_bool) ir_One_bool (defBody s_One_bool) = true := by kernel_rfl
theorem nd_One_bool {T : Tab} (c : HFx T) : needTs T 0 .nil ir_One_bool :=
  (And.intro True.intro True.intro)
theorem ok_One_bool {T : Tab} (c : HFx T) : DefOk T 1 (He.fAd T.K d_One_bool.at_) ["self"] m_One_bool := defOk (c.df (d := d_One_bool) 43 rfl) sc_One_bool (fun _ _ _ _ _ _ us hl => match us, hl with | [_], _ => rfl) rfl rfl (by decide) ck_One_bool (nd_One_bool c)
theorem sc_One_shows : FnScope ["self", "book", "told"] ["self", "book", "told"] (defScope s_One_shows) := ⟨rfl, rfl, rfl, by decide +kernel, rfl, by decide +kernel, by decide +kernel⟩
theorem ck_One_shows : chkTs ["self", "book", "told"] fl0 (defScope s_One_shows) ir_One_shows (defBody s_One_shows) = true := by kernel_rfl
theorem nd_One_shows {T : Tab} (c : HFx T) : needTs T 5 .nil ir_One_shows :=
  (And.intro (And.intro (eqF c (c.ex (b := fun K => clB K cl) 2 rfl) (spcF (x := "One") c rfl (c.fa 45 rfl) (ok_One_eq c) rfl (by decide) (spcF (x := "Never") c rfl (c.fa 44 rfl) (ok_Never_eq c) rfl (by decide) (spcF (x := "Many") c rfl (c.fa 43 rfl) (ok_Many_eq c) rfl (by decide) (spcF_nil (by decide)))))) (And.intro (And.intro (fnF c (c.fa 46 rfl) (ok_judge_told c) (by decide)) (And.intro True.intro (And.intro True.intro True.intro))) True.intro)) True.intro)
theorem ok_One_shows {T : Tab} (c : HFx T) : DefOk T 6 (He.fAd T.K d_One_shows.at_) ["self", "book", "told"] m_One_shows := defOk (c.df (d := d_One_shows) 44 rfl) sc_One_shows (fun _ _ _ _ _ _ us hl => match us, hl with | [_, _, _], _ => rfl) rfl rfl (by decide) ck_One_shows (nd_One_shows c)
theorem sc_law : FnScope ["script", "draw", "turn", "told", "book", "end", "tick", "rows", "spans", "at", "begin", "offset", "one", "every", "low", "high", "counts_v", "time", "again", "ticks", "over", "found", "due", "place", "deed", "what", "fault"] ["script"] (defScope s_law) := ⟨rfl, rfl, rfl, by decide +kernel, rfl, by decide +kernel, by decide +kernel⟩
theorem sc_Book_eq : FnScope ["self", "other"] ["self", "other"] (defScope s_Book_eq) := ⟨rfl, rfl, rfl, by decide +kernel, rfl, by decide +kernel, by decide +kernel⟩
theorem ck_Book_eq : chkTs ["self", "other"] fl0 (defScope s_Book_eq) ir_Book_eq (defBody s_Book_eq) = true := by kernel_rfl
theorem nd_Book_eq {T : Tab} (c : HFx T) : needTs T 0 .nil ir_Book_eq :=
  (And.intro (And.intro (And.intro True.intro (And.intro (c.free _ (c.fa 3 rfl)) (forall_cons (isoF c (c.ex (b := fun K => clB K cl) 2 rfl) (c.ex (b := fun K => isoB K cl "Book" 0) 7 rfl) (c.fa 8 rfl) rfl (by decide)) (fun t h => by cases h)))) (And.intro (And.intro (And.intro True.intro (attF c (c.ex (b := fun K => clB K cl) 2 rfl) (by decide))) (And.intro (And.intro True.intro (attF c (c.ex (b := fun K => clB K cl) 2 rfl) (by decide))) True.intro)) (And.intro (And.intro True.intro (attF c (c.ex (b := fun K => clB K cl) 2 rfl) (by decide))) (And.intro (And.intro True.intro (attF c (c.ex (b := fun K => clB K cl) 2 rfl) (by decide))) True.intro)))) True.intro)
theorem ok_Book_eq {T : Tab} (c : HFx T) : DefOk T 1 (He.fAd T.K d_Book_eq.at_) ["self", "other"] m_Book_eq := defOk (c.df (d := d_Book_eq) 46 rfl) sc_Book_eq (fun _ _ _ _ _ _ us hl => match us, hl with | [_, _], _ => rfl) rfl rfl (by decide) ck_Book_eq (nd_Book_eq c)
theorem ck_law : chkTs ["script", "draw", "turn", "told", "book", "end", "tick", "rows", "spans", "at", "begin", "offset", "one", "every", "low", "high", "counts_v", "time", "again", "ticks", "over", "found", "due", "place", "deed", "what", "fault"] (flL ["script", "draw", "turn", "told", "book", "end", "tick", "rows", "spans", "at", "begin", "offset", "one", "every", "low", "high", "counts_v", "time", "again", "ticks", "over", "found", "due", "place", "deed", "what", "fault"] ls_law (defScope s_law)) (defScope s_law) ir_law (defBody s_law) = true := by kernel_rfl
theorem nd_law {T : Tab} (c : HFx T) : needTs T 6 ls_law ir_law :=
  (And.intro (And.intro True.intro (And.intro True.intro True.intro)) (And.intro (And.intro (And.intro True.intro (c.free _ (c.fa 16 rfl))) (And.intro (And.intro (fnF c (c.fa 49 rfl) (ok__law_book c) (by decide)) (And.intro True.intro (And.intro True.intro True.intro))) (And.intro (And.intro (And.intro (fnF c (c.fa 50 rfl) (ok__law_built c) (by decide)) (And.intro True.intro True.intro)) (And.intro (And.intro (And.intro (And.intro (And.intro True.intro True.intro) True.intro) (And.intro (And.intro (And.intro (And.intro True.intro True.intro) True.intro) True.intro) True.intro)) True.intro) True.intro)) (And.intro (And.intro (And.intro (c.free _ (c.fa 51 rfl)) (And.intro (And.intro (c.free _ (c.fa 11 rfl)) (c.free _ (c.fa 12 rfl))) (And.intro (And.intro (And.intro True.intro (And.intro True.intro (c.free _ (c.fa 16 rfl)))) (And.intro True.intro (And.intro (And.intro (And.intro True.intro (And.intro (metF (x := "Book") c (c.ex (b := fun K => clB K cl) 2 rfl) rfl (c.fa 42 rfl) (by decide) (ok_Book_offset c) (by decide) metF_nil) (And.intro True.intro True.intro))) (And.intro (fnF c (c.fa 36 rfl) (ok__law_offset c) (by decide)) (And.intro True.intro (And.intro True.intro True.intro)))) (And.intro (And.intro True.intro (And.intro (metF (x := "Book") c (c.ex (b := fun K => clB K cl) 2 rfl) rfl (c.fa 48 rfl) (by decide) (ok_Book_told c) (by decide) metF_nil) (And.intro True.intro True.intro))) (And.intro (fnF c (c.fa 37 rfl) (ok__law_told c) (by decide)) (And.intro True.intro (And.intro True.intro True.intro))))))) True.intro))) (And.intro (And.intro True.intro True.intro) True.intro)) (And.intro (And.intro (And.intro (And.intro True.intro (And.intro (And.intro True.intro True.intro) True.intro)) True.intro) (And.intro True.intro True.intro)) (And.intro (And.intro (And.intro True.intro (c.free _ (c.fa 26 rfl))) (And.intro True.intro (And.intro True.intro (And.intro (And.intro (And.intro (And.intro True.intro True.intro) (And.intro (c.free _ (c.fa 10 rfl)) (And.intro (And.intro (c.free _ (c.fa 11 rfl)) (c.free _ (c.fa 12 rfl))) (And.intro True.intro True.intro)))) (And.intro (And.intro (And.intro True.intro (And.intro True.intro True.intro)) True.intro) True.intro)) (And.intro True.intro True.intro))))) (And.intro (And.intro (And.intro (And.intro (And.intro True.intro (And.intro (metF (x := "Book") c (c.ex (b := fun K => clB K cl) 2 rfl) rfl (c.fa 18 rfl) (by decide) (ok_Book_spans c) (by decide) metF_nil) True.intro)) (And.intro True.intro (And.intro (c.free _ (c.fa 5 rfl)) (And.intro (And.intro (c.free _ (c.fa 11 rfl)) (c.free _ (c.fa 12 rfl))) (And.intro True.intro True.intro))))) (And.intro True.intro (And.intro (And.intro True.intro (And.intro (And.intro (And.intro True.intro True.intro) (And.intro True.intro True.intro)) True.intro)) True.intro))) (And.intro (And.intro True.intro True.intro) True.intro)) (And.intro (And.intro (And.intro (And.intro True.intro True.intro) (c.free _ (c.fa 16 rfl))) (And.intro True.intro (And.intro (fnF c (c.fa 37 rfl) (ok__law_told c) (by decide)) (And.intro True.intro (And.intro True.intro True.intro))))) (And.intro (And.intro (And.intro (c.free _ (c.fa 17 rfl)) (And.intro (And.intro (c.free _ (c.fa 11 rfl)) (c.free _ (c.fa 12 rfl))) (And.intro (And.intro True.intro (And.intro True.intro (And.intro True.intro True.intro))) True.intro))) (And.intro True.intro True.intro)) (And.intro (And.intro (c.free _ (c.fa 52 rfl)) (And.intro (And.intro (c.free _ (c.fa 11 rfl)) (c.free _ (c.fa 12 rfl))) (And.intro (And.intro (And.intro True.intro (And.intro (And.intro True.intro True.intro) (c.free _ (c.fa 16 rfl)))) (And.intro True.intro (And.intro True.intro (And.intro True.intro True.intro)))) True.intro))) (And.intro (And.intro True.intro (And.intro (And.intro True.intro (And.intro (And.intro True.intro (And.intro True.intro True.intro)) True.intro)) True.intro)) (And.intro (And.intro (And.intro (And.intro (And.intro (fnF c (c.fa 47 rfl) (ok_least_told c) (by decide)) (And.intro True.intro True.intro)) True.intro) (And.intro (And.intro (And.intro (And.intro (fnF c (c.fa 53 rfl) (ok_gaps c) (by decide)) (And.intro True.intro True.intro)) (And.intro True.intro (And.intro (c.free _ (c.fa 5 rfl)) (And.intro (And.intro (c.free _ (c.fa 11 rfl)) (c.free _ (c.fa 12 rfl))) (And.intro True.intro True.intro))))) (And.intro (fnF c (c.fa 54 rfl) (ok__law_spans c) (by decide)) (And.intro (And.intro (And.intro True.intro (And.intro (And.intro True.intro True.intro) (c.free _ (c.fa 16 rfl)))) (And.intro (And.intro (And.intro True.intro True.intro) True.intro) True.intro)) True.intro))) (And.intro (And.intro (And.intro (fnF c (c.fa 55 rfl) (ok_folds c) (by decide)) (And.intro True.intro True.intro)) (And.intro True.intro (And.intro (c.free _ (c.fa 5 rfl)) (And.intro (And.intro (c.free _ (c.fa 11 rfl)) (c.free _ (c.fa 12 rfl))) (And.intro True.intro True.intro))))) (And.intro (fnF c (c.fa 54 rfl) (ok__law_spans c) (by decide)) (And.intro (And.intro (And.intro True.intro (And.intro (And.intro True.intro True.intro) (c.free _ (c.fa 16 rfl)))) (And.intro (And.intro (And.intro True.intro True.intro) True.intro) True.intro)) True.intro))))) (And.intro (And.intro True.intro True.intro) True.intro)) (And.intro (And.intro (And.intro (And.intro (And.intro (fnF c (c.fa 56 rfl) (ok_is_plain c) (by decide)) (And.intro True.intro True.intro)) (And.intro (c.free _ (c.fa 31 rfl)) (And.intro (And.intro (c.free _ (c.fa 11 rfl)) (c.free _ (c.fa 12 rfl))) (And.intro (And.intro (And.intro True.intro (And.intro (And.intro True.intro True.intro) (c.free _ (c.fa 16 rfl)))) (And.intro True.intro (And.intro (And.intro True.intro True.intro) True.intro))) True.intro)))) (And.intro (c.free _ (c.fa 51 rfl)) (And.intro (And.intro (c.free _ (c.fa 11 rfl)) (c.free _ (c.fa 12 rfl))) (And.intro (And.intro (And.intro (And.intro (And.intro (fnF c (c.fa 57 rfl) (ok_last_told c) (by decide)) (And.intro True.intro True.intro)) True.intro) (And.intro (And.intro True.intro True.intro) (c.free _ (c.fa 16 rfl)))) (And.intro True.intro (And.intro (And.intro True.intro True.intro) True.intro))) True.intro)))) (And.intro (And.intro True.intro True.intro) True.intro)) (And.intro (And.intro (And.intro (And.intro (And.intro True.intro True.intro) (And.intro True.intro True.intro)) (And.intro (And.intro True.intro (c.free _ (c.fa 16 rfl))) (And.intro True.intro (And.intro True.intro (And.intro (fnF c (c.fa 34 rfl) (ok__law_take c) (by decide)) (And.intro True.intro (And.intro (And.intro True.intro True.intro) True.intro))))))) (And.intro (And.intro (And.intro (fnF c (c.fa 58 rfl) (ok__law_means c) (by decide)) (And.intro True.intro (And.intro True.intro True.intro))) (And.intro (And.intro (fnF c (c.fa 59 rfl) (ok__law_over c) (by decide)) (And.intro True.intro (And.intro True.intro True.intro))) True.intro)) (And.intro (And.intro (fnF c (c.fa 46 rfl) (ok_judge_told c) (by decide)) (And.intro True.intro (And.intro True.intro True.intro))) (And.intro (And.intro (And.intro (And.intro (And.intro (fnF c (c.fa 25 rfl) (ok_meanings c) (by decide)) (And.intro True.intro (And.intro True.intro True.intro))) True.intro) (And.intro (And.intro (And.intro (spcF (x := "One") c rfl (c.fa 62 rfl) (ok_One_bool c) rfl (by decide) (spcF (x := "Never") c rfl (c.fa 61 rfl) (ok_Never_bool c) rfl (by decide) (spcF (x := "Many") c rfl (c.fa 60 rfl) (ok_Many_bool c) rfl (by decide) (spcF_nil (by decide))))) (And.intro (c.free _ (c.fa 4 rfl)) True.intro)) (And.intro (And.intro (c.free _ (c.fa 10 rfl)) (And.intro (And.intro (c.free _ (c.fa 11 rfl)) (c.free _ (c.fa 12 rfl))) (And.intro True.intro True.intro))) True.intro)) (And.intro True.intro (And.intro (metF (x := "One") c (c.ex (b := fun K => clB K cl) 2 rfl) rfl (c.fa 65 rfl) (by decide) (ok_One_shows c) (by decide) (metF (x := "Never") c (c.ex (b := fun K => clB K cl) 2 rfl) rfl (c.fa 64 rfl) (by decide) (ok_Never_shows c) (by decide) (metF (x := "Many") c (c.ex (b := fun K => clB K cl) 2 rfl) rfl (c.fa 63 rfl) (by decide) (ok_Many_shows c) (by decide) metF_nil))) (And.intro True.intro (And.intro True.intro True.intro)))))) (And.intro (And.intro True.intro True.intro) True.intro)) (And.intro (And.intro (And.intro (And.intro (c.free _ (c.fa 10 rfl)) (And.intro (And.intro (c.free _ (c.fa 11 rfl)) (c.free _ (c.fa 12 rfl))) (And.intro True.intro True.intro))) True.intro) (And.intro (And.intro (mk_One c (by decide)) (And.intro (And.intro True.intro True.intro) True.intro)) (And.intro (And.intro True.intro True.intro) (And.intro (And.intro (mk_Many c (by decide)) (And.intro True.intro True.intro)) (And.intro (mk_Never c (by decide)) (And.intro (And.intro (And.intro True.intro True.intro) (And.intro (And.intro True.intro True.intro) True.intro)) True.intro)))))) (And.intro (And.intro (And.intro (And.intro (eqF c (c.ex (b := fun K => clB K cl) 2 rfl) (spcF (x := "One") c rfl (c.fa 45 rfl) (ok_One_eq c) rfl (by decide) (spcF (x := "Never") c rfl (c.fa 44 rfl) (ok_Never_eq c) rfl (by decide) (spcF (x := "Many") c rfl (c.fa 43 rfl) (ok_Many_eq c) rfl (by decide) (spcF_nil (by decide)))))) (And.intro True.intro True.intro)) (And.intro (And.intro (And.intro (And.intro (mk_One c (by decide)) (And.intro True.intro True.intro)) (And.intro (metF (x := "One") c (c.ex (b := fun K => clB K cl) 2 rfl) rfl (c.fa 65 rfl) (by decide) (ok_One_shows c) (by decide) metF_nil) (And.intro True.intro (And.intro True.intro True.intro)))) (And.intro True.intro (And.intro True.intro True.intro))) (And.intro (And.intro (And.intro (mk_Many c (by decide)) (And.intro (And.intro True.intro (And.intro (And.intro True.intro True.intro) True.intro)) True.intro)) (And.intro (metF (x := "Many") c (c.ex (b := fun K => clB K cl) 2 rfl) rfl (c.fa 63 rfl) (by decide) (ok_Many_shows c) (by decide) metF_nil) (And.intro True.intro (And.intro True.intro True.intro)))) (And.intro (And.intro (And.intro (c.free _ (c.fa 10 rfl)) (And.intro (And.intro (c.free _ (c.fa 11 rfl)) (c.free _ (c.fa 12 rfl))) (And.intro True.intro True.intro))) True.intro) (And.intro (And.intro (And.intro (mk_Many c (by decide)) (And.intro True.intro True.intro)) (And.intro (metF (x := "Many") c (c.ex (b := fun K => clB K cl) 2 rfl) rfl (c.fa 63 rfl) (by decide) (ok_Many_shows c) (by decide) metF_nil) (And.intro True.intro (And.intro True.intro True.intro)))) (And.intro (And.intro (c.free _ (c.fa 10 rfl)) (And.intro (And.intro (c.free _ (c.fa 11 rfl)) (c.free _ (c.fa 12 rfl))) (And.intro True.intro True.intro))) True.intro)))))) (And.intro (And.intro True.intro True.intro) True.intro)) (And.intro (And.intro (And.intro (And.intro (c.free _ (c.fa 51 rfl)) (And.intro (And.intro (c.free _ (c.fa 11 rfl)) (c.free _ (c.fa 12 rfl))) (And.intro (And.intro (And.intro True.intro (c.free _ (c.fa 16 rfl))) (And.intro True.intro (And.intro (And.intro (And.intro (mk_Never c (by decide)) (And.intro True.intro True.intro)) (And.intro (metF (x := "Never") c (c.ex (b := fun K => clB K cl) 2 rfl) rfl (c.fa 64 rfl) (by decide) (ok_Never_shows c) (by decide) metF_nil) (And.intro True.intro (And.intro True.intro True.intro)))) (And.intro (And.intro True.intro True.intro) (And.intro True.intro True.intro))))) True.intro))) (And.intro (And.intro (And.intro (And.intro (mk_Never c (by decide)) (And.intro True.intro True.intro)) (And.intro (metF (x := "Never") c (c.ex (b := fun K => clB K cl) 2 rfl) rfl (c.fa 64 rfl) (by decide) (ok_Never_shows c) (by decide) metF_nil) (And.intro True.intro (And.intro True.intro True.intro)))) (And.intro (And.intro True.intro True.intro) (And.intro True.intro True.intro))) (And.intro (And.intro (And.intro (mk_One c (by decide)) (And.intro True.intro True.intro)) (And.intro (metF (x := "One") c (c.ex (b := fun K => clB K cl) 2 rfl) rfl (c.fa 65 rfl) (by decide) (ok_One_shows c) (by decide) metF_nil) (And.intro True.intro (And.intro True.intro True.intro)))) (And.intro (And.intro (mk_Never c (by decide)) (And.intro True.intro True.intro)) (And.intro (metF (x := "Never") c (c.ex (b := fun K => clB K cl) 2 rfl) rfl (c.fa 64 rfl) (by decide) (ok_Never_shows c) (by decide) metF_nil) (And.intro True.intro (And.intro True.intro True.intro))))))) (And.intro (And.intro True.intro True.intro) True.intro)) True.intro))))))) True.intro)))))))))))))) (And.intro (And.intro (And.intro (And.intro True.intro (And.intro (And.intro True.intro (And.intro True.intro True.intro)) True.intro)) (And.intro (And.intro True.intro (And.intro (And.intro True.intro (And.intro True.intro True.intro)) True.intro)) (And.intro (And.intro True.intro (And.intro (And.intro True.intro (And.intro True.intro True.intro)) True.intro)) (And.intro (And.intro True.intro (And.intro (And.intro True.intro (And.intro True.intro True.intro)) True.intro)) (And.intro (And.intro True.intro (And.intro (And.intro True.intro (And.intro True.intro True.intro)) True.intro)) (And.intro (And.intro True.intro (And.intro (And.intro True.intro (And.intro True.intro True.intro)) True.intro)) (And.intro (And.intro True.intro (And.intro (And.intro True.intro (And.intro True.intro True.intro)) True.intro)) (And.intro (And.intro True.intro (And.intro (And.intro True.intro (And.intro True.intro True.intro)) True.intro)) (And.intro (And.intro True.intro (And.intro (And.intro True.intro (And.intro True.intro True.intro)) True.intro)) True.intro))))))))) (And.intro (And.intro c.xo (And.intro (exmF c (c.fa 0 rfl) (c.ex (b := fun K => emB K xl "BadBook" [1]) 11 rfl)) (And.intro (And.intro (And.intro rfl (And.intro (And.intro (mk_Book c (by decide)) (And.intro True.intro (And.intro True.intro True.intro))) (And.intro (And.intro (mk_Book c (by decide)) (And.intro True.intro (And.intro True.intro True.intro))) (And.intro (And.intro (mk_Book c (by decide)) (And.intro True.intro (And.intro True.intro True.intro))) (And.intro (And.intro (mk_Book c (by decide)) (And.intro True.intro (And.intro (And.intro (And.intro True.intro (And.intro True.intro True.intro)) (And.intro (And.intro True.intro (And.intro True.intro True.intro)) True.intro)) True.intro))) (And.intro (And.intro (mk_Book c (by decide)) (And.intro True.intro (And.intro (And.intro (And.intro True.intro (And.intro True.intro True.intro)) True.intro) True.intro))) (And.intro (And.intro (mk_Book c (by decide)) (And.intro True.intro (And.intro (And.intro (And.intro True.intro (And.intro True.intro True.intro)) True.intro) True.intro))) (And.intro (And.intro (mk_Book c (by decide)) (And.intro True.intro (And.intro (And.intro (And.intro True.intro (And.intro True.intro True.intro)) True.intro) True.intro))) (And.intro (And.intro (fnF c (c.fa 25 rfl) (ok_meanings c) (by decide)) (And.intro True.intro (And.intro True.intro True.intro))) (And.intro (And.intro (fnF c (c.fa 53 rfl) (ok_gaps c) (by decide)) (And.intro True.intro True.intro)) True.intro)))))))))) (And.intro True.intro True.intro)) (fun _ _ _ => (And.intro (And.intro (And.intro (And.intro (xatF c (by decide) (forall_cons (fun q e => by cases e; exact (c.ex (b := fun K => xlB K ("BadBook", ["part", "place"])) 0 rfl)) (fun p hp => by cases hp))) (And.intro (xatF c (by decide) (forall_cons (fun q e => by cases e; exact (c.ex (b := fun K => xlB K ("BadBook", ["part", "place"])) 0 rfl)) (fun p hp => by cases hp))) True.intro)) True.intro) (And.intro (And.intro True.intro True.intro) True.intro)) True.intro))))) True.intro)) (And.intro (And.intro (And.intro True.intro (And.intro True.intro (And.intro True.intro (And.intro True.intro True.intro)))) (And.intro (And.intro c.xo (And.intro (exmF c (c.fa 1 rfl) (c.ex (b := fun K => emB K xl "BadTick" [2]) 12 rfl)) (And.intro (And.intro (And.intro (fnF c (c.fa 46 rfl) (ok_judge_told c) (by decide)) (And.intro (And.intro (mk_Book c (by decide)) (And.intro True.intro (And.intro True.intro True.intro))) (And.intro True.intro True.intro))) (And.intro True.intro True.intro)) (fun _ _ _ => (And.intro (And.intro (And.intro (xatF c (by decide) (forall_cons (fun q e => by cases e; exact (c.ex (b := fun K => xlB K ("BadTick", ["tick"])) 1 rfl)) (fun p hp => by cases hp))) True.intro) (And.intro (And.intro True.intro True.intro) True.intro)) True.intro))))) True.intro)) (And.intro True.intro True.intro)))))
abbrev R : PySem.W.OpenRow := PySem.W.OpenLaw.row PySem.Challenge.rw_zonebooks_k35_books_of_many_turns
abbrev tf : List He.Defn := [("law", none)]
def exB (K : PySem.W.Frag) : Bool := exs.all fun b => b K
abbrev hk : PySem.W.Hook := He.hookX 5 fas fns [] tf exB
def ob (s : PySem.W.SharedT) : He.AlX := He.obsX 5 fas fns [] tf exB (HandSHeadRun.getT s)
theorem ob_eq (s : PySem.W.SharedT) : ob s = hk.obs s.abs := He.obsX_eq (HandSHeadRun.getT_eq s)
def names : List PySem.Str := [("ZoneError" : Str), ("BadBook" : Str), ("BadTick" : Str), ("Book" : Str), ("One" : Str), ("Never" : Str), ("Many" : Str), ("is_integer" : Str), ("is_row" : Str), ("is_number" : Str), ("is_offset" : Str), ("check_book" : Str), ("check_told" : Str), ("meanings" : Str), ("told_ahead" : Str), ("least_told" : Str), ("judge_told" : Str), ("gaps" : Str), ("folds" : Str), ("counts" : Str), ("put_together" : Str), ("is_plain" : Str), ("last_told" : Str), ("_law_number" : Str), ("_law_take" : Str), ("_law_pick" : Str), ("_law_book" : Str), ("_law_offset" : Str), ("_law_told" : Str), ("_law_means" : Str), ("_law_built" : Str), ("_law_over" : Str), ("_law_spans" : Str), ("MOST_TICK" : Str)]
theorem run (w : World) : HandSHeadRun.RunEq R (PySem.W.view R.prog [38]) hk ob 6000 names w := by
  intro os
  kernel_rfl
theorem hf {P : Program} {w : World} {h : Heap} {K : PySem.W.Frag} {mg : Str → Option Value} {base : Heap} (KX : K.In h) (G : h.Ns mainGlobals mg) (c : He.SaysX fas fns [] tf exB w h K) (lam : Nat → Addr → HO → Addr → HO → Prop) (tb : Option (Addr × Str)) : HFx (mkT P w K mg base cl xl lam tb) where
  fact := fun f hf => c.t.d.facts hf
  defs := fun d hd => c.t.d.defs hd
  more := fun b hb => List.all_eq_true.mp c.more b hb
  glo := fun x h => He.glo_ok KX G h
  free := fun x h => He.free_ok KX G h
  int := fun x i h => He.int_ok KX G h
  str := fun x z h => He.str_ok KX G h
  cls := rfl
  xcl := rfl
  xo := fun _ _ _ h => h
end G35
open PySem PySem.W PySem.Calls PyProof.Rows
theorem PySem.Challenge.cw_zonebooks_k35_books_of_many_turns_holds : PySem.Challenge.rw_zonebooks_k35_books_of_many_turns.Holds := by
  w_on; o_law
  refine HandSHeadRun.head_any (r := OpenLaw.row PySem.Challenge.rw_zonebooks_k35_books_of_many_turns) (q := view (OpenLaw.row PySem.Challenge.rw_zonebooks_k35_books_of_many_turns).prog [38]) (H := G35.hk) (ob := G35.ob) (M := 6000) (loose := G35.names) (d := HandSHeadRun.topDef (OpenLaw.row PySem.Challenge.rw_zonebooks_k35_books_of_many_turns).prog 38) (kwd := []) G35.ob_eq
    (by kernel_rfl) (fun s => by kernel_rfl) G35.run (by kernel_rfl) (by kernel_rfl) (by kernel_rfl) (by rfl) (by first | assumption | decide +kernel) (by decide +kernel) ⟨rfl, rfl, rfl, rfl, rfl, by decide +kernel⟩ ?hw ?hc
  case hw => w_witness2
  case hc =>
    refine LamX.walk_ofTsE (l := PySem.Challenge.rw_zonebooks_k35_books_of_many_turns) (n := 63) (k := 8) (x := "script") (CX := fun w => L2.CX PySem.Challenge.pw_zonebooks_k35_books_of_many_turns w) rfl (by decide) (by kernel_rfl) ⟨rfl, by decide, by decide⟩ ?F (fun _ _ _ _ _ ⟨_, _, _, _, _, _, _, _, _, _, _, _, z⟩ => z)
    intro w mg fa h Y G hmg0
    obtain ⟨K, KX, c⟩ := Y
    have hmg : mg ("law" : PySem.Str) = some (.ref fa) := by
      have e : (HandSHeadRun.topDef (OpenLaw.row PySem.Challenge.rw_zonebooks_k35_books_of_many_turns).prog 38).name = ("law" : PySem.Str) := by kernel_rfl
      rw [← e]
      exact hmg0
    obtain ⟨fd, F⟩ := c.t.d.def_ 45 (d := G35.d_law) rfl
    have hg : (He.Fa.glo "law").ok K = true := c.t.d.facts (f := .glo "law") (by unfold G35.fas; simp only [List.mem_cons, true_or, or_true])
    have e := hmg.symm.trans (He.glo_ok KX G hg)
    cases e
    have b := L2.FunD.bindsA (ps := ["script"]) F fun _ _ _ _ _ _ us hl => match us, hl with | [_], _ => rfl
    refine ⟨K, KX, fd, [He.cT K ("law", none)], Z.spLaw K (some (He.cT K ("law", none)).2), (fun p hp => by rcases List.mem_cons.mp hp with e | e; (subst e; exact c.empty _ List.mem_cons_self); cases e), (fun p hp => by rcases List.mem_cons.mp hp with e | e; (subst e; exact c.out _ List.mem_cons_self); cases e), (fun p hp => by rcases List.mem_cons.mp hp with e | e; (subst e; exact PySem.W.codeHd_of_K KX (c.hd _ List.mem_cons_self)); cases e), fun s v => b s [v] rfl,
      fun H a ns hl _ hT hS => ⟨a, ns, rfl, hl, fun P' e => by cases e; exact hT _ List.mem_cons_self, hS, fun _ => rfl⟩, fun base KB GB hT => ?_⟩
    exact Z.law_ok (P := PySem.Challenge.pw_zonebooks_k35_books_of_many_turns) (w := w) (ls := P35.ls_law ) F G35.sc_law rfl (by decide) G35.ck_law (fun lam tb => G35.hf KX G c lam tb) (fun T HT => G35.nd_law HT)
      (fun oc od osl cdv qual' name' params' body' scope' dV kV doc pm an ct lk hcd => by obtain ⟨cc, rfl⟩ := He.codeIn_ref hcd; exact congrArg Value.ref (He.codeOf_eq (p := ("law", none)) lk rfl).symm)
      (hT _ List.mem_cons_self) P35.plain
end
