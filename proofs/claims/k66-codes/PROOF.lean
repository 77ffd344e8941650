import PyProof.Rows.All
import Wide.All
import OpenK.AllK
import Wide.FinOn
import HandS.ForMost
import HandS.Exc
import HandS.Lambda
import HandS.Walk
import HandS.TupAny
import HandS.Deep
import HandS.Style
import HandS.TupMul
import HandS.StrMore
import HandS.ExcOwn
import HandS.WordsExc
import HandS.TryOnly
import HandS.CallSlots
import HandS.Replace
import HandS.SetFor
import HandS.IsInst
import HandS.Small
import KE.KDflt
import PyProof.P3In
import KE.DataMinMax
import KE.SortCalls
import KE.SortData
import KE.GoesEnum
import HandS.Zip
import HandS.ExcIs
import PyProof.DefCall
import KE.KNest
import HandS.HeadWalk
import HandS.HeadHook4
import HandS.Head0
import HandS.Head1
import HandS.Head2
import HandS.HeadEnd
import PyProof.ExcBaseAll.ValueError
import PySem.Challenge.RW_placesayings_k66_whole_codes_put_and_rea
section
set_option Elab.async false
set_option linter.all false
/-! EV1: plain data, the store, the small language and its evaluator -/
namespace EV
/-- plain data: texts are lists of code points; lists here are never changed -/
inductive D where
  | non | bl (b : Bool) | int (i : Int) | str (s : List Nat) | tup (ds : List D) | lst (ds : List D)
/-- a dict's keys -/
inductive Ky where
  | i (k : Int) | s (x : List Nat)
  deriving DecidableEq
/-- what stands in the store -/
inductive Cell where
  | lst (ds : List D) | fzn (ds : List D) | dic (kvs : List (Ky × D))
/-- what a name holds -/
inductive Vl where
  | d (x : D) | ref (n : Nat) | fnv (f : Nat) | exn (c : Nat) (xs : List D) | clo (f : Nat) (cs : List Vl) | scr (ds : List D)
abbrev Sto := List Cell
abbrev Loc := List (Option Vl)
inductive R (α : Type) where
  | ok (a : α) (S : Sto) | exc (c : Nat) (xs : List D) (S : Sto) | stuck
def R.bind {α β : Type} : R α → (α → Sto → R β) → R β
  | .ok a S, f => f a S
  | .exc c xs S, _ => .exc c xs S
  | .stuck, _ => .stuck
@[simp] theorem R.bind_ok {α β : Type} (a : α) (S : Sto) (f : α → Sto → R β) : (R.ok a S).bind f = f a S := rfl
@[simp] theorem R.bind_exc {α β : Type} (c : Nat) (xs : List D) (S : Sto) (f : α → Sto → R β) : (R.exc c xs S : R α).bind f = .exc c xs S := rfl
@[simp] theorem R.bind_stuck {α β : Type} (f : α → Sto → R β) : (R.stuck : R α).bind f = .stuck := rfl
def R.opt {α β : Type} : Option α → (α → R β) → R β
  | some a, f => f a
  | none, _ => .stuck
@[simp] theorem R.opt_some {α β : Type} (a : α) (f : α → R β) : R.opt (some a) f = f a := rfl
@[simp] theorem R.opt_none {α β : Type} (f : α → R β) : R.opt none f = .stuck := rfl

/-! ### data -/
def lim : Nat := 16777216
mutual
def dep : D → Nat
  | .tup ds => deps ds + 1
  | .lst ds => deps ds + 1
  | _ => 0
def deps : List D → Nat
  | [] => 0
  | d :: ds => max (dep d) (deps ds)
end
mutual
def eqD : D → D → Bool
  | .non, .non => true
  | .bl a, .bl b => a == b
  | .bl a, .int j => (if a then 1 else 0) == j
  | .int i, .bl b => i == (if b then 1 else 0)
  | .int i, .int j => i == j
  | .str x, .str y => x == y
  | .tup xs, .tup ys => eqDs xs ys
  | .lst xs, .lst ys => eqDs xs ys
  | _, _ => false
def eqDs : List D → List D → Bool
  | [], [] => true
  | x :: xs, y :: ys => eqD x y && eqDs xs ys
  | _, _ => false
end
/-- texts by code points -/
def ltS (x y : List Nat) : Bool := decide (x < y)
def intsOf : List D → Option (List Int)
  | [] => some []
  | .int i :: ds => (intsOf ds).map (i :: ·)
  | _ :: _ => none
/-- rows of ints -/
def lexI : List Int → List Int → Bool
  | [], [] => false
  | [], _ :: _ => true
  | _ :: _, [] => false
  | a :: x, b :: y => if a = b then lexI x y else decide (a < b)
/-! ints, texts, tuples of those (none: no order is told) -/
mutual
def ltD : D → D → Option Bool
  | .int i, .int j => some (decide (i < j))
  | .str x, .str y => some (ltS x y)
  | .tup xs, .tup ys => ltDs xs ys
  | .lst xs, .lst ys => ltDs xs ys
  | _, _ => none
def ltDs : List D → List D → Option Bool
  | [], [] => some false
  | [], _ :: _ => some true
  | _ :: _, [] => some false
  | x :: xs, y :: ys => if eqD x y then ltDs xs ys else ltD x y
end
/-! data of one kind, place by place -/
mutual
def likeD : D → D → Bool
  | .int _, .int _ => true
  | .str _, .str _ => true
  | .tup xs, .tup ys => likeDs xs ys
  | .lst xs, .lst ys => likeDs xs ys
  | _, _ => false
def likeDs : List D → List D → Bool
  | x :: xs, y :: ys => likeD x y && likeDs xs ys
  | _, _ => true
end
def alikes (ds : List D) : Bool := ds.all fun x => ds.all fun y => likeD x y
def notLst : D → Bool
  | .lst _ => false
  | _ => true
/-- what may be sorted: tuples with an item at least, or none a tuple -/
def srtB (ds : List D) : Bool :=
  (ds.all fun d => match d with
    | .tup (_ :: _) => true
    | _ => false) || ds.all fun d => match d with
    | .tup _ => false
    | _ => true
/-- an index -/
def ixI (n : Nat) (i : Int) : Option Nat := if 0 ≤ i then (if i < n then some i.toNat else none) else if -(n : Int) ≤ i then some (i + n).toNat else none
def clip (n : Nat) (i : Int) : Nat := if i < 0 then (i + n).toNat else min i.toNat n
def loI (n : Nat) : Option Int → Nat
  | none => 0
  | some i => clip n i
def hiI (n : Nat) : Option Int → Nat
  | none => n
  | some i => clip n i
def cut {α : Type} (xs : List α) (lo hi : Option Int) : List α := (xs.drop (loI xs.length lo)).take (hiI xs.length hi - loI xs.length lo)

/-! ### tables -/
def kyOf : D → Option Ky
  | .int i => some (.i i)
  | .str s => some (.s s)
  | _ => none
def kyD : Ky → D
  | .i k => .int k
  | .s x => .str x
def valA {κ β : Type} [DecidableEq κ] (kvs : List (κ × β)) (k : κ) : Option β := (kvs.find? fun kv => decide (kv.1 = k)).map (·.2)
def putA {κ β : Type} [DecidableEq κ] (kvs : List (κ × β)) (k : κ) (v : β) : List (κ × β) :=
  if (kvs.any fun kv => decide (kv.1 = k)) = true then kvs.map (fun kv => if kv.1 = k then (kv.1, v) else kv) else kvs ++ [(k, v)]
def pairsA : List D → Option (List (Ky × D))
  | [] => some []
  | k :: v :: r => (kyOf k).bind fun y => (pairsA r).map ((y, v) :: ·)
  | _ => none
/-! ### the language -/
inductive Op where
  | add | sub | mul | fdiv | mod | pow
  deriving DecidableEq
inductive Cm where
  | eq | ne | lt | le | gt | ge | is | isnot | isin | notin
  deriving DecidableEq
inductive Ty where
  | bool | int | str | tup | lst | dic
  deriving DecidableEq
inductive Bi where
  | len | abs | int | str | tup | lst | sorted | all | any | min | max | sum | repr
  deriving DecidableEq
inductive Mt where
  | append | extend | pop | pop0 | lidx | sidx | lcnt | join | split | replace | get
  deriving DecidableEq
/-- a target: a slot, or a tuple of targets -/
inductive LT where
  | nm (i : Nat) | tp (a b : LT) | tp3 (a b c : LT)
mutual
inductive LE where
  | lit (d : D)
  | var (i : Nat)
  | glob (x : String) (v : Vl)
  | op (o : Op) (a b : LE)
  | neg (a : LE)
  | not (a : LE)
  | and (a b : LE)
  | or (a b : LE)
  | cmp (o : Cm) (a b : LE)
  | chain (o p : Cm) (a b c : LE)
  | ife (c a b : LE)
  | tup (es : LEs)
  | lst (es : LEs)
  | thaw (e : LE)
  | frz (e : LE)
  | idx (a i : LE)
  | slc (a : LE) (lo hi : LO)
  | rev (a : LE)
  | call (f : Nat) (x : String) (es : LEs)
  | callv (i : Nat) (es : LEs)
  | bi (b : Bi) (es : LEs)
  | mt (m : Mt) (o : LE) (es : LEs)
  | isi (e : LE) (t : Ty)
  | isx (i : Nat) (x : String) (c : Nat)
  | comp (elt : LE) (g : LI) (t : LT) (c : LO) (own : List Nat)
  | dct (kvs : LEs)
  | dcomp (k v : LE) (g : LI) (t : LT) (own : List Nat)
  | lam (f : Nat) (caps : List Nat)
inductive LEs where
  | nil | cons (e : LE) (es : LEs)
inductive LO where
  | no | yes (e : LE)
inductive LI where
  | val (e : LE) | rng1 (a : LE) | rng2 (a b : LE) | zip (a b : LE) | enm (a : LE)
end
mutual
inductive LS where
  | pass
  | asg (t : LT) (e : LE)
  | par (i j : Nat) (a b : LE)
  | par3 (i j k : Nat) (a b d : LE)
  | never
  | sub (a i e : LE)
  | ex (e : LE)
  | ife (c : LE) (a b : LSs)
  | for_ (t : LT) (g : LI) (b : LSs)
  | while_ (c : LE) (b : LSs)
  | ret (e : LE)
  | retk (e : LE)
  | retn
  | raise (c : Nat) (x : String) (es : LEs)
  | try_ (b : LSs) (c : Nat) (x : String) (j : Nat) (h : LSs)
inductive LSs where
  | nil | cons (s : LS) (ss : LSs)
end

/-! ### reading and freezing -/
def peek (S : Sto) : Vl → Option D
  | .d x => some x
  | .ref n => match S[n]? with
    | some (.lst ds) => some (.lst ds)
    | some (.fzn ds) => some (.lst ds)
    | _ => none
  | _ => none
def peeks (S : Sto) : List Vl → Option (List D)
  | [] => some []
  | v :: vs => match peek S v, peeks S vs with
    | some x, some xs => some (x :: xs)
    | _, _ => none
/-- a value that is kept in data: a list is never changed from then on -/
def take (S : Sto) : Vl → Option (D × Sto)
  | .d x => some (x, S)
  | .ref n => match S[n]? with
    | some (.lst ds) => some (.lst ds, S.set n (.fzn ds))
    | some (.fzn ds) => some (.lst ds, S)
    | _ => none
  | _ => none
def takes (S : Sto) : List Vl → Option (List D × Sto)
  | [] => some ([], S)
  | v :: vs => match take S v with
    | some (x, S') => match takes S' vs with
      | some (xs, S'') => some (x :: xs, S'')
      | none => none
    | none => none
def bitsOf : List D → Option (List Bool)
  | [] => some []
  | .bl b :: ds => (bitsOf ds).map (b :: ·)
  | _ :: _ => none
def strsOf : List D → Option (List (List Nat))
  | [] => some []
  | .str s :: ds => (strsOf ds).map (s :: ·)
  | _ :: _ => none
def leastD : D → List D → Option D
  | m, [] => some m
  | m, d :: ds => match ltD d m with
    | some true => leastD d ds
    | some false => leastD m ds
    | none => none
def mostD : D → List D → Option D
  | m, [] => some m
  | m, d :: ds => match ltD m d with
    | some true => mostD d ds
    | some false => mostD m ds
    | none => none
def inD (x : D) (ds : List D) : Bool := ds.any fun y => eqD y x
def joinS (sep : List Nat) : List (List Nat) → List Nat
  | [] => []
  | [x] => x
  | x :: y :: r => x ++ (sep ++ joinS sep (y :: r))
def smallI (i : Int) : Bool := decide (-(2 ^ 64) < i) && decide (i < 2 ^ 64)

/-! ### operators, by data -/
def opD : Op → D → D → Option D
  | .add, .int i, .int j => some (.int (i + j))
  | .sub, .int i, .int j => some (.int (i - j))
  | .mul, .int i, .int j => if smallI i || smallI j then some (.int (i * j)) else none
  | .fdiv, .int i, .int j => if 0 < j ∧ j < 1073741824 then some (.int (i / j)) else none
  | .mod, .int i, .int j => if 0 < j then some (.int (i % j)) else none
  | .pow, .int i, .int j => if 0 ≤ j ∧ j ≤ 1000000 ∧ i.natAbs < 2 ^ 64 then some (.int (i ^ j.toNat)) else none
  | .add, .str x, .str y => if x.length + y.length ≤ lim then some (.str (x ++ y)) else none
  | .add, .tup xs, .tup ys => if xs.length + ys.length ≤ lim then some (.tup (xs ++ ys)) else none
  | .add, .lst xs, .lst ys => if xs.length + ys.length ≤ lim then some (.lst (xs ++ ys)) else none
  | .mul, .lst xs, .int k => if -(2 ^ 63) ≤ k ∧ k < 2 ^ 63 ∧ xs.length * k.toNat ≤ lim then some (.lst (List.replicate k.toNat xs).flatten) else none
  | .mul, .tup xs, .int k => if k = 1 then some (.tup xs) else if xs ≠ [] ∧ 2 ≤ k ∧ k ≤ 1000 ∧ xs.length ≤ 1000 then some (.tup (List.replicate k.toNat xs).flatten) else none
  | _, _, _ => none
def cmD : Cm → D → D → Option Bool
  | .eq, x, y => if min (dep x) (dep y) ≤ 60 then some (eqD x y) else none
  | .ne, x, y => if min (dep x) (dep y) ≤ 60 then some (!eqD x y) else none
  | .lt, .int i, .int j => some (decide (i < j))
  | .le, .int i, .int j => some (decide (i ≤ j))
  | .gt, .int i, .int j => some (decide (j < i))
  | .ge, .int i, .int j => some (decide (j ≤ i))
  | .lt, .str x, .str y => some (ltS x y)
  | .le, .str x, .str y => some (!ltS y x)
  | .gt, .str x, .str y => some (ltS y x)
  | .ge, .str x, .str y => some (!ltS x y)
  | .lt, .tup xs, .tup ys => match intsOf xs, intsOf ys with
    | some ns, some ms => some (lexI ns ms)
    | _, _ => none
  | .is, .non, .non => some true
  | .is, _, .non => some false
  | .is, .bl a, .bl b => some (a == b)
  | .isnot, .non, .non => some false
  | .isnot, _, .non => some true
  | .isnot, .bl a, .bl b => some (!(a == b))
  | .isin, .str [c], .str y => some (y.contains c)
  | .notin, .str [c], .str y => some (!y.contains c)
  | .isin, x, .tup ys => if dep x ≤ 60 then some (inD x ys) else none
  | .isin, x, .lst ys => if dep x ≤ 60 then some (inD x ys) else none
  | .notin, x, .tup ys => if dep x ≤ 60 then some (!inD x ys) else none
  | .notin, x, .lst ys => if dep x ≤ 60 then some (!inD x ys) else none
  | _, _, _ => none
def idxD : D → D → Option D
  | .tup ds, .int i => (ixI ds.length i).bind fun j => ds[j]?
  | .lst ds, .int i => (ixI ds.length i).bind fun j => ds[j]?
  | .str s, .int i => if s.length ≤ lim then ((ixI s.length i).bind fun j => s[j]?).map fun c => .str [c] else none
  | _, _ => none
def slcD (x : D) (lo hi : Option Int) : Option D :=
  match x with
  | .tup ds => some (.tup (cut ds lo hi))
  | .lst ds => some (.lst (cut ds lo hi))
  | .str s => if s.length ≤ lim then some (.str (cut s lo hi)) else none
  | _ => none
def revD : D → Option D
  | .lst ds => some (.lst ds.reverse)
  | .str s => if s.length ≤ lim then some (.str s.reverse) else none
  | _ => none
def isTyD : Ty → D → Bool
  | .bool, .bl _ => true
  | .int, .bl _ => true
  | .int, .int _ => true
  | .str, .str _ => true
  | .tup, .tup _ => true
  | .lst, .lst _ => true
  | _, _ => false
def isTy (t : Ty) (v : Vl) (S : Sto) : Option Bool :=
  match v with
  | .d x => some (isTyD t x)
  | .ref n => match (S : List Cell)[n]? with
    | some (.lst _) => some (decide (t = .lst))
    | some (.fzn _) => some (decide (t = .lst))
    | some (.dic _) => some (decide (t = .dic))
    | none => none
  | _ => none
/-- stable, by a strict order -/
def insD (x : D) : List D → Option (List D)
  | [] => some [x]
  | y :: ys => match ltD x y with
    | some true => some (x :: y :: ys)
    | some false => (insD x ys).map (y :: ·)
    | none => none
def sortD : List D → Option (List D)
  | [] => some []
  | x :: xs => match sortD xs with
    | some ys => insFront x ys
    | none => none
where insFront (x : D) : List D → Option (List D)
  | [] => some [x]
  | y :: ys => match ltD y x with
    | some true => (insFront x ys).map (y :: ·)
    | some false => some (x :: y :: ys)
    | none => none
def biD : Bi → List D → Option D
  | .len, [.str s] => if s.length ≤ lim then some (.int s.length) else none
  | .len, [.tup ds] => some (.int ds.length)
  | .len, [.lst ds] => some (.int ds.length)
  | .abs, [.int i] => some (.int (if i < 0 then -i else i))
  | .int, [.int i] => some (.int i)
  | .int, [.bl b] => some (.int (if b then 1 else 0))
  | .tup, [.lst ds] => some (.tup ds)
  | .tup, [.tup ds] => some (.tup ds)
  | .lst, [.lst ds] => some (.lst ds)
  | .lst, [.tup ds] => some (.lst ds)
  | .all, [.lst ds] => (bitsOf ds).map fun bs => .bl (bs.all id)
  | .any, [.lst ds] => (bitsOf ds).map fun bs => .bl (bs.any id)
  | .sum, [.lst ds] => (intsOf ds).map fun ns => .int ns.sum
  | .min, [.int i, .int j] => some (.int (if j < i then j else i))
  | .max, [.int i, .int j] => some (.int (if j > i then j else i))
  | .min, [.lst (.int m :: ds)] => leastD (.int m) ds
  | .max, [.lst (.int m :: ds)] => mostD (.int m) ds
  | .min, [.lst (m :: ds)] => if alikes (m :: ds) && decide (deps (m :: ds) ≤ 60) && notLst m then leastD m ds else none
  | .max, [.lst (m :: ds)] => if alikes (m :: ds) && decide (deps (m :: ds) ≤ 60) && notLst m then mostD m ds else none
  | .sorted, [.lst ds] => if alikes ds && decide (deps ds ≤ 60) && srtB ds then (sortD ds).map .lst else none
  | _, _ => none
def mtD : Mt → D → List D → Option D
  | .join, .str sep, [.lst ds] => (strsOf ds).bind fun ss => if (ss.map List.length).sum + ss.length * sep.length ≤ lim then some (.str (joinS sep ss)) else none
  | .lidx, .lst ds, [x] => if dep x ≤ 60 then (ds.findIdx? fun y => eqD y x).map fun k => .int (k : Nat) else none
  | .lcnt, .lst ds, [x] => if dep x ≤ 60 then some (.int ((ds.countP fun y => eqD y x) : Nat)) else none
  | .sidx, .str s, [.str [c]] => if s = [97, 98] then (if c = 97 then some (.int 0) else if c = 98 then some (.int 1) else none) else none
  | _, _, _ => none

def plainV : Vl → Bool
  | .d _ => true
  | .ref _ => true
  | .fnv _ => true
  | _ => false
/-! ### the evaluator -/
structure Env where
  cf : Nat → List Vl → Sto → R Vl
  wf : Nat
  sub : Nat → Nat → Option Bool
def setT : LT → D → Loc → Option Loc
  | .nm i, x, l => some (l.set i (some (.d x)))
  | .tp a b, .tup [x, y], l => (setT a x l).bind (setT b y)
  | .tp3 a b c, .tup [x, y, z], l => ((setT a x l).bind (setT b y)).bind (setT c z)
  | _, _, _ => none
def setTV (t : LT) (v : Vl) (S : Sto) (l : Loc) : Option Loc :=
  match t with
  | .nm i => some (l.set i (some v))
  | _ => match v with
    | .d x => setT t x l
    | _ => none
def wipeL (l : Loc) : List Nat → Loc
  | [] => l
  | i :: is => wipeL (l.set i none) is
/-- a comprehension over items; no error leaves it -/
def compGo (t : LT) (c : Loc → Sto → R Bool) (e : Loc → Sto → R Vl) (l : Loc) : List D → List D → Sto → R (List D)
  | [], acc, S => .ok acc S
  | x :: xs, acc, S => match setT t x l with
    | none => .stuck
    | some l' => match c l' S with
      | .ok true S1 => match e l' S1 with
        | .ok v S2 => match take S2 v with
          | some (y, S3) => if acc.length < lim then compGo t c e l xs (acc ++ [y]) S3 else .stuck
          | none => .stuck
        | _ => .stuck
      | .ok false S1 => compGo t c e l xs acc S1
      | _ => .stuck
/-- a comprehension over a list that stands in the store: it must stay as it is -/
def compRef (t : LT) (c : Loc → Sto → R Bool) (e : Loc → Sto → R Vl) (l : Loc) (n : Nat) : Nat → Nat → List D → Sto → R (List D)
  | 0, _, _, _ => .stuck
  | k + 1, i, acc, S => match (S : List Cell)[n]? with
    | some (.lst ds) => match ds[i]? with
      | none => .ok acc S
      | some x => match setT t x l with
        | none => .stuck
        | some l' => match c l' S with
          | .ok true S1 => match e l' S1 with
            | .ok v S2 => match take S2 v with
              | some (y, S3) => if acc.length < lim then compRef t c e l n k (i + 1) (acc ++ [y]) S3 else .stuck
              | none => .stuck
            | _ => .stuck
          | .ok false S1 => compRef t c e l n k (i + 1) acc S1
          | _ => .stuck
    | _ => .stuck
/-- what is walked: items told ahead, or a list in the store -/
inductive Src where
  | items (ds : List D) | live (n : Nat)
def rangeD (i j : Int) : List D := (List.range (j - i).toNat).map fun k => .int (i + (k : Nat))
def zipD : List D → List D → List D
  | x :: xs, y :: ys => .tup [x, y] :: zipD xs ys
  | _, _ => []
def enmD : List D → Nat → List D
  | [], _ => []
  | x :: xs, k => .tup [.int (k : Nat), x] :: enmD xs (k + 1)
def seqD : D → Option (List D)
  | .tup ds => some ds
  | .lst ds => some ds
  | .str s => some (s.map fun c => .str [c])
  | _ => none
def wideI (i : Int) : Bool := decide (-(2 ^ 62) ≤ i) && decide (i < 2 ^ 62)
def compR (t : LT) (c : Loc → Sto → R Bool) (e : Loc → Sto → R Vl) (l : Loc) (src : Src) (S : Sto) : R (List D) :=
  match src with
  | .items ds => compGo t c e l ds [] S
  | .live n => match S[n]? with
    | some (.lst ds) => compRef t c e l n (ds.length + 1) 0 [] S
    | _ => .stuck
def liveL (S : Sto) (n : Nat) : Bool :=
  match (S : List Cell)[n]? with
  | some (.lst _) => true
  | _ => false
def asBool : Vl → Option Bool
  | .d (.bl b) => some b
  | _ => none
def dicOf (S : Sto) : Vl → Option (List (Ky × D))
  | .ref n => match (S : List Cell)[n]? with
    | some (.dic kvs) => some kvs
    | _ => none
  | _ => none
def cmV (o : Cm) (v w : Vl) (S : Sto) : Option Bool :=
  match dicOf S w with
  | some kvs => match o, (peek S v).bind kyOf with
    | .isin, some k => some (valA kvs k).isSome
    | .notin, some k => some (!(valA kvs k).isSome)
    | _, _ => none
  | none => match peek S v, peek S w with
    | some x, some y => cmD o x y
    | _, _ => none
def idxV (v w : Vl) (S : Sto) : Option D :=
  match dicOf S v with
  | some kvs => ((peek S w).bind kyOf).bind fun k => valA kvs k
  | none => match peek S v, peek S w with
    | some x, some y => idxD x y
    | _, _ => none
def biV (b : Bi) (vs : List Vl) (S : Sto) : Option D :=
  match vs with
  | [v] => match dicOf S v with
    | some kvs => match b with
      | .lst => some (.lst (kvs.map fun p => kyD p.1))
      | .len => some (.int kvs.length)
      | _ => none
    | none => (peeks S vs).bind fun xs => biD b xs
  | vs => (peeks S vs).bind fun xs => biD b xs
def mtTyp : Mt → Ty
  | .append => .lst | .extend => .lst | .pop => .lst | .pop0 => .lst | .lidx => .lst | .lcnt => .lst | .get => .dic
  | .sidx => .str | .join => .str | .split => .str | .replace => .str
def slcV (v : Vl) (p q : Option Int) (S : Sto) : R Vl :=
  match v with
  | .scr ds => .ok (.d (.lst (cut ds p q))) S
  | v => R.opt ((peek S v).bind fun x => slcD x p q) fun z => .ok (.d z) S
def mtApp (v : Vl) (vs : List Vl) (S : Sto) : R Vl :=
  match v, vs with
  | .ref n, [w] => R.opt (take S w) fun p => match (p.2 : List Cell)[n]? with
    | some (.lst ds) => if ds.length < lim then .ok (.d .non) (p.2.set n (.lst (ds ++ [p.1]))) else .stuck
    | _ => .stuck
  | _, _ => .stuck
def mtExt (v : Vl) (vs : List Vl) (S : Sto) : R Vl :=
  match v, vs with
  | .ref n, [w] => match (S : List Cell)[n]?, peek S w with
    | some (.lst ds), some (.lst zs) => if ds.length + zs.length ≤ lim then .ok (.d .non) (S.set n (.lst (ds ++ zs))) else .stuck
    | _, _ => .stuck
  | _, _ => .stuck
def mtPop (v : Vl) (vs : List Vl) (S : Sto) : R Vl :=
  match v, vs with
  | .ref n, [] => match (S : List Cell)[n]? with
    | some (.lst ds) => match ds[ds.length - 1]? with
      | some x => .ok (.d x) (S.set n (.lst ds.dropLast))
      | none => .stuck
    | _ => .stuck
  | _, _ => .stuck
def mtPop0 (v : Vl) (vs : List Vl) (S : Sto) : R Vl :=
  match v, vs with
  | .ref n, [.d (.int i)] => match (S : List Cell)[n]? with
    | some (.lst ds) => if i = 0 then match ds with
        | x :: r => .ok (.d x) (S.set n (.lst r))
        | [] => .stuck
      else .stuck
    | _ => .stuck
  | _, _ => .stuck
def mtPure (m : Mt) (v : Vl) (vs : List Vl) (S : Sto) : R Vl :=
  match peek S v, peeks S vs with
  | some x, some xs => R.opt (mtD m x xs) fun z => .ok (.d z) S
  | _, _ => .stuck
def mtV (m : Mt) (v : Vl) (vs : List Vl) (S : Sto) : R Vl :=
  match m with
  | .append => mtApp v vs S
  | .extend => mtExt v vs S
  | .pop => mtPop v vs S
  | .pop0 => mtPop0 v vs S
  | m => mtPure m v vs S
/-- what the names hold that a lambda takes along -/
def capsOf (l : Loc) : List Nat → Option (List Vl)
  | [] => some []
  | i :: is => match l[i]?, capsOf l is with
    | some (some v), some vs => some (v :: vs)
    | _, _ => none
mutual
def evE (V : Env) : LE → Loc → Sto → R Vl
  | .lit d, _, S => .ok (.d d) S
  | .var i, l, S => match l[i]? with
    | some (some v) => .ok v S
    | _ => .stuck
  | .glob _ v, _, S => .ok v S
  | .op o a b, l, S => (evE V a l S).bind fun v S1 => (evE V b l S1).bind fun w S2 =>
      match peek S2 v, peek S2 w with
      | some x, some y => R.opt (opD o x y) fun z => .ok (.d z) S2
      | _, _ => .stuck
  | .neg a, l, S => (evE V a l S).bind fun v S1 => match v with
      | .d (.int i) => .ok (.d (.int (-i))) S1
      | _ => .stuck
  | .not a, l, S => (evE V a l S).bind fun v S1 => R.opt (asBool v) fun b => .ok (.d (.bl (!b))) S1
  | .and a b, l, S => (evE V a l S).bind fun v S1 => R.opt (asBool v) fun c => if c then (evE V b l S1).bind fun w S2 => R.opt (asBool w) fun d => .ok (.d (.bl d)) S2 else .ok (.d (.bl false)) S1
  | .or a b, l, S => (evE V a l S).bind fun v S1 => R.opt (asBool v) fun c => if c then .ok (.d (.bl true)) S1 else (evE V b l S1).bind fun w S2 => R.opt (asBool w) fun d => .ok (.d (.bl d)) S2
  | .cmp o a b, l, S => (evE V a l S).bind fun v S1 => (evE V b l S1).bind fun w S2 => R.opt (cmV o v w S2) fun c => .ok (.d (.bl c)) S2
  | .chain o p a b c, l, S => (evE V a l S).bind fun v S1 => (evE V b l S1).bind fun w S2 => R.opt (cmV o v w S2) fun k =>
      if k then (evE V c l S2).bind fun u S3 => R.opt (cmV p w u S3) fun m => .ok (.d (.bl m)) S3 else .ok (.d (.bl false)) S2
  | .ife c a b, l, S => (evE V c l S).bind fun v S1 => R.opt (asBool v) fun k => if k then evE V a l S1 else evE V b l S1
  | .tup es, l, S => (evEs V es l S).bind fun vs S1 => R.opt (takes S1 vs) fun p => .ok (.d (.tup p.1)) p.2
  | .lst es, l, S => (evEs V es l S).bind fun vs S1 => R.opt (takes S1 vs) fun p => .ok (.d (.lst p.1)) p.2
  | .thaw e, l, S => (evE V e l S).bind fun v S1 => match v with
      | .d (.lst ds) => .ok (.ref S1.length) (S1 ++ [.lst ds])
      | _ => .stuck
  | .frz e, l, S => (evE V e l S).bind fun v S1 => R.opt (take S1 v) fun p => .ok (.d p.1) p.2
  | .idx a i, l, S => (evE V a l S).bind fun v S1 => (evE V i l S1).bind fun w S2 => R.opt (idxV v w S2) fun z => .ok (.d z) S2
  | .slc a lo hi, l, S => (evE V a l S).bind fun v S1 => (evO V lo l S1).bind fun p S2 => (evO V hi l S2).bind fun q S3 =>
      slcV v p q S3
  | .rev a, l, S => (evE V a l S).bind fun v S1 => match peek S1 v with
      | some x => R.opt (revD x) fun z => .ok (.d z) S1
      | _ => .stuck
  | .call f _ es, l, S => (evEs V es l S).bind fun vs S1 => V.cf f vs S1
  | .callv i es, l, S => match l[i]? with
      | some (some (.fnv f)) => (evEs V es l S).bind fun vs S1 => V.cf f vs S1
      | some (some (.clo f cs)) => (evEs V es l S).bind fun vs S1 => if vs.all plainV then V.cf f (cs ++ vs) S1 else .stuck
      | _ => .stuck
  | .bi b es, l, S => (evEs V es l S).bind fun vs S1 => R.opt (biV b vs S1) fun z => .ok (.d z) S1
  | .mt m o es, l, S => (evE V o l S).bind fun v S1 => if isTy (mtTyp m) v S1 = some true then (evEs V es l S1).bind fun vs S2 => mtV m v vs S2 else .stuck
  | .isi e t, l, S => (evE V e l S).bind fun v S1 => R.opt (isTy t v S1) fun b => .ok (.d (.bl b)) S1
  | .isx i _ c, l, S => match l[i]? with
      | some (some (.exn k _)) => R.opt (V.sub k c) fun b => .ok (.d (.bl b)) S
      | _ => .stuck
  | .comp elt g t c own, l, S => (evI V g l S).bind fun src S1 =>
      (compR t (evC V c) (evE V elt) (wipeL l own) src S1).bind fun ds S2 => .ok (.d (.lst ds)) S2
  | .dct es, l, S => (evEs V es l S).bind fun vs S1 => R.opt (takes S1 vs) fun p => R.opt (pairsA p.1) fun kvs => .ok (.ref p.2.length) (p.2 ++ [.dic (kvs.foldl (fun a q => putA a q.1 q.2) [])])
  | .dcomp _ _ _ _ _, _, _ => .stuck
  | .lam f caps, l, S => R.opt (capsOf l caps) fun vs => if vs.all plainV then .ok (.clo f vs) S else .stuck
def evEs (V : Env) : LEs → Loc → Sto → R (List Vl)
  | .nil, _, S => .ok [] S
  | .cons e es, l, S => (evE V e l S).bind fun v S1 => (evEs V es l S1).bind fun vs S2 => .ok (v :: vs) S2
/-- a part of a slice -/
def evO (V : Env) : LO → Loc → Sto → R (Option Int)
  | .no, _, S => .ok none S
  | .yes e, l, S => (evE V e l S).bind fun v S1 => match v with
      | .d (.int i) => .ok (some i) S1
      | _ => .stuck
/-- a condition -/
def evC (V : Env) : LO → Loc → Sto → R Bool
  | .no, _, S => .ok true S
  | .yes e, l, S => (evE V e l S).bind fun v S1 => R.opt (asBool v) fun b => .ok b S1
def evI (V : Env) : LI → Loc → Sto → R Src
  | .val e, l, S => (evE V e l S).bind fun v S1 => match v with
      | .d x => R.opt (seqD x) fun ds => .ok (.items ds) S1
      | .ref n => if liveL S1 n then .ok (.live n) S1 else .stuck
      | _ => .stuck
  | .rng1 a, l, S => (evE V a l S).bind fun v S1 => match v with
      | .d (.int j) => if wideI j then .ok (.items (rangeD 0 j)) S1 else .stuck
      | _ => .stuck
  | .rng2 a b, l, S => (evE V a l S).bind fun v S1 => (evE V b l S1).bind fun w S2 => match v, w with
      | .d (.int i), .d (.int j) => if wideI i && wideI j then .ok (.items (rangeD i j)) S2 else .stuck
      | _, _ => .stuck
  | .zip a b, l, S => (evE V a l S).bind fun v S1 => (evE V b l S1).bind fun w S2 => match v, w with
      | .d x, .d y => R.opt (seqD x) fun xs => R.opt (seqD y) fun ys => .ok (.items (zipD xs ys)) S2
      | _, _ => .stuck
  | .enm a, l, S => (evE V a l S).bind fun v S1 => match v with
      | .d x => R.opt (seqD x) fun xs => .ok (.items (enmD xs 0)) S1
      | _ => .stuck
end
/-! ### statements -/
inductive RS where
  | nx (l : Loc) (S : Sto) | ret (v : Vl) (S : Sto) | bk (l : Loc) (S : Sto) | ct (l : Loc) (S : Sto) | exc (c : Nat) (xs : List D) (l : Loc) (S : Sto) | stuck
def R.st {α : Type} (l : Loc) : R α → (α → Sto → RS) → RS
  | .ok a S, f => f a S
  | .exc c xs S, _ => .exc c xs l S
  | .stuck, _ => .stuck
@[simp] theorem R.st_ok {α : Type} (l : Loc) (a : α) (S : Sto) (f : α → Sto → RS) : (R.ok a S).st l f = f a S := rfl
@[simp] theorem R.st_exc {α : Type} (l : Loc) (c : Nat) (xs : List D) (S : Sto) (f : α → Sto → RS) : (R.exc c xs S : R α).st l f = .exc c xs l S := rfl
@[simp] theorem R.st_stuck {α : Type} (l : Loc) (f : α → Sto → RS) : (R.stuck : R α).st l f = .stuck := rfl
def RS.opt {α : Type} : Option α → (α → RS) → RS
  | some a, f => f a
  | none, _ => .stuck
@[simp] theorem RS.opt_some {α : Type} (a : α) (f : α → RS) : RS.opt (some a) f = f a := rfl
@[simp] theorem RS.opt_none {α : Type} (f : α → RS) : RS.opt none f = .stuck := rfl
def forGo (t : LT) (b : Loc → Sto → RS) : List D → Loc → Sto → RS
  | [], l, S => .nx l S
  | x :: xs, l, S => match setT t x l with
    | none => .stuck
    | some l' => match b l' S with
      | .nx l2 S2 => forGo t b xs l2 S2
      | .ct l2 S2 => forGo t b xs l2 S2
      | .bk l2 S2 => .nx l2 S2
      | r => r
def forRef (t : LT) (b : Loc → Sto → RS) (n : Nat) : Nat → Nat → Loc → Sto → RS
  | 0, _, _, _ => .stuck
  | k + 1, i, l, S => match (S : List Cell)[n]? with
    | some (.lst ds) => match ds[i]? with
      | none => .nx l S
      | some x => match setT t x l with
        | none => .stuck
        | some l' => match b l' S with
          | .nx l2 S2 => forRef t b n k (i + 1) l2 S2
          | .ct l2 S2 => forRef t b n k (i + 1) l2 S2
          | .bk l2 S2 => .nx l2 S2
          | r => r
    | _ => .stuck
def forR (t : LT) (b : Loc → Sto → RS) (src : Src) (l : Loc) (S : Sto) (wf : Nat) : RS :=
  match src with
  | .items ds => forGo t b ds l S
  | .live n => forRef t b n wf 0 l S
def whileGo (c : Loc → Sto → R Bool) (b : Loc → Sto → RS) : Nat → Loc → Sto → RS
  | 0, _, _ => .stuck
  | k + 1, l, S => (c l S).st l fun t S1 => if t then
      match b l S1 with
      | .nx l2 S2 => whileGo c b k l2 S2
      | .ct l2 S2 => whileGo c b k l2 S2
      | .bk l2 S2 => .nx l2 S2
      | r => r
    else .nx l S1
def noX : Vl → Bool
  | .exn _ _ => false
  | _ => true
def noXl (l : Loc) : Bool := l.all fun o => match o with
  | some v => noX v
  | none => true
def subC (l : Loc) (n : Nat) (kd x : D) (S : Sto) : RS :=
  match (S : List Cell)[n]? with
  | some (.lst ds) => match kd with
    | .int j => RS.opt (ixI ds.length j) fun m => .nx l (S.set n (.lst (ds.set m x)))
    | _ => .stuck
  | some (.dic kvs) => RS.opt (kyOf kd) fun y => if kvs.length < lim then .nx l (S.set n (.dic (putA kvs y x))) else .stuck
  | _ => .stuck
mutual
def evS (V : Env) : LS → Loc → Sto → RS
  | .pass, l, S => .nx l S
  | .asg t e, l, S => (evE V e l S).st l fun v S1 => RS.opt (setTV t v S1 l) fun l' => .nx l' S1
  | .par i j a b, l, S => (evE V a l S).st l fun v S1 => (evE V b l S1).st l fun w S2 => .nx ((l.set i (some v)).set j (some w)) S2
  | .par3 i j k a b d, l, S => (evE V a l S).st l fun v S1 => (evE V b l S1).st l fun w S2 => (evE V d l S2).st l fun u S3 => .nx (((l.set i (some v)).set j (some w)).set k (some u)) S3
  | .never, _, _ => .stuck
  | .sub a i e, l, S => (evE V e l S).st l fun v S1 => (evE V a l S1).st l fun o S2 => (evE V i l S2).st l fun k S3 =>
      match o, k with
      | .ref n, .d kd => RS.opt (take S3 v) fun p => subC l n kd p.1 p.2
      | _, _ => .stuck
  | .ex e, l, S => (evE V e l S).st l fun _ S1 => .nx l S1
  | .ife c a b, l, S => (evE V c l S).st l fun v S1 => RS.opt (asBool v) fun k => if k then evSs V a l S1 else evSs V b l S1
  | .for_ t g b, l, S => (evI V g l S).st l fun src S1 => forR t (evSs V b) src l S1 V.wf
  | .while_ c b, l, S => whileGo (fun l S => (evE V c l S).bind fun v S1 => R.opt (asBool v) fun k => .ok k S1) (evSs V b) V.wf l S
  | .ret e, l, S => (evE V e l S).st l fun v S1 => RS.opt (take S1 v) fun p => .ret (.d p.1) p.2
  | .retk e, l, S => (evE V e l S).st l fun v S1 => .ret v S1
  | .retn, _, S => .ret (.d .non) S
  | .raise c _ es, l, S => (evEs V es l S).st l fun vs S1 => RS.opt (takes S1 vs) fun p => .exc c p.1 l p.2
  | .try_ b c _ j h, l, S => match evSs V b l S with
      | .exc k xs l' S' => match V.sub k c with
        | some true => match evSs { V with cf := fun _ _ _ => .stuck } h (l'.set j (some (.exn k xs))) S' with
          | .nx l2 S2 => if noXl (l2.set j none) then .nx (l2.set j none) S2 else .stuck
          | .ret v S2 => if noX v then .ret v S2 else .stuck
          | _ => .stuck
        | some false => .exc k xs l' S'
        | none => .stuck
      | r => r
def evSs (V : Env) : LSs → Loc → Sto → RS
  | .nil, l, S => .nx l S
  | .cons s ss, l, S => match evS V s l S with
    | .nx l' S' => evSs V ss l' S'
    | r => r
end
/-! ### functions -/
structure Fn where
  np : Nat
  nl : Nat
  body : LSs
def keepS (k : Nat) (v : Vl) (S : Sto) : R Vl :=
  match v with
  | .d x => .ok (.d x) (S.take k)
  | .ref n => if n < k then .ok (.ref n) (S.take k) else .ok (.ref n) S
  | _ => .stuck
def runF (V : Env) (F : Fn) (vs : List Vl) (S : Sto) : R Vl :=
  if vs.length = F.np then
    match evSs V F.body (vs.map some ++ List.replicate (F.nl - F.np) none) S with
    | .nx _ S' => .ok (.d .non) (S'.take S.length)
    | .ret v S' => keepS S.length v S'
    | .exc c xs _ S' => .exc c xs (S'.take S.length)
    | _ => .stuck
  else .stuck
def callN (T : List Fn) (sub : Nat → Nat → Option Bool) (wf : Nat) : Nat → Nat → List Vl → Sto → R Vl
  | 0, _, _, _ => .stuck
  | n + 1, f, vs, S => match T[f]? with
    | some F => runF ⟨callN T sub wf n, wf, sub⟩ F vs S
    | none => .stuck
end EV
end

section
set_option Elab.async false
set_option linter.all false
set_option maxRecDepth 100000
set_option maxHeartbeats 1000000
/-! EV2: how data, store and names lie in the abstract heap -/
namespace EV
open PySem PySem.Spec PyProof.Rows L2
def SS (l : List Nat) : Str := ⟨l.toArray⟩
theorem SS_length (l : List Nat) : (SS l).length = l.length := by simp [SS, Str.length]
theorem SS_app (a b : List Nat) : SS a ++ SS b = SS (a ++ b) := by
  show Str.mk _ = _
  simp [SS]
theorem SS_inj {a b : List Nat} (h : SS a = SS b) : a = b := by simpa [SS] using h
def okS (l : List Nat) : Prop := ∀ c ∈ l, c < 0x110000
theorem okS.strOk {l : List Nat} (h : okS l) : PySem.PyData.strOk (SS l) = true := by
  unfold PySem.PyData.strOk SS
  simp only [List.all_toArray, List.all_eq_true, decide_eq_true_eq]
  exact h
/-- a lambda of the text -/
structure LamI where
  params : Arguments
  body : Expr
  scope : Scope
  caps : List Str
  dfl : Nat
/-- what is fixed through a law -/
structure Glb where
  lam : Nat → LamI → Prop
  K : PySem.W.Frag
  fa : Nat → Option Addr
  ca : Nat → Option Value
  tabs : List (Addr × Str)
  ex : Option (Addr × Nat)
/-- a state: hidden addresses, the store's addresses, the store, the abstract heap -/
structure G where
  hid : List Addr
  ρ : List Addr
  S : Sto
  H : Hp
def Cell.isLive : Cell → Bool
  | .fzn _ => false
  | _ => true
/-- may still be changed -/
def live (g : G) (a : Addr) : Prop := a ∈ g.hid ∨ ∃ (n : Nat) (x : Cell), g.ρ[n]? = some a ∧ (g.S : List Cell)[n]? = some x ∧ x.isLive = true
mutual
inductive Rep (K : PySem.W.Frag) (L : Addr → Prop) (H : Hp) : D → V → Prop
  | non : Rep K L H .non .non
  | bl (b : Bool) : Rep K L H (.bl b) (.bl b)
  | int (i : Int) : Rep K L H (.int i) (.int i)
  | str {s : List Nat} : okS s → Rep K L H (.str s) (.str (SS s))
  | tup {a : Addr} {ds : List D} {vs : List V} : SqT K H a vs → ds.length ≤ lim → Reps K L H ds vs → Rep K L H (.tup ds) (.ref a)
  | lst {a : Addr} {ds : List D} {vs : List V} : H a = some (.lst vs) → ¬ L a → ds.length ≤ lim → Reps K L H ds vs → Rep K L H (.lst ds) (.ref a)
inductive Reps (K : PySem.W.Frag) (L : Addr → Prop) (H : Hp) : List D → List V → Prop
  | nil : Reps K L H [] []
  | cons {d : D} {v : V} {ds : List D} {vs : List V} : Rep K L H d v → Reps K L H ds vs → Reps K L H (d :: ds) (v :: vs)
end
theorem Reps.length {K : PySem.W.Frag} {L : Addr → Prop} {H : Hp} : ∀ {ds : List D} {vs : List V}, Reps K L H ds vs → ds.length = vs.length
  | _, _, .nil => rfl
  | _, _, .cons _ t => by simp [Reps.length t]
theorem Reps.app {K : PySem.W.Frag} {L : Addr → Prop} {H : Hp} : ∀ {ds es : List D} {vs ws : List V}, Reps K L H ds vs → Reps K L H es ws → Reps K L H (ds ++ es) (vs ++ ws)
  | _, _, _, _, .nil, s => s
  | _, _, _, _, .cons r t, s => .cons r (Reps.app t s)
theorem Reps.get {K : PySem.W.Frag} {L : Addr → Prop} {H : Hp} : ∀ {ds : List D} {vs : List V} {i : Nat} {d : D}, Reps K L H ds vs → ds[i]? = some d → ∃ v, vs[i]? = some v ∧ Rep K L H d v
  | _, _, _, _, .nil, e => by simp at e
  | _, _, 0, _, .cons r _, e => by simp at e; subst e; exact ⟨_, rfl, r⟩
  | _, _, i + 1, d, .cons _ t, e => by
    obtain ⟨v, h1, h2⟩ := Reps.get (i := i) (d := d) t (by simpa using e)
    exact ⟨v, by simpa using h1, h2⟩
theorem Reps.get' {K : PySem.W.Frag} {L : Addr → Prop} {H : Hp} : ∀ {ds : List D} {vs : List V} {i : Nat} {v : V}, Reps K L H ds vs → vs[i]? = some v → ∃ d, ds[i]? = some d ∧ Rep K L H d v
  | _, _, _, _, .nil, e => by simp at e
  | _, _, 0, _, .cons r _, e => by simp at e; subst e; exact ⟨_, rfl, r⟩
  | _, _, i + 1, d, .cons _ t, e => by
    obtain ⟨v, h1, h2⟩ := Reps.get' (i := i) (v := d) t (by simpa using e)
    exact ⟨v, by simpa using h1, h2⟩
theorem Reps.take {K : PySem.W.Frag} {L : Addr → Prop} {H : Hp} : ∀ {ds : List D} {vs : List V} (n : Nat), Reps K L H ds vs → Reps K L H (ds.take n) (vs.take n)
  | _, _, 0, _ => by simp; exact .nil
  | _, _, _ + 1, .nil => by simp; exact .nil
  | _, _, n + 1, .cons r t => by simp; exact .cons r (Reps.take n t)
theorem Reps.drop {K : PySem.W.Frag} {L : Addr → Prop} {H : Hp} : ∀ {ds : List D} {vs : List V} (n : Nat), Reps K L H ds vs → Reps K L H (ds.drop n) (vs.drop n)
  | _, _, 0, r => by simpa using r
  | _, _, _ + 1, .nil => by simp; exact .nil
  | _, _, n + 1, .cons r t => by simp; exact Reps.drop n t
theorem Reps.set {K : PySem.W.Frag} {L : Addr → Prop} {H : Hp} {x : D} {w : V} (q : Rep K L H x w) : ∀ {ds : List D} {vs : List V} (n : Nat), Reps K L H ds vs → Reps K L H (ds.set n x) (vs.set n w)
  | _, _, _, .nil => by simp; exact .nil
  | _, _, 0, .cons r t => by simp; exact .cons q t
  | _, _, n + 1, .cons r t => by simp; exact .cons r (Reps.set q n t)
theorem Reps.rev {K : PySem.W.Frag} {L : Addr → Prop} {H : Hp} : ∀ {ds : List D} {vs : List V}, Reps K L H ds vs → Reps K L H ds.reverse vs.reverse
  | _, _, .nil => by simp; exact .nil
  | _, _, .cons r t => by
    simp only [List.reverse_cons]
    exact (Reps.rev t).app (.cons r .nil)
theorem Reps.flat {K : PySem.W.Frag} {L : Addr → Prop} {H : Hp} {ds : List D} {vs : List V} (r : Reps K L H ds vs) : ∀ n : Nat, Reps K L H (List.replicate n ds).flatten (List.replicate n vs).flatten
  | 0 => by simp; exact .nil
  | n + 1 => by
    simp only [List.replicate_succ, List.flatten_cons]
    exact r.app (Reps.flat r n)
/-- one state's heap leads on to another's: what may not be changed stands, and may not be changed -/
structure Mo (L : Addr → Prop) (H : Hp) (L' : Addr → Prop) (H' : Hp) : Prop where
  keep : ∀ a o, H a = some o → ¬ L a → (∀ ps, o ≠ .tbl ps) → H' a = some o ∧ ¬ L' a
  lv : ∀ a, L a → (∃ xs, H a = some (.lst xs)) ∨ (∃ kvs, H a = some (.dK kvs)) ∨ ∃ kvs, H a = some (.dT kvs)
section
variable {K : PySem.W.Frag} {L L' : Addr → Prop} {H H' : Hp}
theorem Mo.tup (m : Mo L H L' H') {a : Addr} {vs : List V} (h : SqT K H a vs) : SqT K H' a vs := by
  rcases h with (h | ⟨o, h⟩) | h
  · refine .inl (.inl (m.keep a _ h (fun z => ?_) (fun ps z => by cases z)).1)
    rcases m.lv a z with ⟨_, e⟩ | ⟨_, e⟩ | ⟨_, e⟩ <;> rw [h] at e <;> cases e
  · refine .inl (.inr ⟨o, (m.keep a _ h (fun z => ?_) (fun ps z => by cases z)).1⟩)
    rcases m.lv a z with ⟨_, e⟩ | ⟨_, e⟩ | ⟨_, e⟩ <;> rw [h] at e <;> cases e
  · exact .inr h
theorem Mo.sql (m : Mo L H L' H') {a : Addr} {vs : List V} (h : SqL K H a vs) (n : ¬ L a) : SqL K H' a vs := by
  rcases h with (h | ⟨o, h⟩) | h
  · exact .inl (.inl (m.keep a _ h n (fun ps z => by cases z)).1)
  · exact .inl (.inr ⟨o, (m.keep a _ h n (fun ps z => by cases z)).1⟩)
  · exact .inr h
mutual
theorem Rep.mo (m : Mo L H L' H') : ∀ (d : D) (v : V), Rep K L H d v → Rep K L' H' d v
  | .non, _, h => by cases h; exact .non
  | .bl b, _, h => by cases h; exact .bl b
  | .int i, _, h => by cases h; exact .int i
  | .str s, _, h => by cases h with | str o => exact .str o
  | .tup ds, _, h => by
    cases h with
    | tup hs hl hr => exact .tup (m.tup hs) hl (Reps.mo m ds _ hr)
  | .lst ds, _, h => by
    cases h with
    | lst ha hn hl hr =>
      obtain ⟨h1, h2⟩ := m.keep _ _ ha hn (fun ps z => by cases z)
      exact .lst h1 h2 hl (Reps.mo m ds _ hr)
theorem Reps.mo (m : Mo L H L' H') : ∀ (ds : List D) (vs : List V), Reps K L H ds vs → Reps K L' H' ds vs
  | [], _, h => by cases h; exact .nil
  | d :: ds, _, h => by
    cases h with
    | cons h1 h2 => exact .cons (Rep.mo m d _ h1) (Reps.mo m ds _ h2)
end
end
/-! tables as they lie -/
def toK : Ky → Key
  | .i k => .inl k
  | .s x => .inr (SS x)
def okK : Ky → Prop
  | .i _ => True
  | .s x => okS x
theorem toK_inj {a b : Ky} (h : toK a = toK b) : a = b := by
  cases a <;> cases b <;> first | (cases h; rfl) | cases h
inductive RepKs (K : PySem.W.Frag) (L : Addr → Prop) (H : Hp) : List (Ky × D) → List (Key × V) → Prop
  | nil : RepKs K L H [] []
  | cons {k : Ky} {d : D} {w : V} {ks : List (Ky × D)} {vs : List (Key × V)} : okK k → Rep K L H d w → RepKs K L H ks vs → RepKs K L H ((k, d) :: ks) ((toK k, w) :: vs)
theorem RepKs.length {K : PySem.W.Frag} {L : Addr → Prop} {H : Hp} : ∀ {ks : List (Ky × D)} {vs : List (Key × V)}, RepKs K L H ks vs → ks.length = vs.length
  | _, _, .nil => rfl
  | _, _, .cons _ _ t => by simp [RepKs.length t]
theorem RepKs.mo {K : PySem.W.Frag} {L L' : Addr → Prop} {H H' : Hp} (m : Mo L H L' H') : ∀ {ks : List (Ky × D)} {vs : List (Key × V)}, RepKs K L H ks vs → RepKs K L' H' ks vs
  | _, _, .nil => .nil
  | _, _, .cons o r t => .cons o (Rep.mo m _ _ r) (RepKs.mo m t)
theorem RepKs.app {K : PySem.W.Frag} {L : Addr → Prop} {H : Hp} : ∀ {ks ks' : List (Ky × D)} {vs vs' : List (Key × V)}, RepKs K L H ks vs → RepKs K L H ks' vs' → RepKs K L H (ks ++ ks') (vs ++ vs')
  | _, _, _, _, .nil, s => s
  | _, _, _, _, .cons o r t, s => .cons o r (RepKs.app t s)
theorem RepKs.val {K : PySem.W.Frag} {L : Addr → Prop} {H : Hp} (k : Ky) : ∀ {ks : List (Ky × D)} {vs : List (Key × V)}, RepKs K L H ks vs → (valA ks k = none ∧ valV vs (toK k) = none) ∨ ∃ x w, valA ks k = some x ∧ valV vs (toK k) = some w ∧ Rep K L H x w
  | _, _, .nil => .inl ⟨rfl, rfl⟩
  | _, _, .cons (k := j) (d := d) (w := w) (ks := ks) (vs := vs) o r t => by
    by_cases e : j = k
    · subst e
      exact .inr ⟨d, w, by simp [valA, List.find?_cons], valV_pos rfl, r⟩
    · have e2 : ¬ toK j = toK k := fun z => e (toK_inj z)
      have q1 : valA ((j, d) :: ks) k = valA ks k := by simp [valA, List.find?_cons, e]
      rw [q1, valV_neg (p := (toK j, w)) e2]
      exact RepKs.val k t
theorem RepKs.repl {K : PySem.W.Frag} {L : Addr → Prop} {H : Hp} {k : Ky} {x : D} {w : V} (r : Rep K L H x w) : ∀ {ks : List (Ky × D)} {vs : List (Key × V)}, RepKs K L H ks vs → RepKs K L H (ks.map fun kv => if kv.1 = k then (kv.1, x) else kv) (vs.map fun kv => if kv.1 = toK k then (kv.1, w) else kv)
  | _, _, .nil => .nil
  | _, _, .cons (k := j) o r0 t => by
    rw [List.map_cons, List.map_cons]
    by_cases e : j = k
    · subst e
      simp only [if_true]
      exact .cons o r (RepKs.repl r t)
    · have e2 : ¬ toK j = toK k := fun z => e (toK_inj z)
      simp only [if_neg e, if_neg e2]
      exact .cons o r0 (RepKs.repl r t)
theorem RepKs.any {K : PySem.W.Frag} {L : Addr → Prop} {H : Hp} (k : Ky) : ∀ {ks : List (Ky × D)} {vs : List (Key × V)}, RepKs K L H ks vs → (ks.any fun kv => decide (kv.1 = k)) = (vs.any fun kv => decide (kv.1 = toK k))
  | _, _, .nil => rfl
  | _, _, .cons (k := j) o r t => by
    rw [List.any_cons, List.any_cons, RepKs.any k t]
    have e : decide (j = k) = decide (toK j = toK k) := by
      by_cases e : j = k
      · subst e; simp
      · rw [decide_eq_false e, decide_eq_false (fun z => e (toK_inj z))]
    show (decide (j = k) || _) = (decide (toK j = toK k) || _)
    rw [e]
theorem RepKs.put {K : PySem.W.Frag} {L : Addr → Prop} {H : Hp} {k : Ky} {x : D} {w : V} (o : okK k) (r : Rep K L H x w) {ks : List (Ky × D)} {vs : List (Key × V)} (t : RepKs K L H ks vs) : RepKs K L H (putA ks k x) (putK vs (toK k) w) := by
  unfold putA putK
  rw [RepKs.any k t]
  split
  · exact t.repl r
  · exact t.app (.cons o r .nil)
theorem putA_len {ks : List (Ky × D)} {k : Ky} {x : D} : (putA ks k x).length ≤ ks.length + 1 := by
  unfold putA
  split <;> simp
theorem RepKs.fold {K : PySem.W.Frag} {L : Addr → Prop} {H : Hp} : ∀ {ms : List (Ky × D)} {ns : List (Key × V)} {ks : List (Ky × D)} {vs : List (Key × V)}, RepKs K L H ms ns → RepKs K L H ks vs → RepKs K L H (ms.foldl (fun a q => putA a q.1 q.2) ks) (mergeK vs ns)
  | _, _, _, _, .nil, t => t
  | _, _, _, _, .cons o r ms, t => by
    have q := RepKs.fold ms (t.put o r)
    exact q
theorem fold_len : ∀ {ms ks : List (Ky × D)}, (ms.foldl (fun a q => putA a q.1 q.2) ks).length ≤ ks.length + ms.length
  | [], ks => by simp
  | m :: ms, ks => by
    have h1 := fold_len (ms := ms) (ks := putA ks m.1 m.2)
    have h2 := putA_len (ks := ks) (k := m.1) (x := m.2)
    rw [List.foldl_cons, List.length_cons]
    omega
theorem RepKs.keys {K : PySem.W.Frag} {L : Addr → Prop} {H : Hp} : ∀ {ks : List (Ky × D)} {vs : List (Key × V)}, RepKs K L H ks vs → Reps K L H (ks.map fun p => kyD p.1) (vs.map fun kv => kV kv.1)
  | _, _, .nil => .nil
  | _, _, .cons (k := j) o r t => by
    rw [List.map_cons, List.map_cons]
    refine .cons ?_ (RepKs.keys t)
    cases j with
    | i k => exact .int k
    | s x => exact .str o
def CellOk (K : PySem.W.Frag) (L : Addr → Prop) (H : Hp) (a : Addr) : Cell → Prop
  | .lst ds => ∃ vs, H a = some (.lst vs) ∧ ds.length ≤ lim ∧ Reps K L H ds vs
  | .fzn ds => Rep K L H (.lst ds) (.ref a)
  | .dic kvs => ∃ vs : List (Key × V), H a = some (.dK vs) ∧ kvs.length ≤ lim ∧ RepKs K L H kvs vs
structure GOk (c : Glb) (g : G) : Prop where
  len : g.ρ.length = g.S.length
  nd : g.ρ.Nodup
  apart : ∀ a ∈ g.hid, a ∉ g.ρ
  hid : ∀ a ∈ g.hid, (∃ xs, g.H a = some (.lst xs)) ∨ ∃ kvs, g.H a = some (.dK kvs)
  cell : ∀ (n : Nat) (a : Addr) (x : Cell), g.ρ[n]? = some a → (g.S : List Cell)[n]? = some x → CellOk c.K (live g) g.H a x
  tabs : LamX.Tabs c.tabs g.H
structure Le (g g' : G) : Prop where
  pre : g.ρ <+: g'.ρ
  hid : g'.hid = g.hid
  hidk : ∀ a ∈ g.hid, g'.H a = g.H a
  keep : ∀ a o, g.H a = some o → ¬ live g a → (∀ ps, o ≠ .tbl ps) → g'.H a = some o ∧ ¬ live g' a
  grow : ∀ a, g.H a ≠ none → g'.H a ≠ none
theorem Le.refl (g : G) : Le g g := ⟨List.prefix_refl _, rfl, fun _ _ => rfl, fun _ _ h n _ => ⟨h, n⟩, fun _ h => h⟩
theorem Le.trans {g1 g2 g3 : G} (a : Le g1 g2) (b : Le g2 g3) : Le g1 g3 :=
  ⟨a.pre.trans b.pre, b.hid.trans a.hid, fun x h => (b.hidk x (by rw [a.hid]; exact h)).trans (a.hidk x h), fun x o h n t => let ⟨h1, h2⟩ := a.keep x o h n t; b.keep x o h1 h2 t, fun x h => b.grow x (a.grow x h)⟩
section
variable {c : Glb} {g g' : G}
theorem GOk.lv (h : GOk c g) : ∀ a, live g a → (∃ xs, g.H a = some (.lst xs)) ∨ (∃ kvs, g.H a = some (.dK kvs)) ∨ ∃ kvs, g.H a = some (.dT kvs) := by
  rintro a (ha | ⟨n, x, h1, h2, h3⟩)
  · rcases h.hid a ha with q | q
    · exact .inl q
    · exact .inr (.inl q)
  · have q := h.cell n a x h1 h2
    cases x with
    | lst ds => obtain ⟨vs, e, _⟩ := q; exact .inl ⟨vs, e⟩
    | fzn ds => cases h3
    | dic kvs => obtain ⟨vs, e, _⟩ := q; exact .inr (.inl ⟨vs, e⟩)
/-- what is hidden is there -/
theorem GOk.hidn (h : GOk c g) {a : Addr} (ha : a ∈ g.hid) : g.H a ≠ none := by
  rcases h.hid a ha with ⟨_, q⟩ | ⟨_, q⟩ <;> rw [q] <;> simp
theorem upd_nn {p a : Addr} {o : HO} (n : g.H p = none) (ha : g.H a ≠ none) : upd g.H p o a = g.H a := upd_ne fun z => ha (z ▸ n)
theorem hid_same {H' : Hp} {a : Addr} (q : (∃ xs, g.H a = some (.lst xs)) ∨ ∃ kvs, g.H a = some (.dK kvs)) (e : H' a = g.H a) : (∃ xs, H' a = some (.lst xs)) ∨ ∃ kvs, H' a = some (.dK kvs) := by
  rw [e]; exact q
theorem Le.mo (h : GOk c g) (l : Le g g') : Mo (live g) g.H (live g') g'.H := ⟨l.keep, h.lv⟩
theorem Rep.le {d : D} {v : V} (r : Rep c.K (live g) g.H d v) (h : GOk c g) (l : Le g g') : Rep c.K (live g') g'.H d v := Rep.mo (l.mo h) d v r
theorem Reps.le {ds : List D} {vs : List V} (r : Reps c.K (live g) g.H ds vs) (h : GOk c g) (l : Le g g') : Reps c.K (live g') g'.H ds vs := Reps.mo (l.mo h) ds vs r
/-- a new object is laid -/
theorem live_laid {p : Addr} {o : HO} : live { g with H := upd g.H p o } = live g := rfl
theorem GOk.nolive (h : GOk c g) {p : Addr} (n : g.H p = none) : ¬ live g p := fun z => by
  rcases h.lv p z with ⟨_, e⟩ | ⟨_, e⟩ | ⟨_, e⟩ <;> rw [n] at e <;> cases e
theorem mo_laid (h : GOk c g) {p : Addr} {o : HO} (n : g.H p = none) : Mo (live g) g.H (live g) (upd g.H p o) :=
  ⟨fun a u e nl _ => ⟨by rw [upd_ne (ne_of_none e n)]; exact e, nl⟩, h.lv⟩
theorem le_laid (h : GOk c g) {p : Addr} {o : HO} (n : g.H p = none) : Le g { g with H := upd g.H p o } :=
  ⟨List.prefix_refl _, rfl, fun a ha => upd_nn n (h.hidn ha), fun a u e nl _ => ⟨by show upd g.H p o a = _; rw [upd_ne (ne_of_none e n)]; exact e, nl⟩, fun a ha => by
    show upd g.H p o a ≠ none
    by_cases e : a = p
    · subst e; exact absurd n ha
    · rw [upd_ne e]; exact ha⟩
theorem CellOk.mo {K : PySem.W.Frag} {L L' : Addr → Prop} {H H' : Hp} {a : Addr} {x : Cell} (m : Mo L H L' H') (hk : x.isLive = true → H' a = H a) (q : CellOk K L H a x) : CellOk K L' H' a x := by
  cases x with
  | lst ds => obtain ⟨vs, e, hl, r⟩ := q; exact ⟨vs, by rw [hk rfl]; exact e, hl, Reps.mo m ds vs r⟩
  | fzn ds => exact Rep.mo m _ _ q
  | dic kvs => obtain ⟨vs, e, hl, r⟩ := q; exact ⟨vs, by rw [hk rfl]; exact e, hl, r.mo m⟩
theorem gok_laid (h : GOk c g) {p : Addr} {o : HO} (n : g.H p = none) : GOk c { g with H := upd g.H p o } := by
  refine ⟨h.len, h.nd, h.apart, fun a ha => ?_, fun m a x h1 h2 => ?_, h.tabs.ext fun b u e => by show upd g.H p o b = _; rw [upd_ne (ne_of_none e n)]; exact e⟩
  · exact hid_same (h.hid a ha) (upd_nn n (h.hidn ha))
  · refine CellOk.mo (mo_laid h n) (fun z => ?_) (h.cell m a x h1 h2)
    rcases h.lv a (.inr ⟨m, x, h1, h2, z⟩) with ⟨_, e⟩ | ⟨_, e⟩ | ⟨_, e⟩ <;> exact upd_ne (ne_of_none e n)
/-- a new cell -/
theorem live_more {p : Addr} {x : Cell} {o : HO} (h : GOk c g) (a : Addr) : live ⟨g.hid, g.ρ ++ [p], g.S ++ [x], upd g.H p o⟩ a ↔ live g a ∨ (a = p ∧ x.isLive = true) := by
  have hl := h.len
  constructor
  · rintro (ha | ⟨n, y, h1, h2, h3⟩)
    · exact .inl (.inl ha)
    · by_cases hn : n < g.ρ.length
      · rw [List.getElem?_append_left hn] at h1
        rw [List.getElem?_append_left (by rw [← hl]; exact hn)] at h2
        exact .inl (.inr ⟨n, y, h1, h2, h3⟩)
      · rw [List.getElem?_append_right (by omega)] at h1
        rw [List.getElem?_append_right (by omega)] at h2
        have e : n - g.ρ.length = 0 := by
          by_cases e : n - g.ρ.length = 0
          · exact e
          · rw [List.getElem?_eq_none_iff.mpr (by simp; omega)] at h1; cases h1
        rw [e] at h1
        rw [← hl, e] at h2
        simp at h1 h2
        subst h1; subst h2
        exact .inr ⟨rfl, h3⟩
  · rintro ((ha | ⟨n, y, h1, h2, h3⟩) | ⟨rfl, h3⟩)
    · exact .inl ha
    · refine .inr ⟨n, y, ?_, ?_, h3⟩
      · show (g.ρ ++ [p])[n]? = _
        rw [List.getElem?_append_left (List.getElem?_eq_some_iff.mp h1).1]; exact h1
      · show (g.S ++ [x])[n]? = _
        rw [List.getElem?_append_left (List.getElem?_eq_some_iff.mp h2).1]; exact h2
    · exact .inr ⟨g.ρ.length, x, by simp, by rw [hl]; simp, h3⟩

theorem mo_more (h : GOk c g) {p : Addr} {x : Cell} {o : HO} (n : g.H p = none) : Mo (live g) g.H (live ⟨g.hid, g.ρ ++ [p], g.S ++ [x], upd g.H p o⟩) (upd g.H p o) :=
  ⟨fun a u e nl _ => ⟨by rw [upd_ne (ne_of_none e n)]; exact e, fun z => by
    rcases (live_more h a).mp z with z | ⟨z, _⟩
    · exact nl z
    · exact ne_of_none e n z⟩, h.lv⟩
theorem le_more (h : GOk c g) {p : Addr} {x : Cell} {o : HO} (n : g.H p = none) : Le g ⟨g.hid, g.ρ ++ [p], g.S ++ [x], upd g.H p o⟩ :=
  ⟨List.prefix_append _ _, rfl, fun a ha => upd_nn n (h.hidn ha), fun a u e nl t => (mo_more h n).keep a u e nl t, fun a ha => by
    show upd g.H p o a ≠ none
    by_cases e : a = p
    · subst e; exact absurd n ha
    · rw [upd_ne e]; exact ha⟩
/-- every tracked address of the store -/
theorem GOk.there (h : GOk c g) {n : Nat} {a : Addr} (e : g.ρ[n]? = some a) : g.H a ≠ none := by
  have hn : n < g.S.length := by rw [← h.len]; exact (List.getElem?_eq_some_iff.mp e).1
  have q := h.cell n a g.S[n] e (List.getElem?_eq_getElem hn)
  cases hx : g.S[n] with
  | lst ds => rw [hx] at q; obtain ⟨vs, e, _⟩ := q; rw [e]; simp
  | fzn ds =>
    rw [hx] at q
    cases q with
    | lst ha _ _ _ => rw [ha]; simp
  | dic kvs => rw [hx] at q; obtain ⟨vs, e, _⟩ := q; rw [e]; simp
theorem gok_moreC (h : GOk c g) {p : Addr} {y : Cell} {o : HO} (n : g.H p = none) (hy : Mo (live g) g.H (live ⟨g.hid, g.ρ ++ [p], g.S ++ [y], upd g.H p o⟩) (upd g.H p o) → CellOk c.K (live ⟨g.hid, g.ρ ++ [p], g.S ++ [y], upd g.H p o⟩) (upd g.H p o) p y) : GOk c ⟨g.hid, g.ρ ++ [p], g.S ++ [y], upd g.H p o⟩ := by
  have nin : p ∉ g.ρ := fun z => by
    obtain ⟨i, e⟩ := List.mem_iff_getElem?.mp z
    exact h.there e n
  refine ⟨by simp [h.len], ?_, fun a ha hm => ?_, fun a ha => ?_, fun m a x h1 h2 => ?_, h.tabs.ext fun b u e => by show upd g.H p _ b = _; rw [upd_ne (ne_of_none e n)]; exact e⟩
  · refine List.nodup_append.mpr ⟨h.nd, by simp, fun a ha b hb e => ?_⟩
    have e2 : b = p := by simpa using hb
    rw [← e2, ← e] at nin
    exact nin ha
  · rcases List.mem_append.mp hm with z | z
    · exact h.apart a ha z
    · have e2 : a = p := by simpa using z
      exact h.hidn ha (e2 ▸ n)
  · exact hid_same (h.hid a ha) (upd_nn n (h.hidn ha))
  · have hl' := h.len
    have m' := mo_more (x := y) (o := o) h n
    have h1 : (g.ρ ++ [p])[m]? = some a := h1
    have h2 : (g.S ++ [y])[m]? = some x := h2
    by_cases hm : m < g.ρ.length
    · rw [List.getElem?_append_left hm] at h1
      rw [List.getElem?_append_left (by rw [← hl']; exact hm)] at h2
      refine CellOk.mo m' (fun z => ?_) (h.cell m a x h1 h2)
      exact upd_ne (fun z2 => h.there (n := m) (a := p) (z2 ▸ h1) n)
    · rw [List.getElem?_append_right (by omega)] at h1
      rw [List.getElem?_append_right (by omega)] at h2
      have e : m - g.ρ.length = 0 := by
        by_cases e : m - g.ρ.length = 0
        · exact e
        · rw [List.getElem?_eq_none_iff.mpr (by simp; omega)] at h1; cases h1
      rw [e] at h1
      rw [← hl', e] at h2
      simp at h1 h2
      subst h1; subst h2
      exact hy m'
theorem gok_more (h : GOk c g) {p : Addr} {ds : List D} {vs : List V} (n : g.H p = none) (hl : ds.length ≤ lim) (r : Reps c.K (live g) g.H ds vs) : GOk c ⟨g.hid, g.ρ ++ [p], g.S ++ [.lst ds], upd g.H p (.lst vs)⟩ :=
  gok_moreC h n fun m => ⟨vs, upd_same, hl, Reps.mo m _ _ r⟩
theorem gok_moreD (h : GOk c g) {p : Addr} {ks : List (Ky × D)} {vs : List (Key × V)} (n : g.H p = none) (hl : ks.length ≤ lim) (r : RepKs c.K (live g) g.H ks vs) : GOk c ⟨g.hid, g.ρ ++ [p], g.S ++ [.dic ks], upd g.H p (.dK vs)⟩ :=
  gok_moreC h n fun m => ⟨vs, upd_same, hl, r.mo m⟩
/-- the same address, the same place -/
theorem GOk.inj (h : GOk c g) {m n : Nat} {a : Addr} (e1 : g.ρ[m]? = some a) (e2 : g.ρ[n]? = some a) : m = n := by
  obtain ⟨h1, q1⟩ := List.getElem?_eq_some_iff.mp e1
  obtain ⟨h2, q2⟩ := List.getElem?_eq_some_iff.mp e2
  exact (List.getElem_inj h.nd).mp (q1.trans q2.symm)
theorem live_set (h : GOk c g) {n : Nat} {a : Addr} {y x : Cell} {o : HO} (e1 : g.ρ[n]? = some a) (e2 : (g.S : List Cell)[n]? = some y) (b : Addr) :
    live ⟨g.hid, g.ρ, g.S.set n x, upd g.H a o⟩ b ↔ (b ≠ a ∧ live g b) ∨ (b = a ∧ x.isLive = true) := by
  have hn : n < g.S.length := (List.getElem?_eq_some_iff.mp e2).1
  constructor
  · rintro (hb | ⟨m, z, h1, h2, h3⟩)
    · refine .inl ⟨fun e => ?_, .inl hb⟩
      subst e
      exact h.apart _ hb (List.mem_of_getElem? e1)
    · have h2 : (g.S.set n x)[m]? = some z := h2
      by_cases hm : m = n
      · subst hm
        have h1 : g.ρ[m]? = some b := h1
        rw [e1] at h1; cases h1
        rw [List.getElem?_set_self hn] at h2; cases h2
        exact .inr ⟨rfl, h3⟩
      · rw [List.getElem?_set_ne (Ne.symm hm)] at h2
        exact .inl ⟨fun e => hm (h.inj (e ▸ h1) e1), .inr ⟨m, z, h1, h2, h3⟩⟩
  · rintro (⟨hb, hb2 | ⟨m, z, h1, h2, h3⟩⟩ | ⟨rfl, h3⟩)
    · exact .inl hb2
    · have hm : m ≠ n := fun e => by subst e; rw [e1] at h1; cases h1; exact hb rfl
      exact .inr ⟨m, z, h1, by show (g.S.set n x)[m]? = _; rw [List.getElem?_set_ne (Ne.symm hm)]; exact h2, h3⟩
    · exact .inr ⟨n, x, e1, by show (g.S.set n x)[n]? = _; rw [List.getElem?_set_self hn], h3⟩
theorem mo_set (h : GOk c g) {n : Nat} {a : Addr} {y x : Cell} {o : HO} (e1 : g.ρ[n]? = some a) (e2 : (g.S : List Cell)[n]? = some y) (hy : y.isLive = true) :
    Mo (live g) g.H (live ⟨g.hid, g.ρ, g.S.set n x, upd g.H a o⟩) (upd g.H a o) := by
  have la : live g a := .inr ⟨n, y, e1, e2, hy⟩
  refine ⟨fun b u e nl _ => ?_, h.lv⟩
  have hb : b ≠ a := fun z => nl (z ▸ la)
  refine ⟨by rw [upd_ne hb]; exact e, fun z => ?_⟩
  rcases (live_set h e1 e2 b).mp z with ⟨_, z⟩ | ⟨z, _⟩
  · exact nl z
  · exact hb z
theorem le_set (h : GOk c g) {n : Nat} {a : Addr} {y x : Cell} {o : HO} (e1 : g.ρ[n]? = some a) (e2 : (g.S : List Cell)[n]? = some y) (hy : y.isLive = true) : Le g ⟨g.hid, g.ρ, g.S.set n x, upd g.H a o⟩ :=
  ⟨List.prefix_refl _, rfl, fun b hb => upd_ne (fun z => h.apart b hb (by subst z; exact List.mem_of_getElem? e1)), (mo_set h e1 e2 hy).keep, fun b hb => by
    show upd g.H a o b ≠ none
    by_cases e : b = a
    · subst e; rw [upd_same]; simp
    · rw [upd_ne e]; exact hb⟩
/-- a live cell is written -/
theorem gok_setC (h : GOk c g) {n : Nat} {a : Addr} {y z : Cell} {o : HO} (e1 : g.ρ[n]? = some a) (e2 : (g.S : List Cell)[n]? = some y) (hy : y.isLive = true) (hz : Mo (live g) g.H (live ⟨g.hid, g.ρ, g.S.set n z, upd g.H a o⟩) (upd g.H a o) → CellOk c.K (live ⟨g.hid, g.ρ, g.S.set n z, upd g.H a o⟩) (upd g.H a o) a z) :
    GOk c ⟨g.hid, g.ρ, g.S.set n z, upd g.H a o⟩ := by
  have la : live g a := .inr ⟨n, y, e1, e2, hy⟩
  have hn : n < g.S.length := (List.getElem?_eq_some_iff.mp e2).1
  have m' := mo_set (x := z) (o := o) h e1 e2 hy
  have nt : ∀ b u, g.H b = some u → b ≠ a → upd g.H a o b = some u := fun b u e hb => by rw [upd_ne hb]; exact e
  refine ⟨by simp [h.len], h.nd, h.apart, fun b hb => ?_, fun m b x h1 h2 => ?_, fun p hp => ?_⟩
  · exact hid_same (h.hid b hb) (upd_ne (fun z => h.apart b hb (by subst z; exact List.mem_of_getElem? e1)))
  · have h2 : (g.S.set n z)[m]? = some x := h2
    by_cases hm : m = n
    · subst hm
      have h1 : g.ρ[m]? = some b := h1
      rw [e1] at h1; cases h1
      rw [List.getElem?_set_self hn] at h2; cases h2
      exact hz m'
    · rw [List.getElem?_set_ne (Ne.symm hm)] at h2
      refine CellOk.mo m' (fun _ => ?_) (h.cell m b x h1 h2)
      exact upd_ne (fun z => hm (h.inj (z ▸ h1) e1))
  · obtain ⟨ps, q1, q2, q3⟩ := h.tabs p hp
    have ne : ∀ b u, g.H b = some u → (∀ xs, u ≠ .lst xs) → (∀ k, u ≠ .dK k) → (∀ k, u ≠ .dT k) → b ≠ a := fun b u e n1 n2 n3 z => by
      subst z
      rcases h.lv _ la with ⟨z, q⟩ | ⟨z, q⟩ | ⟨z, q⟩ <;> rw [e] at q <;> cases q
      · exact n1 _ rfl
      · exact n2 _ rfl
      · exact n3 _ rfl
    refine ⟨ps, nt _ _ q1 (ne _ _ q1 (fun _ z => by cases z) (fun _ z => by cases z) (fun _ z => by cases z)), q2, fun pos cv hc => ?_⟩
    obtain ⟨c0, z1, z2⟩ := q3 pos cv hc
    exact ⟨c0, z1, nt _ _ z2 (ne _ _ z2 (fun _ z => by unfold LamX.CodeO at z; cases z) (fun _ z => by unfold LamX.CodeO at z; cases z) (fun _ z => by unfold LamX.CodeO at z; cases z))⟩
theorem gok_set (h : GOk c g) {n : Nat} {a : Addr} {y : Cell} {ds : List D} {vs : List V} (e1 : g.ρ[n]? = some a) (e2 : (g.S : List Cell)[n]? = some y) (hy : y.isLive = true) (hl : ds.length ≤ lim) (r : Reps c.K (live g) g.H ds vs) :
    GOk c ⟨g.hid, g.ρ, g.S.set n (.lst ds), upd g.H a (.lst vs)⟩ := gok_setC h e1 e2 hy fun m => ⟨vs, upd_same, hl, Reps.mo m _ _ r⟩
theorem gok_setD (h : GOk c g) {n : Nat} {a : Addr} {y : Cell} {ks : List (Ky × D)} {vs : List (Key × V)} (e1 : g.ρ[n]? = some a) (e2 : (g.S : List Cell)[n]? = some y) (hy : y.isLive = true) (hl : ks.length ≤ lim) (r : RepKs c.K (live g) g.H ks vs) :
    GOk c ⟨g.hid, g.ρ, g.S.set n (.dic ks), upd g.H a (.dK vs)⟩ := gok_setC h e1 e2 hy fun m => ⟨vs, upd_same, hl, r.mo m⟩
/-- a live list is frozen -/
theorem live_fzn (h : GOk c g) {n : Nat} {a : Addr} {ds : List D} (e1 : g.ρ[n]? = some a) (e2 : (g.S : List Cell)[n]? = some (.lst ds)) (b : Addr) :
    live ⟨g.hid, g.ρ, g.S.set n (.fzn ds), g.H⟩ b ↔ (b ≠ a ∧ live g b) := by
  have e : live ⟨g.hid, g.ρ, g.S.set n (.fzn ds), g.H⟩ b ↔ live ⟨g.hid, g.ρ, g.S.set n (.fzn ds), upd g.H a (.lst [])⟩ b := Iff.rfl
  rw [e, live_set h e1 e2 b]
  constructor
  · rintro (z | ⟨_, z⟩)
    · exact z
    · cases z
  · exact .inl
theorem le_fzn (h : GOk c g) {n : Nat} {a : Addr} {ds : List D} (e1 : g.ρ[n]? = some a) (e2 : (g.S : List Cell)[n]? = some (.lst ds)) : Le g ⟨g.hid, g.ρ, g.S.set n (.fzn ds), g.H⟩ :=
  ⟨List.prefix_refl _, rfl, fun _ _ => rfl, fun b u e nl _ => ⟨e, fun z => nl ((live_fzn h e1 e2 b).mp z).2⟩, fun _ hb => hb⟩
theorem gok_fzn (h : GOk c g) {n : Nat} {a : Addr} {ds : List D} (e1 : g.ρ[n]? = some a) (e2 : (g.S : List Cell)[n]? = some (.lst ds)) :
    GOk c ⟨g.hid, g.ρ, g.S.set n (.fzn ds), g.H⟩ ∧ Rep c.K (live ⟨g.hid, g.ρ, g.S.set n (.fzn ds), g.H⟩) g.H (.lst ds) (.ref a) := by
  have hn : n < g.S.length := (List.getElem?_eq_some_iff.mp e2).1
  have m' : Mo (live g) g.H (live ⟨g.hid, g.ρ, g.S.set n (.fzn ds), g.H⟩) g.H := ⟨(le_fzn h e1 e2).keep, h.lv⟩
  obtain ⟨vs, q1, hl, q2⟩ := h.cell n a _ e1 e2
  have r : Rep c.K (live ⟨g.hid, g.ρ, g.S.set n (.fzn ds), g.H⟩) g.H (.lst ds) (.ref a) := .lst q1 (fun z => ((live_fzn h e1 e2 a).mp z).1 rfl) hl (Reps.mo m' _ _ q2)
  refine ⟨⟨by simp [h.len], h.nd, h.apart, h.hid, fun m b x h1 h2 => ?_, h.tabs⟩, r⟩
  have h2 : (g.S.set n (.fzn ds))[m]? = some x := h2
  by_cases hm : m = n
  · subst hm
    have h1 : g.ρ[m]? = some b := h1
    rw [e1] at h1; cases h1
    rw [List.getElem?_set_self hn] at h2; cases h2
    exact r
  · rw [List.getElem?_set_ne (Ne.symm hm)] at h2
    exact CellOk.mo m' (fun _ => rfl) (h.cell m b x h1 h2)
/-- what came behind is forgotten -/
theorem live_cut {k : Nat} {b : Addr} (z : live ⟨g.hid, g.ρ.take k, g.S.take k, g.H⟩ b) : live g b := by
  rcases z with z | ⟨m, x, h1, h2, h3⟩
  · exact .inl z
  · refine .inr ⟨m, x, ?_, ?_, h3⟩
    · have h1 : (g.ρ.take k)[m]? = some b := h1
      rw [List.getElem?_take] at h1
      split at h1
      · exact h1
      · cases h1
    · have h2 : (g.S.take k)[m]? = some x := h2
      rw [List.getElem?_take] at h2
      split at h2
      · exact h2
      · cases h2
theorem mo_cut (h : GOk c g) (k : Nat) : Mo (live g) g.H (live ⟨g.hid, g.ρ.take k, g.S.take k, g.H⟩) g.H := ⟨fun b u e nl _ => ⟨e, fun z => nl (live_cut z)⟩, h.lv⟩
theorem gok_cut (h : GOk c g) (k : Nat) : GOk c ⟨g.hid, g.ρ.take k, g.S.take k, g.H⟩ := by
  refine ⟨by simp [h.len], h.nd.sublist (List.take_sublist _ _), fun a ha hm => h.apart a ha (List.mem_of_mem_take hm), h.hid, fun m b x h1 h2 => ?_, h.tabs⟩
  have h1 : (g.ρ.take k)[m]? = some b := h1
  have h2 : (g.S.take k)[m]? = some x := h2
  rw [List.getElem?_take] at h1 h2
  split at h1
  · rename_i hm
    rw [if_pos hm] at h2
    exact CellOk.mo (mo_cut h k) (fun _ => rfl) (h.cell m b x h1 h2)
  · cases h1
/-- an address that is hidden for a while -/
theorem live_hide (p : Addr) (b : Addr) : live { g with hid := p :: g.hid } b ↔ b = p ∨ live g b := by
  constructor
  · rintro (z | z)
    · rcases List.mem_cons.mp z with z | z
      · exact .inl z
      · exact .inr (.inl z)
    · exact .inr (.inr z)
  · rintro (rfl | z | z)
    · exact .inl List.mem_cons_self
    · exact .inl (List.mem_cons_of_mem _ z)
    · exact .inr z
end
/-! ### objects known exactly -/
/-- the object at a is o -/
def exO (a : Addr) (o : Obj) : HO := .ext fun h => h.get? a = some o
theorem exO_ok {P : Program} {w : World} {H : Hp} {h : PySem.Heap} {a : Addr} {o : Obj} (e : h.get? a = some o) : ObjOk P w H h a (exO a o) := ⟨e, ⟨o, e⟩, fun h1 h2 e1 k => k o e1⟩
def addX (H : Hp) (ts : List (Addr × Obj)) : Hp := fun a => match ts.lookup a with
  | some o => some (exO a o)
  | none => H a
def subX (H : Hp) (ts : List (Addr × Obj)) : Hp := fun a => match ts.lookup a with
  | some _ => none
  | none => H a
theorem addX_in {H : Hp} {ts : List (Addr × Obj)} {a : Addr} {o : Obj} (h : ts.lookup a = some o) : addX H ts a = some (exO a o) := by unfold addX; rw [h]
theorem addX_out {H : Hp} {ts : List (Addr × Obj)} {a : Addr} (h : ts.lookup a = none) : addX H ts a = H a := by unfold addX; rw [h]
theorem subX_in {H : Hp} {ts : List (Addr × Obj)} {a : Addr} {o : Obj} (h : ts.lookup a = some o) : subX H ts a = none := by unfold subX; rw [h]
theorem subX_out {H : Hp} {ts : List (Addr × Obj)} {a : Addr} (h : ts.lookup a = none) : subX H ts a = H a := by unfold subX; rw [h]
theorem opt_cases {α : Type} (o : Option α) : o = none ∨ ∃ x, o = some x := by cases o <;> simp
/-! ### values and names -/
/-- as Le, but more may be hidden -/
structure Lw (g g' : G) : Prop where
  pre : g.ρ <+: g'.ρ
  keep : ∀ a o, g.H a = some o → ¬ live g a → (∀ ps, o ≠ .tbl ps) → g'.H a = some o ∧ ¬ live g' a
theorem Le.lw {g g' : G} (l : Le g g') : Lw g g' := ⟨l.pre, l.keep⟩
theorem Lw.refl (g : G) : Lw g g := (Le.refl g).lw
theorem Lw.mo {c : Glb} {g g' : G} (h : GOk c g) (l : Lw g g') : Mo (live g) g.H (live g') g'.H := ⟨l.keep, h.lv⟩
theorem Rep.lw {c : Glb} {g g' : G} {d : D} {v : V} (r : Rep c.K (live g) g.H d v) (h : GOk c g) (l : Lw g g') : Rep c.K (live g') g'.H d v := Rep.mo (l.mo h) d v r
theorem Reps.lw {c : Glb} {g g' : G} {ds : List D} {vs : List V} (r : Reps c.K (live g) g.H ds vs) (h : GOk c g) (l : Lw g g') : Reps c.K (live g') g'.H ds vs := Reps.mo (l.mo h) ds vs r
/-- a list that nothing writes: it may be the script -/
def SqS (c : Glb) (g : G) (a : Addr) (vs : List V) : Prop := (Rd g.H a (.lst vs) ∧ ¬ live g a) ∨ SqL c.K (fun _ => none) a vs
theorem SqS.sq {c : Glb} {g : G} {a : Addr} {vs : List V} (h : SqS c g a vs) : SqL c.K g.H a vs := by
  rcases h with h | (h | ⟨o, h⟩) | h
  · exact .inl h.1
  · cases h
  · cases h
  · exact .inr h
theorem SqS.lw {c : Glb} {g g' : G} {a : Addr} {vs : List V} (h : SqS c g a vs) (l : Lw g g') : SqS c g' a vs := by
  rcases h with ⟨h | ⟨o, h⟩, n⟩ | h
  · obtain ⟨h1, h2⟩ := l.keep _ _ h n (fun ps z => by cases z)
    exact .inl ⟨.inl h1, h2⟩
  · obtain ⟨h1, h2⟩ := l.keep _ _ h n (fun ps z => by cases z)
    exact .inl ⟨.inr ⟨o, h1⟩, h2⟩
  · exact .inr h
/-- a captured value: no closure, no error -/
inductive RepB (c : Glb) (g : G) : Vl → V → Prop
  | d {x : D} {w : V} : Rep c.K (live g) g.H x w → RepB c g (.d x) w
  | ref {n : Nat} {a : Addr} : g.ρ[n]? = some a → RepB c g (.ref n) (.ref a)
  | fnv {f : Nat} {a : Addr} : c.fa f = some a → RepB c g (.fnv f) (.ref a)
inductive RepBs (c : Glb) (g : G) : List Vl → List V → Prop
  | nil : RepBs c g [] []
  | cons {v : Vl} {w : V} {vs : List Vl} {ws : List V} : RepB c g v w → RepBs c g vs ws → RepBs c g (v :: vs) (w :: ws)
/-- a closure as it lies: its function object, its code object, its cells -/
structure CloAt (c : Glb) (g : G) (fl : Nat) (f c' : Addr) (qual : Str) (I : LamI) (cells : List (Str × Addr)) (pm ctv : Value) (ts : List (Addr × Obj)) (us : List Value) (ws : List V) : Prop where
  lam : c.lam fl I
  fo : ∃ dV doc, g.H f = some (exO f (PySem.W.kdv_obj "<lambda>" qual I.params (.expr I.body) I.scope cells dV doc pm c' ctv)) ∧ ((I.dfl = 0 ∧ dV = .none) ∨ (I.dfl ≠ 0 ∧ ∃ (t : Addr) (o : Obj) (its : List Value) (n : Nat), dV = .ref t ∧ g.H t = some (exO t o) ∧ o.data = .seq its.toArray n ∧ its.length = I.dfl))
  co : g.H c' = some (LamX.CodeO c' qual)
  tk : ∀ a o, ts.lookup a = some o → g.H a = some (exO a o)
  cap : ∀ (i : Nat) (y : Str), I.caps[i]? = some y → ∃ (a : Addr) (o : Obj) (u : Value), cells.lookup y = some a ∧ ts.lookup a = some o ∧ o.data = .cell (some u) ∧ us[i]? = some u
  cel : ∀ (y : Str) (a : Addr), cells.lookup y = some a → ∃ (o : Obj) (v : Option Value), ts.lookup a = some o ∧ o.data = .cell v
  inj : ∀ x y a, cells.lookup x = some a → cells.lookup y = some a → x = y
  rv : Vals ws us
  tc : ∀ a o, ts.lookup a = some o → ∃ v, o.data = .cell v
  ln : ws.length = I.caps.length
inductive RepV (c : Glb) (g : G) : Vl → V → Prop
  | d {x : D} {w : V} : Rep c.K (live g) g.H x w → RepV c g (.d x) w
  | ref {n : Nat} {a : Addr} : g.ρ[n]? = some a → RepV c g (.ref n) (.ref a)
  | fnv {f : Nat} {a : Addr} : c.fa f = some a → RepV c g (.fnv f) (.ref a)
  | exn {a : Addr} {k : Nat} {xs : List D} : c.ex = some (a, k) → RepV c g (.exn k xs) (.ref a)
  | clo {fl : Nat} {cs : List Vl} {f c' : Addr} {qual : Str} {I : LamI} {cells : List (Str × Addr)} {pm ctv : Value} {ts : List (Addr × Obj)} {us : List Value} {ws : List V} : CloAt c g fl f c' qual I cells pm ctv ts us ws → RepBs c g cs ws → RepV c g (.clo fl cs) (.ref f)
  | scr {a : Addr} {ds : List D} {vs : List V} : SqS c g a vs → ds.length ≤ lim → Reps c.K (live g) g.H ds vs → RepV c g (.scr ds) (.ref a)
section
variable {c : Glb} {g g' : G}
theorem pre_get {α : Type} {l l' : List α} {n : Nat} {a : α} (p : l <+: l') (e : l[n]? = some a) : l'[n]? = some a := by
  obtain ⟨t, rfl⟩ := p
  rw [List.getElem?_append_left (List.getElem?_eq_some_iff.mp e).1]
  exact e
theorem ext_keep (h : GOk c g) (l : Lw g g') {a : Addr} {φ : PySem.Heap → Prop} (e : g.H a = some (.ext φ)) : g'.H a = some (.ext φ) :=
  (l.keep a _ e (fun z => by rcases h.lv a z with ⟨_, q⟩ | ⟨_, q⟩ | ⟨_, q⟩ <;> rw [e] at q <;> cases q) (fun ps z => by cases z)).1
theorem RepB.lw {v : Vl} {w : V} (r : RepB c g v w) (h : GOk c g) (l : Lw g g') : RepB c g' v w := by
  cases r with
  | d r => exact .d (r.lw h l)
  | ref e => exact .ref (pre_get l.pre e)
  | fnv e => exact .fnv e
theorem RepBs.lw : ∀ {vs : List Vl} {ws : List V}, RepBs c g vs ws → GOk c g → Lw g g' → RepBs c g' vs ws
  | _, _, .nil, _, _ => .nil
  | _, _, .cons r t, h, l => .cons (r.lw h l) (RepBs.lw t h l)
theorem CloAt.lw {fl : Nat} {f c' : Addr} {qual : Str} {I : LamI} {cells : List (Str × Addr)} {pm ctv : Value} {ts : List (Addr × Obj)} {us : List Value} {ws : List V} (k : CloAt c g fl f c' qual I cells pm ctv ts us ws) (h : GOk c g) (l : Lw g g') : CloAt c g' fl f c' qual I cells pm ctv ts us ws :=
  ⟨k.lam, (let ⟨dV, doc, q1, q2⟩ := k.fo; ⟨dV, doc, ext_keep h l q1, q2.imp id fun ⟨z, t, o, its, n, e1, e2, e3, e4⟩ => ⟨z, t, o, its, n, e1, ext_keep h l e2, e3, e4⟩⟩), ext_keep h l k.co, fun a o q => ext_keep h l (k.tk a o q), k.cap, k.cel, k.inj, k.rv, k.tc, k.ln⟩
theorem RepV.lw {v : Vl} {w : V} (r : RepV c g v w) (h : GOk c g) (l : Lw g g') : RepV c g' v w := by
  cases r with
  | d r => exact .d (r.lw h l)
  | ref e => exact .ref (pre_get l.pre e)
  | fnv e => exact .fnv e
  | exn e => exact .exn e
  | clo k r => exact .clo (k.lw h l) (r.lw h l)
  | scr e hl r => exact .scr (e.lw l) hl (r.lw h l)
theorem RepV.le {v : Vl} {w : V} (r : RepV c g v w) (h : GOk c g) (l : Le g g') : RepV c g' v w := r.lw h l.lw
structure LocOk (c : Glb) (g : G) (l : Loc) (σ : L2.St) : Prop where
  len : l.length = σ.length
  at_ : ∀ (i : Nat) (v : Vl), l[i]? = some (some v) → ∃ w, σ[i]? = some (some w) ∧ RepV c g v w
theorem LocOk.le {l : Loc} {σ : L2.St} (r : LocOk c g l σ) (h : GOk c g) (e : Le g g') : LocOk c g' l σ :=
  ⟨r.len, fun i v q => let ⟨w, h1, h2⟩ := r.at_ i v q; ⟨w, h1, h2.le h e⟩⟩
theorem LocOk.set {l : Loc} {σ : L2.St} (r : LocOk c g l σ) {v : Vl} {w : V} (q : RepV c g v w) (i : Nat) : LocOk c g (l.set i (some v)) (σ.set i (some w)) := by
  refine ⟨by simp [r.len], fun j u e => ?_⟩
  by_cases hj : i = j
  · subst hj
    have hi : i < l.length := by have := (List.getElem?_eq_some_iff.mp e).1; simpa using this
    rw [List.getElem?_set_self hi] at e
    cases e
    exact ⟨w, by rw [List.getElem?_set_self (by rw [← r.len]; exact hi)], q⟩
  · rw [List.getElem?_set_ne hj] at e
    obtain ⟨w', h1, h2⟩ := r.at_ j u e
    exact ⟨w', by rw [List.getElem?_set_ne hj]; exact h1, h2⟩
theorem LocOk.forget {l : Loc} {σ : L2.St} (r : LocOk c g l σ) (i : Nat) : LocOk c g (l.set i none) (σ.set i none) := by
  refine ⟨by simp [r.len], fun j u e => ?_⟩
  by_cases hj : i = j
  · subst hj
    have hi : i < l.length := by have := (List.getElem?_eq_some_iff.mp e).1; simpa using this
    rw [List.getElem?_set_self hi] at e
    cases e
  · rw [List.getElem?_set_ne hj] at e
    obtain ⟨w', h1, h2⟩ := r.at_ j u e
    exact ⟨w', by rw [List.getElem?_set_ne hj]; exact h1, h2⟩
end
end EV
end

section
set_option Elab.async false
set_option linter.all false
set_option maxRecDepth 100000
set_option maxHeartbeats 1000000
/-! EV3: what an expression's evaluation promises; the first constructs -/
namespace EV
open PySem PySem.Spec PyProof.Rows L2
/-- what an error carries: no own dict without arguments -/
def ExOk (c : Glb) (n : Nat) (xs : List D) (d : Option Addr) (H : Hp) : Prop := xs = [] ∧ d = none
/-- what is wanted of an outcome -/
def Out {α : Type} (c : Glb) (g : G) (W : WX) (σ : L2.St) (r : R α) (k : α → G → Prop) : Prop :=
  match r with
  | .ok a S' => ∀ ρ' H', GOk c ⟨g.hid, ρ', S', H'⟩ → Le g ⟨g.hid, ρ', S', H'⟩ → k a ⟨g.hid, ρ', S', H'⟩
  | .exc n xs S' => ∀ ρ' H' d, GOk c ⟨g.hid, ρ', S', H'⟩ → Le g ⟨g.hid, ρ', S', H'⟩ → ExOk c n xs d H' → ∃ cls, c.ca n = some cls ∧ W cls d σ H'
  | .stuck => False
section
variable {α β : Type} {c : Glb} {g g' : G} {W : WX} {σ : L2.St}
theorem Out.le {r : R α} {k : α → G → Prop} (h : Out c g W σ r k) (l : Le g g') : Out c g' W σ r k := by
  cases r with
  | ok a S' => intro ρ' H' ok le; rw [l.hid] at ok le ⊢; exact h ρ' H' ok (l.trans le)
  | exc n xs S' => intro ρ' H' d ok le ex; rw [l.hid] at ok le; exact h ρ' H' d ok (l.trans le) ex
  | stuck => exact h
theorem Out.bind {r : R α} {f : α → Sto → R β} {k : β → G → Prop} (h : Out c g W σ (r.bind f) k) : Out c g W σ r (fun a g1 => Le g g1 ∧ GOk c g1 ∧ Out c g1 W σ (f a g1.S) k) := by
  cases r with
  | ok a S' => intro ρ' H' ok le; exact ⟨le, ok, Out.le (g := g) h le⟩
  | exc n xs S' => exact h
  | stuck => exact h
theorem Out.opt {o : Option α} {f : α → R β} {k : β → G → Prop} (h : Out c g W σ (R.opt o f) k) : ∃ a, o = some a ∧ Out c g W σ (f a) k := by
  cases o with
  | none => exact h.elim
  | some a => exact ⟨a, rfl, h⟩
theorem Out.imp {r : R α} {k k' : α → G → Prop} (h : Out c g W σ r k) (i : ∀ a g', k a g' → k' a g') : Out c g W σ r k' := by
  cases r with
  | ok a S' => intro ρ' H' ok le; exact i _ _ (h ρ' H' ok le)
  | exc n xs S' => exact h
  | stuck => exact h
/-- the very state -/
theorem Out.here {a : α} {k : α → G → Prop} (h : Out c g W σ (.ok a g.S) k) (ok : GOk c g) : k a g := h g.ρ g.H ok (Le.refl g)
end
/-- an expression's evaluation at slots and heap -/
def tEv (c : Glb) (U : Env) (W : WX) (l : LE) : TE := fun σ H Q => ∃ (g : G) (loc : Loc), g.H = H ∧ GOk c g ∧ LocOk c g loc σ ∧ Out c g W σ (evE U l loc g.S) (fun v g' => ∀ w, RepV c g' v w → Q w g'.H)
/-- a new value: a list stands at a new place -/
def OutN (c : Glb) (g : G) (z : D) (Q : VK) : Prop :=
  match z with
  | .lst ds => ∀ p vs, g.H p = none → ds.length ≤ lim → Reps c.K (live g) g.H ds vs → Q (.ref p) (upd g.H p (.lst vs))
  | z => ∀ H' w, GOk c { g with H := H' } → Le g { g with H := H' } → Rep c.K (live g) H' z w → Q w H'
def tEvN (c : Glb) (U : Env) (W : WX) (l : LE) : TE := fun σ H Q => ∃ (g : G) (loc : Loc), g.H = H ∧ GOk c g ∧ LocOk c g loc σ ∧ Out c g W σ (evE U l loc g.S) (fun v g' => ∃ z, v = .d z ∧ OutN c g' z Q)
inductive RepVs (c : Glb) (g : G) : List Vl → List V → Prop
  | nil : RepVs c g [] []
  | cons {v : Vl} {w : V} {vs : List Vl} {ws : List V} : RepV c g v w → RepVs c g vs ws → RepVs c g (v :: vs) (w :: ws)
theorem RepVs.le {c : Glb} {g g' : G} : ∀ {vs : List Vl} {ws : List V}, RepVs c g vs ws → GOk c g → Le g g' → RepVs c g' vs ws
  | _, _, .nil, _, _ => .nil
  | _, _, .cons r t, h, l => .cons (r.le h l) (RepVs.le t h l)
theorem RepVs.length {c : Glb} {g : G} : ∀ {vs : List Vl} {ws : List V}, RepVs c g vs ws → vs.length = ws.length
  | _, _, .nil => rfl
  | _, _, .cons _ t => by simp [RepVs.length t]
def tEvs (c : Glb) (U : Env) (W : WX) (l : LEs) : TA := fun σ H Q => ∃ (g : G) (loc : Loc), g.H = H ∧ GOk c g ∧ LocOk c g loc σ ∧ Out c g W σ (evEs U l loc g.S) (fun vs g' => ∀ ws, RepVs c g' vs ws → Q ws g'.H)
def tTv (c : Glb) (U : Env) (W : WX) (l : LE) : TT := fun σ H Q => ∃ (g : G) (loc : Loc), g.H = H ∧ GOk c g ∧ LocOk c g loc σ ∧ Out c g W σ (evE U l loc g.S) (fun v g' => ∃ b, asBool v = some b ∧ Q b g'.H)
theorem PE.imp {X : Cx} {e : Expr} {t t' : TE} (h : PE X e t) (i : ∀ σ H Q, t' σ H Q → t σ H Q) : PE X e t' := ⟨fun pins s σ H Q I q => h.run pins s σ H Q I (i _ _ _ q)⟩
theorem PT.imp {X : Cx} {e : Expr} {t t' : TT} (h : PT X e t) (i : ∀ σ H Q, t' σ H Q → t σ H Q) : PT X e t' := ⟨fun pins s σ H Q I q => h.run pins s σ H Q I (i _ _ _ q)⟩
theorem PW.imp {X : Cx} {e : Expr} {t t' : TT} (h : PW X e t) (i : ∀ σ H Q, t' σ H Q → t σ H Q) : PW X e t' := ⟨fun wh pins s σ H Q I q => h.run wh pins s σ H Q I (i _ _ _ q)⟩
theorem PA.imp {X : Cx} {e : List Expr} {t t' : TA} (h : PA X e t) (i : ∀ σ H Q, t' σ H Q → t σ H Q) : PA X e t' := ⟨fun pos pins s σ H Q I q => h.run pos pins s σ H Q I (i _ _ _ q)⟩
theorem PS.imp {X : Cx} {e : Stmt} {t t' : TS} (h : PS X e t) (i : ∀ D σ H, t' D σ H → t D σ H) : PS X e t' := ⟨fun pins s σ H D I q => h.run pins s σ H D I (i _ _ _ q)⟩
theorem PSs.imp {X : Cx} {e : List Stmt} {t t' : TS} (h : PSs X e t) (i : ∀ D σ H, t' D σ H → t D σ H) : PSs X e t' := ⟨fun pins s σ H D I q => h.run pins s σ H D I (i _ _ _ q)⟩
section
variable {c : Glb} {U : Env} {W : WX} {X : Cx} {e : Expr} {l : LE}
/-- a frozen one of what is new -/
theorem OutN.of {g : G} {z : D} {Q : VK} (ok : GOk c g) (h : ∀ H' w, GOk c { g with H := H' } → Le g { g with H := H' } → RepV c { g with H := H' } (.d z) w → Q w H') : OutN c g z Q := by
  have any : ∀ H' w, GOk c { g with H := H' } → Le g { g with H := H' } → Rep c.K (live g) H' z w → Q w H' := fun H' w o l r => h H' w o l (.d r)
  cases z with
  | lst ds =>
    intro p vs hp hl r
    refine h _ _ (gok_laid ok hp) (le_laid ok hp) (.d (.lst upd_same (ok.nolive hp) hl (Reps.mo (mo_laid ok hp) _ _ r)))
  | non => exact any
  | bl b => exact any
  | int i => exact any
  | str s => exact any
  | tup ds => exact any
theorem pe_froz (h : PE X e (tEvN c U W l)) (hd : ∀ loc S v S', evE U l loc S = .ok v S' → ∃ z, v = .d z) : PE X e (tEv c U W l) := PE.imp h fun σ H Q => by
  rintro ⟨g, loc, rfl, ok, lo, out⟩
  refine ⟨g, loc, rfl, ok, lo, ?_⟩
  cases hr : evE U l loc g.S with
  | ok v S' =>
    rw [hr] at out
    intro ρ' H' ok' le
    obtain ⟨z, rfl⟩ := hd _ _ _ _ hr
    exact ⟨z, rfl, OutN.of ok' fun H2 w o2 l2 r2 => out ρ' H2 o2 (le.trans l2) w r2⟩
  | exc n xs S' => rw [hr] at out; exact out
  | stuck => rw [hr] at out; exact out
theorem pe_thaw (h : PE X e (tEvN c U W l)) : PE X e (tEv c U W (.thaw l)) := PE.imp h fun σ H Q => by
  rintro ⟨g, loc, rfl, ok, lo, out⟩
  refine ⟨g, loc, rfl, ok, lo, Out.imp (Out.bind out) fun v g1 ⟨le, ok1, o1⟩ => ?_⟩
  cases v with
  | d z =>
    cases z with
    | lst ds =>
      refine ⟨.lst ds, rfl, fun p vs hp hl r => ?_⟩
      refine o1 (g1.ρ ++ [p]) (upd g1.H p (.lst vs)) (gok_more ok1 hp hl r) (le_more ok1 hp) _ (.ref ?_)
      rw [← ok1.len]; simp
    | _ => exact False.elim o1
  | _ => exact False.elim o1

/-! ### reading -/
def Pk (c : Glb) (g : G) (x : D) (w : V) : Prop :=
  match x with
  | .lst ds => ∃ a vs, w = .ref a ∧ g.H a = some (.lst vs) ∧ ds.length ≤ lim ∧ Reps c.K (live g) g.H ds vs
  | x => Rep c.K (live g) g.H x w
theorem Rep.pk {g : G} {x : D} {w : V} (r : Rep c.K (live g) g.H x w) : Pk c g x w := by
  cases x with
  | lst ds => cases r with | lst h n hl r => exact ⟨_, _, rfl, h, hl, r⟩
  | _ => exact r
theorem peek_ok {g : G} {v : Vl} {x : D} {w : V} (ok : GOk c g) (r : RepV c g v w) (h : peek g.S v = some x) : Pk c g x w := by
  cases r with
  | d r => cases h; exact r.pk
  | @ref n a e =>
    have h : (match (g.S : List Cell)[n]? with | some (.lst ds) => some (D.lst ds) | some (.fzn ds) => some (.lst ds) | _ => none) = some x := h
    split at h
    · rename_i ds hs
      cases h
      obtain ⟨vs, h1, hl, h2⟩ := ok.cell _ _ _ e hs
      exact ⟨_, vs, rfl, h1, hl, h2⟩
    · rename_i ds hs
      cases h
      exact Rep.pk (ok.cell _ _ _ e hs)
    · cases h
  | fnv e => cases h
  | exn e => cases h
  | clo => cases h
  | scr => cases h

section
open Sem (wp)
open AutoSeq1 (wpAny_loadPart')
theorem tuple_mul1 (l : Addr) (items : Array Value) (n : Nat) (dd : Option Addr) (sl : Array (Option Value)) (x : Int) (u : Tok) (c0 : (decide (x < -(2 ^ 63)) || decide (x ≥ 2 ^ 63)) = false) (c1 : (items.isEmpty || x == 1) = true) :
    Meets (Builtin.«tuple.__mul__» ⟨[.ref l, .int x u], []⟩) (fun _ R s => s.heap.get? l = some { cls := .type "tuple", dict := dd, data := .seq items n, slots := sl } ∧ R (.ok (.ret (Value.ref l))) s) :=
  .of_wp fun prog w A R s h => by
    obtain ⟨hp, g, d, tk, os⟩ := s
    obtain ⟨hl, h⟩ := h
    have f1 := AutoSeq1.idx_int
    wp_walk using wpAny_loadPart' hl
    repeat (first
      | (refine wpAny_ite_false (decide_eq_false (by rw [c0]; exact Bool.false_ne_true)) ?_; wp_walk using wpAny_loadPart' hl)
      | (refine wpAny_ite_true (decide_eq_true (by rw [c1])) ?_; wp_walk using wpAny_loadPart' hl))
    exact ⟨_, rfl, h⟩
end
def rRep1 (K : PySem.W.Frag) : R2 := fun x y H Q => ∃ l xs, x = .ref l ∧ y = .int 1 ∧ SqT K H l xs ∧ Q (.ref l) H
theorem op_rep1 {X : Cx} : OpR X (binaryOp .Mult) (rRep1 X.K) := by
  intro pins s σ H x y v u Q I rx ry h
  obtain ⟨l, xs, rfl, rfl, hT, q⟩ := h
  cases rx
  obtain ⟨t, rfl⟩ := ry
  obtain ⟨its, r, ⟨⟨cls, dd, data, sl⟩, ho, hc, n, hd⟩, hs⟩ := I.tuple hT
  simp only at hc hd
  subst hc hd
  exact wpAny_binaryOp_repeat_ref (T := "tuple") (U := "int") (by decide) ⟨_, ho, rfl⟩ (fun s' => typeIs_int s' 1 t) noFill_tuple_mul F.fills_int_mul F.slot_int_rmul repeat_tuple F.slot_int_index.lookup
    (call_meets F.slot_int_rmul (typeIs_int s 1 t) F.entry_int_rmul (F.args_int_rmul_2 _ _) (int_rmul_tuple 1 t l its.toArray n dd sl)
      ⟨ho, rfl, ⟨_, ho, rfl⟩, call_meets F.slot_tuple_mul ⟨_, ho, rfl⟩ F.entry_tuple_mul (F.args_tuple_mul_2 _ _) (tuple_mul1 l its.toArray n dd sl 1 t (by decide) (by simp)) ⟨ho, ⟨.ref l, H, I, rfl, q⟩⟩⟩)
/-! ### operators -/
def opOf : Op → Operator
  | .add => .Add | .sub => .Sub | .mul => .Mult | .fdiv => .FloorDiv | .mod => .Mod | .pow => .Pow
def rOp (K : PySem.W.Frag) : Op → R2
  | .add => fun x y H Q => ((rI0 fun i j => .int (i + j)) x y H Q ∨ (∃ i j, x = .str i ∧ y = .str j ∧ i.length + j.length ≤ sizeLine ∧ Q (.str (i ++ j)) H)) ∨ (rCatA K x y H Q ∨ rCat x y H Q)
  | .sub => rI0 fun i j => .int (i - j)
  | .mul => fun x y H Q => (rI CMul fun i j => .int (i * j)) x y H Q ∨ (rRep x y H Q ∨ (rRepT K x y H Q ∨ rRep1 K x y H Q))
  | .fdiv => rI CDiv fun i j => .int (i / j)
  | .mod => rI (fun _ j => 0 < j) fun i j => .int (i % j)
  | .pow => rI CPow fun i j => .int (i ^ j.toNat)
theorem opr (X : Cx) : ∀ o : Op, OpR X (binaryOp (opOf o)) (rOp X.K o)
  | .add => (op_add.or op_add_str).or (op_catA.or op_cat)
  | .sub => op_sub
  | .mul => op_mul.or (op_rep.or (op_repT.or op_rep1))
  | .fdiv => op_fdiv
  | .mod => op_mod
  | .pow => op_pow
theorem lim_eq : lim = sizeLine := by rw [sizeLine_eq]; rfl
theorem OutN.sc {g : G} {z : D} {w : V} {Q : VK} (ok : GOk c g) (h : OutN c g z Q) (r : Rep c.K (live g) g.H z w) (nl : ∀ ds, z ≠ .lst ds) : Q w g.H := by
  cases z with
  | lst ds => exact absurd rfl (nl ds)
  | _ => exact h g.H w ok (Le.refl g) r
theorem OutN.tup {g : G} {ds : List D} {vs : List V} {p : Addr} {Q : VK} (ok : GOk c g) (h : OutN c g (.tup ds) Q) (hp : g.H p = none) (hl : ds.length ≤ lim) (r : Reps c.K (live g) g.H ds vs) : Q (.ref p) (upd g.H p (.tup vs)) :=
  h _ _ (gok_laid ok hp) (le_laid ok hp) (.tup (.inl (.inl upd_same)) hl (Reps.mo (mo_laid ok hp) _ _ r))
theorem okS_app {a b : List Nat} (ha : okS a) (hb : okS b) : okS (a ++ b) := fun c hc => by
  rcases List.mem_append.mp hc with z | z
  · exact ha c z
  · exact hb c z
theorem op_ok {g : G} {o : Op} {x y z : D} {wx wy : V} {Q : VK} (ok : GOk c g) (hx : Pk c g x wx) (hy : Pk c g y wy) (h : opD o x y = some z) (q : OutN c g z Q) : rOp c.K o wx wy g.H Q := by
  unfold opD at h
  split at h
  · cases h; cases hx; cases hy
    exact .inl (.inl ⟨_, _, rfl, rfl, q.sc ok (.int _) (fun _ z => by cases z)⟩)
  · cases h; cases hx; cases hy
    exact ⟨_, _, rfl, rfl, q.sc ok (.int _) (fun _ z => by cases z)⟩
  · rename_i i j
    split at h
    · rename_i hs
      cases h; cases hx; cases hy
      refine .inl ⟨_, _, rfl, rfl, ?_, q.sc ok (.int _) (fun _ z => by cases z)⟩
      simpa [smallI, CMul] using hs
    · cases h
  · split at h
    · rename_i hs
      cases h; cases hx; cases hy
      exact ⟨_, _, rfl, rfl, hs, q.sc ok (.int _) (fun _ z => by cases z)⟩
    · cases h
  · split at h
    · rename_i hs
      cases h; cases hx; cases hy
      exact ⟨_, _, rfl, rfl, hs, q.sc ok (.int _) (fun _ z => by cases z)⟩
    · cases h
  · split at h
    · rename_i hs
      cases h; cases hx; cases hy
      exact ⟨_, _, rfl, rfl, hs, q.sc ok (.int _) (fun _ z => by cases z)⟩
    · cases h
  · split at h
    · rename_i hs
      cases h
      cases hx with
      | str ox =>
        cases hy with
        | str oy =>
          refine .inl (.inr ⟨_, _, rfl, rfl, by rw [SS_length, SS_length, ← lim_eq]; exact hs, ?_⟩)
          rw [SS_app]
          exact q.sc ok (.str (okS_app ox oy)) (fun _ z => by cases z)
    · cases h
  · split at h
    · rename_i hs
      cases h
      cases hx with
      | @tup a ds vs sx lx rx =>
        cases hy with
        | @tup b es ws sy ly ry =>
          refine .inr (.inl ⟨a, b, vs, ws, rfl, rfl, sx, sy, by rw [← rx.length, ← ry.length, ← lim_eq]; exact hs, fun e => ?_, fun e1 e2 => ?_, fun e1 e2 p hp => ?_⟩)
          · subst e
            cases rx
            exact q.sc ok (.tup sy ly ry) (fun _ z => by cases z)
          · subst e2
            cases ry
            rw [List.append_nil] at q
            exact q.sc ok (.tup sx lx rx) (fun _ z => by cases z)
          · exact q.tup ok hp (by rw [List.length_append]; exact hs) (rx.app ry)
    · cases h
  · split at h
    · rename_i hs
      cases h
      obtain ⟨a, vs, rfl, h1, l1, r1⟩ := hx
      obtain ⟨b, ws, rfl, h2, l2, r2⟩ := hy
      exact .inr (.inr ⟨a, b, vs, ws, rfl, rfl, h1, h2, by rw [← r1.length, ← r2.length, ← lim_eq]; exact hs, fun p hp => q p _ hp (by rw [List.length_append]; exact hs) (r1.app r2)⟩)
    · cases h
  · split at h
    · rename_i hs
      cases h; cases hy
      obtain ⟨a, vs, rfl, h1, l1, r1⟩ := hx
      refine .inr (.inl ⟨a, _, vs, rfl, rfl, h1, hs.1, hs.2.1, by rw [← r1.length, ← lim_eq]; exact hs.2.2, fun p hp => q p _ hp ?_ (r1.flat _)⟩)
      simp
      rw [Nat.mul_comm]
      exact hs.2.2
    · cases h
  · split at h
    · rename_i hk
      subst hk
      cases h; cases hy
      cases hx with
      | @tup a ds vs sx lx rx => exact .inr (.inr (.inr ⟨a, vs, rfl, rfl, sx, q.sc ok (.tup sx lx rx) (fun _ z => by cases z)⟩))
    split at h
    · rename_i hs
      cases h; cases hy
      cases hx with
      | @tup a ds vs sx lx rx =>
        refine .inr (.inr (.inl ⟨a, _, vs, rfl, rfl, sx, ?_, hs.2.1, hs.2.2.1, by rw [← rx.length]; exact hs.2.2.2, fun p hp => q.tup ok hp ?_ (rx.flat _)⟩))
        · intro e; subst e; cases rx; exact hs.1 rfl
        · simp
          have h1 := hs.2.2.2
          have h2 := hs.2.2.1
          exact Nat.le_trans (Nat.mul_le_mul (show _ ≤ 1000 by omega) h1) (by decide)
    · cases h
  · cases h
end
end EV
end

section
set_option Elab.async false
set_option linter.all false
set_option maxRecDepth 100000
set_option maxHeartbeats 1000000
/-! EV4: constructs of expressions, one by one -/
namespace EV
open PySem PySem.Spec PyProof.Rows L2
section
variable {c : Glb} {U : Env} {W : WX} {X : Cx} {e a b : Expr} {l la lb : LE} {pos : Pos}
theorem se_const {d : D} {w : V} (h : PE X e (tC w)) (r : ∀ L H, Rep c.K L H d w) : PE X e (tEv c U W (.lit d)) := PE.imp h fun σ H Q => by
  rintro ⟨g, loc, rfl, ok, lo, out⟩
  exact (Out.here out ok) w (.d (r _ _))
theorem se_glob {x : String} {v : Vl} {w : V} (h : PE X e (tC w)) (r : ∀ g, RepV c g v w) : PE X e (tEv c U W (.glob x v)) := PE.imp h fun σ H Q => by
  rintro ⟨g, loc, rfl, ok, lo, out⟩
  exact (Out.here out ok) w (r _)
theorem se_var {i : Nat} (h : PE X e (tVar i)) : PE X e (tEv c U W (.var i)) := PE.imp h fun σ H Q => by
  rintro ⟨g, loc, rfl, ok, lo, out⟩
  have out : Out c g W σ (match loc[i]? with | some (some v) => R.ok v g.S | _ => .stuck) _ := out
  split at out
  · rename_i v hv
    obtain ⟨w, h1, h2⟩ := lo.at_ i v hv
    exact ⟨w, h1, (Out.here out ok) w h2⟩
  · exact out.elim
theorem se_op {o : Op} (hK : X.K = c.K) (ha : PE X a (tEv c U W la)) (hb : PE X b (tEv c U W lb)) : PE X (.BinOp a (opOf o) b pos) (tEvN c U W (.op o la lb)) := PE.imp (pe_op (opr X o) ha hb) fun σ H Q => by
  rintro ⟨g, loc, rfl, ok, lo, out⟩
  refine ⟨g, loc, rfl, ok, lo, (Out.bind out).imp fun v g1 ⟨le1, ok1, out1⟩ w rw1 => ?_⟩
  refine ⟨g1, loc, rfl, ok1, lo.le ok le1, (Out.bind out1).imp fun v2 g2 ⟨le2, ok2, out2⟩ w2 rw2 => ?_⟩
  cases h1 : peek g2.S v with
  | none => rw [h1] at out2; exact out2.elim
  | some x =>
    cases h2 : peek g2.S v2 with
    | none => rw [h1, h2] at out2; exact out2.elim
    | some y =>
      rw [h1, h2] at out2
      obtain ⟨z, hz, q⟩ := Out.opt out2
      obtain ⟨z', e', q'⟩ := Out.here q ok2
      cases e'
      rw [hK]
      exact op_ok ok2 (peek_ok ok2 (rw1.le ok1 le2) h1) (peek_ok ok2 rw2 h2) hz q'
theorem hd_op {o : Op} : ∀ loc S v S', evE U (.op o la lb) loc S = .ok v S' → ∃ z, v = .d z := by
  intro loc S v S' h
  simp only [evE] at h
  cases h1 : evE U la loc S with
  | ok v1 S1 =>
    rw [h1] at h; simp only [R.bind_ok] at h
    cases h2 : evE U lb loc S1 with
    | ok v2 S2 =>
      rw [h2] at h; simp only [R.bind_ok] at h
      split at h
      · rename_i x y _ _
        cases h3 : opD o x y with
        | none => rw [h3] at h; cases h
        | some z => rw [h3] at h; cases h; exact ⟨_, rfl⟩
      · cases h
    | exc => rw [h2] at h; cases h
    | stuck => rw [h2] at h; cases h
  | exc => rw [h1] at h; cases h
  | stuck => rw [h1] at h; cases h
theorem se_neg (ha : PE X a (tEv c U W la)) : PE X (.UnaryOp .USub a pos) (tEv c U W (.neg la)) := PE.imp (pe_un un_neg ha) fun σ H Q => by
  rintro ⟨g, loc, rfl, ok, lo, out⟩
  refine ⟨g, loc, rfl, ok, lo, (Out.bind out).imp fun v g1 ⟨le1, ok1, out1⟩ w rw1 => ?_⟩
  cases rw1 with
  | d r =>
    cases r with
    | int i => exact ⟨i, rfl, (Out.here out1 ok1) _ (.d (.int _))⟩
    | _ => exact False.elim out1
  | _ => exact False.elim out1
theorem asBool_rep {g : G} {v : Vl} {w : V} {k : Bool} (r : RepV c g v w) (h : asBool v = some k) : w = .bl k := by
  unfold asBool at h
  split at h
  · cases h
    cases r with
    | d r => cases r; rfl
  · cases h
theorem se_not (ha : PE X a (tEv c U W la)) : PE X (.UnaryOp .Not a pos) (tEv c U W (.not la)) := PE.imp (pe_not ha) fun σ H Q => by
  rintro ⟨g, loc, rfl, ok, lo, out⟩
  refine ⟨g, loc, rfl, ok, lo, (Out.bind out).imp fun v g1 ⟨le1, ok1, out1⟩ w rw1 => ?_⟩
  obtain ⟨k, hk, q⟩ := Out.opt out1
  exact ⟨k, asBool_rep rw1 hk, (Out.here q ok1) _ (.d (.bl _))⟩
/-- a test of an expression whose value is a bool -/
theorem st_val (ha : PE X e (tEv c U W l)) (he : ∀ whole, isTrue e X.env whole = (do let v ← whole; standAt e.pos; holding [v] (truthy v))) : PT X e (tTv c U W l) := PT.imp (pt_val ha he) fun σ H Q => by
  rintro ⟨g, loc, rfl, ok, lo, out⟩
  refine ⟨g, loc, rfl, ok, lo, out.imp fun v g1 ⟨k, hk, q⟩ w rw1 => ⟨k, asBool_rep rw1 hk, q⟩⟩
theorem st_not (ha : PT X a (tTv c U W la)) : PT X (.UnaryOp .Not a pos) (tTv c U W (.not la)) := PT.imp (pt_not ha) fun σ H Q => by
  rintro ⟨g, loc, rfl, ok, lo, out⟩
  refine ⟨g, loc, rfl, ok, lo, (Out.bind out).imp fun v g1 ⟨le1, ok1, out1⟩ => ?_⟩
  obtain ⟨k, hk, q⟩ := Out.opt out1
  obtain ⟨k', hk', q'⟩ := Out.here q ok1
  cases hk'
  exact ⟨k, hk, q'⟩
end
end EV
end

section
set_option Elab.async false
set_option linter.all false
set_option maxRecDepth 100000
set_option maxHeartbeats 1000000
/-! EV5: comparisons, and, or, displays -/
namespace EV
open PySem PySem.Spec PyProof.Rows L2
/-! ### data as the library's -/
mutual
def toPy : D → PyData
  | .non => .none
  | .bl b => .bool b
  | .int i => .int i
  | .str s => .str (SS s)
  | .tup ds => .tuple (toPys ds)
  | .lst ds => .list (toPys ds)
def toPys : List D → List PyData
  | [] => []
  | d :: ds => toPy d :: toPys ds
end
theorem toPys_map : ∀ ds : List D, toPys ds = ds.map toPy
  | [] => rfl
  | d :: ds => by simp [toPys, toPys_map ds]
mutual
theorem depth_toPy : ∀ d : D, (toPy d).depth = dep d
  | .non => rfl
  | .bl _ => rfl
  | .int _ => rfl
  | .str _ => rfl
  | .tup ds => by simp [toPy, PyData.depth, dep, depth_toPys ds]
  | .lst ds => by simp [toPy, PyData.depth, dep, depth_toPys ds]
theorem depth_toPys : ∀ ds : List D, PyData.depthAll (toPys ds) = deps ds
  | [] => rfl
  | d :: ds => by simp [toPys, PyData.depthAll, deps, depth_toPy d, depth_toPys ds]
end
theorem SS_beq (x y : List Nat) : (SS x == SS y) = (x == y) := by
  by_cases e : x = y
  · subst e; simp
  · have e2 : SS x ≠ SS y := fun h => e (SS_inj h)
    rw [beq_eq_false_iff_ne.mpr e, beq_eq_false_iff_ne.mpr e2]
mutual
theorem eqv_toPy : ∀ x y : D, PyData.eqv (toPy x) (toPy y) = eqD x y
  | .non, y => by cases y <;> simp [toPy, PyData.eqv, eqD]
  | .bl a, y => by cases y <;> simp [toPy, PyData.eqv, eqD]
  | .int a, y => by cases y <;> simp [toPy, PyData.eqv, eqD]
  | .str a, y => by cases y <;> simp [toPy, PyData.eqv, eqD, SS_beq]
  | .tup xs, y => by cases y <;> simp [toPy, PyData.eqv, eqD, eqv_toPys xs]
  | .lst xs, y => by cases y <;> simp [toPy, PyData.eqv, eqD, eqv_toPys xs]
theorem eqv_toPys : ∀ xs ys : List D, PyData.eqvAll (toPys xs) (toPys ys) = eqDs xs ys
  | [], [] => by simp [toPys, PyData.eqvAll, eqDs]
  | [], _ :: _ => by simp [toPys, PyData.eqvAll, eqDs]
  | _ :: _, [] => by simp [toPys, PyData.eqvAll, eqDs]
  | x :: xs, y :: ys => by simp [toPys, PyData.eqvAll, eqDs, eqv_toPy x y, eqv_toPys xs ys]
end
mutual
theorem Rep.dp {K : PySem.W.Frag} {L : Addr → Prop} {H : Hp} : ∀ (d : D) (w : V), Rep K L H d w → Dp K H w (toPy d) ∧ (toPy d).canLay0 = true
  | .non, _, h => by cases h; exact ⟨.non, rfl⟩
  | .bl b, _, h => by cases h; exact ⟨.bl b, rfl⟩
  | .int i, _, h => by cases h; exact ⟨.int i, rfl⟩
  | .str s, _, h => by cases h with | str o => exact ⟨.str _, by simp only [toPy, PyData.canLay0]; exact o.strOk⟩
  | .tup ds, _, h => by
    cases h with
    | tup hs hl hr =>
      obtain ⟨h1, h2⟩ := Reps.dp ds _ hr
      exact ⟨.tup hs h1, by simp only [toPy, PyData.canLay0]; exact h2⟩
  | .lst ds, _, h => by
    cases h with
    | lst hs hn hl hr =>
      obtain ⟨h1, h2⟩ := Reps.dp ds _ hr
      exact ⟨.lst (SqL.of hs) h1, by simp only [toPy, PyData.canLay0]; exact h2⟩
theorem Reps.dp {K : PySem.W.Frag} {L : Addr → Prop} {H : Hp} : ∀ (ds : List D) (ws : List V), Reps K L H ds ws → DpAll K H ws (toPys ds) ∧ PyData.canLayAll0 (toPys ds) = true
  | [], _, h => by cases h; exact ⟨.nil, rfl⟩
  | d :: ds, _, h => by
    cases h with
    | cons h1 h2 =>
      obtain ⟨a1, a2⟩ := Rep.dp d _ h1
      obtain ⟨b1, b2⟩ := Reps.dp ds _ h2
      exact ⟨.cons a1 b1, by simp [toPys, PyData.canLayAll0, a2, b2]⟩
end
theorem Pk.dp {c : Glb} {g : G} {x : D} {w : V} (h : Pk c g x w) : Dp c.K g.H w (toPy x) ∧ (toPy x).canLay0 = true := by
  cases x with
  | lst ds =>
    obtain ⟨a, vs, rfl, h1, _, h2⟩ := h
    obtain ⟨b1, b2⟩ := Reps.dp ds _ h2
    exact ⟨.lst (SqL.of h1) b1, by simp only [toPy, PyData.canLay0]; exact b2⟩
  | _ => exact Rep.dp _ _ h
theorem lexI_eq : ∀ x y : List Int, lexI x y = HT.lexLt x y
  | [], [] => rfl
  | [], _ :: _ => rfl
  | _ :: _, [] => rfl
  | a :: x, b :: y => by simp only [lexI, HT.lexLt_cons, lexI_eq x y]
theorem intsOf_rep {K : PySem.W.Frag} {L : Addr → Prop} {H : Hp} : ∀ {ds : List D} {ns : List Int} {vs : List V}, intsOf ds = some ns → Reps K L H ds vs → vs = ns.map V.int
  | [], ns, vs, h, r => by cases h; cases r; rfl
  | d :: ds, ns, vs, h, r => by
    cases r with
    | cons r1 r2 =>
      cases d with
      | int i =>
        cases e : intsOf ds with
        | none => rw [intsOf, e] at h; cases h
        | some ms => rw [intsOf, e] at h; cases h; cases r1; rw [intsOf_rep e r2]; rfl
      | _ => cases h
/-! ### comparisons -/
def cmOf : Cm → CmpOp
  | .eq => .Eq | .ne => .NotEq | .lt => .Lt | .le => .LtE | .gt => .Gt | .ge => .GtE | .is => .Is | .isnot => .IsNot | .isin => .In | .notin => .NotIn
def rEqA (K : PySem.W.Frag) (n : Bool) : R2 := fun x y H Q => ∃ d e, Dp K H x d ∧ Dp K H y e ∧ d.canLay0 = true ∧ e.canLay0 = true ∧ min d.depth e.depth ≤ 64 ∧ Q (.bl (if n then !PyData.eqv d e else PyData.eqv d e)) H
def rInA (K : PySem.W.Frag) (n : Bool) : R2 := fun x y H Q => ∃ d ds, Dp K H x d ∧ (Dp K H y (.list ds) ∨ Dp K H y (.tuple ds)) ∧ d.canLay0 = true ∧ PyData.canLayAll0 ds = true ∧ d.depth ≤ 64 ∧ Q (.bl (if n then !(ds.any fun z => PyData.eqv z d) else ds.any fun z => PyData.eqv z d)) H
def rBin (f : Bool → Bool → Bool) : R2 := fun x y H Q => ∃ a b, x = .bl a ∧ y = .bl b ∧ Q (.bl (f a b)) H
section
variable {X : Cx}
theorem op_eqA (hu : X.A.units + 200 < cLine) : OpR X (compareOp .Eq) (rEqA X.K false) := by
  intro pins s σ H x y v u Q I rx ry h
  obtain ⟨d, e, hd, he, sd, se, hm, q⟩ := h
  obtain ⟨as, r1⟩ := Dp.reads I d x v hd rx
  obtain ⟨bs, r2⟩ := Dp.reads I e y u he ry
  exact SeqAt.compareEq_reads r1 r2 sd se (by omega) ⟨.bl _, H, I, rfl, q⟩
theorem op_neA (hu : X.A.units + 200 < cLine) : OpR X (compareOp .NotEq) (rEqA X.K true) := by
  intro pins s σ H x y v u Q I rx ry h
  obtain ⟨d, e, hd, he, sd, se, hm, q⟩ := h
  obtain ⟨as, r1⟩ := Dp.reads I d x v hd rx
  obtain ⟨bs, r2⟩ := Dp.reads I e y u he ry
  exact SeqAt.compareNe_reads r1 r2 sd se (by omega) ⟨.bl _, H, I, rfl, q⟩
theorem op_inA (hu : X.A.units + 200 < cLine) : OpR X (compareOp .In) (rInA X.K false) := by
  intro pins s σ H x y v u Q I rx ry h
  obtain ⟨d, ds, hd, he, sd, se, hm, q⟩ := h
  obtain ⟨as, r1⟩ := Dp.reads I d x v hd rx
  rcases he with he | he
  · obtain ⟨bs, r2⟩ := Dp.reads I _ y u he ry
    exact SeqAt.in_list_reads r2 r1 se sd (by omega) ⟨.bl _, H, I, rfl, q⟩
  · obtain ⟨bs, r2⟩ := Dp.reads I _ y u he ry
    exact SeqAt.in_tuple_reads r2 r1 se sd (by omega) ⟨.bl _, H, I, rfl, q⟩
theorem op_notinA (hu : X.A.units + 200 < cLine) : OpR X (compareOp .NotIn) (rInA X.K true) := by
  intro pins s σ H x y v u Q I rx ry h
  obtain ⟨d, ds, hd, he, sd, se, hm, q⟩ := h
  obtain ⟨as, r1⟩ := Dp.reads I d x v hd rx
  rcases he with he | he
  · obtain ⟨bs, r2⟩ := Dp.reads I _ y u he ry
    exact SeqAt.notIn_list_reads r2 r1 se sd (by omega) ⟨.bl _, H, I, rfl, q⟩
  · obtain ⟨bs, r2⟩ := Dp.reads I _ y u he ry
    exact SeqAt.notIn_tuple_reads r2 r1 se sd (by omega) ⟨.bl _, H, I, rfl, q⟩
def rCm (K : PySem.W.Frag) : Cm → R2
  | .eq => rEqA K false
  | .ne => rEqA K true
  | .lt => fun x y H Q => ((rI0 fun i j => .bl (decide (i < j))) x y H Q ∨ (∃ i j, x = .str i ∧ y = .str j ∧ Q (.bl (decide (i.cps.toList < j.cps.toList))) H)) ∨ rLtT K x y H Q
  | .le => fun x y H Q => (rI0 fun i j => .bl (decide (i ≤ j))) x y H Q ∨ (∃ i j, x = .str i ∧ y = .str j ∧ Q (.bl (!decide (j.cps.toList < i.cps.toList))) H)
  | .gt => fun x y H Q => (rI0 fun i j => .bl (decide (j < i))) x y H Q ∨ (∃ i j, x = .str i ∧ y = .str j ∧ Q (.bl (decide (j.cps.toList < i.cps.toList))) H)
  | .ge => fun x y H Q => (rI0 fun i j => .bl (decide (j ≤ i))) x y H Q ∨ (∃ i j, x = .str i ∧ y = .str j ∧ Q (.bl (!decide (i.cps.toList < j.cps.toList))) H)
  | .is => fun x y H Q => (y = .non ∧ Q (.bl (decide (x = .non))) H) ∨ rIsB x y H Q
  | .isnot => fun x y H Q => (y = .non ∧ Q (.bl (!decide (x = .non))) H) ∨ rNotB x y H Q
  | .isin => fun x y H Q => (∃ (k : Nat) (z : Str), x = .str ⟨#[k]⟩ ∧ y = .str z ∧ Q (.bl (decide (k ∈ z.cps.toList))) H) ∨ rInA K false x y H Q
  | .notin => fun x y H Q => (∃ (k : Nat) (z : Str), x = .str ⟨#[k]⟩ ∧ y = .str z ∧ Q (.bl (!decide (k ∈ z.cps.toList))) H) ∨ rInA K true x y H Q
theorem cmr (hu : X.A.units + 200 < cLine) : ∀ o : Cm, OpR X (compareOp (cmOf o)) (rCm X.K o)
  | .eq => op_eqA hu
  | .ne => op_neA hu
  | .lt => (op_lt.or op_lt_str).or (op_ltT (by omega))
  | .le => op_le.or op_le_str
  | .gt => op_gt.or op_gt_str
  | .ge => op_ge.or op_ge_str
  | .is => op_isN.or op_isBl
  | .isnot => op_notN.or op_notBl
  | .isin => op_in_sign.or (op_inA hu)
  | .notin => op_notIn_sign.or (op_notinA hu)
end
theorem any_toPys (x : D) (ds : List D) : ((toPys ds).any fun z => PyData.eqv z (toPy x)) = inD x ds := by
  rw [toPys_map, List.any_map]
  unfold inD
  congr 1
  funext y
  exact eqv_toPy y x
theorem Pk.nonI {c : Glb} {g : G} {x : D} {w : V} (h : Pk c g x w) : decide (w = .non) = (match x with | .non => true | _ => false) := by
  cases x with
  | lst ds => obtain ⟨a, vs, rfl, _⟩ := h; simp
  | _ => cases h <;> simp
theorem contains_SS (k : Nat) (y : List Nat) : y.contains k = decide (k ∈ (SS y).cps.toList) := by
  rw [Bool.eq_iff_iff, decide_eq_true_iff]
  simp [SS]
theorem cm_ok {c : Glb} {g : G} {o : Cm} {x y : D} {wx wy : V} {k : Bool} {Q : VK} (hx : Pk c g x wx) (hy : Pk c g y wy) (h : cmD o x y = some k) (q : Q (.bl k) g.H) : rCm c.K o wx wy g.H Q := by
  have eqs : ∀ n : Bool, (if min (dep x) (dep y) ≤ 60 then some (if n then !eqD x y else eqD x y) else none) = some k → rEqA c.K n wx wy g.H Q := fun n h => by
    split at h
    · rename_i hm
      cases h
      obtain ⟨a1, a2⟩ := hx.dp
      obtain ⟨b1, b2⟩ := hy.dp
      refine ⟨_, _, a1, b1, a2, b2, by rw [depth_toPy, depth_toPy]; omega, ?_⟩
      rw [eqv_toPy]
      exact q
    · cases h
  have ins : ∀ (n : Bool) (ys : List D), (y = .lst ys ∨ y = .tup ys) → (if dep x ≤ 60 then some (if n then !inD x ys else inD x ys) else none) = some k → rInA c.K n wx wy g.H Q := fun n ys hy' h => by
    split at h
    · rename_i hm
      cases h
      obtain ⟨a1, a2⟩ := hx.dp
      obtain ⟨b1, b2⟩ := hy.dp
      refine ⟨_, toPys ys, a1, ?_, a2, ?_, by rw [depth_toPy]; omega, ?_⟩
      · rcases hy' with rfl | rfl
        · exact .inl b1
        · exact .inr b1
      · rcases hy' with rfl | rfl <;> (simp only [toPy, PyData.canLay0] at b2; exact b2)
      · rw [any_toPys]
        exact q
    · cases h
  unfold cmD at h
  split at h
  · exact eqs false h
  · exact eqs true h
  · cases h; cases hx; cases hy; exact .inl (.inl ⟨_, _, rfl, rfl, q⟩)
  · cases h; cases hx; cases hy; exact .inl ⟨_, _, rfl, rfl, q⟩
  · cases h; cases hx; cases hy; exact .inl ⟨_, _, rfl, rfl, q⟩
  · cases h; cases hx; cases hy; exact .inl ⟨_, _, rfl, rfl, q⟩
  · cases h; cases hx; cases hy; exact .inl (.inr ⟨_, _, rfl, rfl, q⟩)
  · cases h; cases hx; cases hy; exact .inr ⟨_, _, rfl, rfl, q⟩
  · cases h; cases hx; cases hy; exact .inr ⟨_, _, rfl, rfl, q⟩
  · cases h; cases hx; cases hy; exact .inr ⟨_, _, rfl, rfl, q⟩
  · split at h
    · rename_i ns ms h1 h2
      cases h
      cases hx with
      | tup s1 l1 r1 =>
        cases hy with
        | tup s2 l2 r2 =>
          rw [intsOf_rep h1 r1] at s1
          rw [intsOf_rep h2 r2] at s2
          rw [lexI_eq] at q
          exact .inr ⟨_, _, _, _, rfl, rfl, s1, s2, q⟩
    · cases h
  · cases h; cases hx; cases hy; exact .inl ⟨rfl, by simpa using q⟩
  · rename_i hn
    cases h; cases hy
    refine .inl ⟨rfl, ?_⟩
    rw [hx.nonI]
    cases x <;> first | exact q | exact absurd rfl hn
  · cases h; cases hx; cases hy; exact .inr ⟨_, _, rfl, rfl, by rw [← Bool.beq_eq_decide_eq]; exact q⟩
  · cases h; cases hx; cases hy; exact .inl ⟨rfl, by simpa using q⟩
  · rename_i hn
    cases h; cases hy
    refine .inl ⟨rfl, ?_⟩
    rw [hx.nonI]
    cases x <;> first | exact q | exact absurd rfl hn
  · cases h; cases hx; cases hy; exact .inr ⟨_, _, rfl, rfl, by rw [← Bool.beq_eq_decide_eq]; exact q⟩
  · cases h; cases hx; cases hy
    refine .inl ⟨_, _, rfl, rfl, ?_⟩
    rw [← contains_SS]
    exact q
  · cases h; cases hx; cases hy
    refine .inl ⟨_, _, rfl, rfl, ?_⟩
    rw [← contains_SS]
    exact q
  · exact .inr (ins false _ (.inr rfl) h)
  · exact .inr (ins false _ (.inl rfl) h)
  · exact .inr (ins true _ (.inr rfl) h)
  · exact .inr (ins true _ (.inl rfl) h)
  · cases h
def rDc : Cm → R2 := fun o x y H Q => (o = .isin ∧ ∃ a r, y = .ref a ∧ DGet H a x r ∧ Q (.bl r.isSome) H) ∨ (o = .notin ∧ ∃ a r, y = .ref a ∧ DGet H a x r ∧ Q (.bl (!r.isSome)) H)
theorem cmrD {X : Cx} (hu : X.A.units + 200 < cLine) (o : Cm) : OpR X (compareOp (cmOf o)) (fun x y H Q => rCm X.K o x y H Q ∨ rDc o x y H Q) := by
  intro pins s σ H x y v u Q I rx ry h
  rcases h with h | h
  · exact cmr hu o pins s σ H x y v u Q I rx ry h
  · have hu1 : X.A.units + 1 < cLine := by omega
    rcases h with ⟨rfl, a, r, rfl, dg, q⟩ | ⟨rfl, a, r, rfl, dg, q⟩
    · cases ry
      exact d_in hu1 I dg rx fun s' I' => ⟨.bl r.isSome, H, I', rfl, q⟩
    · cases ry
      exact d_notIn hu1 I dg rx fun s' I' => ⟨.bl (!r.isSome), H, I', rfl, q⟩
theorem kyOf_rep {K : PySem.W.Frag} {L : Addr → Prop} {H : Hp} {x : D} {k : Ky} {w : V} (r : Rep K L H x w) (h : kyOf x = some k) : w = kV (toK k) ∧ okK k := by
  cases r with
  | int i => cases h; exact ⟨rfl, True.intro⟩
  | str o => cases h; exact ⟨rfl, o⟩
  | _ => cases h
theorem ky_peek {c : Glb} {g : G} {v : Vl} {w : V} {k : Ky} (ok : GOk c g) (r : RepV c g v w) (h : (peek g.S v).bind kyOf = some k) : w = kV (toK k) ∧ okK k := by
  rw [Option.bind_eq_some_iff] at h
  obtain ⟨x, h1, h2⟩ := h
  have p := peek_ok ok r h1
  cases x with
  | int i => exact kyOf_rep p h2
  | str s => exact kyOf_rep p h2
  | _ => cases h2
theorem dicOf_ok {c : Glb} {g : G} {v : Vl} {w : V} {kvs : List (Ky × D)} (ok : GOk c g) (r : RepV c g v w) (h : dicOf g.S v = some kvs) : ∃ (n : Nat) (a : Addr) (vs : List (Key × V)), v = .ref n ∧ w = .ref a ∧ g.ρ[n]? = some a ∧ (g.S : List Cell)[n]? = some (.dic kvs) ∧ g.H a = some (.dK vs) ∧ kvs.length ≤ lim ∧ RepKs c.K (live g) g.H kvs vs := by
  unfold dicOf at h
  split at h
  · rename_i n
    split at h
    · rename_i kvs' hs
      cases h
      cases r with
      | @ref _ a e =>
        obtain ⟨vs, q1, q2, q3⟩ := ok.cell n a _ e hs
        exact ⟨n, a, vs, rfl, rfl, e, hs, q1, q2, q3⟩
    · cases h
  · cases h
theorem cmV_ok {c : Glb} {g : G} {o : Cm} {v u : Vl} {wx wy : V} {k : Bool} {Q : VK} (ok : GOk c g) (hx : RepV c g v wx) (hy : RepV c g u wy) (h : cmV o v u g.S = some k) (q : Q (.bl k) g.H) : rCm c.K o wx wy g.H Q ∨ rDc o wx wy g.H Q := by
  unfold cmV at h
  split at h
  · rename_i kvs hd
    obtain ⟨n, a, vs, rfl, rfl, e1, e2, e3, e4, e5⟩ := dicOf_ok ok hy hd
    split at h
    · rename_i k2 hk
      cases h
      obtain ⟨rfl, o2⟩ := ky_peek ok hx hk
      refine .inr (.inl ⟨rfl, a, _, rfl, DGet.k e3, ?_⟩)
      rcases e5.val k2 with ⟨q1, q2⟩ | ⟨x, w, q1, q2, _⟩
      · rw [q2]; rw [q1] at q; exact q
      · rw [q2]; rw [q1] at q; exact q
    · rename_i k2 hk
      cases h
      obtain ⟨rfl, o2⟩ := ky_peek ok hx hk
      refine .inr (.inr ⟨rfl, a, _, rfl, DGet.k e3, ?_⟩)
      rcases e5.val k2 with ⟨q1, q2⟩ | ⟨x, w, q1, q2, _⟩
      · rw [q2]; rw [q1] at q; exact q
      · rw [q2]; rw [q1] at q; exact q
    · cases h
  · split at h
    · rename_i x y h1 h2
      exact .inl (cm_ok (peek_ok ok hx h1) (peek_ok ok hy h2) h q)
    · cases h
section
variable {c : Glb} {U : Env} {W : WX} {X : Cx} {e a b d : Expr} {l la lb ld : LE} {pos : Pos} {rest : List Expr}
theorem se_cmp {o : Cm} (hK : X.K = c.K) (hu : X.A.units + 200 < cLine) (ha : PE X a (tEv c U W la)) (hb : PE X b (tEv c U W lb)) (hm : behindInMarks (cmOf o) b = false) : PE X (.Compare a [cmOf o] [b] pos) (tEv c U W (.cmp o la lb)) :=
  PE.imp (pe_cmpR (cmrD hu o) ha hb hm) fun σ H Q => by
  rintro ⟨g, loc, rfl, ok, lo, out⟩
  refine ⟨g, loc, rfl, ok, lo, (Out.bind out).imp fun v g1 ⟨le1, ok1, out1⟩ w rw1 => ?_⟩
  refine ⟨g1, loc, rfl, ok1, lo.le ok le1, (Out.bind out1).imp fun v2 g2 ⟨le2, ok2, out2⟩ w2 rw2 => ?_⟩
  obtain ⟨k, hk, q⟩ := Out.opt out2
  rw [hK]
  exact cmV_ok ok2 (rw1.le ok1 le2) rw2 hk ((Out.here q ok2) _ (.d (.bl k)))
theorem st_cmp {o : Cm} (hK : X.K = c.K) (hu : X.A.units + 200 < cLine) (ha : PE X a (tEv c U W la)) (hb : PE X b (tEv c U W lb)) (hm : behindInMarks (cmOf o) b = false) : PT X (.Compare a [cmOf o] [b] pos) (tTv c U W (.cmp o la lb)) :=
  PT.imp (pt_cmpR (cmrD hu o) ha hb hm) fun σ H Q => by
  rintro ⟨g, loc, rfl, ok, lo, out⟩
  refine ⟨g, loc, rfl, ok, lo, (Out.bind out).imp fun v g1 ⟨le1, ok1, out1⟩ w rw1 => ?_⟩
  refine ⟨g1, loc, rfl, ok1, lo.le ok le1, (Out.bind out1).imp fun v2 g2 ⟨le2, ok2, out2⟩ w2 rw2 => ?_⟩
  obtain ⟨k, hk, q⟩ := Out.opt out2
  obtain ⟨k', e', q'⟩ := Out.here q ok2
  cases e'
  rw [hK]
  exact cmV_ok ok2 (rw1.le ok1 le2) rw2 hk ⟨k, rfl, q'⟩
theorem se_and (ha : PE X a (tEv c U W la)) (hb : PE X (.BoolOp .And (b :: rest) pos) (tEv c U W lb)) : PE X (.BoolOp .And (a :: b :: rest) pos) (tEv c U W (.and la lb)) := PE.imp (pe_and ha hb) fun σ H Q => by
  rintro ⟨g, loc, rfl, ok, lo, out⟩
  refine ⟨g, loc, rfl, ok, lo, (Out.bind out).imp fun v g1 ⟨le1, ok1, out1⟩ w rw1 => ?_⟩
  obtain ⟨k, hk, q⟩ := Out.opt out1
  refine ⟨k, asBool_rep rw1 hk, ?_⟩
  cases k with
  | true =>
    refine ⟨g1, loc, rfl, ok1, lo.le ok le1, (Out.bind q).imp fun v2 g2 ⟨le2, ok2, out2⟩ w2 rw2 => ?_⟩
    obtain ⟨m, hm, q2⟩ := Out.opt out2
    rw [asBool_rep rw2 hm]
    exact (Out.here q2 ok2) _ (.d (.bl m))
  | false => exact (Out.here q ok1) _ (.d (.bl _))
theorem se_or (ha : PE X a (tEv c U W la)) (hb : PE X (.BoolOp .Or (b :: rest) pos) (tEv c U W lb)) : PE X (.BoolOp .Or (a :: b :: rest) pos) (tEv c U W (.or la lb)) := PE.imp (pe_or ha hb) fun σ H Q => by
  rintro ⟨g, loc, rfl, ok, lo, out⟩
  refine ⟨g, loc, rfl, ok, lo, (Out.bind out).imp fun v g1 ⟨le1, ok1, out1⟩ w rw1 => ?_⟩
  obtain ⟨k, hk, q⟩ := Out.opt out1
  refine ⟨k, asBool_rep rw1 hk, ?_⟩
  cases k with
  | false =>
    refine ⟨g1, loc, rfl, ok1, lo.le ok le1, (Out.bind q).imp fun v2 g2 ⟨le2, ok2, out2⟩ w2 rw2 => ?_⟩
    obtain ⟨m, hm, q2⟩ := Out.opt out2
    rw [asBool_rep rw2 hm]
    exact (Out.here q2 ok2) _ (.d (.bl m))
  | true => exact (Out.here q ok1) _ (.d (.bl _))
theorem sw_and (ha : PT X a (tTv c U W la)) (hb : PW X (.BoolOp .And (b :: rest) pos) (tTv c U W lb)) : PW X (.BoolOp .And (a :: b :: rest) pos) (tTv c U W (.and la lb)) := PW.imp (pw_and ha hb) fun σ H Q => by
  rintro ⟨g, loc, rfl, ok, lo, out⟩
  refine ⟨g, loc, rfl, ok, lo, (Out.bind out).imp fun v g1 ⟨le1, ok1, out1⟩ => ?_⟩
  obtain ⟨k, hk, q⟩ := Out.opt out1
  refine ⟨k, hk, ?_⟩
  cases k with
  | true =>
    refine ⟨g1, loc, rfl, ok1, lo.le ok le1, (Out.bind q).imp fun v2 g2 ⟨le2, ok2, out2⟩ => ?_⟩
    obtain ⟨m, hm, q2⟩ := Out.opt out2
    obtain ⟨m', e', q'⟩ := Out.here q2 ok2
    cases e'
    exact ⟨m, hm, q'⟩
  | false =>
    obtain ⟨m', e', q'⟩ := Out.here q ok1
    cases e'
    exact q'
theorem sw_or (ha : PT X a (tTv c U W la)) (hb : PW X (.BoolOp .Or (b :: rest) pos) (tTv c U W lb)) : PW X (.BoolOp .Or (a :: b :: rest) pos) (tTv c U W (.or la lb)) := PW.imp (pw_or ha hb) fun σ H Q => by
  rintro ⟨g, loc, rfl, ok, lo, out⟩
  refine ⟨g, loc, rfl, ok, lo, (Out.bind out).imp fun v g1 ⟨le1, ok1, out1⟩ => ?_⟩
  obtain ⟨k, hk, q⟩ := Out.opt out1
  refine ⟨k, hk, ?_⟩
  cases k with
  | false =>
    refine ⟨g1, loc, rfl, ok1, lo.le ok le1, (Out.bind q).imp fun v2 g2 ⟨le2, ok2, out2⟩ => ?_⟩
    obtain ⟨m, hm, q2⟩ := Out.opt out2
    obtain ⟨m', e', q'⟩ := Out.here q2 ok2
    cases e'
    exact ⟨m, hm, q'⟩
  | true =>
    obtain ⟨m', e', q'⟩ := Out.here q ok1
    cases e'
    exact q'
theorem se_ife (hc : PT X d (tTv c U W ld)) (ha : PE X a (tEv c U W la)) (hb : PE X b (tEv c U W lb)) : PE X (.IfExp d a b pos) (tEv c U W (.ife ld la lb)) := PE.imp (pe_ifExp hc ha hb) fun σ H Q => by
  rintro ⟨g, loc, rfl, ok, lo, out⟩
  refine ⟨g, loc, rfl, ok, lo, (Out.bind out).imp fun v g1 ⟨le1, ok1, out1⟩ => ?_⟩
  obtain ⟨k, hk, q⟩ := Out.opt out1
  refine ⟨k, hk, ?_⟩
  cases k with
  | true => exact ⟨g1, loc, rfl, ok1, lo.le ok le1, q⟩
  | false => exact ⟨g1, loc, rfl, ok1, lo.le ok le1, q⟩
theorem se_chain {o p : Cm} (hK : X.K = c.K) (hu : X.A.units + 200 < cLine) (ha : PE X a (tEv c U W la)) (hb : PE X b (tEv c U W lb)) (hd : PE X d (tEv c U W ld)) (hm2 : behindInMarks (cmOf p) d = false) :
    PE X (.Compare a [cmOf o, cmOf p] [b, d] pos) (tEv c U W (.chain o p la lb ld)) := PE.imp (pe_chain (cmrD hu o) (cmrD hu p) ha hb hd hm2) fun σ H Q => by
  rintro ⟨g, loc, rfl, ok, lo, out⟩
  refine ⟨g, loc, rfl, ok, lo, (Out.bind out).imp fun v g1 ⟨le1, ok1, out1⟩ w rw1 => ?_⟩
  refine ⟨g1, loc, rfl, ok1, lo.le ok le1, (Out.bind out1).imp fun v2 g2 ⟨le2, ok2, out2⟩ w2 rw2 => ?_⟩
  obtain ⟨k, hk, q⟩ := Out.opt out2
  rw [hK]
  refine cmV_ok ok2 (rw1.le ok1 le2) rw2 hk ⟨k, rfl, ?_⟩
  cases k with
  | true =>
    refine ⟨g2, loc, rfl, ok2, (lo.le ok le1).le ok1 le2, (Out.bind q).imp fun v3 g3 ⟨le3, ok3, out3⟩ w3 rw3 => ?_⟩
    obtain ⟨m, hm, q3⟩ := Out.opt out3
    exact cmV_ok ok3 (rw2.le ok2 le3) rw3 hm ((Out.here q3 ok3) _ (.d (.bl m)))
  | false => exact (Out.here q ok2) _ (.d (.bl _))
end
end EV
end

section
set_option Elab.async false
set_option linter.all false
set_option maxRecDepth 100000
set_option maxHeartbeats 1000000
/-! EV6: displays, parts, calls, built-ins -/
namespace EV
open PySem PySem.Spec PyProof.Rows L2
/-! ### shapes of expressions -/
def plainX : Expr → Bool
  | .Starred .. => false
  | .Set .. => false
  | .Slice .. => false
  | _ => true
def baseX : Expr → Bool
  | .Call (.Name x _) [] [] _ => x != "super"
  | _ => true
theorem star_cons {e : Expr} {es : List Expr} {env : PySem.Env} (h : plainX e = true) : starEach (e :: es) env = (false, eval e env) :: starEach es env := by
  cases e <;> first | rfl | cases h
theorem star_any {env : PySem.Env} : ∀ {es : List Expr}, es.all plainX = true → ∀ pos, (backTo pos (starEach es env)).any (·.1) = false
  | [], _, _ => rfl
  | e :: es, h, pos => by
    rw [List.all_cons, Bool.and_eq_true] at h
    rw [star_cons h.1]
    show (false || (backTo pos (starEach es env)).any (·.1)) = false
    rw [star_any h.2 pos]
    rfl
theorem star_all {env : PySem.Env} : ∀ {es : List Expr}, es.all plainX = true → ∀ pos, (backTo pos (starEach es env)).all (fun x => !x.1) = true
  | [], _, _ => rfl
  | e :: es, h, pos => by
    rw [List.all_cons, Bool.and_eq_true] at h
    rw [star_cons h.1]
    show (true && (backTo pos (starEach es env)).all (fun x => !x.1)) = true
    rw [star_all h.2 pos]
    rfl
theorem few_ok {env : PySem.Env} {es : List Expr} {pos : Pos} (h : es.all plainX = true) (hl : es.length < 20) : ((backTo pos (starEach es env)).all (fun x => !x.1) && (backToKw pos (keywordEach [] env)).all (fun x => x.1.isSome)
      && decide (es.length + ([] : List Keyword).length + (if ([] : List Keyword).isEmpty then 0 else 1) < 30)) = true := by
  rw [star_all h]
  simp [keywordEach, backToKw]
  omega
theorem base_ok {o : Expr} {name : Str} {env : PySem.Env} (h : baseX o = true) (w : Sem Value) : attributeBase o name env w = w := by
  unfold attributeBase
  split
  · rename_i id p pos
    have h : (id != ("super" : Str)) = true := h
    rw [h]
    simp
  · rfl
theorem nomark_ok {op : CmpOp} {b : Expr} (h : plainX b = true) : behindInMarks op b = false := by
  cases b <;> first | rfl | cases h
theorem plainIx_ok {b : Expr} (h : plainX b = true) : PlainIx b := fun o i => by
  cases b <;> first | rfl | cases h
/-! ### lists of values -/
section
variable {c : Glb} {g : G}
theorem take_ok (ok : GOk c g) {v : Vl} {w : V} {x : D} {S' : Sto} (r : RepV c g v w) (h : take g.S v = some (x, S')) : GOk c { g with S := S' } ∧ Le g { g with S := S' } ∧ Rep c.K (live { g with S := S' }) g.H x w := by
  cases r with
  | d r => cases h; exact ⟨ok, Le.refl g, r⟩
  | @ref n a e =>
    have h : (match (g.S : List Cell)[n]? with | some (.lst ds) => some (D.lst ds, g.S.set n (.fzn ds)) | some (.fzn ds) => some (.lst ds, g.S) | _ => none) = some (x, S') := h
    split at h
    · rename_i ds hs
      cases h
      obtain ⟨o, r⟩ := gok_fzn ok e hs
      exact ⟨o, le_fzn ok e hs, r⟩
    · rename_i ds hs
      cases h
      exact ⟨ok, Le.refl g, ok.cell _ _ _ e hs⟩
    · cases h
  | fnv e => cases h
  | exn e => cases h
  | clo => cases h
  | scr => cases h
theorem takes_ok : ∀ {vs : List Vl} {g : G} {ws : List V} {xs : List D} {S' : Sto}, GOk c g → RepVs c g vs ws → takes g.S vs = some (xs, S') → GOk c { g with S := S' } ∧ Le g { g with S := S' } ∧ Reps c.K (live { g with S := S' }) g.H xs ws
  | [], g, ws, xs, S', ok, r, h => by cases h; cases r; exact ⟨ok, Le.refl g, .nil⟩
  | v :: vs, g, ws, xs, S', ok, r, h => by
    cases r with
    | cons r1 r2 =>
      unfold takes at h
      split at h
      · rename_i x S1 h1
        split at h
        · rename_i ys S2 h2
          cases h
          obtain ⟨ok1, le1, q1⟩ := take_ok ok r1 h1
          obtain ⟨ok2, le2, q2⟩ := takes_ok (g := { g with S := S1 }) ok1 (r2.le ok le1) h2
          exact ⟨ok2, le1.trans le2, .cons (Rep.le (g := { g with S := S1 }) q1 ok1 le2) q2⟩
        · cases h
      · cases h
theorem takes_len : ∀ {vs : List Vl} {S : Sto} {xs : List D} {S' : Sto}, takes S vs = some (xs, S') → xs.length = vs.length
  | [], _, _, _, h => by cases h; rfl
  | v :: vs, S, xs, S', h => by
    unfold takes at h
    split at h
    · split at h
      · rename_i h2
        cases h
        simp [takes_len h2]
      · cases h
    · cases h
inductive Pks (c : Glb) (g : G) : List D → List V → Prop
  | nil : Pks c g [] []
  | cons {x : D} {w : V} {xs : List D} {ws : List V} : Pk c g x w → Pks c g xs ws → Pks c g (x :: xs) (w :: ws)
theorem peeks_ok (ok : GOk c g) : ∀ {vs : List Vl} {ws : List V} {xs : List D}, RepVs c g vs ws → peeks g.S vs = some xs → Pks c g xs ws
  | [], _, _, r, h => by cases h; cases r; exact .nil
  | v :: vs, _, _, r, h => by
    cases r with
    | cons r1 r2 =>
      unfold peeks at h
      split at h
      · rename_i x xs h1 h2
        cases h
        exact .cons (peek_ok ok r1 h1) (peeks_ok ok r2 h2)
      · cases h
end
/-- how many -/
def lenEs : LEs → Nat
  | .nil => 0
  | .cons _ es => lenEs es + 1
theorem evEs_len {U : Env} : ∀ {es : LEs} {l : Loc} {S : Sto} {vs : List Vl} {S' : Sto}, evEs U es l S = .ok vs S' → vs.length = lenEs es
  | .nil, l, S, vs, S', h => by simp only [evEs] at h; cases h; rfl
  | .cons e es, l, S, vs, S', h => by
    simp only [evEs] at h
    cases h1 : evE U e l S with
    | ok v S1 =>
      rw [h1] at h; simp only [R.bind_ok] at h
      cases h2 : evEs U es l S1 with
      | ok ws S2 => rw [h2] at h; cases h; simp [evEs_len h2, lenEs]
      | exc => rw [h2] at h; cases h
      | stuck => rw [h2] at h; cases h
    | exc => rw [h1] at h; cases h
    | stuck => rw [h1] at h; cases h
theorem Out.imp' {α : Type} {c : Glb} {g : G} {W : WX} {σ : L2.St} {r : R α} {k k' : α → G → Prop} (h : Out c g W σ r k) (i : ∀ a g', r = .ok a g'.S → k a g' → k' a g') : Out c g W σ r k' := by
  cases r with
  | ok a S' => intro ρ' H' ok le; exact i _ _ rfl (h ρ' H' ok le)
  | exc n xs S' => exact h
  | stuck => exact h
section
variable {c : Glb} {U : Env} {W : WX} {X : Cx} {e a b d : Expr} {l la lb ld : LE} {pos : Pos} {es : List Expr} {ls : LEs}
theorem sa_nil : PA X [] (tEvs c U W .nil) := PA.imp pa_nil fun σ H Q => by
  rintro ⟨g, loc, rfl, ok, lo, out⟩
  exact (Out.here out ok) [] .nil
theorem sa_cons (hp : plainX e = true) (ha : PE X e (tEv c U W l)) (hs : PA X es (tEvs c U W ls)) : PA X (e :: es) (tEvs c U W (.cons l ls)) := PA.imp (pa_cons ha hs (star_cons hp)) fun σ H Q => by
  rintro ⟨g, loc, rfl, ok, lo, out⟩
  refine ⟨g, loc, rfl, ok, lo, (Out.bind out).imp fun v g1 ⟨le1, ok1, out1⟩ w rw1 => ?_⟩
  refine ⟨g1, loc, rfl, ok1, lo.le ok le1, (Out.bind out1).imp fun vs g2 ⟨le2, ok2, out2⟩ ws rws => ?_⟩
  exact (Out.here out2 ok2) _ (.cons (rw1.le ok1 le2) rws)
theorem small_lim {n : Nat} (h : n ≤ 100000) : n ≤ lim := Nat.le_trans h (by decide)
theorem se_tup {x1 : Nat} (hl : lenEs ls ≤ 100000) (hs : PA X es (tEvs c U W ls)) : PE X (.Tuple es x1 pos) (tEvN c U W (.tup ls)) := PE.imp (pe_tup hs) fun σ H Q => by
  rintro ⟨g, loc, rfl, ok, lo, out⟩
  refine ⟨g, loc, rfl, ok, lo, Out.imp' (Out.bind out) fun vs g1 eq ⟨le1, ok1, out1⟩ ws rws => ?_⟩
  obtain ⟨⟨xs, S2⟩, hp, q⟩ := Out.opt out1
  obtain ⟨ok2, le2, r2⟩ := takes_ok ok1 rws hp
  have len : xs.length ≤ lim := small_lim (by rw [takes_len hp, evEs_len eq]; exact hl)
  obtain ⟨z, e', q'⟩ := Out.here (Out.le q le2) ok2
  cases e'
  exact ⟨by rw [← r2.length, ← lim_eq]; exact len, fun p hp => OutN.tup (g := { g1 with S := S2 }) ok2 q' hp len r2⟩
theorem se_lst (hl : lenEs ls ≤ 100000) (hs : PA X es (tEvs c U W ls)) : PE X (.List es pos) (tEvN c U W (.lst ls)) := PE.imp (pe_lst hs) fun σ H Q => by
  rintro ⟨g, loc, rfl, ok, lo, out⟩
  refine ⟨g, loc, rfl, ok, lo, Out.imp' (Out.bind out) fun vs g1 eq ⟨le1, ok1, out1⟩ ws rws => ?_⟩
  obtain ⟨⟨xs, S2⟩, hp, q⟩ := Out.opt out1
  obtain ⟨ok2, le2, r2⟩ := takes_ok ok1 rws hp
  have len : xs.length ≤ lim := small_lim (by rw [takes_len hp, evEs_len eq]; exact hl)
  obtain ⟨z, e', q'⟩ := Out.here (Out.le q le2) ok2
  cases e'
  exact ⟨by rw [← r2.length, ← lim_eq]; exact len, fun p hp => q' p _ hp len r2⟩
/-! ### an item -/
theorem ixI_eq (n : Nat) (i : Int) : ixI n i = ixN n i := rfl
theorem idx_ok {g : G} {x y z : D} {wx wy : V} {Q : VK} (hx : Pk c g x wx) (hy : Pk c g y wy) (h : idxD x y = some z) (q : ∀ w, Rep c.K (live g) g.H z w → Q w g.H) : rIx c.K wx wy g.H Q := by
  unfold idxD at h
  split at h
  · cases hy
    cases hx with
    | @tup a ds vs hs hl hr =>
      rename_i i
      rw [Option.bind_eq_some_iff] at h
      obtain ⟨j, h1, h2⟩ := h
      obtain ⟨w, h3, h4⟩ := hr.get h2
      refine .inr (.inl ⟨_, _, _, w, rfl, rfl, hs, ?_, q w h4⟩)
      unfold atI
      rw [← hr.length, ← ixI_eq, h1]
      exact h3
  · cases hy
    obtain ⟨a, vs, rfl, hs, hl, hr⟩ := hx
    rw [Option.bind_eq_some_iff] at h
    obtain ⟨j, h1, h2⟩ := h
    obtain ⟨w, h3, h4⟩ := hr.get h2
    refine .inl ⟨_, _, _, w, rfl, rfl, SqL.of hs, ?_, q w h4⟩
    unfold atI
    rw [← hr.length, ← ixI_eq, h1]
    exact h3
  · cases hy
    cases hx with
    | str o =>
      split at h
      · rename_i s i hl
        rw [Option.map_eq_some_iff] at h
        obtain ⟨k, h1, rfl⟩ := h
        rw [Option.bind_eq_some_iff] at h1
        obtain ⟨j, h1, h2⟩ := h1
        refine .inr (.inr ⟨_, _, k, rfl, rfl, by rw [SS_length, ← lim_eq]; exact hl, ?_, q _ (.str fun x hx => ?_)⟩)
        · unfold atI
          have e : (SS s).cps.toList = s := by simp [SS]
          rw [e, ← ixI_eq, h1]
          exact h2
        · have e : x = k := by simpa using hx
          subst e
          exact o _ (List.mem_of_getElem? h2)
      · cases h
  · cases h
def rDx : R2 := fun x y H Q => ∃ a v, x = .ref a ∧ DGet H a y (some v) ∧ Q v H
theorem ix_dic (hu : X.A.units + 200 < cLine) : IxR X rDx := by
  intro value slice pins s σ H x y v u Q I rx ry h hs
  obtain ⟨a, z, rfl, dg, q⟩ := h
  cases rx
  have hu1 : X.A.units + 1 < cLine := by omega
  exact tail_any (dict_typeIs I dg) PySem.F.slot_dict_getitem.lookup (d_getItem hu1 I dg ry fun w1 s1 I1 rw1 => ⟨z, H, I1, rw1, q⟩) hs
theorem idxV_ok {g : G} {v u : Vl} {z : D} {wx wy : V} {Q : VK} (ok : GOk c g) (hx : RepV c g v wx) (hy : RepV c g u wy) (h : idxV v u g.S = some z) (q : ∀ w, Rep c.K (live g) g.H z w → Q w g.H) : rIx c.K wx wy g.H Q ∨ rDx wx wy g.H Q := by
  unfold idxV at h
  split at h
  · rename_i kvs hd
    obtain ⟨n, a, vs, rfl, rfl, e1, e2, e3, e4, e5⟩ := dicOf_ok ok hx hd
    rw [Option.bind_eq_some_iff] at h
    obtain ⟨k, hk, hz⟩ := h
    obtain ⟨rfl, o2⟩ := ky_peek ok hy hk
    rcases e5.val k with ⟨q1, q2⟩ | ⟨x, w, q1, q2, q3⟩
    · rw [q1] at hz; cases hz
    · rw [q1] at hz
      cases hz
      have dg := DGet.k (k := toK k) e3
      rw [q2] at dg
      exact .inr ⟨a, w, rfl, dg, q w q3⟩
  · split at h
    · rename_i x y h1 h2
      exact .inl (idx_ok (peek_ok ok hx h1) (peek_ok ok hy h2) h q)
    · cases h
theorem se_idx (hK : X.K = c.K) (hu : X.A.units + 200 < cLine) (hp : plainX b = true) (ha : PE X a (tEv c U W la)) (hb : PE X b (tEv c U W lb)) : PE X (.Subscript a b pos) (tEv c U W (.idx la lb)) := PE.imp (pe_ix (ix_seq.or (ix_dic hu)) ha hb (plainIx_ok hp)) fun σ H Q => by
  rintro ⟨g, loc, rfl, ok, lo, out⟩
  refine ⟨g, loc, rfl, ok, lo, (Out.bind out).imp fun v g1 ⟨le1, ok1, out1⟩ w rw1 => ?_⟩
  refine ⟨g1, loc, rfl, ok1, lo.le ok le1, (Out.bind out1).imp fun v2 g2 ⟨le2, ok2, out2⟩ w2 rw2 => ?_⟩
  obtain ⟨z, hz, q⟩ := Out.opt out2
  rw [hK]
  exact idxV_ok ok2 (rw1.le ok1 le2) rw2 hz fun w r => (Out.here q ok2) w (.d r)
/-! ### a call of a def of the text -/
/-- a def's promise: the evaluator's answer -/
def spF (c : Glb) (U : Env) (f np : Nat) : Sp := fun vs H Q E => ∃ (g : G) (ds : List Vl), g.H = H ∧ GOk c g ∧ RepVs c g ds vs ∧ ds.length = np ∧ Out c g (fun cls d _ H' => E cls d H') [] (U.cf f ds g.S) (fun v g' => ∀ w, RepV c g' v w → Q w g'.H)
theorem se_call {f np k : Nat} {fa : Addr} {fd : FuncData} {ps : List Str} {x : String} {p : Pos} (F : FnOk X.prog X.w X.K X.mg X.base (L2.CX X.prog X.w) k fa fd ps (spF c U f np)) (hr : Room k X.A) (hg : Gl X x) (hm : X.mg x = some (.ref fa)) (hk : PySem.W.keepIn X.K (.ref fa) = true) (hb : Binds X.K fd ps [])
    (tk : Takes X W) (hes : (e :: es).all plainX = true) (hn : lenEs ls = np) (ha : PA X (e :: es) (tEvs c U W ls)) (hdb : ((x : Str) == ("__debug__" : Str)) = false) : PE X (.Call (.Name x p) (e :: es) [] pos) (tEv c U W (.call f x ls)) := by
  rw [List.all_cons, Bool.and_eq_true] at hes
  refine PE.imp (pe_callS (E := WE W) F hr hg hm hk hb (fun σ => passAt tk σ) ha hdb (star_cons hes.1) (star_any hes.2 _)) fun σ H Q => ?_
  rintro ⟨g, loc, rfl, ok, lo, out⟩
  refine ⟨g, loc, rfl, ok, lo, Out.imp' (Out.bind out) fun vs g1 eq ⟨le1, ok1, out1⟩ ws rws => ?_⟩
  refine ⟨g1, vs, rfl, ok1, rws, by rw [evEs_len eq, hn], ?_⟩
  exact out1
/-- a call of what a name holds -/
theorem pe_callD {i : Nat} {x : Str} {p : Pos} {t : TA} {AV : Nat → Addr → Prop} {sp : Nat → Sp} (tk : Takes X W)
    (A : ∀ f a, AV f a → ∃ (k : Nat) (fd : FuncData) (ps : List Str), FnOk X.prog X.w X.K X.mg X.base (L2.CX X.prog X.w) k a fd ps (sp f) ∧ Room k X.A ∧ PySem.W.keepIn X.K (.ref a) = true ∧ Binds X.K fd ps [])
    (hN : X.N[i]? = some x) (hv : Vis X.env.scope x) (hes : (e :: es).all plainX = true) (ha : PA X (e :: es) t) (hdb : (x == ("__debug__" : Str)) = false) (hcd : (x == ("__classdict__" : Str)) = false) :
    PE X (.Call (.Name x p) (e :: es) [] pos) (fun σ H Q => ∃ f a, σ[i]? = some (some (.ref a)) ∧ AV f a ∧ t σ H fun vs H1 => sp f vs H1 Q (WE W σ)) := by
  rw [List.all_cons, Bool.and_eq_true] at hes
  refine ⟨fun pins s σ H Q I h => ?_⟩
  obtain ⟨f, a, hs, av, ht⟩ := h
  obtain ⟨k, fd, ps, F, hr, hk, hb⟩ := A f a av
  refine wpAny_Call_Name_kw (thn ((pe_var (pos := p) hN hv hdb hcd).run pins s σ H (fun v H1 => v = .ref a ∧ H1 = H) I ⟨.ref a, hs, rfl, rfl⟩) fun u s1 ⟨v, H1, I1, r1, q1⟩ => ?_)
  obtain ⟨rfl, rfl⟩ := q1
  cases r1
  refine PySem.W.callWith_K (h₀ := X.base) I.ok.mod.kin hk (thn (ha.run pos pins s1 σ _ _ I1 ht) fun us s2 ⟨vs, H2, I2, r, q⟩ => ⟨I2.kIn, ?_⟩) (star_cons hes.1) (star_any hes.2 _)
  exact run_fnS F hr hb (passAt tk σ) I2 r q
end
end EV
end

section
set_option Elab.async false
set_option linter.all false
set_option maxRecDepth 100000
set_option maxHeartbeats 1000000
/-! EVM: min, max, sorted of data of one kind -/
namespace EV
open PySem PySem.Spec PyProof.Rows L2
mutual
theorem toPy_inj : ∀ {x y : D}, toPy x = toPy y → x = y
  | .non, y, h => by cases y <;> first | rfl | (simp [toPy] at h)
  | .bl a, y, h => by cases y <;> simp [toPy] at h; rw [h]
  | .int a, y, h => by cases y <;> simp [toPy] at h; rw [h]
  | .str a, y, h => by
    cases y <;> simp only [toPy, PyData.str.injEq, reduceCtorEq] at h
    rw [SS_inj h]
  | .tup xs, y, h => by
    cases y <;> simp only [toPy, PyData.tuple.injEq, reduceCtorEq] at h
    rw [toPys_inj h]
  | .lst xs, y, h => by
    cases y <;> simp only [toPy, PyData.list.injEq, reduceCtorEq] at h
    rw [toPys_inj h]
theorem toPys_inj : ∀ {xs ys : List D}, toPys xs = toPys ys → xs = ys
  | [], ys, h => by cases ys <;> first | rfl | (simp [toPys] at h)
  | x :: xs, ys, h => by
    cases ys with
    | nil => simp [toPys] at h
    | cons y ys =>
      simp only [toPys, List.cons.injEq] at h
      rw [toPy_inj h.1, toPys_inj h.2]
end
mutual
theorem like_alike : ∀ {x y : D}, likeD x y = true → PySem.W.alike (toPy x) (toPy y) = true
  | .non, y, h => by cases y <;> simp [likeD] at h
  | .bl a, y, h => by cases y <;> simp [likeD] at h
  | .int a, y, h => by cases y <;> simp [likeD] at h; simp [toPy, PySem.W.alike]
  | .str a, y, h => by cases y <;> simp [likeD] at h; simp [toPy, PySem.W.alike]
  | .tup xs, y, h => by
    cases y <;> simp only [likeD, Bool.false_eq_true] at h
    simp only [toPy, PySem.W.alike]
    exact likes_alike h
  | .lst xs, y, h => by
    cases y <;> simp only [likeD, Bool.false_eq_true] at h
    simp only [toPy, PySem.W.alike]
    exact likes_alike h
theorem likes_alike : ∀ {xs ys : List D}, likeDs xs ys = true → PySem.W.alikeAll (toPys xs) (toPys ys) = true
  | [], ys, h => by cases ys <;> simp [toPys, PySem.W.alikeAll]
  | x :: xs, [], h => by simp [toPys, PySem.W.alikeAll]
  | x :: xs, y :: ys, h => by
    simp only [likeDs, Bool.and_eq_true] at h
    simp only [toPys, PySem.W.alikeAll, Bool.and_eq_true]
    exact ⟨like_alike h.1, likes_alike h.2⟩
end
theorem like_non {x y : D} (h : likeD x y = true) : toPy x ≠ .none := by
  cases x <;> first | (simp [toPy]; done) | (cases y <;> simp [likeD] at h)
mutual
theorem lt_like : ∀ {x y : D}, likeD x y = true → ltD x y = some (PySem.W.dataLt (toPy x) (toPy y))
  | .non, y, h => by cases y <;> simp [likeD] at h
  | .bl a, y, h => by cases y <;> simp [likeD] at h
  | .int a, y, h => by cases y <;> simp [likeD] at h; simp [toPy, ltD, PySem.W.dataLt_int]
  | .str a, y, h => by
    cases y <;> simp [likeD] at h
    simp [toPy, ltD, PySem.W.dataLt_str, ltS, SS]
  | .tup xs, y, h => by
    cases y <;> simp only [likeD, Bool.false_eq_true] at h
    simp only [toPy, ltD, PySem.W.dataLt_tuple]
    exact lts_like h
  | .lst xs, y, h => by
    cases y <;> simp only [likeD, Bool.false_eq_true] at h
    simp only [toPy, ltD, PySem.W.dataLt_list]
    exact lts_like h
theorem lts_like : ∀ {xs ys : List D}, likeDs xs ys = true → ltDs xs ys = some (PyProof.Rows.lexLt itemOrd (PySem.W.keyToksAll (toPys xs)) (PySem.W.keyToksAll (toPys ys)))
  | [], [], h => by simp only [ltDs, toPys]; rw [PyProof.Rows.lex_irrefl]
  | [], y :: ys, h => by
    simp only [ltDs, toPys, PySem.W.toks_all_cons]
    simp only [PySem.W.keyToksAll]
    rw [PyProof.Rows.lex_diff (O := itemOrd) (by simp)]
    rfl
  | x :: xs, [], h => by
    simp only [ltDs, toPys, PySem.W.toks_all_cons]
    simp only [PySem.W.keyToksAll]
    rw [PyProof.Rows.lex_diff (O := itemOrd) (by simp)]
    rfl
  | x :: xs, y :: ys, h => by
    simp only [likeDs, Bool.and_eq_true] at h
    simp only [ltDs, toPys]
    have e := eqv_toPy x y
    cases hx : eqD x y with
    | true =>
      rw [hx] at e
      rw [if_pos rfl, PySem.W.dataLt_all_yes (like_alike h.1) e]
      exact lts_like h.2
    | false =>
      rw [hx] at e
      rw [if_neg (by simp), PySem.W.dataLt_all_no (like_alike h.1) e]
      exact lt_like h.1
end
theorem alikes_iff {ds : List D} (h : alikes ds = true) : ∀ x ∈ ds, ∀ y ∈ ds, likeD x y = true := by
  unfold alikes at h
  simp only [List.all_eq_true] at h
  exact h
theorem least_fold : ∀ {ds : List D} {m z : D}, (∀ x ∈ m :: ds, ∀ y ∈ m :: ds, likeD x y = true) → leastD m ds = some z → z ∈ m :: ds ∧ toPy z = PySem.W.minD (toPy m) (toPys ds)
  | [], m, z, h, e => by cases e; exact ⟨by simp, rfl⟩
  | d :: ds, m, z, h, e => by
    have q := lt_like (h d (by simp) m (by simp))
    simp only [leastD, q] at e
    have st : PySem.W.minD (toPy m) (toPys (d :: ds)) = PySem.W.minD (if PySem.W.dataLt (toPy d) (toPy m) = true then toPy d else toPy m) (toPys ds) := rfl
    rw [st]
    cases hb : PySem.W.dataLt (toPy d) (toPy m) with
    | true =>
      rw [hb] at e
      obtain ⟨h1, h2⟩ := least_fold (m := d) (fun x hx y hy => h x (List.mem_cons_of_mem _ hx) y (List.mem_cons_of_mem _ hy)) e
      exact ⟨List.mem_cons_of_mem _ h1, by rw [if_pos rfl]; exact h2⟩
    | false =>
      rw [hb] at e
      have sub : ∀ x ∈ m :: ds, x ∈ m :: d :: ds := fun x hx => by
        rcases List.mem_cons.mp hx with z | z
        · rw [z]; exact List.mem_cons_self
        · exact List.mem_cons_of_mem _ (List.mem_cons_of_mem _ z)
      obtain ⟨h1, h2⟩ := least_fold (m := m) (fun x hx y hy => h x (sub x hx) y (sub y hy)) e
      exact ⟨sub _ h1, by rw [if_neg (by simp)]; exact h2⟩
theorem most_fold : ∀ {ds : List D} {m z : D}, (∀ x ∈ m :: ds, ∀ y ∈ m :: ds, likeD x y = true) → mostD m ds = some z → z ∈ m :: ds ∧ toPy z = PySem.W.maxD (toPy m) (toPys ds)
  | [], m, z, h, e => by cases e; exact ⟨by simp, rfl⟩
  | d :: ds, m, z, h, e => by
    have q := lt_like (h m (by simp) d (by simp))
    simp only [mostD, q] at e
    have st : PySem.W.maxD (toPy m) (toPys (d :: ds)) = PySem.W.maxD (if PySem.W.dataLt (toPy m) (toPy d) = true then toPy d else toPy m) (toPys ds) := rfl
    rw [st]
    cases hb : PySem.W.dataLt (toPy m) (toPy d) with
    | true =>
      rw [hb] at e
      obtain ⟨h1, h2⟩ := most_fold (m := d) (fun x hx y hy => h x (List.mem_cons_of_mem _ hx) y (List.mem_cons_of_mem _ hy)) e
      exact ⟨List.mem_cons_of_mem _ h1, by rw [if_pos rfl]; exact h2⟩
    | false =>
      rw [hb] at e
      have sub : ∀ x ∈ m :: ds, x ∈ m :: d :: ds := fun x hx => by
        rcases List.mem_cons.mp hx with z | z
        · rw [z]; exact List.mem_cons_self
        · exact List.mem_cons_of_mem _ (List.mem_cons_of_mem _ z)
      obtain ⟨h1, h2⟩ := most_fold (m := m) (fun x hx y hy => h x (sub x hx) y (sub y hy)) e
      exact ⟨sub _ h1, by rw [if_neg (by simp)]; exact h2⟩
/-! ### the calls -/
def rLeastD (f : D → List D → Option D) (K : PySem.W.Frag) : List V → Hp → VK → Prop := fun xs H Q => ∃ (a : Addr) (vs : List V) (m : D) (ds : List D) (z : D), xs = [.ref a] ∧ SqL K H a vs ∧ DpAll K H vs (toPys (m :: ds)) ∧ alikes (m :: ds) = true ∧ deps (m :: ds) ≤ 60 ∧ f m ds = some z ∧
  ∀ (i : Nat) (v : V), vs[i]? = some v → (m :: ds)[i]? = some z → Q v H
section
variable {X : Cx}
theorem least_item {h : PySem.Heap} {its : List Value} {m z : D} {ds : List D} {as bs : List Addr} {i : Nat} {u : Value} {p : PyData} (ha : alikes (m :: ds) = true) (hr : ReadsAll h its (toPys (m :: ds)) as) (hz : z ∈ m :: ds) (e : toPy z = p) (hi : its[i]? = some u) (r : Reads h u p bs) : (m :: ds)[i]? = some z := by
  obtain ⟨cs, r2, hl, _, _⟩ := PySem.W.readsAll_at hr i u hi
  have hl' : i < (m :: ds).length := by rw [toPys_map, List.length_map] at hl; exact hl
  have e1 : (toPys (m :: ds)).getD i .none = toPy (m :: ds)[i] := by
    rw [toPys_map, List.getD_eq_getElem?_getD, List.getElem?_map, List.getElem?_eq_getElem hl']
    rfl
  rw [e1] at r2
  subst e
  have hm : (m :: ds)[i] ∈ m :: ds := List.getElem_mem hl'
  have := PySem.W.alike_unique _ _ _ _ _ (like_alike (alikes_iff ha _ hm _ hz)) r2 r
  rw [List.getElem?_eq_getElem hl', toPy_inj this]
theorem cr_leastD (hc : X.calm = true) (hu : X.A.units + 200 < cLine) : CallR X (.builtin "min") (rLeastD leastD X.K) := by
  intro pins s σ H xs us Q I rs q
  obtain ⟨a, vs, m, ds, z, rfl, hs, hd, ha, hp, hz, q⟩ := q
  obtain ⟨its, rv, hl, hlen⟩ := I.list hs
  obtain rfl := Vals.ref1 rs
  obtain ⟨as, hr⟩ := Dp.readsAll I _ _ _ hd rv
  obtain ⟨z1, z2⟩ := least_fold (alikes_iff ha) hz
  have hA : PySem.W.AlikeAll (toPys (m :: ds)) := by
    rw [toPys_map]
    refine ⟨fun x hx y hy => ?_, fun x hx => ?_⟩
    · obtain ⟨x', hx', rfl⟩ := List.mem_map.mp hx
      obtain ⟨y', hy', rfl⟩ := List.mem_map.mp hy
      exact like_alike (alikes_iff ha _ hx' _ hy')
    · obtain ⟨x', hx', rfl⟩ := List.mem_map.mp hx
      exact like_non (alikes_iff ha _ hx' _ hx')
  have hdep : PyData.depthAll (toPys (m :: ds)) ≤ 60 := by rw [depth_toPys]; exact hp
  refine PySem.W.min_list_data (x := toPy m) (xs := toPys ds) (as := as) (I.ok.hd hc) hl.isList hr hA (by show _ + 1 + PyData.depthAll (toPys (m :: ds)) < _; omega) fun i u h' tk bs hi r hk => ?_
  have hi' : its[i]? = some u := by simpa using hi
  obtain ⟨v, hv, rvu⟩ : ∃ v, vs[i]? = some v ∧ RelV v u := by
    have hlt := (List.getElem?_eq_some_iff.mp hi').1
    have hlt2 : i < vs.length := by rw [rv.length]; exact hlt
    obtain ⟨u', k1, k2⟩ := Vals.get rv (List.getElem?_eq_getElem hlt2)
    rw [hi'] at k1
    cases k1
    exact ⟨vs[i], List.getElem?_eq_getElem hlt2, k2⟩
  obtain ⟨cs, r2, hl2, _, _⟩ := PySem.W.readsAll_at hr i u hi'
  have r3 := PySem.W.reads_keeps hk r2
  have hl' : i < (m :: ds).length := by rw [toPys_map, List.length_map] at hl2; exact hl2
  have e1 : (toPys (m :: ds)).getD i .none = toPy (m :: ds)[i] := by
    rw [toPys_map, List.getD_eq_getElem?_getD, List.getElem?_map, List.getElem?_eq_getElem hl']
    rfl
  rw [e1] at r3
  rw [← z2] at r
  have hm : (m :: ds)[i] ∈ m :: ds := List.getElem_mem hl'
  have e2 := toPy_inj (PySem.W.alike_unique _ _ _ _ _ (like_alike (alikes_iff ha _ hm _ z1)) r3 r)
  exact ⟨v, H, I.kept (t' := tk) hk, rvu, q i v hv (by rw [List.getElem?_eq_getElem hl', e2])⟩
theorem cr_mostD (hc : X.calm = true) (hu : X.A.units + 200 < cLine) : CallR X (.builtin "max") (rLeastD mostD X.K) := by
  intro pins s σ H xs us Q I rs q
  obtain ⟨a, vs, m, ds, z, rfl, hs, hd, ha, hp, hz, q⟩ := q
  obtain ⟨its, rv, hl, hlen⟩ := I.list hs
  obtain rfl := Vals.ref1 rs
  obtain ⟨as, hr⟩ := Dp.readsAll I _ _ _ hd rv
  obtain ⟨z1, z2⟩ := most_fold (alikes_iff ha) hz
  have hA : PySem.W.AlikeAll (toPys (m :: ds)) := by
    rw [toPys_map]
    refine ⟨fun x hx y hy => ?_, fun x hx => ?_⟩
    · obtain ⟨x', hx', rfl⟩ := List.mem_map.mp hx
      obtain ⟨y', hy', rfl⟩ := List.mem_map.mp hy
      exact like_alike (alikes_iff ha _ hx' _ hy')
    · obtain ⟨x', hx', rfl⟩ := List.mem_map.mp hx
      exact like_non (alikes_iff ha _ hx' _ hx')
  have hdep : PyData.depthAll (toPys (m :: ds)) ≤ 60 := by rw [depth_toPys]; exact hp
  refine PySem.W.max_list_data (x := toPy m) (xs := toPys ds) (as := as) (I.ok.hd hc) hl.isList hr hA (by show _ + 1 + PyData.depthAll (toPys (m :: ds)) < _; omega) fun i u h' tk bs hi r hk => ?_
  have hi' : its[i]? = some u := by simpa using hi
  obtain ⟨v, hv, rvu⟩ : ∃ v, vs[i]? = some v ∧ RelV v u := by
    have hlt := (List.getElem?_eq_some_iff.mp hi').1
    have hlt2 : i < vs.length := by rw [rv.length]; exact hlt
    obtain ⟨u', k1, k2⟩ := Vals.get rv (List.getElem?_eq_getElem hlt2)
    rw [hi'] at k1
    cases k1
    exact ⟨vs[i], List.getElem?_eq_getElem hlt2, k2⟩
  obtain ⟨cs, r2, hl2, _, _⟩ := PySem.W.readsAll_at hr i u hi'
  have r3 := PySem.W.reads_keeps hk r2
  have hl' : i < (m :: ds).length := by rw [toPys_map, List.length_map] at hl2; exact hl2
  have e1 : (toPys (m :: ds)).getD i .none = toPy (m :: ds)[i] := by
    rw [toPys_map, List.getD_eq_getElem?_getD, List.getElem?_map, List.getElem?_eq_getElem hl']
    rfl
  rw [e1] at r3
  rw [← z2] at r
  have hm : (m :: ds)[i] ∈ m :: ds := List.getElem_mem hl'
  have e2 := toPy_inj (PySem.W.alike_unique _ _ _ _ _ (like_alike (alikes_iff ha _ hm _ z1)) r3 r)
  exact ⟨v, H, I.kept (t' := tk) hk, rvu, q i v hv (by rw [List.getElem?_eq_getElem hl', e2])⟩
end
/-! ### sorted -/
mutual
theorem like_eq : ∀ {x y : D}, likeD x y = true → eqD x y = true → x = y
  | .non, y, h, e => by cases y <;> simp [likeD] at h
  | .bl a, y, h, e => by cases y <;> simp [likeD] at h
  | .int a, y, h, e => by cases y <;> simp [likeD] at h; simp [eqD] at e; rw [e]
  | .str a, y, h, e => by cases y <;> simp [likeD] at h; simp [eqD] at e; rw [e]
  | .tup xs, y, h, e => by
    cases y <;> simp only [likeD, Bool.false_eq_true] at h
    simp only [eqD] at e
    rw [likes_eq h e]
  | .lst xs, y, h, e => by
    cases y <;> simp only [likeD, Bool.false_eq_true] at h
    simp only [eqD] at e
    rw [likes_eq h e]
theorem likes_eq : ∀ {xs ys : List D}, likeDs xs ys = true → eqDs xs ys = true → xs = ys
  | [], ys, h, e => by cases ys <;> simp [eqDs] at e; rfl
  | x :: xs, [], h, e => by simp [eqDs] at e
  | x :: xs, y :: ys, h, e => by
    simp only [likeDs, Bool.and_eq_true] at h
    simp only [eqDs, Bool.and_eq_true] at e
    rw [like_eq h.1 e.1, likes_eq h.2 e.2]
end
/-- neither is less: the same -/
theorem like_same {x y : D} (h : likeD x y = true) (h1 : PySem.W.dataLt (toPy x) (toPy y) = false) (h2 : PySem.W.dataLt (toPy y) (toPy x) = false) : x = y := by
  have e := PyProof.Rows.lex_total (O := itemOrd) _ _ h1 h2
  refine like_eq h ?_
  rw [← eqv_toPy]
  cases hq : PyData.eqv (toPy x) (toPy y) with
  | true => rfl
  | false =>
    exfalso
    have q := (PySem.W.toks_eqv _ _ (like_alike h)).2 hq [] [.inl 0]
    rw [e, PySem.W.lex_pre, PyProof.Rows.lex_irrefl] at q
    simp [PyProof.Rows.lexLt] at q
abbrev leP (x y : D) : Prop := PySem.W.dataLt (toPy y) (toPy x) = false
theorem leP_trans {x y z : D} (h1 : leP x y) (h2 : leP y z) : leP x z := by
  cases hq : PySem.W.dataLt (toPy z) (toPy x) with
  | false => exact hq
  | true =>
    rcases PyProof.Rows.lex_negTrans (O := itemOrd) _ (PySem.W.keyToks (toPy y)) _ hq with k | k
    · exact absurd (h2.symm.trans k) (by simp)
    · exact absurd (h1.symm.trans k) (by simp)
theorem insF_ok {x : D} : ∀ {ys zs : List D}, (∀ y ∈ ys, likeD y x = true) → ys.Pairwise leP → sortD.insFront x ys = some zs → zs.Perm (x :: ys) ∧ zs.Pairwise leP
  | [], zs, _, _, e => by
    simp only [sortD.insFront, Option.some.injEq] at e
    subst e
    exact ⟨.refl _, List.pairwise_singleton _ _⟩
  | y :: ys, zs, h, hp, e => by
    have q := lt_like (h y List.mem_cons_self)
    simp only [sortD.insFront, q] at e
    obtain ⟨p1, p2⟩ := List.pairwise_cons.mp hp
    cases hb : PySem.W.dataLt (toPy y) (toPy x) with
    | true =>
      rw [hb] at e
      cases hi : sortD.insFront x ys with
      | none => rw [hi] at e; cases e
      | some ws =>
        rw [hi] at e
        cases e
        obtain ⟨k1, k2⟩ := insF_ok (fun z hz => h z (List.mem_cons_of_mem _ hz)) p2 hi
        refine ⟨(k1.cons y).trans (List.Perm.swap x y ys), List.pairwise_cons.mpr ⟨fun z hz => ?_, k2⟩⟩
        rcases List.mem_cons.mp (k1.mem_iff.mp hz) with rfl | hz
        · cases hq : PySem.W.dataLt (toPy z) (toPy y) with
          | false => exact hq
          | true =>
            have := PyProof.Rows.lex_trans (O := itemOrd) _ _ _ hb hq
            rw [PyProof.Rows.lex_irrefl] at this
            cases this
        · exact p1 z hz
    | false =>
      rw [hb] at e
      cases e
      refine ⟨.refl _, List.pairwise_cons.mpr ⟨fun z hz => ?_, hp⟩⟩
      rcases List.mem_cons.mp hz with rfl | hz
      · exact hb
      · exact leP_trans hb (p1 z hz)
theorem sortD_ok : ∀ {ds es : List D}, (∀ x ∈ ds, ∀ y ∈ ds, likeD x y = true) → sortD ds = some es → es.Perm ds ∧ es.Pairwise leP
  | [], es, _, e => by simp only [sortD, Option.some.injEq] at e; subst e; exact ⟨.refl _, .nil⟩
  | x :: xs, es, h, e => by
    simp only [sortD] at e
    cases hs : sortD xs with
    | none => rw [hs] at e; cases e
    | some ys =>
      rw [hs] at e
      obtain ⟨k1, k2⟩ := sortD_ok (fun a ha b hb => h a (List.mem_cons_of_mem _ ha) b (List.mem_cons_of_mem _ hb)) hs
      obtain ⟨l1, l2⟩ := insF_ok (fun y hy => h y (List.mem_cons_of_mem _ (k1.mem_iff.mp hy)) x List.mem_cons_self) k2 e
      exact ⟨l1.trans (k1.cons x), l2⟩
def srtP (ds : List D) : Prop := (∀ d ∈ ds, ∃ x r, d = .tup (x :: r)) ∨ ∀ d ∈ ds, ∀ xs, d ≠ .tup xs
theorem srtB_ok {ds : List D} (h : srtB ds = true) : srtP ds := by
  unfold srtB at h
  rw [Bool.or_eq_true] at h
  simp only [List.all_eq_true] at h
  rcases h with h | h
  · refine .inl fun d hd => ?_
    have q := h d hd
    split at q
    · exact ⟨_, _, rfl⟩
    · cases q
  · refine .inr fun d hd xs e => ?_
    have q := h d hd
    subst e
    cases q
def rSortD (K : PySem.W.Frag) : List V → Hp → VK → Prop := fun xs H Q => ∃ (a : Addr) (vs : List V) (ds es : List D), xs = [.ref a] ∧ SqL K H a vs ∧ DpAll K H vs (toPys ds) ∧ alikes ds = true ∧ deps ds ≤ 60 ∧ srtB ds = true ∧ sortD ds = some es ∧
  ∀ (p : Addr) (ws : List V) (T : List (D × V)), H p = none → T.Perm (ds.zip vs) → es = T.map Prod.fst → ws = T.map Prod.snd → Q (.ref p) (upd H p (.lst ws))
theorem dpAll_len {K : PySem.W.Frag} {H : Hp} : ∀ {vs : List V} {ds : List PyData}, DpAll K H vs ds → vs.length = ds.length
  | _, _, .nil => rfl
  | _, _, .cons _ t => by simp [dpAll_len t]
theorem vals_zip : ∀ {vs : List V} {us : List Value}, Vals vs us → ∀ p ∈ vs.zip us, RelV p.1 p.2
  | _, _, .nil, p, h => by simp at h
  | _, _, .cons r t, p, h => by
    rcases List.mem_cons.mp (by simpa using h) with rfl | h
    · exact r
    · exact vals_zip t p h
theorem vals_map : ∀ {α : Type} {T : List α} {f : α → V} {g : α → Value}, (∀ t ∈ T, RelV (f t) (g t)) → Vals (T.map f) (T.map g)
  | _, [], _, _, _ => .nil
  | _, t :: T, _, _, h => .cons (h t List.mem_cons_self) (vals_map fun u hu => h u (List.mem_cons_of_mem _ hu))
theorem reads_zip {h : PySem.Heap} : ∀ {us : List Value} {ps : List PyData} {as : List Addr}, ReadsAll h us ps as → ∀ p ∈ ps.zip us, ∃ bs, Reads h p.2 p.1 bs
  | _, _, _, .nil, p, m => by simp at m
  | _, _, _, .cons r t, p, m => by
    rcases List.mem_cons.mp (by simpa using m) with rfl | m
    · exact ⟨_, r⟩
    · exact reads_zip t p m
theorem dep_mem : ∀ {ds : List D} {x : D}, x ∈ ds → dep x ≤ deps ds
  | d :: ds, x, h => by
    simp only [deps]
    rcases List.mem_cons.mp h with rfl | h
    · exact Nat.le_max_left _ _
    · exact Nat.le_trans (dep_mem h) (Nat.le_max_right _ _)
theorem cr_sortD {X : Cx} (hu : X.A.units + 200 < cLine) : CallR X (.builtin "sorted") (rSortD X.K) := by
  intro pins s σ H xs us Q I rs q
  obtain ⟨a, vs, ds, es, rfl, hs, hd, ha, hp, hb, he, q⟩ := q
  obtain ⟨its, rv, hl, hlen⟩ := I.list hs
  obtain rfl := Vals.ref1 rs
  obtain ⟨as, hr⟩ := Dp.readsAll I _ _ _ hd rv
  have l1 : vs.length = its.length := rv.length
  have l2 : vs.length = ds.length := by rw [dpAll_len hd, toPys_map, List.length_map]
  have hk : ∀ b o, s.heap.get? b = some o → (PySem.W.sortingHeap (PySem.W.copyHeap s.heap its) (s.heap.objs.size + 1) its).get? b = some o := fun b o e => PySem.W.sorting_copy_old e
  have hr2 : ReadsAll (PySem.W.sortingHeap (PySem.W.copyHeap s.heap its) (s.heap.objs.size + 1) its) its ((toPys ds).map id) as := by
    rw [List.map_id]
    exact ReadsAll.keeps hk hr
  have al : ∀ d ∈ toPys ds, ∃ x ∈ ds, d = toPy x := fun d h => by
    rw [toPys_map] at h
    obtain ⟨x, hx, e⟩ := List.mem_map.mp h
    exact ⟨x, hx, e.symm⟩
  have hal : PySem.W.AllAlike (toPys ds) := fun d h d' h' => by
    obtain ⟨x, hx, rfl⟩ := al d h
    obtain ⟨y, hy, rfl⟩ := al d' h'
    exact like_alike (alikes_iff ha x hx y hy)
  have S := PySem.W.SortsAt.data (prog := X.prog) (w := X.w) (A := X.A.in1.in1) (s := { s with heap := PySem.W.sortingHeap (PySem.W.copyHeap s.heap its) (s.heap.objs.size + 1) its }) (PySem.W.readsAll_each id hr2) hal (by
    rcases srtB_ok hb with h | h
    · refine .inl fun d hd => ?_
      obtain ⟨x, hx, rfl⟩ := al d hd
      obtain ⟨y, r, rfl⟩ := h x hx
      exact ⟨toPy y, toPys r, rfl⟩
    · refine .inr fun d hd => ?_
      obtain ⟨x, hx, rfl⟩ := al d hd
      refine ⟨like_non (alikes_iff ha x hx x hx), fun ys e => ?_⟩
      cases x with
      | tup zs => exact h _ hx zs rfl
      | _ => simp [toPy] at e) (fun d hd => by
    obtain ⟨x, hx, rfl⟩ := al d hd
    have h1 : dep x ≤ deps ds := dep_mem hx
    rw [depth_toPy]
    show X.A.units + 1 + 1 + dep x < _
    omega)
  refine PySem.W.sorted_vals hl.isList S (by rw [← l1]; exact hlen) ?_
  -- the rows of data, values, objects
  let T0 : List ((D × V) × Value) := (ds.zip vs).zip its
  let κ := PySem.W.dataKind (PySem.W.sortingHeap (PySem.W.copyHeap s.heap its) (s.heap.objs.size + 1) its) (toPys ds)
  let k2 : Value × Value → κ.toKeyOrd.α := fun p => PySem.W.keyD κ p.1
  let r0 : ((D × V) × Value) → ((D × V) × Value) → Bool := fun t u => PySem.W.sortLe κ.toKeyOrd false k2 (t.2, t.2) (u.2, u.2)
  have zz : ∀ l : List Value, l.map (fun u => (u, u)) = l.zip l := fun l => by
    induction l with
    | nil => rfl
    | cons x l ih => rw [List.map_cons, List.zip_cons_cons, ih]
  have m0 : T0.map (fun t => ((t.2, t.2) : Value × Value)) = its.zip its := by
    have e1 : (fun t : (D × V) × Value => ((t.2, t.2) : Value × Value)) = (fun u => (u, u)) ∘ Prod.snd := rfl
    rw [e1, ← List.map_map, List.map_snd_zip (by rw [List.length_zip]; omega), zz]
  have m1 : (T0.mergeSort r0).map (fun t => ((t.2, t.2) : Value × Value)) = (its.zip its).mergeSort (PySem.W.sortLe κ.toKeyOrd false k2) := by
    rw [← m0]
    exact PySem.W.sort_maps _ fun a _ b _ => rfl
  have out : PySem.W.sortVals κ false its its = (T0.mergeSort r0).map Prod.snd := by
    show ((its.zip its).mergeSort (PySem.W.sortLe κ.toKeyOrd false k2)).map Prod.snd = _
    rw [← m1, List.map_map]
    rfl
  have pm : (T0.mergeSort r0).Perm T0 := List.mergeSort_perm _ _
  have rel : ∀ t ∈ T0, RelV t.1.2 t.2 ∧ t.1.1 ∈ ds ∧ ∃ bs, Reads (PySem.W.sortingHeap (PySem.W.copyHeap s.heap its) (s.heap.objs.size + 1) its) t.2 (toPy t.1.1) bs := fun t ht => by
    obtain ⟨i, hi⟩ := List.getElem?_of_mem ht
    obtain ⟨h1, h2⟩ := List.getElem?_zip_eq_some.mp hi
    obtain ⟨h3, h4⟩ := List.getElem?_zip_eq_some.mp h1
    obtain ⟨u', k1, k2⟩ := Vals.get rv h4
    rw [h2] at k1
    cases k1
    rw [List.map_id] at hr2
    obtain ⟨bs, r, hl2, _, _⟩ := PySem.W.readsAll_at hr2 i t.2 h2
    have e1 : (toPys ds).getD i .none = toPy t.1.1 := by
      rw [toPys_map, List.getD_eq_getElem?_getD, List.getElem?_map, h3]
      rfl
    rw [e1] at r
    exact ⟨k2, List.mem_of_getElem? h3, bs, r⟩
  have key : ∀ t ∈ T0, k2 (t.2, t.2) = PySem.W.keyToks (toPy t.1.1) := fun t ht => by
    obtain ⟨_, h2, bs, r⟩ := rel t ht
    refine PySem.W.keyD_some (PySem.W.dataKind_some hal ?_ r)
    rw [toPys_map]
    exact List.mem_map.mpr ⟨_, h2, rfl⟩
  have tot := PySem.W.sortLe_total κ.toKeyOrd false k2
  have tr : ∀ a b c : (D × V) × Value, r0 a b = true → r0 b c = true → r0 a c = true := fun a b c h1 h2 => tot.trans (a.2, a.2) (b.2, b.2) (c.2, c.2) h1 h2
  have tt : ∀ a b : (D × V) × Value, (r0 a b || r0 b a) = true := fun a b => by rw [Bool.or_eq_true]; exact tot.total (a.2, a.2) (b.2, b.2)
  have pw0 : (T0.mergeSort r0).Pairwise fun a b => r0 a b = true := List.pairwise_mergeSort (le := r0) tr tt T0
  have pw : ((T0.mergeSort r0).map fun t => t.1.1).Pairwise leP := by
    refine List.pairwise_map.mpr (pw0.imp_of_mem fun {x y} hx hy h => ?_)
    have h : (!κ.toKeyOrd.blt (k2 (y.2, y.2)) (k2 (x.2, x.2))) = true := h
    rw [key _ (pm.mem_iff.mp hx), key _ (pm.mem_iff.mp hy), Bool.not_eq_true'] at h
    exact h
  obtain ⟨e1, e2⟩ := sortD_ok (alikes_iff ha) he
  have d0 : (T0.map fun t => t.1.1) = ds := by
    have e : (fun t : (D × V) × Value => t.1.1) = Prod.fst ∘ Prod.fst := rfl
    rw [e, ← List.map_map, List.map_fst_zip (by rw [List.length_zip]; omega), List.map_fst_zip (by omega)]
  have p2 : ((T0.mergeSort r0).map fun t => t.1.1).Perm ds := by
    have := pm.map fun t => t.1.1
    rwa [d0] at this
  have ee : es = (T0.mergeSort r0).map fun t => t.1.1 := by
    refine List.Perm.eq_of_pairwise (fun a b h1 h2 h3 h4 => ?_) e2 pw (e1.trans p2.symm)
    exact like_same (alikes_iff ha _ (e1.mem_iff.mp h1) _ (p2.mem_iff.mp h2)) h4 h3
  have t0 : T0.map Prod.fst = ds.zip vs := List.map_fst_zip (by rw [List.length_zip]; omega)
  obtain ⟨ep, he'⟩ := PyProof.Rows.sortedAll_at s.heap its (PySem.W.sortVals κ false its its).toArray
  have rvo : Vals ((T0.mergeSort r0).map fun t => t.1.2) ((T0.mergeSort r0).map Prod.snd) := vals_map fun t ht => (rel t (pm.mem_iff.mp ht)).1
  rw [← out] at rvo
  have hlen2 : ((T0.mergeSort r0).map fun t => t.1.2).length ≤ sizeLine := by
    rw [List.length_map, pm.length_eq, List.length_zip, List.length_zip]
    omega
  exact ⟨.ref _, upd H (s.heap.objs.size + 1) (.lst ((T0.mergeSort r0).map fun t => t.1.2)), I.laid (t' := s.toks) (fun _ _ => PyProof.Rows.sortedAll_old) (Nat.le_succ _) ⟨hlen2, _, ep, rvo, he'⟩, rfl,
    q _ _ ((T0.mergeSort r0).map Prod.fst) (I.hok.fresh (Nat.le_succ _)) (by have := pm.map Prod.fst; rwa [t0] at this) (by rw [ee, List.map_map]; rfl) (by rw [List.map_map]; rfl)⟩
end EV
end

section
set_option Elab.async false
set_option linter.all false
set_option maxRecDepth 100000
set_option maxHeartbeats 1000000
/-! EV7: slices, built-ins, methods -/
namespace EV
open PySem PySem.Spec PyProof.Rows L2
/-! ### slices -/
theorem clip_sIx (n d : Nat) (i : Int) : clip n i = HT.sIx n d (some i) := rfl
theorem cut_sIx {α : Type} (xs : List α) (lo hi : Option Int) : cut xs lo hi = (xs.drop (HT.sIx xs.length 0 lo)).take (HT.sIx xs.length xs.length hi - HT.sIx xs.length 0 lo) := by
  unfold cut
  cases lo <;> cases hi <;> rfl
theorem Reps.cut {K : PySem.W.Frag} {L : Addr → Prop} {H : Hp} {ds : List D} {vs : List V} (r : Reps K L H ds vs) (lo hi : Option Int) : Reps K L H (EV.cut ds lo hi) (cutV vs lo hi) := by
  rw [cut_sIx]
  unfold cutV
  rw [← r.length]
  exact (r.drop _).take _
theorem cut_len {α : Type} (xs : List α) (lo hi : Option Int) : (cut xs lo hi).length ≤ xs.length := by
  unfold cut
  rw [List.length_take, List.length_drop]
  omega
def rSl (K : PySem.W.Frag) : V → Option Int → Option Int → Hp → VK → Prop := fun x lo hi H Q => (rSlA K x lo hi H Q ∨ rSlL K x lo hi H Q) ∨ rSlS x lo hi H Q
theorem slr (X : Cx) : SlR X (rSl X.K) := (sl_tupA.or sl_list).or sl_str
theorem sl_ok {c : Glb} {g : G} {x z : D} {w : V} {lo hi : Option Int} {Q : VK} (ok : GOk c g) (hx : Pk c g x w) (h : slcD x lo hi = some z) (q : OutN c g z Q) : rSl c.K w lo hi g.H Q := by
  unfold slcD at h
  split at h
  · cases h
    cases hx with
    | @tup a _ vs hs hl hr =>
      rename_i ds
      refine .inl (.inl ⟨a, vs, rfl, hs, fun e => ?_, fun e p hp => ?_⟩)
      · have e2 : cut ds lo hi = ds := by
          rw [cut_sIx, hr.length, e.1, e.2]
          simp [← hr.length]
        rw [e2] at q
        exact q.sc ok (.tup hs hl hr) (fun _ z => by cases z)
      · exact q.tup ok hp (Nat.le_trans (cut_len _ _ _) hl) (hr.cut lo hi)
  · cases h
    obtain ⟨a, vs, rfl, hs, hl, hr⟩ := hx
    exact .inl (.inr ⟨a, vs, rfl, SqL.of hs, fun p hp => q p _ hp (Nat.le_trans (cut_len _ _ _) hl) (hr.cut lo hi)⟩)
  · split at h
    · rename_i s hl
      cases h
      cases hx with
      | str o =>
        refine .inr ⟨_, rfl, by rw [SS_length, ← lim_eq]; exact hl, ?_⟩
        have e : cutS (SS s) lo hi = SS (cut s lo hi) := by
          unfold cutS SS
          rw [cut_sIx]
          simp [Str.length]
        rw [e]
        refine q.sc ok (.str fun k hk => o k ?_) (fun _ z => by cases z)
        exact List.mem_of_mem_drop (List.mem_of_mem_take hk)
    · cases h
  · cases h
/-- a part's evaluation -/
def tOv (c : Glb) (U : Env) (W : WX) (l : LO) : TO := fun σ H Q => ∃ (g : G) (loc : Loc), g.H = H ∧ GOk c g ∧ LocOk c g loc σ ∧ Out c g W σ (evO U l loc g.S) (fun o g' => Q o g'.H)
theorem PO.imp {X : Cx} {e : Option Expr} {t t' : TO} (h : PO X e t) (i : ∀ σ H Q, t' σ H Q → t σ H Q) : PO X e t' := ⟨fun pins s σ H Q I q => h.run pins s σ H Q I (i _ _ _ q)⟩
section
variable {c : Glb} {U : Env} {W : WX} {X : Cx} {e a b d : Expr} {l la lb ld : LE} {pos p2 : Pos} {lo hi : Option Expr} {ol oh : LO}
theorem so_no : PO X none (tOv c U W .no) := PO.imp po_none fun σ H Q => by
  rintro ⟨g, loc, rfl, ok, lo, out⟩
  exact Out.here out ok
theorem so_yes (h : PE X e (tEv c U W l)) : PO X (some e) (tOv c U W (.yes l)) := PO.imp (po_some h) fun σ H Q => by
  rintro ⟨g, loc, rfl, ok, lo, out⟩
  refine ⟨g, loc, rfl, ok, lo, (Out.bind out).imp fun v g1 ⟨le1, ok1, out1⟩ w rw1 => ?_⟩
  cases rw1 with
  | d r =>
    cases r with
    | int i => exact ⟨i, rfl, Out.here out1 ok1⟩
    | _ => exact False.elim out1
  | _ => exact False.elim out1
theorem slcV_ok {g : G} {v : Vl} {w : V} {p q : Option Int} {Q : VK} {σ : L2.St} (ok : GOk c g) (r : RepV c g v w) (out : Out c g W σ (slcV v p q g.S) (fun v g' => ∃ z, v = Vl.d z ∧ OutN c g' z Q)) : rSl c.K w p q g.H Q := by
  have gen : ∀ v, RepV c g v w → Out c g W σ (R.opt ((peek g.S v).bind fun x => slcD x p q) fun z => R.ok (Vl.d z) g.S) (fun v g' => ∃ z, v = Vl.d z ∧ OutN c g' z Q) → rSl c.K w p q g.H Q := fun v r out => by
    obtain ⟨z, hz, o2⟩ := Out.opt out
    rw [Option.bind_eq_some_iff] at hz
    obtain ⟨x, hx, hz⟩ := hz
    obtain ⟨z', e', q'⟩ := Out.here o2 ok
    cases e'
    exact sl_ok ok (peek_ok ok r hx) hz q'
  cases r with
  | scr h hl hr =>
    obtain ⟨z', e', q'⟩ := Out.here out ok
    cases e'
    exact .inl (.inr ⟨_, _, rfl, h.sq, fun pp hp => q' pp _ hp (Nat.le_trans (cut_len _ _ _) hl) (hr.cut p q)⟩)
  | d r => exact gen _ (.d r) out
  | ref r => exact gen _ (.ref r) out
  | fnv r => exact gen _ (.fnv r) out
  | @exn a k xs r => exact gen (.exn k xs) (.exn r) out
  | clo k r => exact gen _ (.clo k r) out
theorem se_slc (hK : X.K = c.K) (ha : PE X a (tEv c U W la)) (hl : PO X lo (tOv c U W ol)) (hh : PO X hi (tOv c U W oh)) : PE X (.Subscript a (.Slice lo hi none p2) pos) (tEvN c U W (.slc la ol oh)) := PE.imp (pe_slice (slr X) ha hl hh) fun σ H Q => by
  rintro ⟨g, loc, rfl, ok, lo, out⟩
  refine ⟨g, loc, rfl, ok, lo, (Out.bind out).imp fun v g1 ⟨le1, ok1, out1⟩ w rw1 => ?_⟩
  refine ⟨g1, loc, rfl, ok1, lo.le ok le1, (Out.bind out1).imp fun p g2 ⟨le2, ok2, out2⟩ => ?_⟩
  refine ⟨g2, loc, rfl, ok2, (lo.le ok le1).le ok1 le2, (Out.bind out2).imp fun q g3 ⟨le3, ok3, out3⟩ => ?_⟩
  rw [hK]
  exact slcV_ok ok3 ((rw1.le ok1 le2).le ok2 le3) out3
/-! ### [::-1] -/
theorem krvS (z : Str) : (Builtin.Str.strSliceIndices none none (-1) z.length).filterMap (z.cps[·]?) = z.cps.toList.reverse := by
  have e : Builtin.Str.strSliceIndices none none (-1) z.length = (List.range z.cps.size).reverse := by
    show sliceRange ((z.length : Int) - 1) (-1) (-1) = _
    rw [PySem.W.krv_sliceRange, PySem.W.krv_range]
    rfl
  rw [e, List.filterMap_reverse, PySem.W.krv_all]
theorem pe_revS {k : Nat} {p1 p2 p3 : Pos} {te : TE} (he : PE X e te) : PE X (.Subscript e (.Slice none none (some (.UnaryOp .USub (.Constant (.int 1) k p1) p2)) p3) pos) (fun σ H Q => te σ H fun x H1 => (∃ z, x = .str z ∧ z.length ≤ sizeLine ∧ Q (.str ⟨z.cps.toList.reverse.toArray⟩) H1) ∨ (∃ a xs, x = .ref a ∧ SqL X.K H1 a xs ∧ ∀ p, H1 p = none → Q (.ref p) (upd H1 p (.lst xs.reverse)))) := by
  refine ⟨fun pins s σ H Q I h => ?_⟩
  refine Subscript_ (thn (he.run pins s σ H _ I h) fun v s1 ⟨x, H1, I1, r1, q1⟩ => ?_)
  have hst : PO X (some (.UnaryOp .USub (.Constant (.int 1) k p1) p2)) (tPart (tUn (rU fun i => .int (-i)) (tC (.int 1)))) := po_some (pe_un un_neg pe_int)
  refine wpAny_Slice (thn (po_none.run pins s1 σ H1 (fun o H2 => o = none ∧ H2 = H1) I1 ⟨rfl, rfl⟩) fun vl s2 ⟨l, H2, I2, pl, el, e2⟩ => ?_)
  subst el e2
  refine thn (po_none.run pins s2 σ H2 (fun o H3 => o = none ∧ H3 = H2) I2 ⟨rfl, rfl⟩) fun vu s3 ⟨u, H3, I3, pu, eu, e3⟩ => ?_
  subst eu e3
  refine thn (hst.run pins s3 σ H3 (fun o H4 => o = some (-1) ∧ H4 = H3) I3 ⟨1, rfl, -1, rfl, rfl, rfl⟩) fun vs s4 ⟨o, H4, I4, ps, eo, e4⟩ => ?_
  subst eo e4
  have I5 : Inv X pins σ H4 { s4 with heap := s4.heap.push { cls := .type "slice", data := .fields #[vl, vu, vs] } } := I4.kept (t' := s4.toks) fun b ob q => Heap.get?_push_of_some _ q
  rcases q1 with ⟨z, ex, hz, q⟩ | ⟨a, xs, ex, hx, q⟩
  · subst ex
    obtain ⟨t, rfl⟩ := r1
    refine tail_any (typeIs_str _ _ _) (PySem.F.slot_str_getitem.lookup) ?_ (by with_unfolding_all rfl)
    cases pl
    cases pu
    cases ps with
    | int _ tk =>
      refine wpAny_getItem_str_slice (l := none) (u := none) (st := some (-1, tk)) ⟨_, Heap.get?_push_size _ rfl, rfl, rfl⟩ rfl ?_
      have hl : (⟨((Builtin.Str.strSliceIndices none none (-1) z.length).filterMap (z.cps[·]?)).toArray⟩ : Str).length ≤ sizeLine := by
        rw [krvS]
        show z.cps.toList.reverse.toArray.size ≤ _
        have hz : z.cps.size ≤ sizeLine := hz
        simpa using hz
      rw [← krvS] at q
      exact ⟨hl, .str _, H4, I5.tok _, ⟨_, rfl⟩, q⟩
  · subst ex
    cases r1
    obtain ⟨its, r, ht, hz⟩ := I5.list hx
    have hlen := r.length
    show wpAny (model X.prog X.w) X.A (subscriptTail e (.Slice none none (some (.UnaryOp .USub (.Constant (.int 1) k p1) p2)) p3) (.ref a) (.ref s4.heap.objs.size)) (EP X pins σ Q) X.xe { s4 with heap := s4.heap.push { cls := .type "slice", data := .fields #[vl, vu, vs] } }
    refine tail_any (ops := [.ref a, .ref s4.heap.objs.size]) ht.isList.typeIs (PySem.slot_list_getitem.lookup) ?_ (by with_unfolding_all rfl)
    refine wpAny_getItem_list_slice ht.isList (Heap.IsSliceOf.new _ vl vu vs) pl pu ps (by decide) ?_ (by rw [List.size_toArray]; omega)
    rw [PySem.W.krv_pick]
    refine ⟨.ref _, _, I5.laid (t' := s4.toks) (o := .lst xs.reverse) (fun b ob q => Heap.get?_push_of_some _ q) (Nat.le_refl _) ?_, rfl, q _ (I5.hok.fresh (Nat.le_refl _))⟩
    exact ⟨by rw [List.length_reverse]; exact hz, _, 0, r.reverse, Heap.get?_push_size _ rfl⟩
theorem se_rev {k : Nat} {p1 p2 p3 : Pos} (hK : X.K = c.K) (ha : PE X a (tEv c U W la)) : PE X (.Subscript a (.Slice none none (some (.UnaryOp .USub (.Constant (.int 1) k p1) p2)) p3) pos) (tEvN c U W (.rev la)) := PE.imp (pe_revS ha) fun σ H Q => by
  rintro ⟨g, loc, rfl, ok, lo, out⟩
  refine ⟨g, loc, rfl, ok, lo, (Out.bind out).imp fun v g1 ⟨le1, ok1, out1⟩ w rw1 => ?_⟩
  cases h1 : peek g1.S v with
  | none => rw [h1] at out1; exact out1.elim
  | some x =>
    rw [h1] at out1
    obtain ⟨z, hz, q⟩ := Out.opt out1
    obtain ⟨z', e', q'⟩ := Out.here q ok1
    cases e'
    have hx := peek_ok ok1 rw1 h1
    unfold revD at hz
    split at hz
    · cases hz
      obtain ⟨b, vs, rfl, hs, hl, hr⟩ := hx
      exact .inr ⟨b, vs, rfl, SqL.of hs, fun p hp => q' p _ hp (by rw [List.length_reverse]; exact hl) hr.rev⟩
    · split at hz
      · rename_i s hl
        cases hz
        cases hx with
        | str o =>
          refine .inl ⟨_, rfl, by rw [SS_length, ← lim_eq]; exact hl, ?_⟩
          have e : (⟨(SS s).cps.toList.reverse.toArray⟩ : Str) = SS s.reverse := by simp [SS]
          rw [e]
          exact q'.sc ok1 (.str fun k hk => o k (List.mem_reverse.mp hk)) (fun _ z => by cases z)
      · cases hz
    · cases hz
end
/-! ### built-ins by values -/
def biVal : Bi → Value
  | .len => .builtin "len" | .abs => .builtin "abs" | .sorted => .builtin "sorted" | .all => .builtin "all" | .any => .builtin "any" | .min => .builtin "min" | .max => .builtin "max" | .sum => .builtin "sum" | .repr => .builtin "repr"
  | .int => .type "int" | .str => .type "str" | .tup => .type "tuple" | .lst => .type "list"
def biName : Bi → String
  | .len => "len" | .abs => "abs" | .sorted => "sorted" | .all => "all" | .any => "any" | .min => "min" | .max => "max" | .sum => "sum" | .repr => "repr" | .int => "int" | .str => "str" | .tup => "tuple" | .lst => "list"
theorem CallR.or {X : Cx} {f : Value} {r r' : List V → Hp → VK → Prop} (h : CallR X f r) (h' : CallR X f r') : CallR X f (fun xs H Q => r xs H Q ∨ r' xs H Q) := by
  intro pins s σ H xs us Q I rs q
  rcases q with q | q
  · exact h pins s σ H xs us Q I rs q
  · exact h' pins s σ H xs us Q I rs q
theorem CallR.no {X : Cx} {f : Value} : CallR X f (fun _ _ _ => False) := fun _ _ _ _ _ _ _ _ _ q => q.elim
def rBi (K : PySem.W.Frag) : Bi → List V → Hp → VK → Prop
  | .len => fun xs H Q => ((∃ p ys, xs = [.ref p] ∧ (SqL K H p ys ∨ SqT K H p ys) ∧ Q (.int ys.length) H) ∨ (∃ a kvs, xs = [.ref a] ∧ H a = some (.dK kvs) ∧ Q (.int kvs.length) H)) ∨ (∃ z, xs = [.str z] ∧ z.length ≤ sizeLine ∧ Q (.int z.length) H)
  | .abs => fun xs H Q => ∃ i, xs = [.int i] ∧ Q (.int (if i < 0 then -i else i)) H
  | .int => fun xs H Q => (∃ i, xs = [.int i] ∧ Q (.int i) H) ∨ ∃ k, xs = [.bl k] ∧ Q (.int (if k then 1 else 0)) H
  | .tup => fun xs H Q => ∃ p ys, xs = [.ref p] ∧ ((SqL K H p ys ∧ ∀ l, H l = none → Q (.ref l) (upd H l (.tup ys))) ∨ (SqT K H p ys ∧ Q (.ref p) H))
  | .lst => fun xs H Q => (∃ p ys, xs = [.ref p] ∧ (SqL K H p ys ∨ SqT K H p ys) ∧ ∀ l, H l = none → Q (.ref l) (upd H l (.lst ys))) ∨ ∃ (a : Addr) (kvs : List (Key × V)), xs = [.ref a] ∧ Rd H a (.dK kvs) ∧ ∀ p, H p = none → Q (.ref p) (upd H p (.lst (kvs.map fun kv => kV kv.1)))
  | .all => rAll K
  | .any => rAny K
  | .sum => rSum K
  | .min => fun xs H Q => (∃ i j, xs = [.int i, .int j] ∧ Q (.int (if j < i then j else i)) H) ∨ (rMin K xs H Q ∨ rLeastD leastD K xs H Q)
  | .max => fun xs H Q => (∃ i j, xs = [.int i, .int j] ∧ Q (.int (if j > i then j else i)) H) ∨ (rMax K xs H Q ∨ rLeastD mostD K xs H Q)
  | .sorted => rSortD K
  | _ => fun _ _ _ => False
theorem call_len_dic {X : Cx} : CallR X (.builtin "len") (fun xs H Q => ∃ a kvs, xs = [.ref a] ∧ H a = some (.dK kvs) ∧ Q (.int kvs.length) H) := by
  intro pins s σ H xs us Q I rs q
  obtain ⟨a, kvs, rfl, hd, q⟩ := q
  obtain rfl := Vals.ref1 rs
  exact d_len I (.inl hd) fun t s' I' => ⟨.int kvs.length, H, I', ⟨t, rfl⟩, q⟩
theorem bir {X : Cx} (hc : X.calm = true) (hu : X.A.units + 200 < cLine) : ∀ b : Bi, CallR X (biVal b) (rBi X.K b)
  | .len => CallR.or (CallR.or call_len_seq call_len_dic) call_len_str
  | .abs => call_abs
  | .int => call_int1
  | .tup => call_tuple_of
  | .lst => CallR.or call_list_of (call_listD hc)
  | .all => cr_all hc
  | .any => cr_any hc
  | .sum => cr_sum hc
  | .min => CallR.or (call_min2 hc) (CallR.or (cr_min hc) (cr_leastD hc hu))
  | .max => CallR.or (call_max2 hc) (CallR.or (cr_max hc) (cr_mostD hc hu))
  | .str => CallR.no
  | .sorted => cr_sortD hu
  | .repr => CallR.no
theorem bitsOf_rep {K : PySem.W.Frag} {L : Addr → Prop} {H : Hp} : ∀ {ds : List D} {bs : List Bool} {vs : List V}, bitsOf ds = some bs → Reps K L H ds vs → vs = bs.map V.bl
  | [], bs, vs, h, r => by cases h; cases r; rfl
  | d :: ds, bs, vs, h, r => by
    cases r with
    | cons r1 r2 =>
      cases d with
      | bl i =>
        cases e : bitsOf ds with
        | none => rw [bitsOf, e] at h; cases h
        | some ms => rw [bitsOf, e] at h; cases h; cases r1; rw [bitsOf_rep e r2]; rfl
      | _ => cases h
/-! the least of ints by the fold -/
theorem leastI : ∀ {ds : List D} {m : Int} {z : D}, leastD (.int m) ds = some z → ∃ (ns : List Int) (k : Int), intsOf ds = some ns ∧ z = .int k ∧ k ∈ m :: ns ∧ ∀ y ∈ m :: ns, k ≤ y
  | [], m, z, h => by cases h; exact ⟨[], m, rfl, rfl, by simp, by simp⟩
  | d :: ds, m, z, h => by
    cases d with
    | int i =>
      have h : (match some (decide (i < m)) with | some true => leastD (.int i) ds | some false => leastD (.int m) ds | none => none) = some z := h
      by_cases hi : i < m
      · rw [decide_eq_true hi] at h
        obtain ⟨ns, k, h1, h2, h3, h4⟩ := leastI h
        refine ⟨i :: ns, k, by rw [intsOf, h1]; rfl, h2, ?_, fun y hy => ?_⟩
        · exact List.mem_cons_of_mem _ h3
        · rcases List.mem_cons.mp hy with rfl | hy
          · exact Int.le_trans (h4 i List.mem_cons_self) (Int.le_of_lt hi)
          · exact h4 y hy
      · rw [decide_eq_false hi] at h
        obtain ⟨ns, k, h1, h2, h3, h4⟩ := leastI h
        refine ⟨i :: ns, k, by rw [intsOf, h1]; rfl, h2, ?_, fun y hy => ?_⟩
        · rcases List.mem_cons.mp h3 with e | e
          · rw [e]; exact List.mem_cons_self
          · exact List.mem_cons_of_mem _ (List.mem_cons_of_mem _ e)
        · rcases List.mem_cons.mp hy with rfl | hy
          · exact h4 y List.mem_cons_self
          · rcases List.mem_cons.mp hy with rfl | hy
            · exact Int.le_trans (h4 m List.mem_cons_self) (by omega)
            · exact h4 y (List.mem_cons_of_mem _ hy)
    | _ => cases h
theorem mostI : ∀ {ds : List D} {m : Int} {z : D}, mostD (.int m) ds = some z → ∃ (ns : List Int) (k : Int), intsOf ds = some ns ∧ z = .int k ∧ k ∈ m :: ns ∧ ∀ y ∈ m :: ns, y ≤ k
  | [], m, z, h => by cases h; exact ⟨[], m, rfl, rfl, by simp, by simp⟩
  | d :: ds, m, z, h => by
    cases d with
    | int i =>
      have h : (match some (decide (m < i)) with | some true => mostD (.int i) ds | some false => mostD (.int m) ds | none => none) = some z := h
      by_cases hi : m < i
      · rw [decide_eq_true hi] at h
        obtain ⟨ns, k, h1, h2, h3, h4⟩ := mostI h
        refine ⟨i :: ns, k, by rw [intsOf, h1]; rfl, h2, ?_, fun y hy => ?_⟩
        · exact List.mem_cons_of_mem _ h3
        · rcases List.mem_cons.mp hy with rfl | hy
          · exact Int.le_trans (Int.le_of_lt hi) (h4 i List.mem_cons_self)
          · exact h4 y hy
      · rw [decide_eq_false hi] at h
        obtain ⟨ns, k, h1, h2, h3, h4⟩ := mostI h
        refine ⟨i :: ns, k, by rw [intsOf, h1]; rfl, h2, ?_, fun y hy => ?_⟩
        · rcases List.mem_cons.mp h3 with e | e
          · rw [e]; exact List.mem_cons_self
          · exact List.mem_cons_of_mem _ (List.mem_cons_of_mem _ e)
        · rcases List.mem_cons.mp hy with rfl | hy
          · exact h4 y List.mem_cons_self
          · rcases List.mem_cons.mp hy with rfl | hy
            · exact Int.le_trans (by omega) (h4 m List.mem_cons_self)
            · exact h4 y (List.mem_cons_of_mem _ hy)
    | _ => cases h
end EV
end

section
set_option Elab.async false
set_option linter.all false
set_option maxRecDepth 100000
set_option maxHeartbeats 1000000
/-! EV8: built-ins, methods, isinstance -/
namespace EV
open PySem PySem.Spec PyProof.Rows L2
theorem Pks.one {c : Glb} {g : G} {x : D} {ws : List V} (h : Pks c g [x] ws) : ∃ w, ws = [w] ∧ Pk c g x w := by
  cases h with
  | cons h t => cases t; exact ⟨_, rfl, h⟩
theorem Pks.two {c : Glb} {g : G} {x y : D} {ws : List V} (h : Pks c g [x, y] ws) : ∃ w u, ws = [w, u] ∧ Pk c g x w ∧ Pk c g y u := by
  cases h with
  | cons h t => obtain ⟨u, rfl, h2⟩ := t.one; exact ⟨_, _, rfl, h, h2⟩
theorem Reps.zip {K : PySem.W.Frag} {L : Addr → Prop} {H : Hp} : ∀ {ds : List D} {vs : List V}, Reps K L H ds vs → ∀ t ∈ ds.zip vs, Rep K L H t.1 t.2
  | _, _, .nil, t, h => by simp at h
  | _, _, .cons r s, t, h => by
    rcases List.mem_cons.mp (by simpa using h) with rfl | h
    · exact r
    · exact Reps.zip s t h
theorem Reps.maps {K : PySem.W.Frag} {L : Addr → Prop} {H : Hp} : ∀ {T : List (D × V)}, (∀ t ∈ T, Rep K L H t.1 t.2) → Reps K L H (T.map Prod.fst) (T.map Prod.snd)
  | [], _ => .nil
  | t :: T, h => .cons (h t List.mem_cons_self) (Reps.maps fun u hu => h u (List.mem_cons_of_mem _ hu))
theorem bi_ok {c : Glb} {g : G} {b : Bi} {xs : List D} {z : D} {ws : List V} {Q : VK} (ok : GOk c g) (hx : Pks c g xs ws) (h : biD b xs = some z) (q : OutN c g z Q) : rBi c.K b ws g.H Q := by
  unfold biD at h
  split at h
  · split at h
    · rename_i s hl
      cases h
      obtain ⟨w, rfl, hx1⟩ := hx.one
      cases hx1 with
      | str o => exact .inr ⟨_, rfl, by rw [SS_length, ← lim_eq]; exact hl, by rw [SS_length]; exact q.sc ok (.int _) (fun _ z => by cases z)⟩
    · cases h
  · cases h
    obtain ⟨w, rfl, hx1⟩ := hx.one
    cases hx1 with
    | tup hs hl hr => exact .inl (.inl ⟨_, _, rfl, .inr hs, by rw [← hr.length]; exact q.sc ok (.int _) (fun _ z => by cases z)⟩)
  · cases h
    obtain ⟨w, rfl, a, vs, rfl, hs, hl, hr⟩ := hx.one
    exact .inl (.inl ⟨_, _, rfl, .inl (SqL.of hs), by rw [← hr.length]; exact q.sc ok (.int _) (fun _ z => by cases z)⟩)
  · cases h
    obtain ⟨w, rfl, hx1⟩ := hx.one
    cases hx1
    exact ⟨_, rfl, q.sc ok (.int _) (fun _ z => by cases z)⟩
  · cases h
    obtain ⟨w, rfl, hx1⟩ := hx.one
    cases hx1
    exact .inl ⟨_, rfl, q.sc ok (.int _) (fun _ z => by cases z)⟩
  · cases h
    obtain ⟨w, rfl, hx1⟩ := hx.one
    cases hx1
    exact .inr ⟨_, rfl, q.sc ok (.int _) (fun _ z => by cases z)⟩
  · cases h
    obtain ⟨w, rfl, a, vs, rfl, hs, hl, hr⟩ := hx.one
    exact ⟨_, _, rfl, .inl ⟨SqL.of hs, fun p hp => q.tup ok hp hl hr⟩⟩
  · cases h
    obtain ⟨w, rfl, hx1⟩ := hx.one
    cases hx1 with
    | tup hs hl hr => exact ⟨_, _, rfl, .inr ⟨hs, q.sc ok (.tup hs hl hr) (fun _ z => by cases z)⟩⟩
  · cases h
    obtain ⟨w, rfl, a, vs, rfl, hs, hl, hr⟩ := hx.one
    exact .inl ⟨_, _, rfl, .inl (SqL.of hs), fun p hp => q p _ hp hl hr⟩
  · cases h
    obtain ⟨w, rfl, hx1⟩ := hx.one
    cases hx1 with
    | tup hs hl hr => exact .inl ⟨_, _, rfl, .inr hs, fun p hp => q p _ hp hl hr⟩
  · rw [Option.map_eq_some_iff] at h
    obtain ⟨bs, h1, rfl⟩ := h
    obtain ⟨w, rfl, a, vs, rfl, hs, hl, hr⟩ := hx.one
    rw [bitsOf_rep h1 hr] at hs
    exact ⟨_, _, rfl, SqL.of hs, q.sc ok (.bl _) (fun _ z => by cases z)⟩
  · rw [Option.map_eq_some_iff] at h
    obtain ⟨bs, h1, rfl⟩ := h
    obtain ⟨w, rfl, a, vs, rfl, hs, hl, hr⟩ := hx.one
    rw [bitsOf_rep h1 hr] at hs
    exact ⟨_, _, rfl, SqL.of hs, q.sc ok (.bl _) (fun _ z => by cases z)⟩
  · rw [Option.map_eq_some_iff] at h
    obtain ⟨bs, h1, rfl⟩ := h
    obtain ⟨w, rfl, a, vs, rfl, hs, hl, hr⟩ := hx.one
    rw [intsOf_rep h1 hr] at hs
    exact ⟨_, _, rfl, SqL.of hs, q.sc ok (.int _) (fun _ z => by cases z)⟩
  · cases h
    obtain ⟨w, u, rfl, hx1, hy⟩ := hx.two
    cases hx1; cases hy
    exact .inl ⟨_, _, rfl, q.sc ok (.int _) (fun _ z => by cases z)⟩
  · cases h
    obtain ⟨w, u, rfl, hx1, hy⟩ := hx.two
    cases hx1; cases hy
    exact .inl ⟨_, _, rfl, q.sc ok (.int _) (fun _ z => by cases z)⟩
  · obtain ⟨ns, k, h1, rfl, h3, h4⟩ := leastI h
    obtain ⟨w, rfl, a, vs, rfl, hs, hl, hr⟩ := hx.one
    rename_i m ds
    have e : intsOf (D.int m :: ds) = some (m :: ns) := by rw [intsOf, h1]; rfl
    rw [intsOf_rep e hr] at hs
    refine .inr (.inl ⟨_, m :: ns, rfl, SqL.of hs, by simp, fun m' hm' hle => ?_⟩)
    have e2 : m' = k := Int.le_antisymm (hle k h3) (h4 m' hm')
    subst e2
    exact q.sc ok (.int _) (fun _ z => by cases z)
  · obtain ⟨ns, k, h1, rfl, h3, h4⟩ := mostI h
    obtain ⟨w, rfl, a, vs, rfl, hs, hl, hr⟩ := hx.one
    rename_i m ds
    have e : intsOf (D.int m :: ds) = some (m :: ns) := by rw [intsOf, h1]; rfl
    rw [intsOf_rep e hr] at hs
    refine .inr (.inl ⟨_, m :: ns, rfl, SqL.of hs, by simp, fun m' hm' hle => ?_⟩)
    have e2 : m' = k := Int.le_antisymm (h4 m' hm') (hle k h3)
    subst e2
    exact q.sc ok (.int _) (fun _ z => by cases z)
  · rename_i m ds hm
    split at h
    · rename_i hg
      simp only [Bool.and_eq_true, decide_eq_true_eq] at hg
      obtain ⟨⟨h1, h2⟩, h3⟩ := hg
      obtain ⟨w, rfl, a, vs, rfl, hs, hl, hr⟩ := hx.one
      obtain ⟨z1, z2⟩ := least_fold (alikes_iff h1) h
      refine .inr (.inr ⟨a, vs, m, ds, z, rfl, SqL.of hs, (Reps.dp _ _ hr).1, h1, h2, h, fun i v hv hz => ?_⟩)
      obtain ⟨v', k1, k2⟩ := hr.get hz
      rw [hv] at k1
      cases k1
      refine q.sc ok k2 fun es e => ?_
      have k3 := alikes_iff h1 m List.mem_cons_self z z1
      subst e
      cases m <;> first | (cases h3; done) | (simp [likeD] at k3)
    · cases h
  · rename_i m ds hm
    split at h
    · rename_i hg
      simp only [Bool.and_eq_true, decide_eq_true_eq] at hg
      obtain ⟨⟨h1, h2⟩, h3⟩ := hg
      obtain ⟨w, rfl, a, vs, rfl, hs, hl, hr⟩ := hx.one
      obtain ⟨z1, z2⟩ := most_fold (alikes_iff h1) h
      refine .inr (.inr ⟨a, vs, m, ds, z, rfl, SqL.of hs, (Reps.dp _ _ hr).1, h1, h2, h, fun i v hv hz => ?_⟩)
      obtain ⟨v', k1, k2⟩ := hr.get hz
      rw [hv] at k1
      cases k1
      refine q.sc ok k2 fun es e => ?_
      have k3 := alikes_iff h1 m List.mem_cons_self z z1
      subst e
      cases m <;> first | (cases h3; done) | (simp [likeD] at k3)
    · cases h
  · rename_i ds
    split at h
    · rename_i hg
      simp only [Bool.and_eq_true, decide_eq_true_eq] at hg
      obtain ⟨⟨h1, h2⟩, h3⟩ := hg
      rw [Option.map_eq_some_iff] at h
      obtain ⟨es, he, rfl⟩ := h
      obtain ⟨w, rfl, a, vs, rfl, hs, hl, hr⟩ := hx.one
      refine ⟨a, vs, ds, es, rfl, SqL.of hs, (Reps.dp _ _ hr).1, h1, h2, h3, he, fun p ws T hp hT e1 e2 => ?_⟩
      have rep : ∀ t ∈ T, Rep c.K (live g) g.H t.1 t.2 := fun t ht => hr.zip t (hT.mem_iff.mp ht)
      subst e1
      subst e2
      refine q p _ hp ?_ (Reps.maps rep)
      rw [List.length_map, hT.length_eq, List.length_zip]
      exact Nat.le_trans (Nat.min_le_left _ _) hl
    · cases h
  · cases h
/-! ### methods by values -/
def mtTy : Mt → String
  | .append => "list" | .extend => "list" | .pop => "list" | .pop0 => "list" | .lidx => "list" | .lcnt => "list" | .get => "dict"
  | .sidx => "str" | .join => "str" | .split => "str" | .replace => "str"
def rLidx (K : PySem.W.Frag) : V → List V → Hp → VK → Prop := fun x xs H Q => ∃ (y : V) (d : PyData) (ds : List PyData) (j : Nat), xs = [y] ∧ Dp K H x (.list ds) ∧ Dp K H y d ∧ PyData.canLayAll0 ds = true ∧ d.canLay0 = true ∧ d.depth ≤ 64 ∧
  (ds.findIdx? fun z => PyData.eqv z d) = some j ∧ Q (.int (j : Nat)) H
def rLcnt (K : PySem.W.Frag) : V → List V → Hp → VK → Prop := fun x xs H Q => ∃ (y : V) (d : PyData) (ds : List PyData), xs = [y] ∧ Dp K H x (.list ds) ∧ Dp K H y d ∧ PyData.canLayAll0 ds = true ∧ d.canLay0 = true ∧ d.depth ≤ 64 ∧
  Q (.int ((ds.countP fun z => PyData.eqv z d) : Nat)) H
section
variable {X : Cx}
theorem mt_lidxA (hu : X.A.units + 200 < cLine) : MtR X "list.index" (rLidx X.K) := by
  intro pins s σ H x xs v us Q I rx rxs h
  obtain ⟨y, d, ds, j, rfl, hl, hy, hxs, hd, hm, hj, q⟩ := h
  cases rxs with
  | cons ry rt =>
    rename_i uy ut
    cases rt
    obtain ⟨bs, r1⟩ := Dp.reads I d y uy hy ry
    cases hl with
    | lst hs ha =>
      cases rx
      obtain ⟨its, rv, ⟨⟨cls, dd, data, sls⟩, n, ho, hc, hdn, hdt⟩, hlen⟩ := I.list hs
      simp only at hc hdt
      subst hc hdt
      obtain ⟨as, h4⟩ := Dp.readsAll I ds _ its ha rv
      have hn : its.length = ds.length := SeqAt.ReadsAll.length ds its as h4
      have hmap : its.map (SeqAt.readOf s.heap) = ds := SeqAt.readsAll_map ds its as hxs h4
      have hvl := rv.length
      have hsl := sizeLine_eq
      rw [← hmap, List.findIdx?_map] at hj
      obtain ⟨hjl, hj1, hj2⟩ := List.findIdx?_eq_some_iff_getElem.mp hj
      have hj' : j < its.toArray.size := by simpa using hjl
      refine call_meets PySem.F.slot_list_index ⟨_, ho, rfl⟩ PySem.F.entry_list_index (PySem.F.args_list_index_2 _ _)
        (SeqAt.list_indexAt _ its.toArray n dd sls uy (fun u => PyData.eqv (SeqAt.readOf s.heap u) d) j hj' (by omega) ?_ ?_) ⟨ho, SeqAt.items_eqAt (vs := its.toArray) (show ReadsAll s.heap its.toArray.toList ds as from h4) r1 hxs hd (by omega), ⟨.int (j : Nat), H, I.tok _, ⟨_, rfl⟩, q⟩⟩
      · simpa using hj1
      · intro m hm' hmj
        have := hj2 m hmj
        simpa using this
theorem mt_lcntA (hu : X.A.units + 200 < cLine) : MtR X "list.count" (rLcnt X.K) := by
  intro pins s σ H x xs v us Q I rx rxs h
  obtain ⟨y, d, ds, rfl, hl, hy, hxs, hd, hm, q⟩ := h
  cases rxs with
  | cons ry rt =>
    rename_i uy ut
    cases rt
    obtain ⟨bs, r1⟩ := Dp.reads I d y uy hy ry
    cases hl with
    | lst hs ha =>
      cases rx
      obtain ⟨its, rv, ⟨⟨cls, dd, data, sls⟩, n, ho, hc, hdn, hdt⟩, hlen⟩ := I.list hs
      simp only at hc hdt
      subst hc hdt
      obtain ⟨as, h4⟩ := Dp.readsAll I ds _ its ha rv
      have hmap : its.map (SeqAt.readOf s.heap) = ds := SeqAt.readsAll_map ds its as hxs h4
      refine call_meets PySem.F.slot_list_count ⟨_, ho, rfl⟩ PySem.F.entry_list_count (PySem.F.args_list_count_2 _ _)
        (SeqAt.list_countAt _ its.toArray n dd sls uy (fun u => PyData.eqv (SeqAt.readOf s.heap u) d)) ⟨ho, SeqAt.items_eqAt (vs := its.toArray) (show ReadsAll s.heap its.toArray.toList ds as from h4) r1 hxs hd (by omega), ?_⟩
      have ec : its.toArray.toList.countP (fun u => PyData.eqv (SeqAt.readOf s.heap u) d) = ds.countP fun z => PyData.eqv z d := by
        rw [← hmap, List.countP_map]
        rfl
      refine ⟨.int _, H, I.tok _, ⟨s.toks, ?_⟩, q⟩
      show Value.int ((its.toArray.toList.countP (fun u => PyData.eqv (SeqAt.readOf s.heap u) d) : Nat) : Int) s.toks = _
      rw [ec]
def rMt (K : PySem.W.Frag) : Mt → V → List V → Hp → VK → Prop
  | .append => rAppend
  | .extend => rExtend
  | .pop => rPop
  | .pop0 => rPopAt
  | .lidx => rLidx K
  | .lcnt => rLcnt K
  | .sidx => fun x xs H Q => ∃ a b i rest, x = .str a ∧ xs = [.str b] ∧ Builtin.Str.occurrences a b 0 a.length 1 = i :: rest ∧ Q (.int (i : Nat)) H
  | .join => fun x xs H Q => ∃ a p, ∃ ys : List Str, x = .str a ∧ xs = [.ref p] ∧ (SqL K H p (ys.map V.str) ∨ SqT K H p (ys.map V.str)) ∧ (ys.map (·.length)).sum + ys.length * a.length ≤ 16777216 ∧ Q (.str (PySem.Txt.join a ys)) H
  | _ => fun _ _ _ _ => False
/-- names and slots of the methods -/
structure MtF (m : Mt) (name : Str) where
  id : String
  pa : PlainAttrs (mtTy m)
  slot : Slot (mtTy m) name id
  ty : typeOf (.builtin id) = pure (.type "method_descriptor")
def mtName : Mt → String
  | .append => "append" | .extend => "extend" | .pop => "pop" | .pop0 => "pop" | .lidx => "index" | .lcnt => "count" | .get => "get"
  | .sidx => "index" | .join => "join" | .split => "split" | .replace => "replace"
theorem mtr (hu : X.A.units + 200 < cLine) : ∀ m : Mt, ∃ id, PlainAttrs (mtTy m) ∧ Slot (mtTy m) (mtName m) id ∧ typeOf (.builtin id) = pure (.type "method_descriptor") ∧ MtR X id (rMt X.K m)
  | .append => ⟨_, PySem.F.plainAttrs_list, PySem.F.slot_list_append, PySem.F.type_list_append, mt_append⟩
  | .pop => ⟨_, PySem.F.plainAttrs_list, PySem.F.slot_list_pop, PySem.F.type_list_pop, mt_pop⟩
  | .pop0 => ⟨_, PySem.F.plainAttrs_list, PySem.F.slot_list_pop, PySem.F.type_list_pop, mt_popAt⟩
  | .lidx => ⟨_, PySem.F.plainAttrs_list, PySem.F.slot_list_index, PySem.F.type_list_index, mt_lidxA hu⟩
  | .lcnt => ⟨_, PySem.F.plainAttrs_list, PySem.F.slot_list_count, PySem.F.type_list_count, mt_lcntA hu⟩
  | .extend => ⟨_, PySem.F.plainAttrs_list, PySem.F.slot_list_extend, PySem.F.type_list_extend, mt_extend⟩
  | .get => ⟨_, PySem.F.plainAttrs_dict, PySem.F.slot_dict_get, PySem.F.type_dict_get, fun _ _ _ _ _ _ _ _ _ _ _ _ q => q.elim⟩
  | .sidx => ⟨_, PySem.F.plainAttrs_str, PySem.F.slot_str_index, PySem.F.type_str_index, mt_sindex⟩
  | .join => ⟨_, PySem.F.plainAttrs_str, PySem.F.slot_str_join, PySem.F.type_str_join, mt_join⟩
  | .split => ⟨_, PySem.F.plainAttrs_str, PySem.F.slot_str_split, PySem.F.type_str_split, fun _ _ _ _ _ _ _ _ _ _ _ _ q => q.elim⟩
  | .replace => ⟨_, PySem.F.plainAttrs_str, PySem.F.slot_str_replace, PySem.F.type_str_replace, fun _ _ _ _ _ _ _ _ _ _ _ _ q => q.elim⟩
end
theorem strsOf_rep {K : PySem.W.Frag} {L : Addr → Prop} {H : Hp} : ∀ {ds : List D} {ss : List (List Nat)} {vs : List V}, strsOf ds = some ss → Reps K L H ds vs → vs = (ss.map SS).map V.str ∧ ∀ s ∈ ss, okS s
  | [], bs, vs, h, r => by cases h; cases r; exact ⟨rfl, by simp⟩
  | d :: ds, bs, vs, h, r => by
    cases r with
    | cons r1 r2 =>
      cases d with
      | str i =>
        cases e : strsOf ds with
        | none => rw [strsOf, e] at h; cases h
        | some ms =>
          rw [strsOf, e] at h; cases h
          cases r1 with
          | str o =>
            obtain ⟨h1, h2⟩ := strsOf_rep e r2
            refine ⟨by rw [h1]; rfl, fun s hs => ?_⟩
            rcases List.mem_cons.mp hs with rfl | hs
            · exact o
            · exact h2 s hs
      | _ => cases h
theorem SS_eq {x y : Str} (h : x.cps.toList = y.cps.toList) : x = y := by
  cases x; cases y; congr 1; exact Array.ext' h
theorem joinS_eq (sep : List Nat) : ∀ ss : List (List Nat), joinS sep ss = TL.joinL sep ss
  | [] => rfl
  | [_] => rfl
  | x :: y :: r => by rw [joinS, TL.joinL, joinS_eq sep (y :: r)]
theorem join_SS (sep : List Nat) (ss : List (List Nat)) : PySem.Txt.join (SS sep) (ss.map SS) = SS (joinS sep ss) := by
  apply SS_eq
  rw [TL.join_eq]
  show TL.tl (Str.join (SS sep) (ss.map SS)) = joinS sep ss
  rw [TL.tl_join, joinS_eq]
  congr 1
  rw [List.map_map]
  exact List.map_id'' (fun _ => rfl) ss
theorem okS_join {sep : List Nat} (hs : okS sep) : ∀ {ss : List (List Nat)}, (∀ s ∈ ss, okS s) → okS (joinS sep ss)
  | [], _ => by simp [joinS, okS]
  | [x], h => h x List.mem_cons_self
  | x :: y :: r, h => by
    rw [joinS]
    exact okS_app (h x List.mem_cons_self) (okS_app hs (okS_join hs fun s z => h s (List.mem_cons_of_mem _ z)))
theorem isTy_tyV {c : Glb} {g : G} {m : Mt} {v : Vl} {w : V} (ok : GOk c g) (r : RepV c g v w) (h : isTy (mtTyp m) v g.S = some true) : tyV c.K (mtTy m) w g.H := by
  cases r with
  | @d x _ r =>
    cases r with
    | str o => cases m <;> first | rfl | cases h
    | @lst a ds vs hs hn hl hr => cases m <;> first | exact .inl ⟨rfl, _, SqL.of hs⟩ | cases h
    | _ => cases m <;> cases h
  | @ref n a e =>
    have h : (match (g.S : List Cell)[n]? with | some (.lst _) => some (decide (mtTyp m = .lst)) | some (.fzn _) => some (decide (mtTyp m = .lst)) | some (.dic _) => some (decide (mtTyp m = .dic)) | none => none) = some true := h
    split at h
    · rename_i ds hs
      obtain ⟨vs, h1, _⟩ := ok.cell _ _ _ e hs
      cases m <;> first | exact .inl ⟨rfl, _, SqL.of h1⟩ | (exact absurd h (by decide))
    · rename_i ds hs
      have q := ok.cell _ _ _ e hs
      cases q with
      | lst h1 _ _ _ => cases m <;> first | exact .inl ⟨rfl, _, SqL.of h1⟩ | (exact absurd h (by decide))
    · rename_i ds hs
      obtain ⟨vs, h1, _⟩ := ok.cell _ _ _ e hs
      cases m <;> first | exact .inr (.inr (.inl ⟨rfl, .inl ⟨_, h1⟩⟩)) | (exact absurd h (by decide))
    · cases h
  | fnv e => cases m <;> cases h
  | exn e => cases m <;> cases h
  | clo => cases m <;> cases h
  | scr => cases m <;> cases h
theorem mtApp_ok {c : Glb} {g : G} {v : Vl} {vs : List Vl} {w : V} {ws : List V} {W : WX} {σ : L2.St} {Q : VK} (ok : GOk c g) (r : RepV c g v w) (rs : RepVs c g vs ws) (out : Out c g W σ (mtApp v vs g.S) (fun v g' => ∀ w, RepV c g' v w → Q w g'.H)) : rAppend w ws g.H Q := by
  cases r with
  | @ref n a e =>
    cases rs with
    | nil => exact out.elim
    | cons r1 rt =>
      cases rt with
      | cons => exact out.elim
      | nil =>
        rename_i v1 w1
        obtain ⟨⟨x, S2⟩, hp, q⟩ := Out.opt out
        obtain ⟨ok2, le2, r2⟩ := take_ok ok r1 hp
        have q : Out c g W σ (match (S2 : List Cell)[n]? with
          | some (.lst ds) => if ds.length < lim then .ok (.d .non) (S2.set n (.lst (ds ++ [x]))) else .stuck
          | _ => .stuck) (fun v g' => ∀ w, RepV c g' v w → Q w g'.H) := q
        split at q
        · rename_i ds hs
          split at q
          · rename_i hl
            obtain ⟨ws', h1, hl', hr⟩ := ok2.cell n a _ e hs
            refine ⟨a, ws', _, rfl, rfl, h1, by rw [← hr.length, ← lim_eq]; exact hl, ?_⟩
            have hr2 : Reps c.K (live { g with S := S2 }) g.H (ds ++ [x]) (ws' ++ [w1]) := hr.app (.cons r2 .nil)
            have hl2 : (ds ++ [x]).length ≤ lim := by rw [List.length_append]; exact hl
            have ok3 := gok_set (g := { g with S := S2 }) ok2 e hs rfl hl2 hr2
            have le3 := le_set (g := { g with S := S2 }) (x := .lst (ds ++ [x])) (o := .lst (ws' ++ [w1])) ok2 e hs rfl
            exact q _ _ ok3 (le2.trans le3) _ (.d .non)
          · exact q.elim
        · exact q.elim
  | _ => exact out.elim
theorem mtExt_ok {c : Glb} {g : G} {v : Vl} {vs : List Vl} {w : V} {ws : List V} {W : WX} {σ : L2.St} {Q : VK} (ok : GOk c g) (r : RepV c g v w) (rs : RepVs c g vs ws) (out : Out c g W σ (mtExt v vs g.S) (fun v g' => ∀ w, RepV c g' v w → Q w g'.H)) : rExtend w ws g.H Q := by
  cases r with
  | @ref n a e =>
    cases rs with
    | nil => exact out.elim
    | cons r1 rt =>
      cases rt with
      | cons => exact out.elim
      | nil =>
        rename_i v1 w1
        have q : Out c g W σ (match (g.S : List Cell)[n]?, peek g.S v1 with
          | some (.lst ds), some (.lst zs) => if ds.length + zs.length ≤ lim then .ok (.d .non) (g.S.set n (.lst (ds ++ zs))) else .stuck
          | _, _ => .stuck) (fun v g' => ∀ w, RepV c g' v w → Q w g'.H) := out
        split at q
        · rename_i ds zs hs hz
          split at q
          · rename_i hl
            obtain ⟨us, h1, hl', hr⟩ := ok.cell n a _ e hs
            obtain ⟨b, ys, rfl, h2, hl2, hr2⟩ := peek_ok ok r1 hz
            refine ⟨a, b, us, ys, rfl, rfl, h1, h2, by rw [← hr.length, ← hr2.length, ← lim_eq]; exact hl, ?_⟩
            have ok3 := gok_set ok e hs rfl (by rw [List.length_append]; exact hl) (hr.app hr2)
            have le3 := le_set (x := .lst (ds ++ zs)) (o := .lst (us ++ ys)) ok e hs rfl
            exact q _ _ ok3 le3 _ (.d .non)
          · exact q.elim
        · exact q.elim
  | _ => exact out.elim
theorem mtPop_ok {c : Glb} {g : G} {v : Vl} {vs : List Vl} {w : V} {ws : List V} {W : WX} {σ : L2.St} {Q : VK} (ok : GOk c g) (r : RepV c g v w) (rs : RepVs c g vs ws) (out : Out c g W σ (mtPop v vs g.S) (fun v g' => ∀ w, RepV c g' v w → Q w g'.H)) : rPop w ws g.H Q := by
  cases r with
  | @ref n a e =>
    cases rs with
    | cons r1 rt => exact out.elim
    | nil =>
      have q : Out c g W σ (match (g.S : List Cell)[n]? with
        | some (.lst ds) => match ds[ds.length - 1]? with
          | some x => R.ok (.d x) (g.S.set n (.lst ds.dropLast))
          | none => .stuck
        | _ => .stuck) (fun v g' => ∀ w, RepV c g' v w → Q w g'.H) := out
      split at q
      · rename_i ds hs
        split at q
        · rename_i x hx
          obtain ⟨vs, h1, hl', hr⟩ := ok.cell n a _ e hs
          obtain ⟨y, hy, ry⟩ := hr.get hx
          refine ⟨a, vs, y, rfl, rfl, h1, by rw [← hr.length]; exact hy, ?_⟩
          have hr2 : Reps c.K (live g) g.H ds.dropLast vs.dropLast := by rw [List.dropLast_eq_take, List.dropLast_eq_take, hr.length]; exact hr.take _
          have hl2 : ds.dropLast.length ≤ lim := Nat.le_trans (by rw [List.length_dropLast]; omega) hl'
          have ok3 := gok_set ok e hs rfl hl2 hr2
          have le3 := le_set (x := .lst ds.dropLast) (o := .lst vs.dropLast) ok e hs rfl
          exact q _ _ ok3 le3 _ (.d (ry.le ok le3))
        · exact q.elim
      · exact q.elim
  | _ => exact out.elim
theorem mtPop0_ok {c : Glb} {g : G} {v : Vl} {vs : List Vl} {w : V} {ws : List V} {W : WX} {σ : L2.St} {Q : VK} (ok : GOk c g) (r : RepV c g v w) (rs : RepVs c g vs ws) (out : Out c g W σ (mtPop0 v vs g.S) (fun v g' => ∀ w, RepV c g' v w → Q w g'.H)) : rPopAt w ws g.H Q := by
  cases r with
  | @ref n a e =>
    cases rs with
    | nil => exact out.elim
    | cons r1 rt =>
      cases rt with
      | cons => cases r1 with
        | d r1 => cases r1 <;> exact out.elim
        | _ => exact out.elim
      | nil =>
        cases r1 with
        | d r1 =>
          cases r1 with
          | int i =>
            have q : Out c g W σ (match (g.S : List Cell)[n]? with
              | some (.lst ds) => if i = 0 then match ds with
                | x :: r => R.ok (.d x) (g.S.set n (.lst r))
                | [] => .stuck
                else .stuck
              | _ => .stuck) (fun v g' => ∀ w, RepV c g' v w → Q w g'.H) := out
            split at q
            · rename_i ds hs
              split at q
              · rename_i hi
                cases ds with
                | nil => exact q.elim
                | cons x xs =>
                  obtain ⟨vs, h1, hl', hr⟩ := ok.cell n a _ e hs
                  cases hr with
                  | @cons _ y _ ys ry rys =>
                    subst hi
                    refine ⟨a, y :: ys, 0, 0, y, rfl, rfl, h1, by decide, by decide, ?_, rfl, ?_⟩
                    · simp [seqIndex?]
                    · have hl2 : xs.length ≤ lim := Nat.le_trans (Nat.le_succ _) hl'
                      have ok3 := gok_set ok e hs rfl hl2 rys
                      have le3 := le_set (x := .lst xs) (o := .lst ys) ok e hs rfl
                      exact q _ _ ok3 le3 _ (.d (ry.le ok le3))
              · exact q.elim
            · exact q.elim
          | _ => exact out.elim
        | _ => exact out.elim
  | _ => exact out.elim
theorem occ_a : Builtin.Str.occurrences (SS [97, 98]) (SS [97]) 0 (SS [97, 98]).length 1 = [0] := by decide +kernel
theorem occ_b : Builtin.Str.occurrences (SS [97, 98]) (SS [98]) 0 (SS [97, 98]).length 1 = [1] := by decide +kernel
theorem mtD_ok {c : Glb} {g : G} {m : Mt} {x z : D} {xs : List D} {w : V} {ws : List V} {Q : VK} (hx : Pk c g x w) (hxs : Pks c g xs ws) (h : mtD m x xs = some z) (q : ∀ u, Rep c.K (live g) g.H z u → Q u g.H) : rMt c.K m w ws g.H Q := by
  unfold mtD at h
  split at h
  · rw [Option.bind_eq_some_iff] at h
    obtain ⟨ss, h1, h2⟩ := h
    split at h2
    · rename_i hl
      cases h2
      obtain ⟨w, rfl, a, vs, rfl, hs, hl', hr⟩ := hxs.one
      cases hx with
      | str o =>
        obtain ⟨e, os⟩ := strsOf_rep h1 hr
        rw [e] at hs
        refine ⟨_, a, ss.map SS, rfl, rfl, .inl (SqL.of hs), ?_, ?_⟩
        · rw [List.map_map, List.length_map, SS_length]
          have e2 : ss.map ((fun x => x.length) ∘ SS) = ss.map List.length := List.map_congr_left fun s _ => SS_length s
          rw [e2]
          exact hl
        · rw [join_SS]
          exact q _ (.str (okS_join o os))
    · cases h2
  · split at h
    · rename_i hd
      rw [Option.map_eq_some_iff] at h
      obtain ⟨k, h1, rfl⟩ := h
      obtain ⟨w2, rfl, hy⟩ := hxs.one
      obtain ⟨a1, a2⟩ := hx.dp
      obtain ⟨b1, b2⟩ := hy.dp
      refine ⟨_, _, _, k, rfl, a1, b1, by simpa [toPy, PyData.canLay0] using a2, b2, by rw [depth_toPy]; omega, ?_, q _ (.int _)⟩
      rw [toPys_map, List.findIdx?_map]
      rw [← h1]
      congr 1
      funext y
      exact eqv_toPy y _
    · cases h
  · split at h
    · rename_i hd
      cases h
      obtain ⟨w2, rfl, hy⟩ := hxs.one
      obtain ⟨a1, a2⟩ := hx.dp
      obtain ⟨b1, b2⟩ := hy.dp
      refine ⟨_, _, _, rfl, a1, b1, by simpa [toPy, PyData.canLay0] using a2, b2, by rw [depth_toPy]; omega, ?_⟩
      rename_i ds x
      have e : ((toPys ds).countP fun z => PyData.eqv z (toPy x)) = ds.countP fun y => eqD y x := by
        rw [toPys_map, List.countP_map]
        congr 1
        funext y
        exact eqv_toPy y _
      rw [e]
      exact q _ (.int _)
    · cases h
  · split at h
    · rename_i hs
      subst hs
      obtain ⟨w2, rfl, hy⟩ := hxs.one
      cases hx
      cases hy
      split at h
      · rename_i hc
        cases h
        subst hc
        exact ⟨_, _, 0, [], rfl, rfl, occ_a, q _ (.int _)⟩
      · split at h
        · rename_i hc
          cases h
          subst hc
          exact ⟨_, _, 1, [], rfl, rfl, occ_b, q _ (.int _)⟩
        · cases h
    · cases h
  · cases h
theorem mtPure_ok {c : Glb} {g : G} {m : Mt} {v : Vl} {vs : List Vl} {w : V} {ws : List V} {W : WX} {σ : L2.St} {Q : VK} (ok : GOk c g) (r : RepV c g v w) (rs : RepVs c g vs ws) (out : Out c g W σ (mtPure m v vs g.S) (fun v g' => ∀ w, RepV c g' v w → Q w g'.H)) : rMt c.K m w ws g.H Q := by
  unfold mtPure at out
  split at out
  · rename_i x xs h1 h2
    obtain ⟨z, hz, q⟩ := Out.opt out
    exact mtD_ok (peek_ok ok r h1) (peeks_ok ok rs h2) hz fun u ru => (Out.here q ok) u (.d ru)
  · exact out.elim
theorem mt_ok {c : Glb} {g : G} {m : Mt} {v : Vl} {vs : List Vl} {w : V} {ws : List V} {W : WX} {σ : L2.St} {Q : VK} (ok : GOk c g) (r : RepV c g v w) (rs : RepVs c g vs ws) (out : Out c g W σ (mtV m v vs g.S) (fun v g' => ∀ w, RepV c g' v w → Q w g'.H)) : rMt c.K m w ws g.H Q := by
  cases m with
  | append => exact mtApp_ok ok r rs out
  | extend => exact mtExt_ok ok r rs out
  | pop => exact mtPop_ok ok r rs out
  | pop0 => exact mtPop0_ok ok r rs out
  | _ => exact mtPure_ok ok r rs out
section
variable {c : Glb} {U : EV.Env} {W : WX} {X : Cx} {e o : Expr} {l lo_ : LE} {es : List Expr} {ls : LEs} {pos apos cpos p : Pos}
theorem se_mt {m : Mt} (hK : X.K = c.K) (hu : X.A.units + 200 < cLine) (ho : PE X o (tEv c U W lo_)) (hs : PA X (e :: es) (tEvs c U W ls)) (hb : baseX o = true) (hp : (e :: es).all plainX = true) (hl : (e :: es).length < 20) (hline : (apos.endLine == cpos.line) = true) :
    PE X (.Call (.Attribute o (mtName m) apos) (e :: es) [] cpos) (tEv c U W (.mt m lo_ ls)) := by
  obtain ⟨id, pa, slot, ty, mr⟩ := mtr (X := X) hu m
  have hp2 := hp
  rw [List.all_cons, Bool.and_eq_true] at hp2
  refine PE.imp (pe_bm pa slot ty mr ho hs (base_ok hb _) (few_ok hp hl) hline (star_cons hp2.1) (star_any hp2.2 _)) fun σ H Q => ?_
  rintro ⟨g, loc, rfl, ok, lo, out⟩
  refine ⟨g, loc, rfl, ok, lo, (Out.bind out).imp fun v g1 ⟨le1, ok1, out1⟩ w rw1 => ?_⟩
  split at out1
  · rename_i ht
    rw [hK]
    refine ⟨isTy_tyV ok1 rw1 ht, g1, loc, rfl, ok1, lo.le ok le1, (Out.bind out1).imp fun vs g2 ⟨le2, ok2, out2⟩ ws rws => ?_⟩
    exact mt_ok ok2 (rw1.le ok1 le2) rws out2
  · exact out1.elim
theorem se_mt0 {m : Mt} (hK : X.K = c.K) (hu : X.A.units + 200 < cLine) (ho : PE X o (tEv c U W lo_)) (hb : baseX o = true) (hline : (apos.endLine == cpos.line) = true) :
    PE X (.Call (.Attribute o (mtName m) apos) [] [] cpos) (tEv c U W (.mt m lo_ .nil)) := by
  obtain ⟨id, pa, slot, ty, mr⟩ := mtr (X := X) hu m
  refine PE.imp (pe_bm0 pa slot ty mr ho (base_ok hb _) hline) fun σ H Q => ?_
  rintro ⟨g, loc, rfl, ok, lo, out⟩
  refine ⟨g, loc, rfl, ok, lo, (Out.bind out).imp fun v g1 ⟨le1, ok1, out1⟩ w rw1 => ?_⟩
  split at out1
  · rename_i ht
    rw [hK]
    refine ⟨isTy_tyV ok1 rw1 ht, ?_⟩
    simp only [evEs, R.bind_ok] at out1
    exact mt_ok ok1 rw1 .nil out1
  · exact out1.elim
theorem pe_callX {b : Bi} (hc : X.calm = true) (hu : X.A.units + 200 < cLine) (hK : X.K = c.K) (hg : Gl X (biName b)) (hm : X.mg (biName b) = none) (hp : (e :: es).all plainX = true) (hs : PA X (e :: es) (tEvs c U W ls)) :
    PE X (.Call (.Name (biName b) p) (e :: es) [] pos) (tCB (rBi X.K b) (tEvs c U W ls)) := by
  rw [List.all_cons, Bool.and_eq_true] at hp
  have h := bir (X := X) hc hu b
  cases b with
  | len => exact pe_callB h hg hm PySem.boot_len hs (by decide) (by decide) (star_cons hp.1) (star_any hp.2 _)
  | abs => exact pe_callB h hg hm (by decide +kernel) hs (by decide) (by decide) (star_cons hp.1) (star_any hp.2 _)
  | sorted => exact pe_callB h hg hm (by decide +kernel) hs (by decide) (by decide) (star_cons hp.1) (star_any hp.2 _)
  | all => exact pe_callB h hg hm (by decide +kernel) hs (by decide) (by decide) (star_cons hp.1) (star_any hp.2 _)
  | any => exact pe_callB h hg hm (by decide +kernel) hs (by decide) (by decide) (star_cons hp.1) (star_any hp.2 _)
  | min => exact pe_callB h hg hm (by decide +kernel) hs (by decide) (by decide) (star_cons hp.1) (star_any hp.2 _)
  | max => exact pe_callB h hg hm (by decide +kernel) hs (by decide) (by decide) (star_cons hp.1) (star_any hp.2 _)
  | sum => exact pe_callB h hg hm (by decide +kernel) hs (by decide) (by decide) (star_cons hp.1) (star_any hp.2 _)
  | repr => exact pe_callB h hg hm (by decide +kernel) hs (by decide) (by decide) (star_cons hp.1) (star_any hp.2 _)
  | int => exact pe_callTy h hg hm (by decide +kernel) hs (by decide) (by decide) (star_cons hp.1) (star_any hp.2 _)
  | str => exact pe_callTy h hg hm (by decide +kernel) hs (by decide) (by decide) (star_cons hp.1) (star_any hp.2 _)
  | tup => exact pe_callTy h hg hm (by decide +kernel) hs (by decide) (by decide) (star_cons hp.1) (star_any hp.2 _)
  | lst => exact pe_callTy h hg hm (by decide +kernel) hs (by decide) (by decide) (star_cons hp.1) (star_any hp.2 _)
theorem biV_ok {c : Glb} {g : G} {b : Bi} {vs : List Vl} {z : D} {ws : List V} {Q : VK} (ok : GOk c g) (r : RepVs c g vs ws) (h : biV b vs g.S = some z) (q : OutN c g z Q) : rBi c.K b ws g.H Q := by
  have gen : (peeks g.S vs).bind (fun xs => biD b xs) = some z → rBi c.K b ws g.H Q := fun h => by
    rw [Option.bind_eq_some_iff] at h
    obtain ⟨xs, h1, h2⟩ := h
    exact bi_ok ok (peeks_ok ok r h1) h2 q
  unfold biV at h
  split at h
  · split at h
    · rename_i v kvs hd
      cases r with
      | cons r1 r2 =>
        cases r2
        obtain ⟨n, a, us, rfl, rfl, e1, e2, e3, e4, e5⟩ := dicOf_ok ok r1 hd
        split at h
        · cases h
          exact .inr ⟨a, us, rfl, .inl e3, fun p hp => q p _ hp (by rw [List.length_map]; exact e4) e5.keys⟩
        · cases h
          exact .inl (.inr ⟨a, us, rfl, e3, by rw [← e5.length]; exact q.sc ok (.int _) (fun _ z => by cases z)⟩)
        · cases h
    · exact gen h
  · exact gen h
theorem se_bi {b : Bi} (hc : X.calm = true) (hu : X.A.units + 200 < cLine) (hK : X.K = c.K) (hg : Gl X (biName b)) (hm : X.mg (biName b) = none) (hp : (e :: es).all plainX = true) (hs : PA X (e :: es) (tEvs c U W ls)) :
    PE X (.Call (.Name (biName b) p) (e :: es) [] pos) (tEvN c U W (.bi b ls)) := PE.imp (pe_callX hc hu hK hg hm hp hs) fun σ H Q => by
  rintro ⟨g, loc, rfl, ok, lo, out⟩
  refine ⟨g, loc, rfl, ok, lo, (Out.bind out).imp fun vs g1 ⟨le1, ok1, out1⟩ ws rws => ?_⟩
  obtain ⟨z, h2, o2⟩ := Out.opt out1
  obtain ⟨z', e', q'⟩ := Out.here o2 ok1
  cases e'
  rw [hK]
  exact biV_ok ok1 rws h2 q'
end
end EV
end

section
set_option Elab.async false
set_option linter.all false
set_option maxRecDepth 100000
set_option maxHeartbeats 1000000
/-! EV9: isinstance, iterables, comprehensions -/
namespace EV
open PySem PySem.Spec PyProof.Rows L2
def tyName : Ty → String
  | .bool => "bool" | .int => "int" | .str => "str" | .tup => "tuple" | .lst => "list" | .dic => "dict"
theorem boot_ty : ∀ t : Ty, bootBuiltins (tyName t : Str) = some (.type (tyName t))
  | .bool => PyProof.Rows.boot_bool | .int => PyProof.Rows.boot_int | .str => PyProof.Rows.boot_str | .tup => PyProof.Rows.boot_tuple | .lst => PyProof.Rows.boot_list | .dic => PyProof.Rows.boot_dict
def kitRow (n : String) (t : Ty) : Bool := n == tyName t || (n == "bool" && t == .int)
theorem kitRow_ok (n : String) (h : n ∈ ["NoneType", "bool", "int", "str", "tuple", "list", "dict"]) (t : Ty) : kitB n (tyName t) = some (kitRow n t) := by
  simp only [List.mem_cons, List.not_mem_nil, or_false] at h
  rcases h with rfl | rfl | rfl | rfl | rfl | rfl | rfl <;> cases t <;> decide +kernel
theorem kitRow_at {K : PySem.W.Frag} (n : String) (t : Ty) (b : Bool) (h : n ∈ ["NoneType", "bool", "int", "str", "tuple", "list", "dict"]) (e : kitRow n t = b) : PySem.W.kitOne K (.type n) (.type (tyName t)) = some b := by
  rw [← e]
  exact kit_ty (kitRow_ok n h t)
theorem isTyD_kit {K : PySem.W.Frag} {L : Addr → Prop} {H : Hp} {t : Ty} {x : D} {w : V} (r : Rep K L H x w) : ∃ ty, TyX K H w ty ∧ PySem.W.kitOne K ty (.type (tyName t)) = some (isTyD t x) := by
  cases r with
  | non => exact ⟨_, .base .non, kitRow_at _ t _ (by decide) (by cases t <;> decide)⟩
  | bl b => exact ⟨_, .base (.bl b), kitRow_at _ t _ (by decide) (by cases t <;> rfl)⟩
  | int i => exact ⟨_, .base (.int i), kitRow_at _ t _ (by decide) (by cases t <;> rfl)⟩
  | str o => exact ⟨_, .base (.str _), kitRow_at _ t _ (by decide) (by cases t <;> rfl)⟩
  | @tup a ds vs hs hl hr =>
    have k : PySem.W.kitOne K (.type "tuple") (.type (tyName t)) = some (isTyD t (.tup ds)) := kitRow_at _ t _ (by decide) (by cases t <;> rfl)
    rcases hs with (h | ⟨o, h⟩) | ⟨o, its, n, h1, h2, _⟩
    · exact ⟨_, .base (.tup h), k⟩
    · exact ⟨_, .fTuple h, k⟩
    · exact ⟨_, .kTuple h1 h2, k⟩
  | lst hs hn hl hr => exact ⟨_, .base (.lst hs), kitRow_at _ t _ (by decide) (by cases t <;> rfl)⟩
theorem isTy_kit {c : Glb} {g : G} {t : Ty} {v : Vl} {w : V} {b : Bool} (ok : GOk c g) (r : RepV c g v w) (h : isTy t v g.S = some b) : ∃ ty, TyX c.K g.H w ty ∧ PySem.W.kitOne c.K ty (.type (tyName t)) = some b := by
  cases r with
  | d r => cases h; exact isTyD_kit r
  | @ref n a e =>
    have h : (match (g.S : List Cell)[n]? with | some (.lst _) => some (decide (t = .lst)) | some (.fzn _) => some (decide (t = .lst)) | some (.dic _) => some (decide (t = .dic)) | none => none) = some b := h
    split at h
    · rename_i ds hs
      obtain ⟨vs, h1, _⟩ := ok.cell _ _ _ e hs
      cases h
      exact ⟨_, .base (.lst h1), kitRow_at _ t _ (by decide) (by cases t <;> decide)⟩
    · rename_i ds hs
      have q := ok.cell _ _ _ e hs
      cases h
      cases q with
      | lst h1 _ _ _ => exact ⟨_, .base (.lst h1), kitRow_at _ t _ (by decide) (by cases t <;> decide)⟩
    · rename_i ds hs
      obtain ⟨vs, h1, _⟩ := ok.cell _ _ _ e hs
      cases h
      exact ⟨_, .base (.dK h1), kitRow_at _ t _ (by decide) (by cases t <;> decide)⟩
    · cases h
  | fnv e => cases h
  | exn e => cases h
  | clo => cases h
  | scr => cases h
section
variable {c : Glb} {U : EV.Env} {W : WX} {X : Cx} {e o : Expr} {l lo_ : LE} {es : List Expr} {ls : LEs} {pos apos cpos p p2 : Pos}
theorem se_isi {t : Ty} (hK : X.K = c.K) (hg : Gl X "isinstance") (hm : X.mg "isinstance" = none) (hg2 : Gl X (tyName t)) (hm2 : X.mg (tyName t) = none) (hp : plainX e = true) (he : PE X e (tEv c U W l)) :
    PE X (.Call (.Name "isinstance" p) [e, .Name (tyName t) p2] [] pos) (tEv c U W (.isi l t)) := by
  have ht : PE X (.Name (tyName t) p2) (tC (.ty (tyName t))) := pe_bltn hg2 hm2 (boot_ty t) rfl (by cases t <;> decide) (by cases t <;> decide)
  have ha : PA X [e, .Name (tyName t) p2] (tCons (tEv c U W l) (tCons (tC (.ty (tyName t))) tNil)) := pa_cons he (pa_cons ht pa_nil) (star_cons hp)
  refine PE.imp (pe_callB call_isi hg hm (by decide +kernel) ha (by decide) (by decide) (star_cons hp) rfl) fun σ H Q => ?_
  rintro ⟨g, loc, rfl, ok, lo, out⟩
  refine ⟨g, loc, rfl, ok, lo, (Out.bind out).imp fun v g1 ⟨le1, ok1, out1⟩ w rw1 => ?_⟩
  obtain ⟨b, hb, q⟩ := Out.opt out1
  obtain ⟨ty, h1, h2⟩ := isTy_kit ok1 rw1 hb
  rw [hK]
  exact ⟨w, .ty (tyName t), ty, _, b, rfl, .ty _, h1, h2, (Out.here q ok1) _ (.d (.bl b))⟩
end
/-! ### what is walked -/
/-- from g on the iterator J gives what the source tells, while what is walked stands -/
def Walks (c : Glb) (g : G) (J : It) : Src → Prop
  | .items ds => ∀ g' : G, GOk c g' → Lw g g' → (∀ i x, ds[i]? = some x → J.go i g'.H ∧ ∀ w H', J.yld i g'.H w H' → GOk c { g' with H := H' } ∧ Le g' { g' with H := H' } ∧ Rep c.K (live g') H' x w) ∧ J.stop ds.length g'.H
  | .live n => ∀ (g' : G) (ds : List D), GOk c g' → Lw g g' → (g'.S : List Cell)[n]? = some (.lst ds) → (∀ i x, ds[i]? = some x → J.go i g'.H ∧ ∀ w H', J.yld i g'.H w H' → GOk c { g' with H := H' } ∧ Le g' { g' with H := H' } ∧ Rep c.K (live g') H' x w) ∧ (∀ i, ds.length ≤ i → J.stop i g'.H)
def tIv (c : Glb) (U : EV.Env) (W : WX) (l : LI) : TI := fun σ H R => ∃ (g : G) (loc : Loc), g.H = H ∧ GOk c g ∧ LocOk c g loc σ ∧ Out c g W σ (evI U l loc g.S) (fun src g' => ∀ J, Walks c g' J src → R J g'.H)
theorem PI.imp {X : Cx} {tg e : Expr} {t t' : TI} (h : PI X tg e t) (i : ∀ σ H R, t' σ H R → t σ H R) : PI X tg e t' := ⟨fun pins s σ H R I q => h.run pins s σ H R I (i _ _ _ q)⟩
theorem PI.or {X : Cx} {tg e : Expr} {t t' : TI} (h : PI X tg e t) (h' : PI X tg e t') : PI X tg e (fun σ H R => t σ H R ∨ t' σ H R) := ⟨fun pins s σ H R I q => q.elim (h.run pins s σ H R I) (h'.run pins s σ H R I)⟩
section
variable {c : Glb}
/-- the heap as it was -/
theorem same_state {g : G} (ok : GOk c g) : GOk c { g with H := g.H } ∧ Le g { g with H := g.H } := ⟨ok, Le.refl g⟩
theorem walks_list {g : G} {a : Addr} {ds : List D} {vs : List V} (h : ∀ g', GOk c g' → Lw g g' → SqL c.K g'.H a vs ∧ Reps c.K (live g') g'.H ds vs) : Walks c g (Itl c.K a) (.items ds) := fun g' ok le => by
  obtain ⟨hs, hr⟩ := h g' ok le
  refine ⟨fun i x hx => ?_, ⟨vs, hs, Nat.le_of_eq hr.length.symm⟩⟩
  obtain ⟨w, hw, rw1⟩ := hr.get hx
  refine ⟨⟨vs, w, hs, hw⟩, fun w' H' hy => ?_⟩
  obtain ⟨rfl, hy⟩ := hy
  have e := hy vs hs
  rw [hw] at e
  cases e
  exact ⟨ok, Le.refl g', rw1⟩
theorem walks_tup {g : G} {a : Addr} {ds : List D} {vs : List V} (h : ∀ g', GOk c g' → Lw g g' → SqT c.K g'.H a vs ∧ Reps c.K (live g') g'.H ds vs) : Walks c g (Itt c.K a) (.items ds) := fun g' ok le => by
  obtain ⟨hs, hr⟩ := h g' ok le
  refine ⟨fun i x hx => ?_, ⟨vs, hs, Nat.le_of_eq hr.length.symm⟩⟩
  obtain ⟨w, hw, rw1⟩ := hr.get hx
  refine ⟨⟨vs, w, hs, hw⟩, fun w' H' hy => ?_⟩
  obtain ⟨rfl, hy⟩ := hy
  have e := hy vs hs
  rw [hw] at e
  cases e
  exact ⟨ok, Le.refl g', rw1⟩
theorem walks_str {g : G} {s : List Nat} (o : okS s) : Walks c g (Its (SS s)) (.items (s.map fun k => .str [k])) := fun g' ok le => by
  refine ⟨fun i x hx => ?_, ?_⟩
  · rw [List.getElem?_map] at hx
    cases hk : s[i]? with
    | none => rw [hk] at hx; cases hx
    | some k =>
      rw [hk] at hx
      cases hx
      have hi : i < s.length := (List.getElem?_eq_some_iff.mp hk).1
      refine ⟨by show i < (SS s).cps.size; simpa [SS] using hi, fun w' H' hy => ?_⟩
      obtain ⟨rfl, k', hk', rfl⟩ := hy
      have e : (SS s).cps[i]? = s[i]? := by simp [SS]
      rw [e, hk] at hk'
      cases hk'
      refine ⟨ok, Le.refl g', ?_⟩
      exact .str (s := [k]) fun x hx => by
        have e : x = k := by simpa using hx
        subst e
        exact o _ (List.mem_of_getElem? hk)
  · show (SS s).cps.size ≤ (s.map fun k => D.str [k]).length
    simp [SS]
theorem walks_range {g : G} {i j : Int} : Walks c g (Itr i (j - i).toNat) (.items (rangeD i j)) := fun g' ok le => by
  refine ⟨fun k x hx => ?_, ?_⟩
  · unfold rangeD at hx
    rw [List.getElem?_map] at hx
    cases hk : (List.range (j - i).toNat)[k]? with
    | none => rw [hk] at hx; cases hx
    | some m =>
      rw [hk] at hx
      cases hx
      obtain ⟨h1, h2⟩ := List.getElem?_eq_some_iff.mp hk
      simp at h1 h2
      subst h2
      refine ⟨by show k < (j - i).toNat; omega, fun w' H' hy => ?_⟩
      obtain ⟨rfl, rfl⟩ := hy
      exact ⟨ok, Le.refl g', .int _⟩
  · show (j - i).toNat ≤ (rangeD i j).length
    simp [rangeD]
end
section
variable {c : Glb} {U : EV.Env} {W : WX} {X : Cx} {e a b tg : Expr} {l la lb : LE} {es : List Expr} {pos p p2 : Pos}
theorem si_val (hK : X.K = c.K) (he : PE X e (tEv c U W l)) : PI X tg e (tIv c U W (.val l)) := PI.imp (PI.or (pi_list he) (PI.or (pi_tup he) (pi_str he))) fun σ H R => by
  rintro ⟨g, loc, rfl, ok, lo, out⟩
  have out2 := Out.bind out
  -- the value decides
  cases hr : evE U l loc g.S with
  | exc n xs S' =>
    rw [hr] at out2
    refine .inl ⟨g, loc, rfl, ok, lo, ?_⟩
    rw [hr]
    exact out2
  | stuck => rw [hr] at out2; exact out2.elim
  | ok v S' =>
    rw [hr] at out2
    have mk : ∀ (k : Vl → G → Prop), (∀ ρ' H', GOk c ⟨g.hid, ρ', S', H'⟩ → Le g ⟨g.hid, ρ', S', H'⟩ → k v ⟨g.hid, ρ', S', H'⟩) → Out c g W σ (evE U l loc g.S) k := fun k h => by rw [hr]; exact h
    cases v with
    | d x =>
      cases x with
      | tup ds =>
        refine .inr (.inl ⟨g, loc, rfl, ok, lo, mk _ fun ρ' H' ok1 le1 w rw1 => ?_⟩)
        obtain ⟨le, ok', o⟩ := out2 ρ' H' ok1 le1
        cases rw1 with
        | d r =>
          rw [hK]
          have r0 := r
          cases r with
          | @tup a _ vs hs hl hrr => exact ⟨a, rfl, ⟨vs, hs⟩, Out.here o ok1 _ (walks_tup fun g' ok2 le2 => ⟨(le2.mo ok1).tup hs, hrr.lw ok1 le2⟩)⟩
      | lst ds =>
        refine .inl ⟨g, loc, rfl, ok, lo, mk _ fun ρ' H' ok1 le1 w rw1 => ?_⟩
        obtain ⟨le, ok', o⟩ := out2 ρ' H' ok1 le1
        cases rw1 with
        | d r =>
          rw [hK]
          cases r with
          | @lst a _ vs hs hn hl hrr => exact ⟨a, rfl, ⟨vs, SqL.of hs⟩, Out.here o ok1 _ (walks_list fun g' ok2 le2 => ⟨(le2.mo ok1).sql (SqL.of hs) hn, hrr.lw ok1 le2⟩)⟩
      | str s =>
        refine .inr (.inr ⟨g, loc, rfl, ok, lo, mk _ fun ρ' H' ok1 le1 w rw1 => ?_⟩)
        obtain ⟨le, ok', o⟩ := out2 ρ' H' ok1 le1
        cases rw1 with
        | d r =>
          cases r with
          | str os => exact ⟨_, rfl, Out.here o ok1 _ (walks_str os)⟩
      | _ =>
        refine .inl ⟨g, loc, rfl, ok, lo, mk _ fun ρ' H' ok1 le1 w rw1 => ?_⟩
        obtain ⟨le, ok', o⟩ := out2 ρ' H' ok1 le1
        exact False.elim o
    | ref n =>
      refine .inl ⟨g, loc, rfl, ok, lo, mk _ fun ρ' H' ok1 le1 w rw1 => ?_⟩
      obtain ⟨le, ok', o⟩ := out2 ρ' H' ok1 le1
      have o : Out c ⟨g.hid, ρ', S', H'⟩ W σ (if liveL S' n then EV.R.ok (Src.live n) S' else .stuck) _ := o
      split at o
      · rename_i hlv
        rw [hK]
        cases rw1 with
        | @ref _ a ea =>
          have there : ∃ ds, (S' : List Cell)[n]? = some (.lst ds) := by
            unfold liveL at hlv
            split at hlv
            · rename_i ds hs; exact ⟨ds, hs⟩
            · cases hlv
          obtain ⟨ds, hs⟩ := there
          obtain ⟨vs, h1, hl, hrr⟩ := ok1.cell n a _ ea hs
          refine ⟨a, rfl, ⟨vs, SqL.of h1⟩, Out.here o ok1 _ fun g' ds' ok2 le2 hs' => ?_⟩
          have ea' := pre_get le2.pre ea
          obtain ⟨vs', h1', hl', hrr'⟩ := ok2.cell n a _ ea' hs'
          refine ⟨fun i x hx => ?_, fun i hi => ⟨vs', SqL.of h1', by rw [← hrr'.length]; exact hi⟩⟩
          obtain ⟨w, hw, rw1⟩ := hrr'.get hx
          refine ⟨⟨vs', w, SqL.of h1', hw⟩, fun w' H' hy => ?_⟩
          obtain ⟨rfl, hy⟩ := hy
          have e := hy vs' (SqL.of h1')
          rw [hw] at e
          cases e
          exact ⟨ok2, Le.refl g', rw1⟩
      · exact o.elim
    | _ =>
      refine .inl ⟨g, loc, rfl, ok, lo, mk _ fun ρ' H' ok1 le1 w rw1 => ?_⟩
      obtain ⟨le, ok', o⟩ := out2 ρ' H' ok1 le1
      exact False.elim o
theorem si_rng1 (hg : Gl X "range") (hm : X.mg "range" = none) (hp : plainX a = true) (ha : PE X a (tEv c U W la)) : PI X tg (.Call (.Name "range" p) [a] [] pos) (tIv c U W (.rng1 la)) :=
  PI.imp (pi_range1 hg hm (pa_cons ha pa_nil (star_cons hp)) (star_cons hp)) fun σ H R => by
  rintro ⟨g, loc, rfl, ok, lo, out⟩
  refine ⟨g, loc, rfl, ok, lo, (Out.bind out).imp fun v g1 ⟨le1, ok1, out1⟩ w rw1 => ?_⟩
  cases rw1 with
  | d r =>
    cases r with
    | int j =>
      have out1 : Out c g1 W σ (if wideI j then EV.R.ok (Src.items (rangeD 0 j)) g1.S else .stuck) _ := out1
      split at out1
      · rename_i hw
        have hw : -(2 ^ 62) ≤ j ∧ j < 2 ^ 62 := by simpa [wideI] using hw
        refine ⟨j, rfl, hw.1, hw.2, ?_⟩
        have e : j.toNat = (j - 0).toNat := by rw [Int.sub_zero]
        rw [e]
        exact Out.here out1 ok1 _ walks_range
      · exact out1.elim
    | _ => exact False.elim out1
  | _ => exact False.elim out1
theorem si_rng2 (hg : Gl X "range") (hm : X.mg "range" = none) (hp : plainX a = true) (hp2 : plainX b = true) (ha : PE X a (tEv c U W la)) (hb : PE X b (tEv c U W lb)) : PI X tg (.Call (.Name "range" p) [a, b] [] pos) (tIv c U W (.rng2 la lb)) :=
  PI.imp (pi_range2 hg hm (pa_cons ha (pa_cons hb pa_nil (star_cons hp2)) (star_cons hp)) (by rw [star_cons hp, star_cons hp2]; rfl) (star_cons hp2)) fun σ H R => by
  rintro ⟨g, loc, rfl, ok, lo, out⟩
  refine ⟨g, loc, rfl, ok, lo, (Out.bind out).imp fun v g1 ⟨le1, ok1, out1⟩ w rw1 => ?_⟩
  refine ⟨g1, loc, rfl, ok1, lo.le ok le1, (Out.bind out1).imp fun v2 g2 ⟨le2, ok2, out2⟩ w2 rw2 => ?_⟩
  cases rw1 with
  | d r =>
    cases r with
    | int i =>
      cases rw2 with
      | d r2 =>
        cases r2 with
        | int j =>
          have out2 : Out c g2 W σ (if wideI i && wideI j then EV.R.ok (Src.items (rangeD i j)) g2.S else .stuck) _ := out2
          split at out2
          · rename_i hw
            have hw : (-(2 ^ 62) ≤ i ∧ i < 2 ^ 62) ∧ (-(2 ^ 62) ≤ j ∧ j < 2 ^ 62) := by simpa [wideI] using hw
            exact ⟨i, j, rfl, ⟨hw.1.1, hw.1.2, hw.2.1, hw.2.2⟩, Out.here out2 ok2 _ walks_range⟩
          · exact out2.elim
        | _ => exact False.elim out2
      | _ => exact False.elim out2
    | _ => cases rw2 with
      | d r2 => cases r2 <;> exact False.elim out2
      | _ => exact False.elim out2
  | _ => cases rw2 <;> exact False.elim out2
end
end EV
end

section
set_option Elab.async false
set_option linter.all false
set_option maxRecDepth 100000
set_option maxHeartbeats 1000000
/-! EV10: enumerate and zip over lists, tuples, texts -/
namespace EV
open PySem PySem.Spec PyProof.Rows L2
/-- what is gone through -/
inductive Kd where
  | l (a : Addr) | t (a : Addr) | s (x : Str)
def Kd.v : Kd → V
  | .l a => .ref a
  | .t a => .ref a
  | .s x => .str x
def Kd.old : Kd → List Addr
  | .l a => [a]
  | .t a => [a]
  | .s _ => []
def Kd.st (k : Kd) (it : Addr) (i : Nat) (h : PySem.Heap) : Prop :=
  match k with
  | .l a => h.IsListIter it a i
  | .t a => h.IsTupleIter it a i
  | .s x => ∃ t, h.IsStrIter it (strIterType x) x t i
def Kd.vals (k : Kd) (K : PySem.W.Frag) (H : Hp) (xs : List V) : Prop :=
  match k with
  | .l a => SqL K H a xs
  | .t a => SqT K H a xs
  | .s x => xs = x.cps.toList.map fun c => .str ⟨#[c]⟩
theorem Kd.st_obj {k : Kd} {it : Addr} {i : Nat} {h : PySem.Heap} (st : k.st it i h) : ∃ o, h.get? it = some o ∧ ∀ v, o.data ≠ .cell v := by
  cases k with
  | l a => obtain ⟨o, e, _, d⟩ := st; exact ⟨o, e, fun v q => by rw [d] at q; cases q⟩
  | t a => obtain ⟨o, e, _, d⟩ := st; exact ⟨o, e, fun v q => by rw [d] at q; cases q⟩
  | s x => obtain ⟨t, o, e, _, d⟩ := st; exact ⟨o, e, fun v q => by rw [d] at q; cases q⟩
theorem Kd.st_keep {k : Kd} {it : Addr} {i : Nat} {h h' : PySem.Heap} (st : k.st it i h) (e : ∀ o, h.get? it = some o → h'.get? it = some o) : k.st it i h' := by
  cases k with
  | l a => obtain ⟨o, q, r⟩ := st; exact ⟨o, e o q, r⟩
  | t a => obtain ⟨o, q, r⟩ := st; exact ⟨o, e o q, r⟩
  | s x => obtain ⟨t, o, q, r⟩ := st; exact ⟨t, o, e o q, r⟩
theorem vals_at {xs : List V} {its : List Value} (rv : Vals xs its) {i : Nat} {u : Value} (h : its[i]? = some u) : ∃ x, xs[i]? = some x ∧ RelV x u := by
  have hi : i < xs.length := by rw [rv.length]; exact (List.getElem?_eq_some_iff.mp h).1
  obtain ⟨v, hv, r⟩ := rv.get (List.getElem?_eq_getElem hi)
  rw [h] at hv
  cases hv
  exact ⟨_, List.getElem?_eq_getElem hi, r⟩
section
variable {X : Cx} {pins : List (Addr × Obj)} {σ : L2.St} {H : Hp} {s : Shared}
theorem Kd.inj (I : Inv X pins σ H s) {k : Kd} {xs ys : List V} (h : k.vals X.K H xs) (h' : k.vals X.K H ys) : xs = ys := by
  cases k with
  | l a => exact I.list_inj h h'
  | t a => exact I.tuple_inj h h'
  | s x => have h : xs = _ := h; have h' : ys = _ := h'; rw [h, h']
/-- its iterator, drawn from -/
theorem Kd.draws (I : Inv X pins σ H s) (hc : X.calm = true) {k : Kd} {it : Addr} {i : Nat} {xs : List V} (hv : k.vals X.K H xs) (ne : ∀ a ∈ k.old, a ≠ it) (st : k.st it i s.heap) :
    ∃ (P : Nat → Value → Prop) (St : Nat → PySem.Heap → Prop), Draws X.prog X.w X.A.in1 it (it :: k.old) xs.length P St ∧ St i s.heap ∧ (∀ j h, St j h → k.st it j h) ∧ ∀ j v, P j v → ∃ x, xs[j]? = some x ∧ RelV x v := by
  have hh : X.A.in1.handled = none := I.ok.hd hc
  cases k with
  | l a =>
    obtain ⟨its, rv, p, _⟩ := I.list hv
    have e : xs.length = its.toArray.size := by simpa using rv.length
    rw [e]
    refine ⟨_, _, Draws.list hh it a (ne a (by simp [Kd.old])) its.toArray, ⟨st, p.isList⟩, fun j h q => q.1, fun j v q => ?_⟩
    exact vals_at rv (by simpa using q)
  | t a =>
    obtain ⟨its, rv, p, _⟩ := I.tuple hv
    have e : xs.length = its.toArray.size := by simpa using rv.length
    rw [e]
    refine ⟨_, _, Draws.tuple hh it a (ne a (by simp [Kd.old])) its.toArray, ⟨st, p⟩, fun j h q => q.1, fun j v q => ?_⟩
    exact vals_at rv (by simpa using q)
  | s x =>
    obtain ⟨t, st⟩ := st
    have hv : xs = x.cps.toList.map fun c => .str ⟨#[c]⟩ := hv
    have e : xs.length = x.cps.size := by rw [hv]; simp
    rw [e]
    refine ⟨_, _, Draws.text hh it x t, st, fun j h q => ⟨t, q⟩, fun j v ⟨c, u, q1, q2⟩ => ⟨.str ⟨#[c]⟩, ?_, ?_⟩⟩
    · rw [hv, List.getElem?_map, Array.getElem?_toList, q1]; rfl
    · exact ⟨u, q2⟩
/-- its iterator, as it begins -/
theorem Kd.begins (I : Inv X pins σ H s) {k : Kd} {xs : List V} {u : Value} (hv : k.vals X.K H xs) (r : RelV k.v u) :
    ∃ (o : Obj) (Hh : PySem.Heap → Prop), Begins u o Hh ∧ Hh s.heap ∧ (∀ h it, h.get? it = some o → k.st it 0 h) ∧ ∀ a ∈ k.old, a < s.heap.objs.size := by
  cases k with
  | l a =>
    cases r
    obtain ⟨its, rv, p, _⟩ := I.list hv
    exact ⟨_, _, begins_list a its.toArray, p.isList, fun h it e => ⟨_, e, rfl, rfl⟩, fun b hb => by
      have e : b = a := by simpa [Kd.old] using hb
      rw [e]; exact p.lt⟩
  | t a =>
    cases r
    obtain ⟨its, rv, p, _⟩ := I.tuple hv
    have lt : a < s.heap.objs.size := by obtain ⟨o, e, _⟩ := id p; exact Heap.lt_size e
    exact ⟨_, _, begins_tuple a its.toArray, p, fun h it e => ⟨_, e, rfl, rfl⟩, fun b hb => by
      have e : b = a := by simpa [Kd.old] using hb
      rw [e]; exact lt⟩
  | s x =>
    obtain ⟨t, rfl⟩ := r
    exact ⟨_, _, begins_text x t, trivial, fun h it e => ⟨t, _, e, rfl, rfl⟩, fun b hb => by simp [Kd.old] at hb⟩
end
/-! ### enumerate -/
def ItE (K : PySem.W.Frag) (k : Kd) : It :=
  ⟨fun i H => ∃ (xs : List V) (x : V), k.vals K H xs ∧ xs[i]? = some x, fun i H v H' => ∃ T x, v = .ref T ∧ H T = none ∧ H' = upd H T (.tup [.int (i : Nat), x]) ∧ ∀ xs, k.vals K H xs → xs[i]? = some x, fun i H => ∃ xs : List V, k.vals K H xs ∧ xs.length = i⟩
theorem turn_enumK {P : Program} {w : World} {K : PySem.W.Frag} {elts : List Expr} {kk : Nat} {tpos : Pos} {k : Kd} {e it : Addr} (hei : e ≠ it) (hk : ∀ a ∈ k.old, a ≠ e ∧ a ≠ it) :
    Turn P w K (.Tuple elts kk tpos) (ItE K k) [e, it] e (fun i h => (∃ old, IsEnum h e it ((i : Nat) : Int) old) ∧ k.st it i h) where
  mem := by simp
  obj := fun i h st b hb => by
    obtain ⟨⟨old, he⟩, hi⟩ := st
    have e' : b = e ∨ b = it := by simpa using hb
    rcases e' with z | z
    · rw [z]; exact ⟨_, he, fun v q => nomatch q⟩
    · rw [z]; exact Kd.st_obj hi
  keep := fun i h h' st q => ⟨⟨st.1.choose, q e (by simp) _ st.1.choose_spec⟩, Kd.st_keep st.2 fun o z => q it (by simp) o z⟩
  item := by
    intro X hP hw hK hc i pins s σ H E I hf st hg
    subst hP hw hK
    obtain ⟨⟨old, he⟩, hit⟩ := st
    obtain ⟨xs, x, hq, hx⟩ := hg
    obtain ⟨P, St, D, st, stk, hPv⟩ := Kd.draws I hc hq (fun a ha => (hk a ha).2) hit
    have hel : e < s.heap.objs.size := Heap.lt_size he
    have hil : it < s.heap.objs.size := by obtain ⟨_, q, _⟩ := Kd.st_obj hit; exact Heap.lt_size q
    have hef : e ∉ it :: k.old := fun z => by
      rcases List.mem_cons.mp z with z | z
      · exact hei z
      · exact (hk e z).1 rfl
    refine wpAny_pyNext_enum_itemD D he st (List.getElem?_eq_some_iff.mp hx).1 hei hef fun u h' tk hu ho hst' hT hsz hkk => ?_
    obtain ⟨x', hx', ru⟩ := hPv i u hu
    rw [hx] at hx'
    cases hx'
    refine ⟨_, rfl, wpAny_letOwnedTupleGo_enum (s := { s with heap := h', toks := tk + 1 }) ho fun h'' he' sb => ?_⟩
    have hT2 : h''.get? s.heap.objs.size = some { cls := .type "tuple", data := .seq #[.int i tk, u] } := (sb.2 _ (Nat.ne_of_gt hel)).trans hT
    have new : ObjOk X.prog X.w (upd H s.heap.objs.size (.tup [.int (i : Nat), x])) h'' s.heap.objs.size (.tup [.int (i : Nat), x]) :=
      ⟨by show 2 ≤ sizeLine; decide, [.int i tk, u], .cons ⟨_, rfl⟩ (.cons ru .nil), ⟨_, hT2, rfl, _, rfl⟩⟩
    have I1 : Inv X pins σ (upd H s.heap.objs.size (.tup [.int (i : Nat), x])) { s with heap := h'', toks := tk + 1 } :=
      I.turnedNew (ch := [e, it]) (fun b ob hb q => (sb.2 b (fun z => hb (by simp [z]))).trans (hkk b ob (fun z => hb (by simp [z])) (fun z => hb (by simp [z])) q)) hf (Nat.le_refl _) new
    refine ⟨.ref s.heap.objs.size, _, I1, rfl, ⟨_, x, rfl, I.hok.fresh (Nat.le_refl _), rfl, fun ys hy => by rw [Kd.inj I hy hq]; exact hx⟩, ⟨⟨u, ?_⟩, Kd.st_keep (stk _ _ hst') fun o q => (sb.2 it (Ne.symm hei)).trans q⟩, fun b hb => ?_⟩
    · have e1 : ((i + 1 : Nat) : Int) = (i : Int) + 1 := by omega
      rw [e1]; exact he'
    · have hb' : b < s.heap.objs.size := by
        have e' : b = e ∨ b = it := by simpa using hb
        rcases e' with z | z
        · rw [z]; exact hel
        · rw [z]; exact hil
      rw [upd_ne (Nat.ne_of_lt hb')]
      exact (hf b hb).1
  done := by
    intro X hP hw hK hc i pins s σ H E I hf st hg
    subst hP hw hK
    obtain ⟨⟨old, he⟩, hit⟩ := st
    obtain ⟨xs, hq, hx⟩ := hg
    subst hx
    obtain ⟨P, St, D, st, stk, hPv⟩ := Kd.draws I hc hq (fun a ha => (hk a ha).2) hit
    obtain ⟨f0, f1, f2, f3, f4, f5⟩ := hf it (by simp)
    exact wpAny_pyNext_enum_endD D he st fun h' eb => ⟨rfl, I.turned (t' := s.toks) (fun b o hb q => eb b o hb q) f0 f1 f3 f4 f5⟩
  self := fun A i s Q E st h => let ⟨⟨_, he⟩, _⟩ := st; wpAny_pyIter_enum he h
theorem meets_enum1 {v : Value} {o : Obj} {Hh : PySem.Heap → Prop} (B : Begins v o Hh) :
    Meets (Builtin.«enumerate.__new__» ⟨[.type "enumerate", v], []⟩) (fun _ R s => Hh s.heap ∧
      R (.ok (.ret (.ref (s.heap.push o).objs.size))) { s with heap := (s.heap.push o).push { cls := .type "enumerate", data := .fields #[.none, .bool false, .ref s.heap.objs.size, rawInt 0, .none, .none] } }) :=
  .of_wp fun prog w A R s h => by
    obtain ⟨hp, g, d, tk, os⟩ := s; obtain ⟨h1, h⟩ := h
    have hsub := sub_enumerate
    have q1 : ∀ {A' : Around} {E : Value → Shared → Prop} {Q : Value → Shared → Prop}, Q (.ref hp.objs.size) ⟨hp.push o, g, d, tk, os⟩ → wpAny (model prog w) A' (pyIter v) Q E ⟨hp, g, d, tk, os⟩ :=
      fun q => B.iter prog w _ _ ⟨hp, g, d, tk, os⟩ _ h1 q
    wp_walk using q1
    refine wpAny_stack_any fun st => wpAny_pure ?_
    split
    · rename_i c _ _ _ _ _
      cases (c == Value.type "enumerate")
      · wp_walk using q1
        exact ⟨_, rfl, h⟩
      · wp_walk using q1
        exact ⟨_, rfl, h⟩
    · wp_walk using q1
      exact ⟨_, rfl, h⟩
theorem enum_begin1 {prog : Program} {w : World} {A : Around} {E : Value → Shared → Prop} {s : Shared} {v : Value} {o : Obj} {Hh : PySem.Heap → Prop} {Q : Value → Shared → Prop} (B : Begins v o Hh) (h1 : Hh s.heap)
    (h : ∀ h', IsEnum h' (s.heap.objs.size + 1) s.heap.objs.size 0 .none → h'.get? s.heap.objs.size = some o →
      (∀ b o, s.heap.get? b = some o → h'.get? b = some o) → Q (.ref (s.heap.objs.size + 1)) { s with heap := h' }) :
    wpAny (model prog w) A (call (.type "enumerate") [v]) Q E s := by
  refine callType_new F.called_enumerate (by decide) (F.typeCall_enumerate_1 _) (F.newCall_enumerate_1 _) (fun obj => F.args_object_init_2 obj _) F.entry_enumerate_new
    (meets_enum1 B) ⟨h1, ?_⟩
  have hz : (s.heap.push o).objs.size = s.heap.objs.size + 1 := Heap.size_push ..
  show _ ∧ _
  rw [hz]
  have he : IsEnum ((s.heap.push o).push { cls := .type "enumerate", data := .fields #[.none, .bool false, .ref s.heap.objs.size, rawInt 0, .none, .none] }) (s.heap.objs.size + 1) s.heap.objs.size 0 .none := by
    have q := Heap.get?_push_size (s.heap.push o) (o := { cls := .type "enumerate", data := .fields #[.none, .bool false, .ref s.heap.objs.size, rawInt 0, .none, .none] }) rfl
    rw [hz] at q; exact q
  exact ⟨⟨_, he, rfl⟩, h _ he (Heap.get?_push_of_some _ (Heap.get?_push_size _ B.free)) fun b o x => Heap.get?_push_of_some _ (Heap.get?_push_of_some _ x)⟩
def iEnumK (K : PySem.W.Frag) (ta : TA) : TI := fun σ H R => ta σ H fun vs H1 => ∃ (k : Kd) (xs : List V), vs = [k.v] ∧ k.vals K H1 xs ∧ R (ItE K k) H1
theorem pi_enumK {X : Cx} {e : Expr} {ta : TA} {p pos tpos : Pos} {elts : List Expr} {kk : Nat} (hg : Gl X "enumerate") (hm : X.mg "enumerate" = none) (ha : PA X [e] ta) (hs : starEach [e] X.env = [(false, eval e X.env)]) :
    PI X (.Tuple elts kk tpos) (.Call (.Name "enumerate" p) [e] [] pos) (iEnumK X.K ta) := by
  refine ⟨fun pins s σ H R I h => ?_⟩
  refine Call_ (ld_blt I hg hm boot_enumerate (PyProof.Rows.callWith_type1 (thn (ha.run pos pins s σ H _ I h) fun us s1 ⟨vs, H1, I1, r1, q1⟩ => ?_) hs rfl))
  obtain ⟨k, xs, ex, hq, q⟩ := q1
  subst ex
  cases r1 with
  | cons r rr =>
    cases rr
    obtain ⟨o, Hh, B, hH, hst, hlt⟩ := Kd.begins I1 hq r
    refine enum_begin1 B hH fun h' he hit hk => wpAny_pyIter_enum he ?_
    have I2 : Inv X pins σ H1 { s1 with heap := h' } := I1.kept (t' := s1.toks) hk
    refine ⟨s1.heap.objs.size + 1, [s1.heap.objs.size + 1, s1.heap.objs.size], _, _, H1, rfl, I2, turn_enumK (k := k) (Nat.succ_ne_self _) (fun a ha => ⟨Nat.ne_of_lt (Nat.lt_succ_of_lt (hlt a ha)), Nat.ne_of_lt (hlt a ha)⟩), ⟨⟨.none, he⟩, hst _ _ hit⟩, fun b hb => ?_, q⟩
    have e' : b = s1.heap.objs.size + 1 ∨ b = s1.heap.objs.size := by simpa using hb
    have hle : s1.heap.objs.size ≤ b := by
      rcases e' with z | z
      · rw [z]; exact Nat.le_add_right _ _
      · rw [z]; exact Nat.le_refl _
    exact I1.fpOk hle (I1.hok.fresh hle)
end EV
end

section
set_option Elab.async false
set_option linter.all false
set_option maxRecDepth 100000
set_option maxHeartbeats 1000000
/-! EV11: zip; what is walked, for enumerate and zip -/
namespace EV
open PySem PySem.Spec PyProof.Rows L2
def ItZ (K : PySem.W.Frag) (k m : Kd) : It :=
  ⟨fun i H => ∃ (xs ys : List V) (x y : V), k.vals K H xs ∧ m.vals K H ys ∧ xs[i]? = some x ∧ ys[i]? = some y,
    fun i H v H' => ∃ T x y, v = .ref T ∧ H T = none ∧ H' = upd H T (.tup [x, y]) ∧ (∀ xs, k.vals K H xs → xs[i]? = some x) ∧ ∀ ys, m.vals K H ys → ys[i]? = some y,
    fun i H => ∃ xs ys : List V, k.vals K H xs ∧ m.vals K H ys ∧ i ≤ xs.length ∧ i ≤ ys.length ∧ (i = xs.length ∨ i = ys.length)⟩
theorem turn_zipK {P : Program} {w : World} {K : PySem.W.Frag} {elts : List Expr} {kk : Nat} {tpos : Pos} {k m : Kd} {z TI TO i1 i2 : Addr} (D : ZipSep2 z TI TO i1 i2 (i1 :: k.old) (i2 :: m.old)) (n1 : ∀ a ∈ k.old, a ≠ i1) (n2 : ∀ a ∈ m.old, a ≠ i2) :
    Turn P w K (.Tuple elts kk tpos) (ItZ K k m) [z, TI, TO, i1, i2] z (fun i h => IsZip h z TI TO .none ∧ IsTupOf2 h TI (.ref i1) (.ref i2) ∧ (∃ x y, IsTupOf2 h TO x y) ∧ k.st i1 i h ∧ m.st i2 i h) where
  mem := by simp
  obj := fun i h st c hc => by
    obtain ⟨hz, hTI, ⟨x, y, hTO⟩, h1, h2⟩ := st
    have e' : c = z ∨ c = TI ∨ c = TO ∨ c = i1 ∨ c = i2 := by simpa using hc
    rcases e' with q | q | q | q | q
    · rw [q]; exact ⟨_, hz, fun v q => nomatch q⟩
    · rw [q]; exact ⟨_, hTI, fun v q => nomatch q⟩
    · rw [q]; exact ⟨_, hTO, fun v q => nomatch q⟩
    · rw [q]; exact Kd.st_obj h1
    · rw [q]; exact Kd.st_obj h2
  keep := fun i h h' st q => by
    obtain ⟨hz, hTI, ⟨x, y, hTO⟩, h1, h2⟩ := st
    exact ⟨q z (by simp) _ hz, q TI (by simp) _ hTI, ⟨x, y, q TO (by simp) _ hTO⟩, Kd.st_keep h1 fun o e => q i1 (by simp) o e, Kd.st_keep h2 fun o e => q i2 (by simp) o e⟩
  item := by
    intro X hP hw hK hc i pins s σ H E I hf st hg
    subst hP hw hK
    obtain ⟨hz, hTI, ⟨x0, y0, hTO⟩, h1, h2⟩ := st
    obtain ⟨xs, ys, x, y, hqx, hqy, hx, hy⟩ := hg
    obtain ⟨P1, S1, D1, st1, k1, v1⟩ := Kd.draws I hc hqx n1 h1
    obtain ⟨P2, S2, D2, st2, k2, v2⟩ := Kd.draws I hc hqy n2 h2
    have hzl : z < s.heap.objs.size := Heap.lt_size hz
    refine wpAny_pyNext_zipD2_item D D1 D2 hz hTI hTO st1 st2 (List.getElem?_eq_some_iff.mp hx).1 (List.getElem?_eq_some_iff.mp hy).1 fun u u2 h' tk hu hu2 z' TO' s1' s2' hT hsz hk => ?_
    obtain ⟨x', hx', ru⟩ := v1 i u hu
    obtain ⟨y', hy', ru2⟩ := v2 i u2 hu2
    rw [hx] at hx'
    rw [hy] at hy'
    cases hx'
    cases hy'
    refine ⟨_, rfl, wpAny_letOwnedTupleGo_zip (s := { s with heap := h', toks := tk }) z' fun h'' z'' sb => ?_⟩
    have hT2 : h''.get? s.heap.objs.size = some { cls := .type "tuple", data := .seq #[u, u2] } := (sb.2 _ (Nat.ne_of_gt hzl)).trans hT
    have new : ObjOk X.prog X.w (upd H s.heap.objs.size (.tup [x, y])) h'' s.heap.objs.size (.tup [x, y]) :=
      ⟨by show 2 ≤ sizeLine; decide, [u, u2], .cons ru (.cons ru2 .nil), ⟨_, hT2, rfl, _, rfl⟩⟩
    have I1 : Inv X pins σ (upd H s.heap.objs.size (.tup [x, y])) { s with heap := h'', toks := tk } :=
      I.turnedNew (ch := [z, TI, TO, i1, i2]) (fun c o hb q => (sb.2 c (fun q' => hb (by simp [q']))).trans (hk c o (fun q' => hb (by simp [q'])) (fun q' => hb (by simp [q'])) (fun q' => hb (by simp [q'])) (fun q' => hb (by simp [q'])) q)) hf (Nat.le_refl _) new
    refine ⟨.ref s.heap.objs.size, _, I1, rfl, ⟨_, x, y, rfl, I.hok.fresh (Nat.le_refl _), rfl, fun l hl => by rw [Kd.inj I hl hqx]; exact hx, fun l hl => by rw [Kd.inj I hl hqy]; exact hy⟩, ⟨z'', ?_, ⟨u, u2, ?_⟩, ?_, ?_⟩, fun c hcm => ?_⟩
    · exact (sb.2 _ D.TIz).trans (hk _ _ D.TIz D.TITO D.TIi1 D.TIi2 hTI)
    · exact (sb.2 _ D.TOz).trans TO'
    · exact Kd.st_keep (k1 _ _ s1') fun o q => (sb.2 _ (Ne.symm D.zi1)).trans q
    · exact Kd.st_keep (k2 _ _ s2') fun o q => (sb.2 _ (Ne.symm D.zi2)).trans q
    · have hlt : c < s.heap.objs.size := by
        have e' : c = z ∨ c = TI ∨ c = TO ∨ c = i1 ∨ c = i2 := by simpa using hcm
        rcases e' with q | q | q | q | q
        · rw [q]; exact hzl
        · rw [q]; exact Heap.lt_size hTI
        · rw [q]; exact Heap.lt_size hTO
        · rw [q]; obtain ⟨_, e1, _⟩ := Kd.st_obj h1; exact Heap.lt_size e1
        · rw [q]; obtain ⟨_, e2, _⟩ := Kd.st_obj h2; exact Heap.lt_size e2
      rw [upd_ne (Nat.ne_of_lt hlt)]
      exact (hf c hcm).1
  done := by
    intro X hP hw hK hc i pins s σ H E I hf st hg
    subst hP hw hK
    obtain ⟨hz, hTI, ⟨x0, y0, hTO⟩, h1, h2⟩ := st
    obtain ⟨xs, ys, hqx, hqy, le1, le2, hend⟩ := hg
    obtain ⟨P1, S1, D1, st1, k1, v1⟩ := Kd.draws I hc hqx n1 h1
    obtain ⟨P2, S2, D2, st2, k2, v2⟩ := Kd.draws I hc hqy n2 h2
    exact wpAny_pyNext_zipD2_end D D1 D2 hz hTI hTO st1 st2 le1 le2 hend fun h' tk hk => ⟨rfl, I.turnedL (t' := tk) (ch := [z, TI, TO, i1, i2]) (fun c o hb q =>
      hk c o (fun q' => hb (by simp [q'])) (fun q' => hb (by simp [q'])) (fun q' => hb (by simp [q'])) (fun q' => hb (by simp [q'])) q) hf⟩
  self := fun A i s Q E st h => wpAny_pyIter_zip st.1 h
def iZipK (K : PySem.W.Frag) (ta : TA) : TI := fun σ H R => ta σ H fun vs H1 => ∃ (k m : Kd) (xs ys : List V), vs = [k.v, m.v] ∧ k.vals K H1 xs ∧ m.vals K H1 ys ∧ R (ItZ K k m) H1
theorem pi_zipK {X : Cx} {e e2 : Expr} {ta : TA} {p pos tpos : Pos} {elts : List Expr} {kk : Nat} (hg : Gl X "zip") (hm : X.mg "zip" = none) (ha : PA X [e, e2] ta)
    (hs : starEach [e, e2] X.env = (false, eval e X.env) :: starEach [e2] X.env) (hpl : (backTo pos (starEach [e2] X.env)).any (·.1) = false) :
    PI X (.Tuple elts kk tpos) (.Call (.Name "zip" p) [e, e2] [] pos) (iZipK X.K ta) := by
  refine ⟨fun pins s σ H R I h => ?_⟩
  refine Call_ (ld_blt I hg hm PyProof.Rows.boot_zip (PyProof.Rows.callWith_type1 (thn (ha.run pos pins s σ H _ I h) fun us s1 ⟨vs, H1, I1, r1, q1⟩ => ?_) hs hpl))
  obtain ⟨k, m, xs, ys, ex, hqx, hqy, q⟩ := q1
  subst ex
  cases r1 with
  | cons r rr =>
    cases rr with
    | cons r' rr =>
      cases rr
      obtain ⟨o1, H1', B1, h1, st1, lt1⟩ := Kd.begins I1 hqx r
      obtain ⟨o2, H2', B2, h2, st2, lt2⟩ := Kd.begins I1 hqy r'
      refine zip_begins2 B1 B2 h1 h2 fun h' hz hTI hTO g1 g2 hsz hk => wpAny_pyIter_zip hz ?_
      have I2 : Inv X pins σ H1 { s1 with heap := h' } := I1.kept (t' := s1.toks) hk
      refine ⟨s1.heap.objs.size + 4, [s1.heap.objs.size + 4, s1.heap.objs.size + 2, s1.heap.objs.size + 3, s1.heap.objs.size, s1.heap.objs.size + 1], _, _, H1, rfl, I2, turn_zipK (k := k) (m := m) (zip_sep2 lt1 lt2) (fun a ha => Nat.ne_of_lt (lt1 a ha)) (fun a ha => Nat.ne_of_lt (Nat.lt_succ_of_lt (lt2 a ha))), ⟨hz, hTI, ⟨_, _, hTO⟩, st1 _ _ g1, st2 _ _ g2⟩, fun c hcm => ?_, q⟩
      have e' : c = s1.heap.objs.size + 4 ∨ c = s1.heap.objs.size + 2 ∨ c = s1.heap.objs.size + 3 ∨ c = s1.heap.objs.size ∨ c = s1.heap.objs.size + 1 := by simpa using hcm
      have hle : s1.heap.objs.size ≤ c := by
        rcases e' with z | z | z | z | z
        · rw [z]; exact Nat.le_add_right _ _
        · rw [z]; exact Nat.le_add_right _ _
        · rw [z]; exact Nat.le_add_right _ _
        · rw [z]; exact Nat.le_refl _
        · rw [z]; exact Nat.le_add_right _ _
      exact I1.fpOk hle (I1.hok.fresh hle)
/-! ### in the evaluator -/
section
variable {c : Glb} {g : G}
/-- a datum's items as they lie -/
theorem kd_of {x : D} {w : V} {xs : List D} (r : Rep c.K (live g) g.H x w) (ok : GOk c g) (h : seqD x = some xs) :
    ∃ (k : Kd), k.v = w ∧ ∀ g', GOk c g' → Lw g g' → ∃ vs, k.vals c.K g'.H vs ∧ Reps c.K (live g') g'.H xs vs := by
  cases r with
  | @tup a ds vs hs hl hr =>
    cases h
    exact ⟨.t a, rfl, fun g' ok' le => ⟨vs, (le.mo ok).tup hs, hr.lw ok le⟩⟩
  | @lst a ds vs hs hn hl hr =>
    cases h
    exact ⟨.l a, rfl, fun g' ok' le => ⟨vs, (le.mo ok).sql (SqL.of hs) hn, hr.lw ok le⟩⟩
  | @str s o =>
    cases h
    refine ⟨.s (SS s), rfl, fun g' ok' le => ⟨_, rfl, ?_⟩⟩
    have e : (SS s).cps.toList = s := by simp [SS]
    rw [e]
    have aux : ∀ t : List Nat, okS t → Reps c.K (live g') g'.H (t.map fun c => .str [c]) (t.map fun c => .str ⟨#[c]⟩) := by
      intro t
      induction t with
      | nil => intro _; exact .nil
      | cons a t ih => exact fun o => .cons (.str (s := [a]) fun x hx => by
          have e : x = a := by simpa using hx
          subst e
          exact o _ List.mem_cons_self) (ih fun x hx => o x (List.mem_cons_of_mem _ hx))
    exact aux s o
  | non => cases h
  | bl => cases h
  | int => cases h
theorem enmD_len : ∀ (ds : List D) (k : Nat), (enmD ds k).length = ds.length
  | [], _ => rfl
  | x :: xs, k => by simp [enmD, enmD_len xs]
theorem enmD_at : ∀ (ds : List D) (k i : Nat), (enmD ds k)[i]? = (ds[i]?).map fun x => .tup [.int ((k + i : Nat) : Int), x]
  | [], _, _ => rfl
  | x :: xs, k, 0 => by simp [enmD]
  | x :: xs, k, i + 1 => by
    simp only [enmD, List.getElem?_cons_succ]
    rw [enmD_at xs (k + 1) i]
    have e : k + 1 + i = k + (i + 1) := by omega
    rw [e]
theorem zipD_len : ∀ (xs ys : List D), (zipD xs ys).length = min xs.length ys.length
  | [], ys => by simp [zipD]
  | x :: xs, [] => by simp [zipD]
  | x :: xs, y :: ys => by simp [zipD, zipD_len xs ys]
theorem zipD_at : ∀ (xs ys : List D) (i : Nat) (z : D), (zipD xs ys)[i]? = some z → ∃ x y, xs[i]? = some x ∧ ys[i]? = some y ∧ z = .tup [x, y]
  | [], ys, i, z, h => by simp [zipD] at h
  | x :: xs, [], i, z, h => by simp [zipD] at h
  | x :: xs, y :: ys, 0, z, h => by simp [zipD] at h; exact ⟨x, y, rfl, rfl, h.symm⟩
  | x :: xs, y :: ys, i + 1, z, h => by
    simp only [zipD, List.getElem?_cons_succ] at h
    obtain ⟨a, b, h1, h2, h3⟩ := zipD_at xs ys i z h
    exact ⟨a, b, by simpa using h1, by simpa using h2, h3⟩
/-- a new pair -/
theorem pair_ok (ok : GOk c g) {p : Addr} {x y : D} {v w : V} (hp : g.H p = none) (rx : Rep c.K (live g) g.H x v) (ry : Rep c.K (live g) g.H y w) :
    GOk c { g with H := upd g.H p (.tup [v, w]) } ∧ Le g { g with H := upd g.H p (.tup [v, w]) } ∧ Rep c.K (live g) (upd g.H p (.tup [v, w])) (.tup [x, y]) (.ref p) :=
  ⟨gok_laid ok hp, le_laid ok hp, .tup (.inl (.inl upd_same)) (show 2 ≤ lim by decide) (Reps.mo (mo_laid ok hp) _ _ (.cons rx (.cons ry .nil)))⟩
theorem walks_enm {k : Kd} {xs : List D} (h : ∀ g', GOk c g' → Lw g g' → ∃ vs, k.vals c.K g'.H vs ∧ Reps c.K (live g') g'.H xs vs) : Walks c g (ItE c.K k) (.items (enmD xs 0)) := fun g' ok le => by
  obtain ⟨vs, hv, hr⟩ := h g' ok le
  refine ⟨fun i x hx => ?_, ⟨vs, hv, by rw [enmD_len]; exact hr.length.symm⟩⟩
  rw [enmD_at, Option.map_eq_some_iff] at hx
  obtain ⟨d, hd, rfl⟩ := hx
  obtain ⟨w, hw, rw1⟩ := hr.get hd
  refine ⟨⟨vs, w, hv, hw⟩, fun w' H' hy => ?_⟩
  obtain ⟨T, x', rfl, hT, rfl, hy⟩ := hy
  have e := hy vs hv
  rw [hw] at e
  cases e
  rw [Nat.zero_add]
  exact pair_ok ok hT (.int _) rw1
theorem walks_zip {k m : Kd} {xs ys : List D} (h : ∀ g', GOk c g' → Lw g g' → ∃ vs, k.vals c.K g'.H vs ∧ Reps c.K (live g') g'.H xs vs) (h2 : ∀ g', GOk c g' → Lw g g' → ∃ vs, m.vals c.K g'.H vs ∧ Reps c.K (live g') g'.H ys vs) : Walks c g (ItZ c.K k m) (.items (zipD xs ys)) := fun g' ok le => by
  obtain ⟨vs, hv, hr⟩ := h g' ok le
  obtain ⟨us, hu, hs⟩ := h2 g' ok le
  refine ⟨fun i x hx => ?_, ⟨vs, us, hv, hu, ?_⟩⟩
  · obtain ⟨a, b, ha, hb, rfl⟩ := zipD_at xs ys i x hx
    obtain ⟨w, hw, rw1⟩ := hr.get ha
    obtain ⟨w2, hw2, rw2⟩ := hs.get hb
    refine ⟨⟨vs, us, w, w2, hv, hu, hw, hw2⟩, fun w' H' hy => ?_⟩
    obtain ⟨T, x', y', rfl, hT, rfl, hy1, hy2⟩ := hy
    have e := hy1 vs hv
    have e2 := hy2 us hu
    rw [hw] at e
    rw [hw2] at e2
    cases e
    cases e2
    exact pair_ok ok hT rw1 rw2
  · rw [zipD_len, ← hr.length, ← hs.length]
    omega
end
section
variable {c : Glb} {U : EV.Env} {W : WX} {X : Cx} {e a b tg : Expr} {l la lb : LE} {es : List Expr} {pos p p2 tpos : Pos} {kk : Nat}
theorem si_enm (hK : X.K = c.K) (hg : Gl X "enumerate") (hm : X.mg "enumerate" = none) (hp : plainX a = true) (ha : PE X a (tEv c U W la)) : PI X (.Tuple es kk tpos) (.Call (.Name "enumerate" p) [a] [] pos) (tIv c U W (.enm la)) :=
  PI.imp (pi_enumK hg hm (pa_cons ha pa_nil (star_cons hp)) (star_cons hp)) fun σ H R => by
  rintro ⟨g, loc, rfl, ok, lo, out⟩
  refine ⟨g, loc, rfl, ok, lo, (Out.bind out).imp fun v g1 ⟨le1, ok1, out1⟩ w rw1 => ?_⟩
  cases rw1 with
  | d r =>
    obtain ⟨xs, hx, q⟩ := Out.opt out1
    obtain ⟨k, rfl, hk⟩ := kd_of r ok1 hx
    obtain ⟨vs, hv, _⟩ := hk g1 ok1 (Lw.refl g1)
    rw [hK]
    exact ⟨k, vs, rfl, hv, Out.here q ok1 _ (walks_enm hk)⟩
  | _ => exact False.elim out1
theorem si_zip (hK : X.K = c.K) (hg : Gl X "zip") (hm : X.mg "zip" = none) (hp : plainX a = true) (hp2 : plainX b = true) (ha : PE X a (tEv c U W la)) (hb : PE X b (tEv c U W lb)) : PI X (.Tuple es kk tpos) (.Call (.Name "zip" p) [a, b] [] pos) (tIv c U W (.zip la lb)) :=
  PI.imp (pi_zipK hg hm (pa_cons ha (pa_cons hb pa_nil (star_cons hp2)) (star_cons hp)) (star_cons hp) (star_any (by rw [List.all_cons, hp2]; rfl) _)) fun σ H R => by
  rintro ⟨g, loc, rfl, ok, lo, out⟩
  refine ⟨g, loc, rfl, ok, lo, (Out.bind out).imp fun v g1 ⟨le1, ok1, out1⟩ w rw1 => ?_⟩
  refine ⟨g1, loc, rfl, ok1, lo.le ok le1, (Out.bind out1).imp fun v2 g2 ⟨le2, ok2, out2⟩ w2 rw2 => ?_⟩
  cases rw1 with
  | d r =>
    cases rw2 with
    | d r2 =>
      obtain ⟨xs, hx, q⟩ := Out.opt out2
      obtain ⟨ys, hy, q⟩ := Out.opt q
      obtain ⟨k, rfl, hk⟩ := kd_of (g := g2) (r.le ok1 le2) ok2 hx
      obtain ⟨m, rfl, hm⟩ := kd_of r2 ok2 hy
      obtain ⟨vs, hv, _⟩ := hk g2 ok2 (Lw.refl g2)
      obtain ⟨us, hu, _⟩ := hm g2 ok2 (Lw.refl g2)
      rw [hK]
      exact ⟨k, m, vs, us, rfl, hv, hu, Out.here q ok2 _ (walks_zip hk hm)⟩
    | _ => exact False.elim out2
  | _ => cases rw2 <;> exact False.elim out2
end
end EV
end

section
set_option Elab.async false
set_option linter.all false
set_option maxRecDepth 100000
set_option maxHeartbeats 1000000
/-! EV12: targets, comprehensions -/
namespace EV
open PySem PySem.Spec PyProof.Rows L2
/-! ### targets -/
def slotsT : LT → List Nat
  | .nm i => [i]
  | .tp a b => slotsT a ++ slotsT b
  | .tp3 a b c => slotsT a ++ (slotsT b ++ slotsT c)
theorem wipe_at (σ : L2.St) : ∀ (vs : List Nat) (j : Nat), (wipe σ vs)[j]? = if j ∈ vs ∧ j < σ.length then some none else σ[j]?
  | [], j => by simp [wipe]
  | v :: vs, j => by
    unfold wipe
    by_cases h : v = j
    · subst h
      by_cases hl : v < σ.length
      · rw [List.getElem?_set_self (by rw [wipe_length]; exact hl), if_pos ⟨List.mem_cons_self, hl⟩]
      · rw [if_neg (fun z => hl z.2), List.getElem?_eq_none (by rw [List.length_set, wipe_length]; omega), List.getElem?_eq_none (by omega)]
    · rw [List.getElem?_set_ne h, wipe_at σ vs j]
      have e : (j ∈ v :: vs) ↔ j ∈ vs := by
        simp only [List.mem_cons]
        exact ⟨fun z => z.elim (fun z => absurd z.symm h) id, .inr⟩
      simp only [e]
theorem wipe_set {σ : L2.St} {i : Nat} {x : Option V} {vs : List Nat} (h : i ∈ vs) : wipe (σ.set i x) vs = wipe σ vs := by
  apply List.ext_getElem?
  intro j
  rw [wipe_at, wipe_at, List.length_set]
  by_cases hj : j ∈ vs ∧ j < σ.length
  · rw [if_pos hj, if_pos hj]
  · rw [if_neg hj, if_neg hj]
    by_cases e : i = j
    · subst e
      have hl : ¬ i < σ.length := fun z => hj ⟨h, z⟩
      rw [List.getElem?_eq_none (by rw [List.length_set]; omega), List.getElem?_eq_none (by omega)]
    · rw [List.getElem?_set_ne e]
theorem wipeL_at : ∀ (vs : List Nat) (l : Loc) (j : Nat), (wipeL l vs)[j]? = if j ∈ vs ∧ j < l.length then some none else l[j]?
  | [], l, j => by simp [wipeL]
  | v :: vs, l, j => by
    unfold wipeL
    rw [wipeL_at vs (l.set v none) j, List.length_set]
    by_cases hj : j ∈ vs ∧ j < l.length
    · rw [if_pos hj, if_pos ⟨List.mem_cons_of_mem _ hj.1, hj.2⟩]
    · rw [if_neg hj]
      by_cases h : v = j
      · subst h
        by_cases hl : v < l.length
        · rw [List.getElem?_set_self hl, if_pos ⟨List.mem_cons_self, hl⟩]
        · rw [if_neg (fun z => hl z.2), List.getElem?_eq_none (by rw [List.length_set]; omega), List.getElem?_eq_none (by omega)]
      · rw [List.getElem?_set_ne h]
        have e : ¬ (j ∈ v :: vs ∧ j < l.length) := fun z => hj ⟨by
          rcases List.mem_cons.mp z.1 with q | q
          · exact absurd q.symm h
          · exact q, z.2⟩
        rw [if_neg e]
theorem LocOk.wipe {c : Glb} {g : G} {l : Loc} {σ : L2.St} (r : LocOk c g l σ) (vs : List Nat) : LocOk c g (wipeL l vs) (wipe σ vs) := by
  have hlen : ∀ (vs : List Nat) (l : Loc), (wipeL l vs).length = l.length := by
    intro vs
    induction vs with
    | nil => intro l; rfl
    | cons v vs ih => intro l; unfold wipeL; rw [ih, List.length_set]
  refine ⟨by rw [hlen, wipe_length, r.len], fun i v h => ?_⟩
  rw [wipeL_at] at h
  rw [wipe_at]
  by_cases hi : i ∈ vs ∧ i < l.length
  · rw [if_pos hi] at h; cases h
  · rw [if_neg hi] at h
    rw [if_neg (by rw [← r.len]; exact hi)]
    exact r.at_ i v h
def tG (c : Glb) (t : LT) : TG := fun v σ H Q => ∃ (g : G) (loc loc' : Loc) (x : D), g.H = H ∧ GOk c g ∧ LocOk c g loc σ ∧ Rep c.K (live g) H x v ∧ setT t x loc = some loc' ∧ ∀ σ', LocOk c g loc' σ' → (∀ vs, (∀ i ∈ slotsT t, i ∈ vs) → L2.wipe σ' vs = L2.wipe σ vs) → Q σ' H
theorem PG.imp {X : Cx} {tg : Expr} {t t' : TG} (h : PG X tg t) (i : ∀ v σ H Q, t' v σ H Q → t v σ H Q) : PG X tg t' := ⟨fun pins s σ H v u Q I r q => h.run pins s σ H v u Q I r (i _ _ _ _ q)⟩
def plainT : Expr → Bool
  | .Name .. => true
  | .Tuple .. => true
  | _ => false
theorem plainT_each {e : Expr} {es : List Expr} {env : PySem.Env} (h : plainT e = true) : assignEach (e :: es) env = (false, assign e env) :: assignEach es env := by
  cases e <;> first | rfl | cases h
section
variable {c : Glb} {X : Cx} {a b d : Expr} {ta tb td : LT} {pos : Pos} {kk : Nat}
theorem sg_nm {i : Nat} {x : Str} (hN : X.N.Nodup) (hi : X.N[i]? = some x) (hx : L2.Loc X.env.scope x) (hf : X.fn x = true ∨ X.env.scope.names.lookup x = some .local) : PG X (.Name x pos) (tG c (.nm i)) := PG.imp (pg_name hN hi hx hf) fun v σ H Q => by
  rintro ⟨g, loc, loc', x, rfl, ok, lo, r, hs, q⟩
  cases hs
  exact q _ (lo.set (.d r) i) fun vs h => wipe_set (h i (by simp [slotsT]))
theorem rep2 {g : G} {K : PySem.W.Frag} {x y : D} {w : V} (r : Rep K (live g) g.H (.tup [x, y]) w) : ∃ a v1 v2, w = .ref a ∧ SqT K g.H a [v1, v2] ∧ Rep K (live g) g.H x v1 ∧ Rep K (live g) g.H y v2 := by
  cases r with
  | tup hs hl hr =>
    cases hr with
    | cons r1 hr =>
      cases hr with
      | cons r2 hr => cases hr; exact ⟨_, _, _, rfl, hs, r1, r2⟩
theorem rep3 {g : G} {K : PySem.W.Frag} {x y z : D} {w : V} (r : Rep K (live g) g.H (.tup [x, y, z]) w) : ∃ a v1 v2 v3, w = .ref a ∧ SqT K g.H a [v1, v2, v3] ∧ Rep K (live g) g.H x v1 ∧ Rep K (live g) g.H y v2 ∧ Rep K (live g) g.H z v3 := by
  cases r with
  | tup hs hl hr =>
    cases hr with
    | cons r1 hr =>
      cases hr with
      | cons r2 hr =>
        cases hr with
        | cons r3 hr => cases hr; exact ⟨_, _, _, _, rfl, hs, r1, r2, r3⟩
theorem sg_tp (hK : X.K = c.K) (hc : X.calm = true) (pa : plainT a = true) (pb : plainT b = true) (ha : PG X a (tG c ta)) (hb : PG X b (tG c tb)) : PG X (.Tuple [a, b] kk pos) (tG c (.tp ta tb)) :=
  PG.imp (pg_tup hc (pgs_cons ha (pgs_cons hb pgs_nil (by rw [plainT_each pb]; rfl)) (by rw [plainT_each pa]; rfl)) (n := 2) (by rw [plainT_each pa, plainT_each pb]; rfl) (by rw [plainT_each pa, plainT_each pb]; rfl)) fun v σ H Q => by
  rintro ⟨g, loc, loc', x, rfl, ok, lo, r, hs, q⟩
  have : ∃ x1 x2, x = .tup [x1, x2] ∧ (setT ta x1 loc).bind (setT tb x2) = some loc' := by
    unfold setT at hs
    split at hs
    · cases ‹LT.tp ta tb = LT.nm _›
    · rename_i e; cases e; exact ⟨_, _, rfl, hs⟩
    · cases ‹LT.tp ta tb = LT.tp3 _ _ _›
    · cases hs
  obtain ⟨x1, x2, rfl, hs2⟩ := this
  rw [Option.bind_eq_some_iff] at hs2
  obtain ⟨l1, s1, s2⟩ := hs2
  obtain ⟨p, v1, v2, rfl, hq, r1, r2⟩ := rep2 r
  rw [hK]
  refine ⟨p, [v1, v2], rfl, hq, rfl, v1, [v2], rfl, g, loc, l1, x1, rfl, ok, lo, r1, s1, fun σ1 lo1 w1 => ?_⟩
  refine ⟨v2, [], rfl, g, l1, loc', x2, rfl, ok, lo1, r2, s2, fun σ2 lo2 w2 => ⟨rfl, q σ2 lo2 fun vs h => ?_⟩⟩
  rw [w2 vs fun i hi => h i (by simp [slotsT, hi]), w1 vs fun i hi => h i (by simp [slotsT, hi])]
theorem sg_tp3 (hK : X.K = c.K) (hc : X.calm = true) (pa : plainT a = true) (pb : plainT b = true) (pd : plainT d = true) (ha : PG X a (tG c ta)) (hb : PG X b (tG c tb)) (hd : PG X d (tG c td)) : PG X (.Tuple [a, b, d] kk pos) (tG c (.tp3 ta tb td)) :=
  PG.imp (pg_tup hc (pgs_cons ha (pgs_cons hb (pgs_cons hd pgs_nil (by rw [plainT_each pd]; rfl)) (by rw [plainT_each pb]; rfl)) (by rw [plainT_each pa]; rfl)) (n := 3) (by rw [plainT_each pa, plainT_each pb, plainT_each pd]; rfl) (by rw [plainT_each pa, plainT_each pb, plainT_each pd]; rfl)) fun v σ H Q => by
  rintro ⟨g, loc, loc', x, rfl, ok, lo, r, hs, q⟩
  have : ∃ x1 x2 x3, x = .tup [x1, x2, x3] ∧ ((setT ta x1 loc).bind (setT tb x2)).bind (setT td x3) = some loc' := by
    unfold setT at hs
    split at hs
    · cases ‹LT.tp3 ta tb td = LT.nm _›
    · cases ‹LT.tp3 ta tb td = LT.tp _ _›
    · rename_i e; cases e; exact ⟨_, _, _, rfl, hs⟩
    · cases hs
  obtain ⟨x1, x2, x3, rfl, hs2⟩ := this
  rw [Option.bind_eq_some_iff] at hs2
  obtain ⟨l2, s12, s3⟩ := hs2
  rw [Option.bind_eq_some_iff] at s12
  obtain ⟨l1, s1, s2⟩ := s12
  obtain ⟨p, v1, v2, v3, rfl, hq, r1, r2, r3⟩ := rep3 r
  rw [hK]
  refine ⟨p, [v1, v2, v3], rfl, hq, rfl, v1, [v2, v3], rfl, g, loc, l1, x1, rfl, ok, lo, r1, s1, fun σ1 lo1 w1 => ?_⟩
  refine ⟨v2, [v3], rfl, g, l1, l2, x2, rfl, ok, lo1, r2, s2, fun σ2 lo2 w2 => ?_⟩
  refine ⟨v3, [], rfl, g, l2, loc', x3, rfl, ok, lo2, r3, s3, fun σ3 lo3 w3 => ⟨rfl, q σ3 lo3 fun vs h => ?_⟩⟩
  rw [w3 vs fun i hi => h i (by simp [slotsT, hi]), w2 vs fun i hi => h i (by simp [slotsT, hi]), w1 vs fun i hi => h i (by simp [slotsT, hi])]
end
/-! ### the new list, hidden -/
structure LeX (d : Addr) (g g' : G) : Prop where
  pre : g.ρ <+: g'.ρ
  hid : g'.hid = d :: g.hid
  hidk : ∀ a ∈ g.hid, g'.H a = g.H a
  keep : ∀ a o, g.H a = some o → ¬ live g a → (∀ ps, o ≠ .tbl ps) → g'.H a = some o ∧ ¬ live g' a
  grow : ∀ a, g.H a ≠ none → g'.H a ≠ none
section
variable {c : Glb} {g g' g2 : G} {d : Addr}
theorem LeX.lw (l : LeX d g g') : Lw g g' := ⟨l.pre, l.keep⟩
theorem LeX.le (a : LeX d g g') (b : Le g' g2) : LeX d g g2 :=
  ⟨a.pre.trans b.pre, b.hid.trans a.hid, fun x h => (b.hidk x (by rw [a.hid]; exact List.mem_cons_of_mem _ h)).trans (a.hidk x h), fun x o h n t => let ⟨h1, h2⟩ := a.keep x o h n t; b.keep x o h1 h2 t, fun x h => b.grow x (a.grow x h)⟩
/-- the new list is laid and hidden -/
theorem hide_ok {o : HO} (ho : (∃ xs, o = .lst xs) ∨ ∃ kvs, o = .dK kvs) (ok : GOk c g) (hd : g.H d = none) : GOk c ⟨d :: g.hid, g.ρ, g.S, upd g.H d o⟩ ∧ LeX d g ⟨d :: g.hid, g.ρ, g.S, upd g.H d o⟩ := by
  have lv : ∀ a, live ⟨d :: g.hid, g.ρ, g.S, upd g.H d o⟩ a ↔ a = d ∨ live g a := fun a => live_hide (g := ⟨g.hid, g.ρ, g.S, upd g.H d o⟩) d a
  have m : Mo (live g) g.H (live ⟨d :: g.hid, g.ρ, g.S, upd g.H d o⟩) (upd g.H d o) := ⟨fun a u e nl _ => ⟨by rw [upd_ne (ne_of_none e hd)]; exact e, fun z => (((lv a).mp z).elim (fun z => ne_of_none e hd z) nl)⟩, ok.lv⟩
  have nr : d ∉ g.ρ := fun z => by
    obtain ⟨i, e⟩ := List.mem_iff_getElem?.mp z
    exact ok.there e hd
  refine ⟨⟨ok.len, ok.nd, fun a ha => ?_, fun a ha => ?_, fun n a x h1 h2 => ?_, ok.tabs.ext fun b u e => by show upd g.H d _ b = _; rw [upd_ne (ne_of_none e hd)]; exact e⟩, ⟨List.prefix_refl _, rfl, fun a ha => ?_, m.keep, fun a ha => ?_⟩⟩
  · rcases List.mem_cons.mp ha with z | z
    · rw [z]; exact nr
    · exact ok.apart a z
  · rcases List.mem_cons.mp ha with z | z
    · rw [z]
      rcases ho with ⟨xs, rfl⟩ | ⟨xs, rfl⟩
      · exact .inl ⟨_, upd_same⟩
      · exact .inr ⟨_, upd_same⟩
    · exact hid_same (ok.hid a z) (upd_nn hd (ok.hidn z))
  · refine CellOk.mo m (fun z => ?_) (ok.cell n a x h1 h2)
    exact upd_ne fun z => nr (z ▸ List.mem_of_getElem? h1)
  · exact upd_nn hd (ok.hidn ha)
  · show upd g.H d _ a ≠ none
    by_cases e : a = d
    · rw [e, upd_same]; simp
    · rw [upd_ne e]; exact ha
/-- it is written -/
theorem push_ok (ok : GOk c g') (l : LeX d g g') (hd : g.H d = none) {xs ys : List V} (ed : g'.H d = some (.lst ys)) : GOk c { g' with H := upd g'.H d (.lst xs) } ∧ LeX d g { g' with H := upd g'.H d (.lst xs) } ∧ Mo (live g') g'.H (live g') (upd g'.H d (.lst xs)) := by
  have hm : d ∈ g'.hid := by rw [l.hid]; exact List.mem_cons_self
  have la : live g' d := .inl hm
  have m : Mo (live g') g'.H (live g') (upd g'.H d (.lst xs)) := ⟨fun a u e nl _ => ⟨by rw [upd_ne (fun z => nl (by rw [z]; exact la))]; exact e, nl⟩, ok.lv⟩
  refine ⟨⟨ok.len, ok.nd, ok.apart, fun a ha => ?_, fun n a x h1 h2 => ?_, fun p hp => ?_⟩, ⟨l.pre, l.hid, fun a ha => ?_, fun a u e nl t => ?_, fun a ha => ?_⟩, m⟩
  · by_cases e : a = d
    · rw [e]; exact .inl ⟨_, upd_same⟩
    · exact hid_same (ok.hid a ha) (upd_ne e)
  · refine CellOk.mo m (fun z => ?_) (ok.cell n a x h1 h2)
    exact upd_ne fun z => ok.apart d hm (z ▸ List.mem_of_getElem? h1)
  · obtain ⟨ps, q1, q2, q3⟩ := ok.tabs p hp
    have ne : ∀ b u, g'.H b = some u → (∀ xs, u ≠ .lst xs) → b ≠ d := fun b u e n1 z => by
      subst z
      rw [ed] at e
      cases e
      exact n1 _ rfl
    refine ⟨ps, ?_, q2, fun pos cv hc => ?_⟩
    · show upd g'.H d _ _ = _
      rw [upd_ne (ne _ _ q1 (fun _ z => by cases z))]; exact q1
    · obtain ⟨c0, z1, z2⟩ := q3 pos cv hc
      refine ⟨c0, z1, ?_⟩
      show upd g'.H d _ _ = _
      rw [upd_ne (ne _ _ z2 (fun _ z => by unfold LamX.CodeO at z; cases z))]; exact z2
  · show upd g'.H d _ a = _
    have e := ok.hidn (a := a) (by rw [l.hid]; exact List.mem_cons_of_mem _ ha)
    rw [upd_ne (fun z => by subst z; exact e ((l.hidk _ ha).trans hd))]
    exact l.hidk a ha
  · obtain ⟨q1, q2⟩ := l.keep a u e nl t
    exact ⟨by show upd g'.H d _ a = _; rw [upd_ne (fun z => q2 (by rw [z]; exact la))]; exact q1, q2⟩
  · show upd g'.H d _ a ≠ none
    by_cases e : a = d
    · rw [e, upd_same]; simp
    · rw [upd_ne e]; exact l.grow a ha
/-- it is taken out again: what is new, as a display's -/
theorem out_ok (ok : GOk c g') (l : LeX d g g') (hd : g.H d = none) {o : HO} (ho : (∃ xs, o = .lst xs) ∨ ∃ kvs, o = .dK kvs) (ed : g'.H d = some o) : GOk c ⟨g.hid, g'.ρ, g'.S, fun a => if a = d then none else g'.H a⟩ ∧ Le g ⟨g.hid, g'.ρ, g'.S, fun a => if a = d then none else g'.H a⟩ ∧
    Mo (live g') g'.H (live ⟨g.hid, g'.ρ, g'.S, fun a => if a = d then none else g'.H a⟩) (fun a => if a = d then none else g'.H a) := by
  have hm : d ∈ g'.hid := by rw [l.hid]; exact List.mem_cons_self
  have la : live g' d := .inl hm
  have sub : ∀ a, live ⟨g.hid, g'.ρ, g'.S, fun a => if a = d then none else g'.H a⟩ a → live g' a := fun a z => by
    rcases z with z | z
    · exact .inl (by rw [l.hid]; exact List.mem_cons_of_mem _ z)
    · exact .inr z
  have m : Mo (live g') g'.H (live ⟨g.hid, g'.ρ, g'.S, fun a => if a = d then none else g'.H a⟩) (fun a => if a = d then none else g'.H a) := ⟨fun a u e nl _ => ⟨by
    show (if a = d then none else g'.H a) = _
    rw [if_neg (fun z => nl (by rw [z]; exact la))]; exact e, fun z => nl (sub a z)⟩, ok.lv⟩
  have nh : d ∉ g.hid := fun z => by
    have := l.hidk d z
    rw [hd, ed] at this; cases this
  refine ⟨⟨ok.len, ok.nd, fun a ha => ok.apart a (by rw [l.hid]; exact List.mem_cons_of_mem _ ha), fun a ha => ?_, fun n a x h1 h2 => ?_, fun p hp => ?_⟩, ⟨l.pre, rfl, fun a ha => ?_, fun a u e nl t => ?_, fun a ha => ?_⟩, m⟩
  · exact hid_same (ok.hid a (by rw [l.hid]; exact List.mem_cons_of_mem _ ha)) (if_neg fun z => nh (by rw [← z]; exact ha))
  · refine CellOk.mo m (fun z => ?_) (ok.cell n a x h1 h2)
    show (if a = d then none else g'.H a) = _
    exact if_neg fun z => ok.apart d hm (by rw [← z]; exact List.mem_of_getElem? h1)
  · obtain ⟨ps, q1, q2, q3⟩ := ok.tabs p hp
    have ne : ∀ b u, g'.H b = some u → (∀ xs, u ≠ .lst xs) → (∀ xs, u ≠ .dK xs) → b ≠ d := fun b u e n1 n2 z => by
      subst z
      rw [ed] at e
      cases e
      rcases ho with ⟨xs, rfl⟩ | ⟨xs, rfl⟩
      · exact n1 _ rfl
      · exact n2 _ rfl
    refine ⟨ps, ?_, q2, fun pos cv hc => ?_⟩
    · show (if _ = d then none else g'.H _) = _
      rw [if_neg (ne _ _ q1 (fun _ z => by cases z) (fun _ z => by cases z))]; exact q1
    · obtain ⟨c0, z1, z2⟩ := q3 pos cv hc
      refine ⟨c0, z1, ?_⟩
      show (if _ = d then none else g'.H _) = _
      rw [if_neg (ne _ _ z2 (fun _ z => by unfold LamX.CodeO at z; cases z) (fun _ z => by unfold LamX.CodeO at z; cases z))]; exact z2
  · show (if a = d then none else g'.H a) = _
    rw [if_neg (fun z => nh (by rw [← z]; exact ha))]; exact l.hidk a ha
  · obtain ⟨q1, q2⟩ := l.keep a u e nl t
    exact m.keep a u q1 q2 t
  · show (if a = d then none else g'.H a) ≠ none
    rw [if_neg (fun z => ha (by rw [z]; exact hd))]; exact l.grow a ha
/-- it stays behind, unhidden: nothing looks at it -/
theorem left_ok (ok : GOk c g') (l : LeX d g g') (hd : g.H d = none) : GOk c ⟨g.hid, g'.ρ, g'.S, g'.H⟩ ∧ Le g ⟨g.hid, g'.ρ, g'.S, g'.H⟩ := by
  have sub : ∀ a, live ⟨g.hid, g'.ρ, g'.S, g'.H⟩ a → live g' a := fun a z => by
    rcases z with z | z
    · exact .inl (by rw [l.hid]; exact List.mem_cons_of_mem _ z)
    · exact .inr z
  have m : Mo (live g') g'.H (live ⟨g.hid, g'.ρ, g'.S, g'.H⟩) g'.H := ⟨fun a u e nl _ => ⟨e, fun z => nl (sub a z)⟩, ok.lv⟩
  refine ⟨⟨ok.len, ok.nd, fun a ha => ok.apart a (by rw [l.hid]; exact List.mem_cons_of_mem _ ha), fun a ha => ok.hid a (by rw [l.hid]; exact List.mem_cons_of_mem _ ha), fun n a x h1 h2 => CellOk.mo m (fun _ => rfl) (ok.cell n a x h1 h2), ok.tabs⟩, ⟨l.pre, rfl, l.hidk, fun a u e nl t => ?_, l.grow⟩⟩
  obtain ⟨q1, q2⟩ := l.keep a u e nl t
  exact ⟨q1, fun z => q2 (sub a z)⟩
theorem Out.hide {α : Type} {W : WX} {σ : L2.St} {r : R α} {k : α → G → Prop} {o : HO} (ho : (∃ xs, o = .lst xs) ∨ ∃ kvs, o = .dK kvs) (ok : GOk c g) (hd : g.H d = none) (h : Out c g W σ r k) :
    Out c ⟨d :: g.hid, g.ρ, g.S, upd g.H d o⟩ W σ r (fun a g2 => LeX d g g2 ∧ GOk c g2 ∧ g2.H d = some o ∧ k a ⟨g.hid, g2.ρ, g2.S, fun a => if a = d then none else g2.H a⟩) := by
  obtain ⟨okH, lH⟩ := hide_ok ho ok hd
  cases r with
  | ok a S' =>
    intro ρ' H' ok2 le2
    have l2 := lH.le le2
    have ed : H' d = some o := (le2.hidk d List.mem_cons_self).trans upd_same
    obtain ⟨o1, o2, _⟩ := out_ok ok2 l2 hd ho ed
    exact ⟨l2, ok2, ed, h _ _ o1 o2⟩
  | exc n xs S' =>
    intro ρ' H' d' ok2 le2 ex
    obtain ⟨o1, o2⟩ := left_ok ok2 (lH.le le2) hd
    exact h ρ' H' d' o1 o2 ex
  | stuck => exact h
end
/-! ### comprehensions -/
def F0 : WX := fun _ _ _ _ => False
def tCv (c : Glb) (U : EV.Env) (W : WX) (l : LO) : TT := fun σ H Q => ∃ (g : G) (loc : Loc), g.H = H ∧ GOk c g ∧ LocOk c g loc σ ∧ Out c g W σ (evC U l loc g.S) (fun b g' => Q b g'.H)
theorem PTs.imp {X : Cx} {e : List Expr} {t t' : TT} (h : PTs X e t) (i : ∀ σ H Q, t' σ H Q → t σ H Q) : PTs X e t' := ⟨fun pins s σ H Q I q => h.run pins s σ H Q I (i _ _ _ q)⟩
section
variable {c : Glb} {U : EV.Env} {W : WX} {X : Cx} {e : Expr} {l : LE}
theorem sc_no : PTs X [] (tCv c U W .no) := PTs.imp pts_nil fun σ H Q => by
  rintro ⟨g, loc, rfl, ok, lo, out⟩
  exact Out.here out ok
theorem sc_yes (h : PT X e (tTv c U W l)) : PTs X [e] (tCv c U W (.yes l)) := PTs.imp (pts_one h) fun σ H Q => by
  rintro ⟨g, loc, rfl, ok, lo, out⟩
  refine ⟨g, loc, rfl, ok, lo, (Out.bind out).imp fun v g1 ⟨le1, ok1, out1⟩ => ?_⟩
  obtain ⟨b, hb, q⟩ := Out.opt out1
  exact ⟨b, hb, Out.here q ok1⟩
end
def stepC (t : LT) (c : Loc → Sto → R Bool) (e : Loc → Sto → R Vl) (l : Loc) (x : D) (acc : List D) (S : Sto) (K : List D → Sto → R (List D)) : R (List D) :=
  match setT t x l with
  | none => .stuck
  | some l' => match c l' S with
    | .ok true S1 => match e l' S1 with
      | .ok v S2 => match take S2 v with
        | some (y, S3) => if acc.length < lim then K (acc ++ [y]) S3 else .stuck
        | none => .stuck
      | _ => .stuck
    | .ok false S1 => K acc S1
    | _ => .stuck
/-- one turn -/
theorem comp_turn {c : Glb} {U : EV.Env} {W : WX} {t : LT} {lc : LO} {le : LE} {vs : List Nat} (hown : ∀ i ∈ slotsT t, i ∈ vs) {g1 g' : G} {d : Addr} {loc : Loc} {σ : L2.St} {x : D} {w : V} {acc : List D} {us : List V} {K : List D → Sto → R (List D)} {k : List D → G → Prop} {Nx : Hp → Prop}
    (hd : g1.H d = none) (ok1 : GOk c g1) (lo1 : LocOk c g1 loc σ) (ok : GOk c g') (l : LeX d g1 g') (rx : Rep c.K (live g') g'.H x w) (hD : g'.H d = some (.lst us)) (hl : acc.length ≤ lim) (ra : Reps c.K (live g') g'.H acc us)
    (out : Out c g1 W σ (stepC t (evC U lc) (evE U le) (wipeL loc vs) x acc g'.S K) k)
    (nx : ∀ (g2 : G) (acc2 : List D) (us2 : List V), GOk c g2 → LeX d g1 g2 → g2.H d = some (.lst us2) → acc2.length ≤ lim → Reps c.K (live g2) g2.H acc2 us2 → Out c g1 W σ (K acc2 g2.S) k → Nx g2.H) :
    tG c t w (L2.wipe σ vs) g'.H fun σ2 H2 => L2.wipe σ2 vs = L2.wipe σ vs ∧ tCv c U F0 lc σ2 H2 fun b H3 => if b = true then tEv c U F0 le σ2 H3 fun y H4 => ∃ acc, H4 d = some (.lst acc) ∧ acc.length < sizeLine ∧ Nx (upd H4 d (.lst (acc ++ [y]))) else Nx H3 := by
  have lo' : LocOk c g' (wipeL loc vs) (L2.wipe σ vs) := (LocOk.wipe (c := c) (g := g') ⟨lo1.len, fun i v q => by
    obtain ⟨w, h1, h2⟩ := lo1.at_ i v q
    exact ⟨w, h1, h2.lw ok1 l.lw⟩⟩ vs)
  unfold stepC at out
  cases hs : setT t x (wipeL loc vs) with
  | none => rw [hs] at out; exact out.elim
  | some l' =>
    rw [hs] at out
    refine ⟨g', wipeL loc vs, l', x, rfl, ok, lo', rx, hs, fun σ2 lo2 hw => ⟨?_, ?_⟩⟩
    · rw [hw vs hown]
      apply List.ext_getElem?
      intro j
      rw [wipe_at, wipe_length, wipe_at]
      by_cases hj : j ∈ vs ∧ j < σ.length
      · rw [if_pos hj, if_pos hj]
      · rw [if_neg hj]
    refine ⟨g', l', rfl, ok, lo2, ?_⟩
    have out : Out c g1 W σ (match evC U lc l' g'.S with | .ok true S1 => (match evE U le l' S1 with | .ok v S2 => (match take S2 v with | some (y, S3) => if acc.length < lim then K (acc ++ [y]) S3 else .stuck | none => .stuck) | _ => .stuck) | .ok false S1 => K acc S1 | _ => .stuck) k := out
    cases hc : evC U lc l' g'.S with
    | exc n xs S' => rw [hc] at out; exact out.elim
    | stuck => rw [hc] at out; exact out.elim
    | ok b S1 =>
      rw [hc] at out
      intro ρ2 H2 ok2 le2
      have l2 : LeX d g1 ⟨g'.hid, ρ2, S1, H2⟩ := l.le le2
      have hD2 : H2 d = some (.lst us) := (le2.hidk d (by rw [l.hid]; exact List.mem_cons_self)).trans hD
      cases b with
      | false => exact nx ⟨g'.hid, ρ2, S1, H2⟩ acc us ok2 l2 hD2 hl (ra.le ok le2) out
      | true =>
        simp only [if_true]
        refine ⟨⟨g'.hid, ρ2, S1, H2⟩, l', rfl, ok2, lo2.le ok le2, ?_⟩
        have out : Out c g1 W σ (match evE U le l' S1 with | .ok v S2 => (match take S2 v with | some (y, S3) => if acc.length < lim then K (acc ++ [y]) S3 else .stuck | none => .stuck) | _ => .stuck) k := out
        show Out c _ F0 σ2 (evE U le l' S1) _
        cases he : evE U le l' S1 with
        | exc n xs S' => rw [he] at out; exact out.elim
        | stuck => rw [he] at out; exact out.elim
        | ok v S2 =>
          rw [he] at out
          intro ρ3 H3 ok3 le3 y ry
          have l3 : LeX d g1 ⟨g'.hid, ρ3, S2, H3⟩ := l2.le le3
          have hD3 : H3 d = some (.lst us) := (le3.hidk d (by show d ∈ g'.hid; rw [l.hid]; exact List.mem_cons_self)).trans hD2
          have out : Out c g1 W σ (match take S2 v with | some (y, S3) => if acc.length < lim then K (acc ++ [y]) S3 else .stuck | none => .stuck) k := out
          cases ht : take S2 v with
          | none => rw [ht] at out; exact out.elim
          | some p =>
            obtain ⟨z, S3⟩ := p
            rw [ht] at out
            have out : Out c g1 W σ (if acc.length < lim then K (acc ++ [z]) S3 else .stuck) k := out
            split at out
            · rename_i hlt
              obtain ⟨ok4, le4, r4⟩ := take_ok (g := ⟨g'.hid, ρ3, S2, H3⟩) ok3 ry ht
              have l4 : LeX d g1 ⟨g'.hid, ρ3, S3, H3⟩ := l3.le le4
              have ra4 : Reps c.K (live ⟨g'.hid, ρ3, S3, H3⟩) H3 acc us := Reps.le (g := ⟨g'.hid, ρ3, S2, H3⟩) (Reps.le (g := ⟨g'.hid, ρ2, S1, H2⟩) (ra.le ok le2) ok2 le3) ok3 le4
              refine ⟨us, hD3, by rw [← ra.length, ← lim_eq]; exact hlt, ?_⟩
              obtain ⟨ok5, l5, m5⟩ := push_ok (xs := us ++ [y]) ok4 l4 hd hD3
              exact nx ⟨g'.hid, ρ3, S3, upd H3 d (.lst (us ++ [y]))⟩ (acc ++ [z]) (us ++ [y]) ok5 l5 upd_same (by simp; omega) (Reps.app (Reps.mo m5 _ _ ra4) (.cons (Rep.mo m5 _ _ r4) .nil)) out
            · exact out.elim
theorem compGo_cons {t : LT} {c : Loc → Sto → R Bool} {e : Loc → Sto → R Vl} {l : Loc} {x : D} {xs acc : List D} {S : Sto} : compGo t c e l (x :: xs) acc S = stepC t c e l x acc S (fun a S => compGo t c e l xs a S) := by
  simp only [compGo]; rfl
theorem compRef_succ {t : LT} {c : Loc → Sto → R Bool} {e : Loc → Sto → R Vl} {l : Loc} {n k i : Nat} {acc : List D} {S : Sto} : compRef t c e l n (k + 1) i acc S = (match (S : List Cell)[n]? with
    | some (.lst ds) => (match ds[i]? with
      | none => .ok acc S
      | some x => stepC t c e l x acc S (fun a S => compRef t c e l n k (i + 1) a S))
    | _ => .stuck) := by
  simp only [compRef]; rfl
theorem Out.ds {c : Glb} {g1 : G} {W : WX} {σ : L2.St} {r : R (List D)} {k : Vl → G → Prop} (h : Out c g1 W σ r (fun a g2 => Le g1 g2 ∧ GOk c g2 ∧ Out c g2 W σ (EV.R.ok (Vl.d (.lst a)) g2.S) k)) : Out c g1 W σ (r.bind fun ds S2 => EV.R.ok (Vl.d (.lst ds)) S2) k := by
  cases r with
  | ok a S' =>
    intro ρ' H' okz lez
    obtain ⟨_, _, o4⟩ := h ρ' H' okz lez
    exact Out.here o4 okz
  | exc n xs S' => exact h
  | stuck => exact h
theorem comp_imp {c : Glb} {U : EV.Env} {W : WX} {own : List (Str × Nat)} {lg : LI} {t : LT} {lc : LO} {le : LE} (hown : ∀ i ∈ slotsT t, i ∈ own.map Prod.snd) {σ : L2.St} {H : Hp} {Q : VK} :
    tEvN c U W (.comp le lg t lc (own.map Prod.snd)) σ H Q → tLc (tIv c U W lg) (tG c t) (tCv c U F0 lc) (tEv c U F0 le) (own.map Prod.snd) σ H Q := by
  rintro ⟨g, loc, rfl, ok, lo, out⟩
  have out2 := Out.bind out
  refine ⟨g, loc, rfl, ok, lo, out2.imp fun src g1 ⟨le1, ok1, out1⟩ J wk => ?_⟩
  have lo1 := lo.le ok le1
  intro d hd
  obtain ⟨okH, lH⟩ := hide_ok (o := .lst []) (.inl ⟨[], rfl⟩) ok1 hd
  have fin : ∀ (g' : G) (acc : List D) (us : List V), GOk c g' → LeX d g1 g' → g'.H d = some (.lst us) → acc.length ≤ lim → Reps c.K (live g') g'.H acc us → Out c g1 W σ ((EV.R.ok acc g'.S).bind fun ds S2 => EV.R.ok (Vl.d (.lst ds)) S2) (fun (v : Vl) g' => ∃ z, v = Vl.d z ∧ OutN c g' z Q) → Q (.ref d) g'.H := by
    intro g' acc us ok' l' hD hl ra o
    obtain ⟨oke, lee, me⟩ := out_ok ok' l' hd (.inl ⟨_, rfl⟩) hD
    obtain ⟨z, ez, q⟩ := o _ _ oke lee
    cases ez
    have q2 := q d us (if_pos rfl) hl (Reps.mo me _ _ ra)
    have e : upd (fun a => if a = d then none else g'.H a) d (.lst us) = g'.H := by
      funext a
      by_cases ha : a = d
      · rw [ha, upd_same, hD]
      · rw [upd_ne ha, if_neg ha]
    have e2 : upd ({ hid := g1.hid, ρ := g'.ρ, S := g'.S, H := fun a => if a = d then none else g'.H a : G}).H d (.lst us) = g'.H := e
    rw [e2] at q2
    exact q2
  cases src with
  | items ds =>
    refine ⟨fun i m H => ∃ (g' : G) (acc : List D) (us : List V), g'.H = H ∧ GOk c g' ∧ LeX d g1 g' ∧ g'.H d = some (.lst us) ∧ acc.length ≤ lim ∧ Reps c.K (live g') g'.H acc us ∧ m = ds.length - i ∧ i ≤ ds.length ∧
      Out c g1 W σ ((compGo t (evC U lc) (evE U le) (wipeL loc (own.map Prod.snd)) (ds.drop i) acc g'.S).bind fun ds S2 => EV.R.ok (Vl.d (.lst ds)) S2) (fun (v : Vl) g' => ∃ z, v = Vl.d z ∧ OutN c g' z Q), ⟨ds.length, _, [], [], rfl, okH, lH, upd_same, Nat.zero_le _, .nil, rfl, Nat.zero_le _, out1⟩, ?_⟩
    rintro i m H ⟨g', acc, us, rfl, ok', l', hD, hl, ra, rfl, hi, o⟩
    obtain ⟨w1, w2⟩ := wk g' ok' l'.lw
    by_cases hlt : i < ds.length
    · have hx : ds[i]? = some ds[i] := List.getElem?_eq_getElem hlt
      obtain ⟨hgo, hy⟩ := w1 i _ hx
      rw [List.drop_eq_getElem_cons hlt, compGo_cons] at o
      refine .inr ⟨hgo, fun H' => ∃ (g2 : G) (acc2 : List D) (us2 : List V), g2.H = H' ∧ GOk c g2 ∧ LeX d g1 g2 ∧ g2.H d = some (.lst us2) ∧ acc2.length ≤ lim ∧ Reps c.K (live g2) g2.H acc2 us2 ∧
        Out c g1 W σ ((compGo t (evC U lc) (evE U le) (wipeL loc (own.map Prod.snd)) (ds.drop (i + 1)) acc2 g2.S).bind fun ds S2 => EV.R.ok (Vl.d (.lst ds)) S2) (fun (v : Vl) g' => ∃ z, v = Vl.d z ∧ OutN c g' z Q), ?_, fun w H' y => ?_⟩
      · rintro H' ⟨g2, acc2, us2, rfl, ok2, l2, hD2, hl2, ra2, o2⟩
        exact ⟨ds.length - (i + 1), by omega, g2, acc2, us2, rfl, ok2, l2, hD2, hl2, ra2, rfl, hlt, o2⟩
      · obtain ⟨ok2, le2, rx⟩ := hy w H' y
        have o2 := Out.bind o
        exact comp_turn hown (g' := { g' with H := H' }) hd ok1 lo1 ok2 (l'.le le2) rx ((le2.hidk d (by rw [l'.hid]; exact List.mem_cons_self)).trans hD) hl (ra.le ok' le2) o2 fun g2 acc2 us2 a b e f h o3 => ⟨g2, acc2, us2, rfl, a, b, e, f, h, Out.ds o3⟩
    · have e : i = ds.length := by omega
      subst e
      rw [List.drop_length] at o
      exact .inl ⟨w2, fin g' acc us ok' l' hD hl ra o⟩
  | live n =>
    have there : ∃ ds0, (g1.S : List Cell)[n]? = some (.lst ds0) ∧ Out c g1 W σ ((compRef t (evC U lc) (evE U le) (wipeL loc (own.map Prod.snd)) n (ds0.length + 1) 0 [] g1.S).bind fun ds S2 => EV.R.ok (Vl.d (.lst ds)) S2) (fun (v : Vl) g' => ∃ z, v = Vl.d z ∧ OutN c g' z Q) := by
      have out1 : Out c g1 W σ ((match (g1.S : List Cell)[n]? with
        | some (.lst ds) => compRef t (evC U lc) (evE U le) (wipeL loc (own.map Prod.snd)) n (ds.length + 1) 0 [] g1.S
        | _ => .stuck).bind fun ds S2 => EV.R.ok (Vl.d (.lst ds)) S2) (fun (v : Vl) g' => ∃ z, v = Vl.d z ∧ OutN c g' z Q) := out1
      split at out1
      · rename_i ds0 h0
        exact ⟨ds0, h0, out1⟩
      · exact out1.elim
    obtain ⟨ds0, h0, out1⟩ := there
    refine ⟨fun i m H => ∃ (g' : G) (acc : List D) (us : List V), g'.H = H ∧ GOk c g' ∧ LeX d g1 g' ∧ g'.H d = some (.lst us) ∧ acc.length ≤ lim ∧ Reps c.K (live g') g'.H acc us ∧
      Out c g1 W σ ((compRef t (evC U lc) (evE U le) (wipeL loc (own.map Prod.snd)) n m i acc g'.S).bind fun ds S2 => EV.R.ok (Vl.d (.lst ds)) S2) (fun (v : Vl) g' => ∃ z, v = Vl.d z ∧ OutN c g' z Q), ⟨ds0.length + 1, _, [], [], rfl, okH, lH, upd_same, Nat.zero_le _, .nil, out1⟩, ?_⟩
    rintro i m H ⟨g', acc, us, rfl, ok', l', hD, hl, ra, o⟩
    cases m with
    | zero => exact o.elim
    | succ k =>
      rw [compRef_succ] at o
      split at o
      · rename_i ds hds
        obtain ⟨w1, w2⟩ := wk g' ds ok' l'.lw hds
        split at o
        · rename_i hn
          exact .inl ⟨w2 i (by simpa using hn), fin g' acc us ok' l' hD hl ra o⟩
        · rename_i x hx
          obtain ⟨hgo, hy⟩ := w1 i _ hx
          refine .inr ⟨hgo, fun H' => ∃ (g2 : G) (acc2 : List D) (us2 : List V), g2.H = H' ∧ GOk c g2 ∧ LeX d g1 g2 ∧ g2.H d = some (.lst us2) ∧ acc2.length ≤ lim ∧ Reps c.K (EV.live g2) g2.H acc2 us2 ∧
            Out c g1 W σ ((compRef t (evC U lc) (evE U le) (wipeL loc (own.map Prod.snd)) n k (i + 1) acc2 g2.S).bind fun ds S2 => EV.R.ok (Vl.d (.lst ds)) S2) (fun (v : Vl) g' => ∃ z, v = Vl.d z ∧ OutN c g' z Q), ?_, fun w H' y => ?_⟩
          · rintro H' ⟨g2, acc2, us2, rfl, ok2, l2, hD2, hl2, ra2, o2⟩
            exact ⟨k, Nat.lt_succ_self k, g2, acc2, us2, rfl, ok2, l2, hD2, hl2, ra2, o2⟩
          · obtain ⟨ok2, le2, rx⟩ := hy w H' y
            have o2 := Out.bind o
            exact comp_turn hown (g' := { g' with H := H' }) hd ok1 lo1 ok2 (l'.le le2) rx ((le2.hidk d (by rw [l'.hid]; exact List.mem_cons_self)).trans hD) hl (ra.le ok' le2) o2 fun g2 acc2 us2 a b e f h o3 => ⟨g2, acc2, us2, rfl, a, b, e, f, h, Out.ds o3⟩
      · exact o.elim
theorem se_comp {c : Glb} {U : EV.Env} {W : WX} {X : Cx} {elt tg iter : Expr} {ifs : List Expr} {scope : Scope} {own : List (Str × Nat)} {pos : Pos} {lg : LI} {t : LT} {lc : LO} {le : LE} (hc : X.calm = true) (hN : X.N.Nodup)
    (hi : PI X tg iter (tIv c U W lg)) (okB : BlkOk X.N X.env.scope scope own) (hown : ∀ i ∈ slotsT t, i ∈ own.map Prod.snd)
    (hg : ∀ (s : Shared) (H : Hp) (C : Addr) (cl : List (Str × Addr)) (fp : List Addr), PG (X.blk s H scope (compEnvC scope cl C X.env) fp) tg (tG c t))
    (ht : ∀ (s : Shared) (H : Hp) (C : Addr) (cl : List (Str × Addr)) (fp : List Addr), PTs (X.blk s H scope (compEnvC scope cl C X.env) fp) ifs (tCv c U F0 lc))
    (he : ∀ (s : Shared) (H : Hp) (C : Addr) (cl : List (Str × Addr)) (fp : List Addr), PE (X.blk s H scope (compEnvC scope cl C X.env) fp) elt (tEv c U F0 le)) (hs : ∀ x, foldedSetIterable iter X.env x = pure x) :
    PE X (.ListComp elt [⟨tg, iter, ifs, 0⟩] scope pos) (tEvN c U W (.comp le lg t lc (own.map Prod.snd))) ∧
      ∀ (i : Nat) (y : Str) (py spos : Pos), X.N[i]? = some y → X.env.scope.names.lookup y = some .local → swapsWith (.ListComp elt [⟨tg, iter, ifs, 0⟩] scope pos) (some (.Name y py)) spos.line X.env = pure true →
        PS X (.Assign [.Name y py] (.ListComp elt [⟨tg, iter, ifs, 0⟩] scope pos) spos) (tAsg (tEvN c U W (.comp le lg t lc (own.map Prod.snd))) (gName i)) :=
  ⟨PE.imp (pe_lc hc hN hi okB hg ht he hs) fun σ H Q => comp_imp hown, fun i y py spos hi2 hy hsw => PS.imp (ps_setLc hc hN hi2 hy hsw hi okB hg ht he hs) fun E σ H h => comp_imp hown h⟩
end EV
end

section
set_option Elab.async false
set_option linter.all false
set_option maxRecDepth 100000
set_option maxHeartbeats 1000000
/-! EV13: statements -/
namespace EV
open PySem PySem.Spec PyProof.Rows L2
def OutS (c : Glb) (g : G) (W : WX) (E : L2.Ends) (r : RS) : Prop :=
  match r with
  | .nx l S' => ∀ ρ' H' σ', GOk c ⟨g.hid, ρ', S', H'⟩ → Le g ⟨g.hid, ρ', S', H'⟩ → LocOk c ⟨g.hid, ρ', S', H'⟩ l σ' → E.nx σ' H'
  | .ret v S' => ∀ ρ' H' w, GOk c ⟨g.hid, ρ', S', H'⟩ → Le g ⟨g.hid, ρ', S', H'⟩ → RepV c ⟨g.hid, ρ', S', H'⟩ v w → E.rt w H'
  | .bk l S' => ∀ ρ' H' σ', GOk c ⟨g.hid, ρ', S', H'⟩ → Le g ⟨g.hid, ρ', S', H'⟩ → LocOk c ⟨g.hid, ρ', S', H'⟩ l σ' → E.bk σ' H'
  | .ct l S' => ∀ ρ' H' σ', GOk c ⟨g.hid, ρ', S', H'⟩ → Le g ⟨g.hid, ρ', S', H'⟩ → LocOk c ⟨g.hid, ρ', S', H'⟩ l σ' → E.ct σ' H'
  | .exc n xs l S' => ∀ ρ' H' d σ', GOk c ⟨g.hid, ρ', S', H'⟩ → Le g ⟨g.hid, ρ', S', H'⟩ → LocOk c ⟨g.hid, ρ', S', H'⟩ l σ' → ExOk c n xs d H' → ∃ cls, c.ca n = some cls ∧ W cls d σ' H'
  | .stuck => False
def tS (c : Glb) (U : EV.Env) (W : WX) (s : LS) : TS := fun E σ H => ∃ (g : G) (loc : Loc), g.H = H ∧ GOk c g ∧ LocOk c g loc σ ∧ OutS c g W E (evS U s loc g.S)
def tSs (c : Glb) (U : EV.Env) (W : WX) (s : LSs) : TS := fun E σ H => ∃ (g : G) (loc : Loc), g.H = H ∧ GOk c g ∧ LocOk c g loc σ ∧ OutS c g W E (evSs U s loc g.S)
section
variable {c : Glb} {g g' : G} {W : WX} {E E' : L2.Ends} {σ : L2.St} {loc : Loc}
theorem OutS.le {r : RS} (h : OutS c g W E r) (l : Le g g') : OutS c g' W E r := by
  have hh := l.hid
  cases r with
  | nx l1 S' => intro ρ' H' σ' ok le lo; rw [hh] at ok le lo; exact h ρ' H' σ' ok (l.trans le) lo
  | ret v S' => intro ρ' H' w ok le lo; rw [hh] at ok le lo; exact h ρ' H' w ok (l.trans le) lo
  | bk l1 S' => intro ρ' H' σ' ok le lo; rw [hh] at ok le lo; exact h ρ' H' σ' ok (l.trans le) lo
  | ct l1 S' => intro ρ' H' σ' ok le lo; rw [hh] at ok le lo; exact h ρ' H' σ' ok (l.trans le) lo
  | exc n xs l1 S' => intro ρ' H' d σ' ok le lo ex; rw [hh] at ok le lo; exact h ρ' H' d σ' ok (l.trans le) lo ex
  | stuck => exact h
theorem OutS.st {α : Type} {r : R α} {f : α → Sto → RS} (ok : GOk c g) (lo : LocOk c g loc σ) (h : OutS c g W E (r.st loc f)) : Out c g W σ r (fun a g1 => Le g g1 ∧ GOk c g1 ∧ OutS c g1 W E (f a g1.S)) := by
  cases r with
  | ok a S' => intro ρ' H' ok1 le1; exact ⟨le1, ok1, OutS.le (g := g) h le1⟩
  | exc n xs S' => intro ρ' H' d ok1 le1 ex; exact h ρ' H' d σ ok1 le1 (lo.le ok le1) ex
  | stuck => exact h
theorem OutS.opt {α : Type} {o : Option α} {f : α → RS} (h : OutS c g W E (RS.opt o f)) : ∃ a, o = some a ∧ OutS c g W E (f a) := by
  cases o with
  | none => exact h.elim
  | some a => exact ⟨a, rfl, h⟩
/-- the very state -/
theorem OutS.nx {l : Loc} (h : OutS c g W E (.nx l g.S)) (ok : GOk c g) (lo : LocOk c g l σ) : E.nx σ g.H := h g.ρ g.H σ ok (Le.refl g) lo
theorem OutS.rt {v : Vl} {w : V} (h : OutS c g W E (.ret v g.S)) (ok : GOk c g) (r : RepV c g v w) : E.rt w g.H := h g.ρ g.H w ok (Le.refl g) r
theorem OutS.imp {r : RS} (h : OutS c g W E r) (i1 : ∀ l g' σ', r = .nx l g'.S → GOk c g' → Le g g' → LocOk c g' l σ' → E.nx σ' g'.H → E'.nx σ' g'.H) (i2 : ∀ v H', E.rt v H' → E'.rt v H')
    (i3 : ∀ l g' σ', r = .bk l g'.S → GOk c g' → Le g g' → LocOk c g' l σ' → E.bk σ' g'.H → E'.bk σ' g'.H) (i4 : ∀ l g' σ', r = .ct l g'.S → GOk c g' → Le g g' → LocOk c g' l σ' → E.ct σ' g'.H → E'.ct σ' g'.H) : OutS c g W E' r := by
  cases r with
  | nx l1 S' => intro ρ' H' σ' ok le lo; exact i1 l1 ⟨g.hid, ρ', S', H'⟩ σ' rfl ok le lo (h ρ' H' σ' ok le lo)
  | ret v S' => intro ρ' H' w ok le lo; exact i2 w H' (h ρ' H' w ok le lo)
  | bk l1 S' => intro ρ' H' σ' ok le lo; exact i3 l1 ⟨g.hid, ρ', S', H'⟩ σ' rfl ok le lo (h ρ' H' σ' ok le lo)
  | ct l1 S' => intro ρ' H' σ' ok le lo; exact i4 l1 ⟨g.hid, ρ', S', H'⟩ σ' rfl ok le lo (h ρ' H' σ' ok le lo)
  | exc n xs l1 S' => exact h
  | stuck => exact h
end
section
variable {c : Glb} {U : EV.Env} {W : WX} {X : Cx} {e a b d : Expr} {l la lb ld : LE} {pos : Pos} {st : Stmt} {rest sa sb : List Stmt} {s : LS} {ss tsa tsb : LSs}
theorem ss_nil : PSs X [] (tSs c U W .nil) := PSs.imp pss_nil fun E σ H => by
  rintro ⟨g, loc, rfl, ok, lo, out⟩
  exact OutS.nx out ok lo
theorem ss_cons (h1 : PS X st (tS c U W s)) (h2 : PSs X rest (tSs c U W ss)) : PSs X (st :: rest) (tSs c U W (.cons s ss)) := PSs.imp (pss_cons h1 h2) fun E σ H => by
  rintro ⟨g, loc, rfl, ok, lo, out⟩
  refine ⟨g, loc, rfl, ok, lo, ?_⟩
  have out : OutS c g W E (match evS U s loc g.S with | .nx l' S' => evSs U ss l' S' | r => r) := out
  cases hr : evS U s loc g.S with
  | nx l' S' =>
    rw [hr] at out
    intro ρ' H' σ' ok1 le1 lo1
    exact ⟨⟨g.hid, ρ', S', H'⟩, l', rfl, ok1, lo1, OutS.le (g := g) out le1⟩
  | ret v S' => rw [hr] at out; exact out
  | bk l' S' => rw [hr] at out; exact out
  | ct l' S' => rw [hr] at out; exact out
  | exc n xs l' S' => rw [hr] at out; exact out
  | stuck => rw [hr] at out; exact out
theorem s_pass : PS X (.Pass pos) (tS c U W .pass) := PS.imp ps_pass fun E σ H => by
  rintro ⟨g, loc, rfl, ok, lo, out⟩
  exact OutS.nx out ok lo
theorem s_never : PS X st (tS c U W .never) := PS.imp ps_never fun E σ H => by
  rintro ⟨g, loc, rfl, ok, lo, out⟩
  exact out
def plainC : Expr → Bool
  | .ListComp .. => false
  | .SetComp .. => false
  | .DictComp .. => false
  | _ => true
theorem plainC_no {o : Option Expr} {n : Nat} {env : PySem.Env} (h : plainC e = true) : swapsWith e o n env = pure false := by
  cases e <;> first | rfl | cases h
theorem s_ex (hp : plainC e = true) (he : PE X e (tEv c U W l)) : PS X (.Expr e pos) (tS c U W (.ex l)) := PS.imp (ps_expr he (plainC_no hp)) fun E σ H => by
  rintro ⟨g, loc, rfl, ok, lo, out⟩
  refine ⟨g, loc, rfl, ok, lo, (OutS.st ok lo out).imp fun v g1 ⟨le1, ok1, out1⟩ w rw1 => ?_⟩
  exact OutS.nx out1 ok1 (lo.le ok le1)
theorem s_ret (he : PE X e (tEv c U W l)) : PS X (.Return (some e) pos) (tS c U W (.ret l)) := PS.imp (ps_ret he) fun E σ H => by
  rintro ⟨g, loc, rfl, ok, lo, out⟩
  refine ⟨g, loc, rfl, ok, lo, (OutS.st ok lo out).imp fun v g1 ⟨le1, ok1, out1⟩ w rw1 => ?_⟩
  obtain ⟨⟨x, S2⟩, hp, q⟩ := OutS.opt out1
  obtain ⟨ok2, le2, r2⟩ := take_ok ok1 rw1 hp
  exact OutS.rt (g := { g1 with S := S2 }) (OutS.le q le2) ok2 (.d r2)
theorem s_retk (he : PE X e (tEv c U W l)) : PS X (.Return (some e) pos) (tS c U W (.retk l)) := PS.imp (ps_ret he) fun E σ H => by
  rintro ⟨g, loc, rfl, ok, lo, out⟩
  refine ⟨g, loc, rfl, ok, lo, (OutS.st ok lo out).imp fun v g1 ⟨le1, ok1, out1⟩ w rw1 => ?_⟩
  exact OutS.rt out1 ok1 rw1
theorem s_retn : PS X (.Return none pos) (tS c U W .retn) := PS.imp ps_retN fun E σ H => by
  rintro ⟨g, loc, rfl, ok, lo, out⟩
  exact OutS.rt out ok (.d .non)
/-! ### values to names -/
theorem asg_imp {i : Nat} {E : L2.Ends} {σ : L2.St} {H : Hp} : tS c U W (.asg (.nm i) l) E σ H → tAsg (tEv c U W l) (gName i) E σ H := by
  rintro ⟨g, loc, rfl, ok, lo, out⟩
  refine ⟨g, loc, rfl, ok, lo, (OutS.st ok lo out).imp fun v g1 ⟨le1, ok1, out1⟩ w rw1 => ?_⟩
  obtain ⟨l', hl, q⟩ := OutS.opt out1
  cases hl
  exact OutS.nx q ok1 ((lo.le ok le1).set rw1 i)
theorem s_asg {i : Nat} {x : Str} {p2 : Pos} (hN : X.N.Nodup) (hi : X.N[i]? = some x) (hx : L2.Loc X.env.scope x) (hf : X.fn x = true ∨ X.env.scope.names.lookup x = some .local) (hp : plainC e = true) (he : PE X e (tEv c U W l)) :
    PS X (.Assign [.Name x p2] e pos) (tS c U W (.asg (.nm i) l)) := PS.imp (ps_set hN hi hx he (plainC_no hp) hf) fun E σ H h => asg_imp h
/-- a new list stays, or is frozen -/
theorem froz_imp (hd : ∀ loc S v S', evE U l loc S = .ok v S' → ∃ z, v = .d z) {σ : L2.St} {H : Hp} {Q : VK} : tEv c U W l σ H Q → tEvN c U W l σ H Q := by
  rintro ⟨g, loc, rfl, ok, lo, out⟩
  refine ⟨g, loc, rfl, ok, lo, ?_⟩
  cases hr : evE U l loc g.S with
  | ok v S' =>
    rw [hr] at out
    intro ρ' H' ok' le
    obtain ⟨z, rfl⟩ := hd _ _ _ _ hr
    exact ⟨z, rfl, OutN.of ok' fun H2 w o2 l2 r2 => out ρ' H2 o2 (le.trans l2) w r2⟩
  | exc n xs S' => rw [hr] at out; exact out
  | stuck => rw [hr] at out; exact out
theorem thaw_imp {σ : L2.St} {H : Hp} {Q : VK} : tEv c U W (.thaw l) σ H Q → tEvN c U W l σ H Q := by
  rintro ⟨g, loc, rfl, ok, lo, out⟩
  refine ⟨g, loc, rfl, ok, lo, Out.imp (Out.bind out) fun v g1 ⟨le, ok1, o1⟩ => ?_⟩
  cases v with
  | d z =>
    cases z with
    | lst ds =>
      refine ⟨.lst ds, rfl, fun p vs hp hl r => ?_⟩
      refine o1 (g1.ρ ++ [p]) (upd g1.H p (.lst vs)) (gok_more ok1 hp hl r) (le_more ok1 hp) _ (.ref ?_)
      rw [← ok1.len]; simp
    | _ => exact False.elim o1
  | _ => exact False.elim o1
/-- new values to names: for lists by comprehensions, on one line -/
theorem s_asgF {i : Nat} (hd : ∀ loc S v S', evE U l loc S = .ok v S' → ∃ z, v = .d z) (h : PS X st (tAsg (tEvN c U W l) (gName i))) : PS X st (tS c U W (.asg (.nm i) l)) := PS.imp h fun E σ H q => froz_imp hd (asg_imp q)
theorem s_asgT {i : Nat} (h : PS X st (tAsg (tEvN c U W l) (gName i))) : PS X st (tS c U W (.asg (.nm i) (.thaw l))) := PS.imp h fun E σ H q => thaw_imp (asg_imp q)
theorem s_asgTup {es : List Expr} {kk : Nat} {p2 : Pos} {t : LT} (ht : ∀ i, t ≠ .nm i) (hp : plainC e = true) (hw : swappedStores [.Tuple es kk p2] e X.env = pure none) (he : PE X e (tEv c U W l)) (hg : PG X (.Tuple es kk p2) (tG c t)) :
    PS X (.Assign [.Tuple es kk p2] e pos) (tS c U W (.asg t l)) := PS.imp (ps_asg he hg (by show swapsWith e (some (.Tuple es kk p2)) pos.line X.env = _; exact plainC_no hp) hw rfl) fun E σ H => by
  rintro ⟨g, loc, rfl, ok, lo, out⟩
  refine ⟨g, loc, rfl, ok, lo, (OutS.st ok lo out).imp fun v g1 ⟨le1, ok1, out1⟩ w rw1 => ?_⟩
  obtain ⟨l', hl, q⟩ := OutS.opt out1
  cases rw1 with
  | @d x0 _ r =>
    have hl : setT t x0 loc = some l' := by
      cases t with
      | nm i => exact absurd rfl (ht i)
      | _ => exact hl
    exact ⟨g1, loc, l', _, rfl, ok1, lo.le ok le1, r, hl, fun σ' lo' _ => OutS.nx q ok1 lo'⟩
  | _ =>
    exfalso
    cases t with
    | nm i => exact ht i rfl
    | _ => cases hl
theorem s_par {i j : Nat} {x y : Str} {px py pt : Pos} {kt k2 pt2} (hc : X.calm = true) (hN : X.N.Nodup) (hi : X.N[i]? = some x) (hj : X.N[j]? = some y) (hij : i ≠ j)
    (hx : X.env.scope.names.lookup x = some .local) (hy : X.env.scope.names.lookup y = some .local) (pa : plainX a = true) (pb : plainX b = true) (ha : PE X a (tEv c U W la)) (hb : PE X b (tEv c U W lb))
    (hw : swappedStores [.Tuple [.Name x px, .Name y py] kt pt] (.Tuple [a, b] k2 pt2) X.env = pure (some [x, y])) :
    PS X (.Assign [.Tuple [.Name x px, .Name y py] kt pt] (.Tuple [a, b] k2 pt2) pos) (tS c U W (.par i j la lb)) := PS.imp (ps_par hc hN hi hj hij hx hy (sa_cons pa ha (sa_cons pb hb (sa_nil (c := c) (U := U) (W := W)))) hw) fun E σ H => by
  rintro ⟨g, loc, rfl, ok, lo, out⟩
  refine ⟨g, loc, rfl, ok, lo, ?_⟩
  show Out c g W σ ((evE U la loc g.S).bind fun v S1 => ((evE U lb loc S1).bind fun w S2 => R.ok [w] S2).bind fun vs S2 => R.ok (v :: vs) S2) _
  have o1 := OutS.st ok lo out
  cases h1 : evE U la loc g.S with
  | exc n xs S' => rw [h1] at o1; exact o1
  | stuck => rw [h1] at o1; exact o1
  | ok v S1 =>
    have out : OutS c g W E ((evE U la loc g.S).st loc fun v S1 => (evE U lb loc S1).st loc fun w S2 => .nx ((loc.set i (some v)).set j (some w)) S2) := out
    rw [h1] at out
    simp only [R.bind_ok, R.st_ok] at out ⊢
    cases h2 : evE U lb loc S1 with
    | exc n xs S' =>
      rw [h2] at out
      intro ρ' H' d ok' le' ex
      exact out ρ' H' d σ ok' le' (lo.le ok le') ex
    | stuck => rw [h2] at out; exact out
    | ok w S2 =>
      rw [h2] at out
      simp only [R.bind_ok, R.st_ok] at out ⊢
      intro ρ' H' ok' le' ws rws
      cases rws with
      | cons r1 rws =>
        cases rws with
        | cons r2 rws =>
          cases rws
          exact ⟨_, _, rfl, out ρ' H' _ ok' le' (((lo.le ok le').set r1 i).set r2 j)⟩
theorem s_par3 {i j k : Nat} {x y z : Str} {px py pz pt : Pos} {kt k2 pt2} (hc : X.calm = true) (hN : X.N.Nodup) (hi : X.N[i]? = some x) (hj : X.N[j]? = some y) (hk : X.N[k]? = some z) (hij : i ≠ j) (hik : i ≠ k) (hjk : j ≠ k)
    (hx : X.env.scope.names.lookup x = some .local) (hy : X.env.scope.names.lookup y = some .local) (hz : X.env.scope.names.lookup z = some .local) (pa : plainX a = true) (pb : plainX b = true) (pd : plainX d = true) (ha : PE X a (tEv c U W la)) (hb : PE X b (tEv c U W lb)) (hd : PE X d (tEv c U W ld))
    (hw : swappedStores [.Tuple [.Name x px, .Name y py, .Name z pz] kt pt] (.Tuple [a, b, d] k2 pt2) X.env = pure (some [x, y, z])) :
    PS X (.Assign [.Tuple [.Name x px, .Name y py, .Name z pz] kt pt] (.Tuple [a, b, d] k2 pt2) pos) (tS c U W (.par3 i j k la lb ld)) := PS.imp (ps_par3 hc hN hi hj hk hij hik hjk hx hy hz (sa_cons pa ha (sa_cons pb hb (sa_cons pd hd (sa_nil (c := c) (U := U) (W := W))))) hw) fun E σ H => by
  rintro ⟨g, loc, rfl, ok, lo, out⟩
  refine ⟨g, loc, rfl, ok, lo, ?_⟩
  show Out c g W σ ((evE U la loc g.S).bind fun v S1 => ((evE U lb loc S1).bind fun w S2 => ((evE U ld loc S2).bind fun u S3 => R.ok [u] S3).bind fun vs S3 => R.ok (w :: vs) S3).bind fun vs S2 => R.ok (v :: vs) S2) _
  have o1 := OutS.st ok lo out
  cases h1 : evE U la loc g.S with
  | exc n xs S' => rw [h1] at o1; exact o1
  | stuck => rw [h1] at o1; exact o1
  | ok v S1 =>
    have out : OutS c g W E ((evE U la loc g.S).st loc fun v S1 => (evE U lb loc S1).st loc fun w S2 => (evE U ld loc S2).st loc fun u S3 => .nx (((loc.set i (some v)).set j (some w)).set k (some u)) S3) := out
    rw [h1] at out
    simp only [R.bind_ok, R.st_ok] at out ⊢
    cases h2 : evE U lb loc S1 with
    | exc n xs S' =>
      rw [h2] at out
      intro ρ' H' d ok' le' ex
      exact out ρ' H' d σ ok' le' (lo.le ok le') ex
    | stuck => rw [h2] at out; exact out
    | ok w S2 =>
      rw [h2] at out
      simp only [R.bind_ok, R.st_ok] at out ⊢
      cases h3 : evE U ld loc S2 with
      | exc n xs S' =>
        rw [h3] at out
        intro ρ' H' d ok' le' ex
        exact out ρ' H' d σ ok' le' (lo.le ok le') ex
      | stuck => rw [h3] at out; exact out
      | ok u S3 =>
        rw [h3] at out
        simp only [R.bind_ok, R.st_ok] at out ⊢
        intro ρ' H' ok' le' ws rws
        cases rws with
        | cons r1 rws =>
          cases rws with
          | cons r2 rws =>
            cases rws with
            | cons r3 rws =>
              cases rws
              exact ⟨_, _, _, rfl, out ρ' H' _ ok' le' ((((lo.le ok le').set r1 i).set r2 j).set r3 k)⟩
end
end EV
end

section
set_option Elab.async false
set_option linter.all false
set_option maxRecDepth 100000
set_option maxHeartbeats 1000000
/-! EV14: items written, branches, loops -/
namespace EV
open PySem PySem.Spec PyProof.Rows L2
section
variable {c : Glb} {U : EV.Env} {W : WX} {X : Cx} {e a b d : Expr} {l la lb ld : LE} {pos p2 : Pos} {st : Stmt} {sa sb : List Stmt} {s : LS} {tsa tsb : LSs}
/-! ### displays of dicts -/
def pairUp : List V → List (V × V)
  | a :: b :: r => (a, b) :: pairUp r
  | _ => []
def tPrs (c : Glb) (U : EV.Env) (W : WX) (l : LEs) : L2.St → Hp → (List (V × V) → Hp → Prop) → Prop := fun σ H Q => ∃ (g : G) (loc : Loc), g.H = H ∧ GOk c g ∧ LocOk c g loc σ ∧ Out c g W σ (evEs U l loc g.S) (fun vs g' => ∀ ws, RepVs c g' vs ws → Q (pairUp ws) g'.H)
def SD (c : Glb) (U : EV.Env) (W : WX) (X : Cx) (pos : Pos) (l : LEs) (ks : List (Option Expr)) (vs : List Expr) : Prop := ∃ trs, PPs X pos ks vs trs ∧ ∀ σ H Q, tPrs c U W l σ H Q → tPairs trs σ H Q
theorem sd_nil : SD c U W X pos .nil [] [] := ⟨[], pps_nil, fun σ H Q => by
  rintro ⟨g, loc, rfl, ok, lo, out⟩
  exact (Out.here out ok) [] .nil⟩
theorem sd_cons {ks : List (Option Expr)} {vs : List Expr} {ls : LEs} (ha : PE X a (tEv c U W la)) (hb : PE X b (tEv c U W lb)) (h : SD c U W X pos ls ks vs) : SD c U W X pos (.cons la (.cons lb ls)) (some a :: ks) (b :: vs) := by
  obtain ⟨trs, h1, h2⟩ := h
  refine ⟨_, pps_cons ha hb h1, fun σ H Q => ?_⟩
  rintro ⟨g, loc, rfl, ok, lo, out⟩
  refine ⟨g, loc, rfl, ok, lo, (Out.bind out).imp fun v g1 ⟨le1, ok1, out1⟩ w rw1 => ?_⟩
  have out1 : Out c g1 W σ (((evE U lb loc g1.S).bind fun w S2 => (evEs U ls loc S2).bind fun vs S3 => R.ok (w :: vs) S3).bind fun vs S2 => R.ok (v :: vs) S2) _ := out1
  have o2 : Out c g1 W σ (evE U lb loc g1.S) (fun v2 g2 => Le g1 g2 ∧ GOk c g2 ∧ Out c g2 W σ (((evEs U ls loc g2.S).bind fun vs S3 => R.ok (v2 :: vs) S3).bind fun vs S2 => R.ok (v :: vs) S2) (fun vs g' => ∀ ws, RepVs c g' vs ws → Q (pairUp ws) g'.H)) := by
    cases hr : evE U lb loc g1.S with
    | ok v2 S2 => rw [hr] at out1; intro ρ' H' ok2 le2; exact ⟨le2, ok2, Out.le (g := g1) out1 le2⟩
    | exc n xs S' => rw [hr] at out1; exact out1
    | stuck => rw [hr] at out1; exact out1
  refine ⟨g1, loc, rfl, ok1, lo.le ok le1, o2.imp fun v2 g2 ⟨le2, ok2, out2⟩ w2 rw2 => ?_⟩
  refine h2 _ _ _ ⟨g2, loc, rfl, ok2, (lo.le ok le1).le ok1 le2, ?_⟩
  cases hr : evEs U ls loc g2.S with
  | ok vs3 S3 =>
    rw [hr] at out2
    intro ρ' H' ok3 le3 ws rws
    exact Out.here (g := ⟨g2.hid, ρ', S3, H'⟩) (Out.le (g := g2) out2 le3) ok3 _ (.cons ((rw1.le ok1 le2).le ok2 le3) (.cons (rw2.le ok2 le3) rws))
  | exc n xs S' => rw [hr] at out2; exact out2
  | stuck => rw [hr] at out2; exact out2
theorem pairs_rep {g : G} : ∀ {ds : List D} {ks : List (Ky × D)} {ws : List V}, pairsA ds = some ks → Reps c.K (live g) g.H ds ws → ∃ vs : List (Key × V), pairUp ws = vs.map (fun kv => (kV kv.1, kv.2)) ∧ RepKs c.K (live g) g.H ks vs ∧ ks.length + ks.length = ds.length
  | [], ks, ws, h, r => by cases h; cases r; exact ⟨[], rfl, .nil, rfl⟩
  | [d], ks, ws, h, r => by cases h
  | k :: v :: ds, ks, ws, h, r => by
    have h : ((kyOf k).bind fun y => (pairsA ds).map ((y, v) :: ·)) = some ks := h
    rw [Option.bind_eq_some_iff] at h
    obtain ⟨y, hy, h⟩ := h
    rw [Option.map_eq_some_iff] at h
    obtain ⟨ks', hk, rfl⟩ := h
    cases r with
    | cons r1 r =>
      cases r with
      | cons r2 r =>
        obtain ⟨vs, e1, e2, e3⟩ := pairs_rep hk r
        obtain ⟨rfl, oy⟩ := kyOf_rep r1 hy
        exact ⟨(toK y, _) :: vs, by rw [List.map_cons, ← e1]; rfl, .cons oy r2 e2, by simp only [List.length_cons]; omega⟩
theorem se_dct {ks : List (Option Expr)} {vs : List Expr} {ls : LEs} (h : SD c U W X pos ls ks vs) (hall : ks.all (·.isSome) = true) (hl : ks.length = vs.length) (h0 : ks ≠ []) (h15 : ks.length ≤ 15) (hn : lenEs ls ≤ 30) : PE X (.Dict ks vs pos) (tEv c U W (.dct ls)) := by
  obtain ⟨trs, h1, h2⟩ := h
  refine PE.imp (pe_disp h1 hall hl h0 h15) fun σ H Q => ?_
  rintro ⟨g, loc, rfl, ok, lo, out⟩
  intro p hp
  have out2 := Out.hide (o := .dK []) (.inr ⟨[], rfl⟩) ok hp (Out.bind out)
  obtain ⟨okH, lH⟩ := hide_ok (o := .dK []) (.inr ⟨[], rfl⟩) ok hp
  have loH : LocOk c ⟨p :: g.hid, g.ρ, g.S, upd g.H p (.dK [])⟩ loc σ := ⟨lo.len, fun i v q => let ⟨w, e1, e2⟩ := lo.at_ i v q; ⟨w, e1, e2.lw ok lH.lw⟩⟩
  refine h2 _ _ _ ⟨⟨p :: g.hid, g.ρ, g.S, upd g.H p (.dK [])⟩, loc, rfl, okH, loH, Out.imp' out2 fun vs2 g2 eq ⟨l2, ok2, ed, le1, ok1, out1⟩ ws rws => ?_⟩
  refine ⟨ed, ?_⟩
  obtain ⟨⟨ds, S3⟩, ht, o3⟩ := Out.opt out1
  obtain ⟨kvs, hk, o4⟩ := Out.opt o3
  have hk : pairsA ds = some kvs := hk
  obtain ⟨okt, let_, rt⟩ := takes_ok ok2 rws ht
  have lt := l2.le let_
  obtain ⟨oke, lee, me⟩ := out_ok (g' := { g2 with S := S3 }) okt lt hp (.inr ⟨[], rfl⟩) ed
  obtain ⟨us, e1, e2, e3⟩ := pairs_rep (g := { g2 with S := S3 }) hk rt
  have hlen : ds.length ≤ 30 := by rw [takes_len ht, evEs_len eq]; exact hn
  have hle : kvs.length ≤ 15 := by omega
  refine ⟨us, e1, by rw [← e2.length]; exact hle, ?_⟩
  have hp2 : (⟨g.hid, g2.ρ, S3, fun a => if a = p then none else g2.H a⟩ : G).H p = none := if_pos rfl
  have fl : (kvs.foldl (fun a q => putA a q.1 q.2) []).length ≤ lim := by
    have q := fold_len (ms := kvs) (ks := [])
    exact small_lim (by simp only [List.length_nil] at q; omega)
  have okn := gok_moreD (g := ⟨g.hid, g2.ρ, S3, fun a => if a = p then none else g2.H a⟩) oke hp2 fl ((e2.mo me).fold .nil)
  have len_ := le_more (g := ⟨g.hid, g2.ρ, S3, fun a => if a = p then none else g2.H a⟩) (x := .dic (kvs.foldl (fun a q => putA a q.1 q.2) [])) (o := .dK (mergeK [] us)) oke hp2
  have lcut : Le ⟨g.hid, g2.ρ, g2.S, fun a => if a = p then none else g2.H a⟩ ⟨g.hid, g2.ρ, S3, fun a => if a = p then none else g2.H a⟩ := by
    refine ⟨List.prefix_refl _, rfl, fun _ _ => rfl, fun a o h n t => ⟨h, fun z => ?_⟩, fun _ q => q⟩
    have h : (if a = p then none else g2.H a) = some o := h
    have hap : a ≠ p := fun z => by rw [if_pos z] at h; cases h
    rw [if_neg hap] at h
    have nl : ¬ live g2 a := fun z => n (by
      rcases z with z | z
      · rw [l2.hid] at z
        rcases List.mem_cons.mp z with z | z
        · exact absurd z hap
        · exact .inl z
      · exact .inr z)
    refine (let_.keep a o h nl t).2 ?_
    rcases z with z | z
    · exact .inl (by show a ∈ g2.hid; rw [l2.hid]; exact List.mem_cons_of_mem _ z)
    · exact .inr z
  have q := o4 (g2.ρ ++ [p]) (upd (fun a => if a = p then none else g2.H a) p (.dK (mergeK [] us))) okn (lcut.trans len_) (.ref p) (.ref (by
    show (g2.ρ ++ [p])[_]? = _
    rw [← okt.len]; simp))
  have e : upd (fun a => if a = p then none else g2.H a) p (.dK (mergeK [] us)) = upd g2.H p (.dK (mergeK [] us)) := by
    funext a
    by_cases ha : a = p
    · rw [ha, upd_same, upd_same]
    · rw [upd_ne ha, upd_ne ha, if_neg ha]
  have q : Q (.ref p) (upd (fun a => if a = p then none else g2.H a) p (.dK (mergeK [] us))) := q
  rw [e] at q
  exact q
theorem se_dct0 : PE X (.Dict [] [] pos) (tEv c U W (.dct .nil)) := PE.imp pe_dnewK fun σ H Q => by
  rintro ⟨g, loc, rfl, ok, lo, out⟩
  intro p hp
  have out : Out c g W σ (R.ok (Vl.ref g.S.length) (g.S ++ [.dic []])) (fun v g' => ∀ w, RepV c g' v w → Q w g'.H) := out
  refine out (g.ρ ++ [p]) (upd g.H p (.dK [])) (gok_moreD ok hp (Nat.zero_le _) .nil) (le_more ok hp) (.ref p) (.ref ?_)
  rw [← ok.len]; simp
theorem swSub {o i : Expr} {p : Pos} {n : Nat} {env : PySem.Env} : swapsWith e (some (.Subscript o i p)) n env = pure false := by
  cases e <;> rfl
theorem asg_sub {o i : Expr} {env : PySem.Env} (h : plainX i = true) (v : Value) : assign (.Subscript o i p2) env v = (do
      let ov ← holding [v] (eval o env)
      let iv ← holding [v, ov] (eval i env)
      standAt p2
      holding [v, ov, iv] (setItem ov iv v)
      release [v, ov, iv] []) := by
  cases i <;> first | rfl | cases h
theorem PSet.or {t t' : TSet} (h : PSet X t) (h' : PSet X t') : PSet X (fun o i v H Q => t o i v H Q ∨ t' o i v H Q) := by
  intro pins s σ H o i v ov iv u Q I ro ri rv q
  rcases q with q | q
  · exact h pins s σ H o i v ov iv u Q I ro ri rv q
  · exact h' pins s σ H o i v ov iv u Q I ro ri rv q
theorem s_sub (hu : X.A.units + 200 < cLine) (hp : plainX b = true) (ha : PE X a (tEv c U W la)) (hb : PE X b (tEv c U W lb)) (he : PE X e (tEv c U W l)) :
    PS X (.Assign [.Subscript a b p2] e pos) (tS c U W (.sub la lb l)) := PS.imp (ps_asg he (pg_sub (pos := p2) ha hb (PSet.or set_list (set_dict (by omega))) (asg_sub hp)) (by show swapsWith e (some (.Subscript a b p2)) pos.line X.env = _; exact swSub) (by cases e <;> rfl) rfl) fun E σ H => by
  rintro ⟨g, loc, rfl, ok, lo, out⟩
  refine ⟨g, loc, rfl, ok, lo, (OutS.st ok lo out).imp fun v g1 ⟨le1, ok1, out1⟩ w rw1 => ?_⟩
  have lo1 := lo.le ok le1
  refine ⟨g1, loc, rfl, ok1, lo1, (OutS.st ok1 lo1 out1).imp fun v2 g2 ⟨le2, ok2, out2⟩ w2 rw2 => ?_⟩
  have lo2 := lo1.le ok1 le2
  refine ⟨g2, loc, rfl, ok2, lo2, (OutS.st ok2 lo2 out2).imp fun v3 g3 ⟨le3, ok3, out3⟩ w3 rw3 => ?_⟩
  have lo3 := lo2.le ok2 le3
  have r1 := (rw1.le ok1 le2).le ok2 le3
  have r2 := rw2.le ok2 le3
  cases r2 with
  | @ref n p ep =>
    cases rw3 with
    | @d kd _ r3 =>
      have out3 : OutS c g3 W E (RS.opt (take g3.S v) fun p => subC loc n kd p.1 p.2) := out3
      obtain ⟨⟨x, S4⟩, ht, out4⟩ := OutS.opt out3
      obtain ⟨ok4, le4, r4⟩ := take_ok ok3 r1 ht
      have out4 : OutS c g3 W E (subC loc n kd x S4) := out4
      unfold subC at out4
      split at out4
      · rename_i ds hds
        cases kd with
        | int j =>
          cases r3
          obtain ⟨m, hm, out5⟩ := OutS.opt out4
          obtain ⟨vs, hv, hl, rr⟩ := ok4.cell n p _ ep hds
          refine .inl ⟨p, vs, j, m, rfl, rfl, hv, by rw [← ixI_eq, ← rr.length]; exact hm, ?_⟩
          have ok5 := gok_set (g := { g3 with S := S4 }) ok4 ep hds rfl (by rw [List.length_set]; exact hl) (Reps.set r4 m rr)
          have le5 := le_set (g := { g3 with S := S4 }) (x := .lst (ds.set m x)) (o := .lst (vs.set m w)) ok4 ep hds rfl
          exact OutS.nx (g := ⟨g3.hid, g3.ρ, S4.set n (.lst (ds.set m x)), upd g3.H p (.lst (vs.set m w))⟩) (OutS.le (OutS.le out5 le4) le5) ok5 ((lo3.le ok3 le4).le ok4 le5)
        | _ => exact False.elim out4
      · rename_i kvs hds
        obtain ⟨y, hy, out5⟩ := OutS.opt out4
        split at out5
        · rename_i hlt
          obtain ⟨rfl, oy⟩ := kyOf_rep r3 hy
          obtain ⟨vs, hv, hl, rr⟩ := ok4.cell n p _ ep hds
          refine .inr ⟨p, _, rfl, DPut.k hv (by rw [← rr.length, ← lim_eq]; exact hlt), ?_⟩
          have hl2 : (putA kvs y x).length ≤ lim := Nat.le_trans putA_len hlt
          have ok5 := gok_setD (g := { g3 with S := S4 }) ok4 ep hds rfl hl2 (rr.put oy r4)
          have le5 := le_set (g := { g3 with S := S4 }) (x := .dic (putA kvs y x)) (o := .dK (putK vs (toK y) w)) ok4 ep hds rfl
          exact OutS.nx (g := ⟨g3.hid, g3.ρ, S4.set n (.dic (putA kvs y x)), upd g3.H p (.dK (putK vs (toK y) w))⟩) (OutS.le (OutS.le out5 le4) le5) ok5 ((lo3.le ok3 le4).le ok4 le5)
        · exact out5.elim
      · exact out4.elim
    | _ => exact False.elim out3
  | _ => cases rw3 <;> exact False.elim out3
theorem s_if (hc : PT X e (tTv c U W l)) (ha : PSs X sa (tSs c U W tsa)) (hb : PSs X sb (tSs c U W tsb)) : PS X (.If e sa sb pos) (tS c U W (.ife l tsa tsb)) := PS.imp (ps_if hc ha hb) fun E σ H => by
  rintro ⟨g, loc, rfl, ok, lo, out⟩
  refine ⟨g, loc, rfl, ok, lo, (OutS.st ok lo out).imp fun v g1 ⟨le1, ok1, out1⟩ => ?_⟩
  obtain ⟨k, hk, q⟩ := OutS.opt out1
  refine ⟨k, hk, ?_⟩
  cases k with
  | true => exact ⟨g1, loc, rfl, ok1, lo.le ok le1, q⟩
  | false => exact ⟨g1, loc, rfl, ok1, lo.le ok le1, q⟩
/-- one turn's ends -/
theorem turn_ends {g1 : G} {loc : Loc} {σ : L2.St} {E : L2.Ends} {N : L2.St → Hp → Prop} {K : Loc → Sto → RS} (ok1 : GOk c g1) (lo1 : LocOk c g1 loc σ)
    (out : OutS c g1 W E (match evSs U tsa loc g1.S with | .nx l2 S2 => K l2 S2 | .ct l2 S2 => K l2 S2 | .bk l2 S2 => .nx l2 S2 | r => r))
    (hN : ∀ (g2 : G) (l2 : Loc) (σ2 : L2.St), GOk c g2 → Le g1 g2 → LocOk c g2 l2 σ2 → OutS c g2 W E (K l2 g2.S) → N σ2 g2.H) :
    tSs c U W tsa { E with nx := N, ct := N, bk := E.nx } σ g1.H := by
  refine ⟨g1, loc, rfl, ok1, lo1, ?_⟩
  cases hr : evSs U tsa loc g1.S with
  | nx l2 S2 =>
    rw [hr] at out
    intro ρ' H' σ' ok2 le2 lo2
    exact hN ⟨g1.hid, ρ', S2, H'⟩ l2 σ' ok2 le2 lo2 (OutS.le (g := g1) out le2)
  | ct l2 S2 =>
    rw [hr] at out
    intro ρ' H' σ' ok2 le2 lo2
    exact hN ⟨g1.hid, ρ', S2, H'⟩ l2 σ' ok2 le2 lo2 (OutS.le (g := g1) out le2)
  | bk l2 S2 =>
    rw [hr] at out
    intro ρ' H' σ' ok2 le2 lo2
    exact out ρ' H' σ' ok2 le2 lo2
  | ret v S2 => rw [hr] at out; exact out
  | exc n xs l2 S2 => rw [hr] at out; exact out
  | stuck => rw [hr] at out; exact out
theorem whileGo_succ {cn : Loc → Sto → R Bool} {b : Loc → Sto → RS} {k : Nat} {l : Loc} {S : Sto} : whileGo cn b (k + 1) l S = (cn l S).st l fun t S1 => if t then (match b l S1 with | .nx l2 S2 => whileGo cn b k l2 S2 | .ct l2 S2 => whileGo cn b k l2 S2 | .bk l2 S2 => .nx l2 S2 | r => r) else .nx l S1 := by
  simp only [whileGo] <;> rfl
theorem s_while (hp : PassesOwn (model X.prog X.w) X.A X.env X.xe) (hc : PT X e (tTv c U W l)) (ha : PSs X sa (tSs c U W tsa)) : PS X (.While e sa [] pos) (tS c U W (.while_ l tsa)) := PS.imp (ps_while hp hc ha) fun E σ H => by
  rintro ⟨g, loc, rfl, ok, lo, out⟩
  refine ⟨fun m σ H => ∃ (g' : G) (l' : Loc), g'.H = H ∧ GOk c g' ∧ LocOk c g' l' σ ∧ OutS c g' W E (whileGo (fun l0 S => (evE U l l0 S).bind fun v S1 => R.opt (asBool v) fun k => .ok k S1) (evSs U tsa) m l' g'.S), ⟨U.wf, g, loc, rfl, ok, lo, out⟩, ?_⟩
  rintro m σ H ⟨g', l', rfl, ok', lo', o⟩
  refine ⟨g', l', rfl, ok', lo', ?_⟩
  cases m with
  | zero => exact o.elim
  | succ k =>
    rw [whileGo_succ] at o
    have o1 := OutS.st ok' lo' o
    cases hr : evE U l l' g'.S with
    | exc n xs S' => rw [hr] at o1; exact fun ρ' H' d ok2 le2 ex => o1 ρ' H' d ok2 le2 ex
    | stuck => rw [hr] at o1; exact o1
    | ok v S1 =>
      rw [hr] at o1
      intro ρ1 H1 ok1 le1
      have lo1 := lo'.le ok' le1
      have o2 : Out c g' W σ (R.opt (asBool v) fun k => R.ok k S1) _ := o1
      obtain ⟨t, ht, o3⟩ := Out.opt o2
      refine ⟨t, ht, ?_⟩
      obtain ⟨_, _, o4⟩ := o3 ρ1 H1 ok1 le1
      cases t with
      | false => exact OutS.nx (g := ⟨g'.hid, ρ1, S1, H1⟩) o4 ok1 lo1
      | true =>
        simp only [if_true] at o4 ⊢
        refine ⟨fun σ2 H2 => ∃ (g2 : G) (l2 : Loc), g2.H = H2 ∧ GOk c g2 ∧ LocOk c g2 l2 σ2 ∧ OutS c g2 W E (whileGo (fun l0 S => (evE U l l0 S).bind fun v S1 => R.opt (asBool v) fun k => .ok k S1) (evSs U tsa) k l2 g2.S), ?_, ?_⟩
        · rintro σ2 H2 ⟨g2, l2, rfl, ok2, lo2, o5⟩
          exact ⟨k, Nat.lt_succ_self k, g2, l2, rfl, ok2, lo2, o5⟩
        · exact turn_ends (g1 := ⟨g'.hid, ρ1, S1, H1⟩) ok1 lo1 o4 fun g2 l2 σ2 ok2 le2 lo2 o5 => ⟨g2, l2, rfl, ok2, lo2, o5⟩
theorem forGo_cons {t : LT} {b : Loc → Sto → RS} {x : D} {xs : List D} {l : Loc} {S : Sto} : forGo t b (x :: xs) l S = (match setT t x l with
    | none => .stuck
    | some l' => (match b l' S with | .nx l2 S2 => forGo t b xs l2 S2 | .ct l2 S2 => forGo t b xs l2 S2 | .bk l2 S2 => .nx l2 S2 | r => r)) := by
  simp only [forGo] <;> rfl
theorem forRef_succ {t : LT} {b : Loc → Sto → RS} {n k i : Nat} {l : Loc} {S : Sto} : forRef t b n (k + 1) i l S = (match (S : List Cell)[n]? with
    | some (.lst ds) => (match ds[i]? with
      | none => .nx l S
      | some x => (match setT t x l with
        | none => .stuck
        | some l' => (match b l' S with | .nx l2 S2 => forRef t b n k (i + 1) l2 S2 | .ct l2 S2 => forRef t b n k (i + 1) l2 S2 | .bk l2 S2 => .nx l2 S2 | r => r)))
    | _ => .stuck) := by
  simp only [forRef] <;> rfl
theorem s_for {tg iter : Expr} {lg : LI} {t : LT} (hp : PassesOwn (model X.prog X.w) X.A X.env X.xe) (hc : X.calm = true) (hi : PI X tg iter (tIv c U W lg)) (hg : PG X tg (tG c t)) (ha : PSs X sa (tSs c U W tsa)) (hs : ∀ x, foldedSetIterable iter X.env x = pure x) :
    PS X (.For tg iter sa [] pos) (tS c U W (.for_ t lg tsa)) := PS.imp (ps_for hp hc hi hg ha hs) fun E σ H => by
  rintro ⟨g, loc, rfl, ok, lo, out⟩
  refine ⟨g, loc, rfl, ok, lo, (OutS.st ok lo out).imp fun src g1 ⟨le1, ok1, out1⟩ J wk => ?_⟩
  have lo1 := lo.le ok le1
  cases src with
  | items ds =>
    refine ⟨fun i m σ H => ∃ (g' : G) (l' : Loc), g'.H = H ∧ GOk c g' ∧ LocOk c g' l' σ ∧ Le g1 g' ∧ m = ds.length - i ∧ i ≤ ds.length ∧ OutS c g' W E (forGo t (evSs U tsa) (ds.drop i) l' g'.S), ⟨ds.length, g1, loc, rfl, ok1, lo1, Le.refl g1, rfl, Nat.zero_le _, out1⟩, ?_⟩
    rintro i m σ H ⟨g', l', rfl, ok', lo', le', rfl, hi, o⟩
    obtain ⟨w1, w2⟩ := wk g' ok' le'.lw
    by_cases hlt : i < ds.length
    · have hx : ds[i]? = some ds[i] := List.getElem?_eq_getElem hlt
      obtain ⟨hgo, hy⟩ := w1 i _ hx
      rw [List.drop_eq_getElem_cons hlt, forGo_cons] at o
      refine .inr ⟨hgo, fun σ2 H2 => ∃ (g2 : G) (l2 : Loc), g2.H = H2 ∧ GOk c g2 ∧ LocOk c g2 l2 σ2 ∧ Le g1 g2 ∧ OutS c g2 W E (forGo t (evSs U tsa) (ds.drop (i + 1)) l2 g2.S), ?_, fun w H' y => ?_⟩
      · rintro σ2 H2 ⟨g2, l2, rfl, ok2, lo2, le2, o2⟩
        exact ⟨ds.length - (i + 1), by omega, g2, l2, rfl, ok2, lo2, le2, rfl, hlt, o2⟩
      · obtain ⟨ok2, le2, rx⟩ := hy w H' y
        split at o
        · exact o.elim
        · rename_i l2 hs2
          refine ⟨{ g' with H := H' }, l', l2, _, rfl, ok2, lo'.le ok' le2, rx, hs2, fun σ2 lo2 _ => ?_⟩
          exact turn_ends (g1 := { g' with H := H' }) ok2 lo2 (OutS.le o le2) fun g3 l3 σ3 ok3 le3 lo3 o3 => ⟨g3, l3, rfl, ok3, lo3, le'.trans (le2.trans le3), o3⟩
    · have e : i = ds.length := by omega
      subst e
      rw [List.drop_length] at o
      exact .inl ⟨w2, OutS.nx (g := g') o ok' lo'⟩
  | live n =>
    refine ⟨fun i m σ H => ∃ (g' : G) (l' : Loc), g'.H = H ∧ GOk c g' ∧ LocOk c g' l' σ ∧ Le g1 g' ∧ OutS c g' W E (forRef t (evSs U tsa) n m i l' g'.S), ⟨U.wf, g1, loc, rfl, ok1, lo1, Le.refl g1, out1⟩, ?_⟩
    rintro i m σ H ⟨g', l', rfl, ok', lo', le', o⟩
    cases m with
    | zero => exact o.elim
    | succ k =>
      rw [forRef_succ] at o
      split at o
      · rename_i ds hds
        obtain ⟨w1, w2⟩ := wk g' ds ok' le'.lw hds
        split at o
        · rename_i hn
          exact .inl ⟨w2 i (by simpa using hn), OutS.nx (g := g') o ok' lo'⟩
        · rename_i x hx
          obtain ⟨hgo, hy⟩ := w1 i _ hx
          refine .inr ⟨hgo, fun σ2 H2 => ∃ (g2 : G) (l2 : Loc), g2.H = H2 ∧ GOk c g2 ∧ LocOk c g2 l2 σ2 ∧ Le g1 g2 ∧ OutS c g2 W E (forRef t (evSs U tsa) n k (i + 1) l2 g2.S), ?_, fun w H' y => ?_⟩
          · rintro σ2 H2 ⟨g2, l2, rfl, ok2, lo2, le2, o2⟩
            exact ⟨k, Nat.lt_succ_self k, g2, l2, rfl, ok2, lo2, le2, o2⟩
          · obtain ⟨ok2, le2, rx⟩ := hy w H' y
            split at o
            · exact o.elim
            · rename_i l2 hs2
              refine ⟨{ g' with H := H' }, l', l2, _, rfl, ok2, lo'.le ok' le2, rx, hs2, fun σ2 lo2 _ => ?_⟩
              exact turn_ends (g1 := { g' with H := H' }) ok2 lo2 (OutS.le o le2) fun g3 l3 σ3 ok3 le3 lo3 o3 => ⟨g3, l3, rfl, ok3, lo3, le'.trans (le2.trans le3), o3⟩
      · exact o.elim
end
end EV
end

section
set_option Elab.async false
set_option linter.all false
set_option maxRecDepth 100000
set_option maxHeartbeats 4000000
/-! EV15: does an expression of the text read as one of the small language? -/
namespace EV
open PySem PySem.Spec PyProof.Rows L2
structure Sg where
  fns : List (String × Nat)
  blt : List String
  gv : List (String × D)
  cls : List String
  rz : List Nat
  hot : Bool
  mn : List (Str × NameKind)
  lmk : Nat → LamI → Bool
mutual
def sameD : D → D → Bool
  | .non, .non => true
  | .bl a, .bl b => a == b
  | .int i, .int j => decide (i = j)
  | .str x, .str y => decide (x = y)
  | .tup xs, .tup ys => sameDs xs ys
  | .lst xs, .lst ys => sameDs xs ys
  | _, _ => false
def sameDs : List D → List D → Bool
  | [], [] => true
  | x :: xs, y :: ys => sameD x y && sameDs xs ys
  | _, _ => false
end
mutual
theorem sameD_eq : ∀ (x y : D), sameD x y = true → x = y
  | .non, y, h => by cases y <;> first | rfl | cases h
  | .bl a, y, h => by
    cases y with
    | bl b => simp only [sameD, beq_iff_eq] at h; rw [h]
    | _ => cases h
  | .int a, y, h => by
    cases y with
    | int b => simp only [sameD, decide_eq_true_eq] at h; rw [h]
    | _ => cases h
  | .str a, y, h => by
    cases y with
    | str b => simp only [sameD, decide_eq_true_eq] at h; rw [h]
    | _ => cases h
  | .tup a, y, h => by
    cases y with
    | tup b => simp only [sameD] at h; rw [sameDs_eq a b h]
    | _ => cases h
  | .lst a, y, h => by
    cases y with
    | lst b => simp only [sameD] at h; rw [sameDs_eq a b h]
    | _ => cases h
theorem sameDs_eq : ∀ (x y : List D), sameDs x y = true → x = y
  | [], y, h => by cases y <;> first | rfl | cases h
  | x :: xs, y, h => by
    cases y with
    | nil => cases h
    | cons y ys =>
      simp only [sameDs, Bool.and_eq_true] at h
      rw [sameD_eq x y h.1, sameDs_eq xs ys h.2]
end
def visB (sc : Scope) (x : Str) : Bool :=
  match sc.names.lookup x with
  | some .local => true
  | some .cell => true
  | some .free => true
  | _ => false
def locB (sc : Scope) (x : Str) : Bool :=
  match sc.names.lookup x with
  | some .local => true
  | some .cell => true
  | _ => false
def lclB (sc : Scope) (x : Str) : Bool :=
  match sc.names.lookup x with
  | some .local => true
  | _ => false
def glB (sc : Scope) (x : Str) : Bool :=
  match sc.names.lookup x with
  | some .globalImplicit => true
  | _ => false
def dbg (x : Str) : Bool := x == ("__debug__" : Str)
def cdc (x : Str) : Bool := x == ("__classdict__" : Str)
def nmB (N : List Str) (sc : Scope) (i : Nat) (x : Str) : Bool := decide (N[i]? = some x) && visB sc x && !dbg x && !cdc x
def gvB (Γ : Sg) (x : String) : Vl → Bool
  | .d d => Γ.gv.any fun p => p.1 == x && sameD p.2 d
  | .fnv f => (Γ.fns[f]?).any fun p => p.1 == x
  | _ => false
def fnB (Γ : Sg) (f : Nat) (x : String) (n : Nat) : Bool := (Γ.fns[f]?).any fun p => p.1 == x && p.2 == n
def okLit : D → Const → Bool
  | .non, .none => true
  | .bl a, .bool b => a == b
  | .int i, .int j => decide (i = j)
  | .str s, .str x => decide (x = SS s) && s.all fun c => decide (c < 0x110000)
  | _, _ => false
def tstX : Expr → Bool
  | .Name .. => true
  | .Call .. => true
  | .Subscript .. => true
  | _ => false
def ownN (N : List Str) (own : List Nat) : List (Str × Nat) := own.filterMap fun i => (N[i]?).map fun x => (x, i)
def stB (ws sc : Scope) (x : Str) : Bool := locB sc x && (lclB sc x || match ws.names.lookup x with
  | some .cell => true
  | _ => false)
def okG (N : List Str) (hot : Bool) (ws : Scope) : LT → Scope → Expr → Bool
  | .nm i, sc, e => match e with
    | .Name x _ => decide (N[i]? = some x) && stB ws sc x
    | _ => false
  | .tp a b, sc, e => match e with
    | .Tuple [ea, eb] _ _ => !hot && plainT ea && plainT eb && okG N hot ws a sc ea && okG N hot ws b sc eb
    | _ => false
  | .tp3 a b c, sc, e => match e with
    | .Tuple [ea, eb, ec] _ _ => !hot && plainT ea && plainT eb && plainT ec && okG N hot ws a sc ea && okG N hot ws b sc eb && okG N hot ws c sc ec
    | _ => false
def isNil : LEs → Bool
  | .nil => true
  | _ => false
/-- a lambda that stands as an argument -/
def dflB (a : Arguments) : Bool :=
  a.kw_defaults.isEmpty && match a.defaults with
  | [] => true
  | [.Constant (.int _) _ _] => true
  | _ => false
def namesAt (N : List Str) (is : List Nat) : List Str := is.filterMap fun i => N[i]?
def lamB (Γ : Sg) (N : List Str) (fl : Nat) (caps : List Nat) (sc : Scope) : Expr → Bool
  | .Lambda params body scope _ => !Γ.mn.isEmpty && decide (sc.names = Γ.mn) && decide ((namesAt N caps).length = caps.length) && dflB params && Γ.lmk fl ⟨params, body, scope, namesAt N caps, params.defaults.length⟩ &&
      scope.names.all (fun y => !decide (y.2 = .free) || (namesAt N caps).contains y.1) && (namesAt N caps).all (fun y => decide (scope.names.lookup y = some .free) && decide (sc.names.lookup y = some .cell))
  | _ => false
def someLam : LEs → Bool
  | .cons (.lam _ _) _ => true
  | .cons _ es => someLam es
  | .nil => false
mutual
def ok (Γ : Sg) (N : List Str) : LE → Nat → Scope → Expr → Bool
  | .lit d, m, _, e => m == 0 && match e with
    | .Constant k _ _ => okLit d k
    | _ => false
  | .var i, m, sc, e => (m == 0 || m == 2) && match e with
    | .Name x _ => nmB N sc i x
    | _ => false
  | .glob x v, m, sc, e => m == 0 && match e with
    | .Name y _ => y == (x : Str) && glB sc y && !dbg y && gvB Γ x v
    | _ => false
  | .op o a b, m, sc, e => (m == 0 || m == 1) && match e with
    | .BinOp ea op eb _ => decide (op = opOf o) && ok Γ N a 0 sc ea && ok Γ N b 0 sc eb
    | _ => false
  | .neg a, m, sc, e => m == 0 && match e with
    | .UnaryOp u ea _ => decide (u = .USub) && ok Γ N a 0 sc ea
    | _ => false
  | .not a, m, sc, e => (m == 0 || m == 2) && match e with
    | .UnaryOp u ea _ => decide (u = .Not) && ok Γ N a m sc ea
    | _ => false
  | .and a b, m, sc, e => (m == 0 || m == 2) && match e with
    | .BoolOp u (ea :: eb :: []) _ => decide (u = .And) && ok Γ N a m sc ea && ok Γ N b m sc eb
    | .BoolOp u (ea :: eb :: ec :: r) p => decide (u = .And) && ok Γ N a m sc ea && ok Γ N b m sc (.BoolOp u (eb :: ec :: r) p)
    | _ => false
  | .or a b, m, sc, e => (m == 0 || m == 2) && match e with
    | .BoolOp u (ea :: eb :: []) _ => decide (u = .Or) && ok Γ N a m sc ea && ok Γ N b m sc eb
    | .BoolOp u (ea :: eb :: ec :: r) p => decide (u = .Or) && ok Γ N a m sc ea && ok Γ N b m sc (.BoolOp u (eb :: ec :: r) p)
    | _ => false
  | .cmp o a b, m, sc, e => (m == 0 || m == 2) && match e with
    | .Compare ea [op] [eb] _ => decide (op = cmOf o) && plainX eb && ok Γ N a 0 sc ea && ok Γ N b 0 sc eb
    | _ => false
  | .chain o p a b c, m, sc, e => (m == 0 || m == 2) && match e with
    | .Compare ea [op, op2] [eb, ec] _ => decide (op = cmOf o) && decide (op2 = cmOf p) && plainX ec && ok Γ N a 0 sc ea && ok Γ N b 0 sc eb && ok Γ N c 0 sc ec
    | _ => false
  | .ife c a b, m, sc, e => m == 0 && match e with
    | .IfExp ec ea eb _ => ok Γ N c 2 sc ec && ok Γ N a 0 sc ea && ok Γ N b 0 sc eb
    | _ => false
  | .tup es, m, sc, e => (m == 0 || m == 1) && match e with
    | .Tuple l _ _ => decide (lenEs es ≤ 100000) && okEs Γ N es sc l
    | _ => false
  | .lst es, m, sc, e => (m == 0 || m == 1) && match e with
    | .List l _ => decide (lenEs es ≤ 100000) && okEs Γ N es sc l
    | _ => false
  | .thaw e', m, sc, e => m == 0 && ok Γ N e' 1 sc e
  | .frz e', m, sc, e => m == 0 && ok Γ N e' 0 sc e
  | .idx a i, m, sc, e => (m == 0 || m == 2) && match e with
    | .Subscript ea ei _ => plainX ei && ok Γ N a 0 sc ea && ok Γ N i 0 sc ei
    | _ => false
  | .slc a lo hi, m, sc, e => (m == 0 || m == 1) && match e with
    | .Subscript ea (.Slice l h none _) _ => ok Γ N a 0 sc ea && okO Γ N lo sc l && okO Γ N hi sc h
    | _ => false
  | .rev a, m, sc, e => (m == 0 || m == 1) && match e with
    | .Subscript ea (.Slice none none (some (.UnaryOp u (.Constant (.int k) _ _) _)) _) _ => decide (u = .USub) && decide (k = 1) && ok Γ N a 0 sc ea
    | _ => false
  | .call f x es, m, sc, e => (m == 0 || m == 2) && match e with
    | .Call (.Name y _) (a :: as) [] _ => !Γ.hot && y == (x : Str) && glB sc y && !dbg y && fnB Γ f x (lenEs es) && (a :: as).all plainX && (if someLam es then okAs Γ N es sc (a :: as) else okEs Γ N es sc (a :: as))
    | _ => false
  | .callv i es, m, sc, e => (m == 0 || m == 2) && match e with
    | .Call (.Name y _) (a :: as) [] _ => !Γ.hot && nmB N sc i y && (a :: as).all plainX && okEs Γ N es sc (a :: as)
    | .Call (.Name y _) [] [] _ => !Γ.hot && nmB N sc i y && isNil es && Γ.fns.all (fun p => p.2 != 0)
    | _ => false
  | .bi b es, m, sc, e => (m == 0 || m == 1 || m == 2) && match e with
    | .Call (.Name y _) (a :: as) [] _ => !Γ.hot && y == (biName b : Str) && glB sc y && Γ.blt.contains (biName b) && (a :: as).all plainX && okEs Γ N es sc (a :: as)
    | _ => false
  | .mt mm o es, m, sc, e => (m == 0 || m == 2) && match e with
    | .Call (.Attribute eo nm apos) as [] cpos => nm == (mtName mm : Str) && baseX eo && as.all plainX && decide (as.length < 20) && apos.endLine == cpos.line && ok Γ N o 0 sc eo && okEs Γ N es sc as
    | _ => false
  | .isi e' t, m, sc, e => (m == 0 || m == 2) && match e with
    | .Call (.Name y _) [ea, .Name z _] [] _ => y == ("isinstance" : Str) && z == (tyName t : Str) && glB sc y && glB sc z && Γ.blt.contains "isinstance" && Γ.blt.contains (tyName t) && plainX ea && ok Γ N e' 0 sc ea
    | _ => false
  | .isx i x ci, m, sc, e => (m == 0 || m == 2) && match e with
    | .Call (.Name y _) [.Name z _, .Name u _] [] _ => Γ.hot && y == ("isinstance" : Str) && u == (x : Str) && nmB N sc i z && glB sc y && glB sc u && !dbg u && Γ.blt.contains "isinstance" && decide (Γ.cls[ci]? = some x)
    | _ => false
  | .comp elt g t c own, m, sc, e => (m == 0 || m == 1) && match e with
    | .ListComp eelt [⟨tg, iter, ifs, k⟩] scope _ => !Γ.hot && decide (k = 0) && plainX iter && (Γ.mn.isEmpty || !decide ((relS scope sc).names = Γ.mn)) && blkC N sc scope (ownN N own) && decide ((ownN N own).map Prod.snd = own) && (slotsT t).all (fun i => own.contains i) &&
        okI Γ N g sc tg iter && okG N Γ.hot scope t (relS scope sc) tg && okC Γ N c (relS scope sc) ifs && ok Γ N elt 0 (relS scope sc) eelt
    | _ => false
  | .dct es, m, sc, e => m == 0 && match e with
    | .Dict ks vs _ => decide (ks.length = vs.length) && decide (ks.length ≤ 15) && decide (lenEs es ≤ 30) && okPs Γ N es sc ks vs
    | _ => false
  | .dcomp _ _ _ _ _, _, _, _ => false
  | .lam _ _, _, _, _ => false
def okEs (Γ : Sg) (N : List Str) : LEs → Scope → List Expr → Bool
  | .nil, _, es => es.isEmpty
  | .cons l ls, sc, es => match es with
    | e :: es => plainX e && ok Γ N l 0 sc e && okEs Γ N ls sc es
    | [] => false
/-- arguments with lambdas -/
def okAs (Γ : Sg) (N : List Str) : LEs → Scope → List Expr → Bool
  | .nil, _, es => es.isEmpty
  | .cons (.lam fl caps) ls, sc, es => match es with
    | e :: es => plainX e && lamB Γ N fl caps sc e && okAs Γ N ls sc es
    | [] => false
  | .cons l ls, sc, es => match es with
    | e :: es => plainX e && ok Γ N l 0 sc e && okAs Γ N ls sc es
    | [] => false
def okPs (Γ : Sg) (N : List Str) : LEs → Scope → List (Option Expr) → List Expr → Bool
  | .nil, _, ks, vs => ks.isEmpty && vs.isEmpty
  | .cons l (.cons l2 ls), sc, ks, vs => match ks, vs with
    | some k :: ks, v :: vs => ok Γ N l 0 sc k && ok Γ N l2 0 sc v && okPs Γ N ls sc ks vs
    | _, _ => false
  | .cons _ .nil, _, _, _ => false
def okO (Γ : Sg) (N : List Str) : LO → Scope → Option Expr → Bool
  | .no, _, e => e.isNone
  | .yes l, sc, e => match e with
    | some e => ok Γ N l 0 sc e
    | none => false
def okC (Γ : Sg) (N : List Str) : LO → Scope → List Expr → Bool
  | .no, _, es => es.isEmpty
  | .yes l, sc, es => match es with
    | [e] => ok Γ N l 2 sc e
    | _ => false
def okI (Γ : Sg) (N : List Str) : LI → Scope → Expr → Expr → Bool
  | .val l, sc, _, e => ok Γ N l 0 sc e
  | .rng1 a, sc, _, e => match e with
    | .Call (.Name y _) [ea] [] _ => y == ("range" : Str) && glB sc y && Γ.blt.contains "range" && plainX ea && ok Γ N a 0 sc ea
    | _ => false
  | .rng2 a b, sc, _, e => match e with
    | .Call (.Name y _) [ea, eb] [] _ => y == ("range" : Str) && glB sc y && Γ.blt.contains "range" && plainX ea && plainX eb && ok Γ N a 0 sc ea && ok Γ N b 0 sc eb
    | _ => false
  | .zip a b, sc, tg, e => match tg, e with
    | .Tuple _ _ _, .Call (.Name y _) [ea, eb] [] _ => y == ("zip" : Str) && glB sc y && Γ.blt.contains "zip" && plainX ea && plainX eb && ok Γ N a 0 sc ea && ok Γ N b 0 sc eb
    | _, _ => false
  | .enm a, sc, tg, e => match tg, e with
    | .Tuple _ _ _, .Call (.Name y _) [ea] [] _ => y == ("enumerate" : Str) && glB sc y && Γ.blt.contains "enumerate" && plainX ea && ok Γ N a 0 sc ea
    | _, _ => false
end
theorem bnot {b : Bool} (h : (!b) = true) : b = false := by simpa using h
/-! ### contexts -/
/-- what the making of a lambda wants of the maker -/
def MkAt (c : Glb) (X : Cx) : Prop := ∃ (cc P : Addr), X.env.code = .ref cc ∧ LamX.TabB X.base X.mg cc P ∧ (P, X.env.qual ++ "<lambda>") ∈ c.tabs ∧ ∀ p ∈ c.tabs, p.1 = P → p.2 = X.env.qual ++ "<lambda>"
structure XG (c : Glb) (P : Program) (w : World) (mg : Str → Option Value) (base : PySem.Heap) (k : Nat) (N : List Str) (Γ : Sg) (ws sc : Scope) (X : Cx) : Prop where
  prog : X.prog = P
  w : X.w = w
  K : X.K = c.K
  mg : X.mg = mg
  base : X.base = base
  eN : X.N = N
  nd : N.Nodup
  eS : X.env.scope = sc
  calm : Γ.hot = false → X.calm = true
  fn : ∀ x, ws.names.lookup x = some .cell → X.fn x = true
  room : Γ.hot = false → Room k X.A
  hu : X.A.units + 200 < cLine
  cold : Γ.hot = false → c.ex = none
  isE : ∀ a j, c.ex = some (a, j) → ∃ D, c.ca j = some (.ref D) ∧ CallR X (.builtin "isinstance") (rIsE X.K D a)
  mkr : Γ.mn ≠ [] → sc.names = Γ.mn → MkAt c X ∧ ∀ y a, X.env.cells.lookup y = some a → X.fn y = true
/-- what a closure's call does -/
def LamOk (c : Glb) (P : Program) (w : World) (mg : Str → Option Value) (base : PySem.Heap) (k : Nat) (cf : Nat → List Vl → Sto → R Vl) : Prop :=
  ∀ (fl : Nat) (I : LamI) (g : G) (cs ds : List Vl) (f c' : Addr) (qual : Str) (cells : List (Str × Addr)) (pm ctv : Value) (ts : List (Addr × Obj)) (us xs : List Value) (ws vs : List V) (A : Around) (outer : List PySem.Env) (s : Shared) (Q : VK) (E : XK),
    GOk c g → CloAt c g fl f c' qual I cells pm ctv ts us ws → RepBs c g cs ws → RepBs c g ds vs → Vals vs xs → Room k A → Env0 P w c.K mg base A outer s g.H →
    Out c g (fun cls d _ H' => E cls d H') [] (cf fl (cs ++ ds) g.S) (fun v g' => ∀ w, RepV c g' v w → Q w g'.H) → codeAny (model P w) A (.call (.ref f) ⟨xs, []⟩) (CR (L2.CX P w) outer P w g.H s Q E) s
structure SgOk (c : Glb) (P : Program) (w : World) (mg : Str → Option Value) (base : PySem.Heap) (k : Nat) (Γ : Sg) (U : EV.Env) : Prop where
  fn : ∀ (f : Nat) (x : String) (np : Nat), Γ.fns[f]? = some (x, np) → ∃ (fa : Addr) (fd : FuncData) (ps : List Str), FnOk P w c.K mg base (L2.CX P w) k fa fd ps (spF c U f np) ∧ mg (x : Str) = some (.ref fa) ∧ PySem.W.keepIn c.K (.ref fa) = true ∧ Binds c.K fd ps [] ∧ c.fa f = some fa
  fa : ∀ f a, c.fa f = some a → ∃ p, Γ.fns[f]? = some p
  ar : ∀ (f : Nat) (x : String) (np : Nat) (vs : List Vl) (S : Sto), Γ.fns[f]? = some (x, np) → vs.length ≠ np → U.cf f vs S = .stuck
  blt : ∀ x ∈ Γ.blt, mg (x : Str) = none
  cl : ∀ (i : Nat) (x : String), Γ.cls[i]? = some x → ∃ (cv : Value) (v : V), c.ca i = some cv ∧ RelV v cv ∧ (∀ u, RelV v u → u = cv) ∧ (mg (x : Str) = some cv ∨ (mg (x : Str) = none ∧ bootBuiltins (x : Str) = some cv ∧ (x : Str) ≠ "__name__"))
  sb : ∀ i j b, U.sub i j = some b → ∃ (D : Addr) (cv : Value), c.ca i = some (.ref D) ∧ c.ca j = some cv ∧ PySem.W.exmOne c.K (.ref D) cv = some b ∧ PySem.W.kitOne c.K (.ref D) cv = some b ∧ ExcC c.K D
  rz : ∀ i x, i ∈ Γ.rz → Γ.cls[i]? = some x → ∃ (C : Addr) (B newId initId : String) (bmB : List Value), c.ca i = some (.ref C) ∧ mg (x : Str) = some (.ref C) ∧ PySem.W.keepIn c.K (.ref C) = true ∧ ExcBaseFacts B newId initId bmB ∧ PySem.W.excIn c.K C bmB newId = true ∧ PySem.W.subIn c.K (.ref C) (.type "BaseException") = some true ∧ PySem.W.typeIn c.K (.ref C) = some (.type "type")
  gv : ∀ (x : String) (d : D), (x, d) ∈ Γ.gv → ∃ (u : Value) (v : V), mg (x : Str) = some u ∧ RelV v u ∧ ∀ L H, Rep c.K L H d v
  lam : LamOk c P w mg base k U.cf
  lmk : ∀ fl I, Γ.lmk fl I = true → c.lam fl I
  pl : ∀ f vs S v S', U.cf f vs S = .ok v S' → plainV v = true
section
variable {c : Glb} {P : Program} {w : World} {mg : Str → Option Value} {base : PySem.Heap} {k : Nat} {N : List Str} {ws sc : Scope} {X : Cx} {Γ : Sg} {U : EV.Env}
theorem XG.blk (g : XG c P w mg base k N Γ ws sc X) (hh : Γ.hot = false) (s : Shared) (H : Hp) (scope : Scope) (hmn : (Γ.mn.isEmpty || !decide ((relS scope sc).names = Γ.mn)) = true) (C : Addr) (cl : List (Str × Addr)) (fp : List Addr) : XG c P w mg base k N Γ scope (relS scope sc) (X.blk s H scope (compEnvC scope cl C X.env) fp) :=
  ⟨g.prog, g.w, g.K, g.mg, g.base, g.eN, g.nd, by rw [← g.eS]; rfl, g.calm, fun x h => by show (scope.names.lookup x == some .cell) = true; rw [h]; rfl, g.room, g.hu, g.cold, (fun a j e => by rw [g.cold hh] at e; cases e), fun h1 h2 => by
    rw [Bool.or_eq_true, List.isEmpty_iff] at hmn
    rcases hmn with q | q
    · exact absurd q h1
    · rw [decide_eq_true h2] at q; cases q⟩
theorem XG.vis (g : XG c P w mg base k N Γ ws sc X) {x : Str} (h : visB sc x = true) : Vis X.env.scope x := by
  rw [g.eS]
  unfold visB at h
  split at h
  · exact .inl (by assumption)
  · exact .inr (.inl (by assumption))
  · exact .inr (.inr (by assumption))
  · cases h
theorem XG.lcl (g : XG c P w mg base k N Γ ws sc X) {x : Str} (h : lclB sc x = true) : X.env.scope.names.lookup x = some .local := by
  rw [g.eS]
  unfold lclB at h
  split at h
  · assumption
  · cases h
theorem XG.lc (g : XG c P w mg base k N Γ ws sc X) {x : Str} (h : stB ws sc x = true) : L2.Loc X.env.scope x ∧ (X.fn x = true ∨ X.env.scope.names.lookup x = some .local) := by
  unfold stB at h
  rw [Bool.and_eq_true, Bool.or_eq_true] at h
  refine ⟨?_, ?_⟩
  · rw [g.eS]
    have h1 := h.1
    unfold locB at h1
    split at h1
    · exact .inl (by assumption)
    · exact .inr (by assumption)
    · cases h1
  · rcases h.2 with h2 | h2
    · exact .inr (g.lcl h2)
    · split at h2
      · exact .inl (g.fn x (by assumption))
      · cases h2
theorem XG.gl (g : XG c P w mg base k N Γ ws sc X) {x : Str} (h : glB sc x = true) : Gl X x := by
  show X.env.scope.names.lookup x = _
  rw [g.eS]
  unfold glB at h
  split at h
  · assumption
  · cases h
theorem XG.at_ (g : XG c P w mg base k N Γ ws sc X) {i : Nat} {x : Str} (h : N[i]? = some x) : X.N[i]? = some x := by rw [g.eN]; exact h
theorem XG.ndN (g : XG c P w mg base k N Γ ws sc X) : X.N.Nodup := by rw [g.eN]; exact g.nd
theorem SgOk.none (S : SgOk c P w mg base k Γ U) (g : XG c P w mg base k N Γ ws sc X) {x : String} (h : Γ.blt.contains x = true) : X.mg (x : Str) = none := by
  rw [g.mg]
  exact S.blt x (by simpa using h)
theorem okG_ok (g : XG c P w mg base k N Γ ws sc X) : ∀ (t : LT) (e : Expr), okG N Γ.hot ws t sc e = true → PG X e (tG c t)
  | .nm i, e, h => by
    unfold okG at h
    split at h
    · simp only [Bool.and_eq_true, decide_eq_true_eq] at h
      obtain ⟨h1, h2⟩ := g.lc h.2
      exact sg_nm g.ndN (g.at_ h.1) h1 h2
    · cases h
  | .tp a b, e, h => by
    unfold okG at h
    split at h
    · simp only [Bool.and_eq_true] at h
      obtain ⟨⟨⟨⟨h0, h1⟩, h2⟩, h3⟩, h4⟩ := h
      exact sg_tp g.K (g.calm (bnot h0)) h1 h2 (okG_ok g a _ h3) (okG_ok g b _ h4)
    · cases h
  | .tp3 a b d, e, h => by
    unfold okG at h
    split at h
    · simp only [Bool.and_eq_true] at h
      obtain ⟨⟨⟨⟨⟨⟨h0, h1⟩, h2⟩, h3⟩, h4⟩, h5⟩, h6⟩ := h
      exact sg_tp3 g.K (g.calm (bnot h0)) h1 h2 h3 (okG_ok g a _ h4) (okG_ok g b _ h5) (okG_ok g d _ h6)
    · cases h
end
end EV
end

section
set_option Elab.async false
set_option linter.all false
set_option maxRecDepth 100000
set_option maxHeartbeats 4000000
/-! EV19: objects known exactly, for a while -/
namespace EV
open PySem PySem.Spec PyProof.Rows L2
section
variable {P : Program} {w : World} {H H' : Hp} {h h' : PySem.Heap} {ts : List (Addr × Obj)}
theorem hok_add (ok : HOk P w H h) (ht : ∀ a o, ts.lookup a = some o → h.get? a = some o ∧ H a = none) : HOk P w (addX H ts) h := fun a u e => by
  rcases opt_cases (ts.lookup a) with q | ⟨o, q⟩
  · rw [addX_out q] at e
    have keep : ∀ b v, H b = some v → addX H ts b = some v := fun b v eb => by
      rcases opt_cases (ts.lookup b) with z | ⟨o, z⟩
      · rw [addX_out z]; exact eb
      · rw [(ht b o z).2] at eb; cases eb
    exact (ok a u e).stay (fun b v _ q => q) (fun b q => keep b _ q) fun b xs q => keep b _ q
  · rw [addX_in q] at e
    cases e
    exact exO_ok (ht a o q).1
theorem hok_sub (ok : HOk P w H h) (ht : ∀ a o, ts.lookup a = some o → H a = some (exO a o)) : HOk P w (subX H ts) h := fun a u e => by
  rcases opt_cases (ts.lookup a) with q | ⟨o, q⟩
  · rw [subX_out q] at e
    have keep : ∀ b v, H b = some v → (∀ φ, v ≠ .ext φ) → subX H ts b = some v := fun b v eb hv => by
      rcases opt_cases (ts.lookup b) with z | ⟨o, z⟩
      · rw [subX_out z]; exact eb
      · rw [ht b o z] at eb; cases eb; exact absurd rfl (hv _)
    exact (ok a u e).stay (fun b v _ q => q) (fun b q => keep b _ q (fun _ z => by cases z)) fun b xs q => keep b _ q (fun _ z => by cases z)
  · rw [subX_in q] at e; cases e
/-- an answer told with more known, told with less -/
theorem un_sub {fs : List Addr} (un : Un fs [] (addX H ts) H' h h') (ok' : HOk P w H' h') (ht : ∀ a o, ts.lookup a = some o → h.get? a = some o ∧ H a = none ∧ a ∉ fs) (hk : ∀ a o, ts.lookup a = some o → H' a = some (exO a o)) : Un fs [] H (subX H' ts) h h' := by
  have nin : ∀ {b : Addr} {v : HO}, H b = some v → ts.lookup b = none := fun {b v} e => by
    rcases opt_cases (ts.lookup b) with q | ⟨o, q⟩
    · exact q
    · rw [(ht b o q).2.1] at e; cases e
  refine ⟨fun b o e n nf nx => ?_, fun b o e n nf nx => ?_, fun b o e n nx => ?_, un.there, fun b xs e => ?_, fun b o u e => ?_, fun b ps e => ?_⟩
  · rcases opt_cases (ts.lookup b) with q | ⟨p, q⟩
    · exact un.keep b o e (by rw [addX_out q]; exact n) nf nx
    · have e1 := (ht b p q).1
      rw [e] at e1
      cases e1
      exact (ok' b _ (hk b _ q)).1
  · rcases opt_cases (ts.lookup b) with q | ⟨p, q⟩
    · exact un.slot b o e (by rw [addX_out q]; exact n) nf nx
    · exact absurd nf (ht b p q).2.2
  · rcases opt_cases (ts.lookup b) with q | ⟨p, q⟩
    · rw [subX_out q]; exact un.free b o e (by rw [addX_out q]; exact n) nx
    · exact subX_in q
  · rw [subX_out (nin e)]; exact un.tups b xs (by rw [addX_out (nin e)]; exact e)
  · rw [subX_out (nin e)]; exact un.frzs b o u (by rw [addX_out (nin e)]; exact e)
  · rw [subX_out (nin e)]; exact un.tbls b ps (by rw [addX_out (nin e)]; exact e)
/-- an answer told with less known, told with more -/
theorem un_add {fs : List Addr} (un : Un fs [] (subX H ts) H' h h') (ht : ∀ a o, ts.lookup a = some o → H a = some (exO a o) ∧ h.get? a = some o ∧ a ∉ fs) : Un fs [] H (addX H' ts) h h' ∧ ∀ a o, ts.lookup a = some o → h'.get? a = some o ∧ H' a = none := by
  have nin : ∀ {b : Addr} {v : HO}, H b = some v → (∀ φ, v ≠ .ext φ) → ts.lookup b = none := fun {b v} e hv => by
    rcases opt_cases (ts.lookup b) with q | ⟨o, q⟩
    · exact q
    · rw [(ht b o q).1] at e; cases e; exact absurd rfl (hv _)
  have nin2 : ∀ {b : Addr}, H b = none → ts.lookup b = none := fun {b} e => by
    rcases opt_cases (ts.lookup b) with q | ⟨o, q⟩
    · exact q
    · rw [(ht b o q).1] at e; cases e
  refine ⟨⟨fun b o e n nf nx => ?_, fun b o e n nf nx => ?_, fun b o e n nx => ?_, un.there, fun b xs e => ?_, fun b o u e => ?_, fun b ps e => ?_⟩, fun a o q => ?_⟩
  · exact un.keep b o e (by rw [subX_out (nin2 n)]; exact n) nf nx
  · exact un.slot b o e (by rw [subX_out (nin2 n)]; exact n) nf nx
  · rw [addX_out (nin2 n)]; exact un.free b o e (by rw [subX_out (nin2 n)]; exact n) nx
  · have q := nin e (fun _ z => by cases z)
    rw [addX_out q]; exact un.tups b xs (by rw [subX_out q]; exact e)
  · have q := nin e (fun _ z => by cases z)
    rw [addX_out q]; exact un.frzs b o u (by rw [subX_out q]; exact e)
  · have q := nin e (fun _ z => by cases z)
    obtain ⟨more, z⟩ := un.tbls b ps (by rw [subX_out q]; exact e)
    exact ⟨more, by rw [addX_out q]; exact z⟩
  · obtain ⟨_, e, nf⟩ := ht a o q
    exact ⟨un.keep a o e (subX_in q) nf (by simp), un.free a o e (subX_in q) (by simp)⟩
end
end EV
end

section
set_option Elab.async false
set_option linter.all false
set_option maxRecDepth 100000
set_option maxHeartbeats 4000000
/-! EV20: a lambda's body, run -/
namespace EV
open PySem PySem.Spec PyProof.Rows L2
abbrev lamE (qual : Str) (scope : Scope) (L f c' : Addr) (cells : List (Str × Addr)) : PySem.Env := PySem.W.envX qual scope L f (.ref c') cells
/-- the context of a lambda's body, entered at s from the frames outer -/
def cxLam (P : Program) (w : World) (K : PySem.W.Frag) (mg : Str → Option Value) (base : PySem.Heap) (N : List Str) (qual : Str) (scope : Scope) (f c' : Addr) (cells : List (Str × Addr)) (A : Around) (outer : List PySem.Env) (s : Shared) (H : Hp) (E : XK) : Cx where
  prog := P
  w := w
  K := K
  mg := mg
  base := base
  A := A.deeper (lamE qual scope s.heap.objs.size f c' cells)
  N := N
  s_0 := s
  H_0 := H
  env := lamE qual scope s.heap.objs.size f c' cells
  outer := outer
  stack := lamE qual scope s.heap.objs.size f c' cells :: outer
  ex := []
  fn := fun _ => false
  calm := true
  pn := []
  xe := fun e s' => wpAny (model P w) (A.deeper (lamE qual scope s.heap.objs.size f c' cells)) (leaving (lamE qual scope s.heap.objs.size f c' cells) e) (fun _ s'' => L2.CX P w outer H s E e s'') (fun e' s'' => L2.CX P w outer H s E e' s'') s'
section
variable {P : Program} {w : World} {K : PySem.W.Frag} {mg : Str → Option Value} {base : PySem.Heap}
theorem lam_inv {N : List Str} {qual : Str} {scope : Scope} {f c' : Addr} {cells : List (Str × Addr)} {A : Around} {outer : List PySem.Env} {s : Shared} {H : Hp} {E : XK} {h₁ : PySem.Heap} {tk : Nat} {m : Str → Option Value} {vs : List V}
    (e0 : Env0 P w K mg base A outer s H) (hd : A.handled = none) (hk : scope.kind = .function) (own : ∀ y, scope.names.lookup y ≠ some .cell) (hns : h₁.Ns s.heap.objs.size m) (kp : ∀ b o, s.heap.get? b = some o → h₁.get? b = some o)
    (hinj : ∀ x y c, cells.lookup x = some c → cells.lookup y = some c → x = y) (hfree : ∀ y, scope.names.lookup y = some .free → ∃ c, cells.lookup y = some c)
    (hcell : ∀ y c, cells.lookup y = some c → (∃ v, s.heap.IsCell c v) ∧ H c = none) (hlen : vs.length ≤ N.length)
    (hloc : ∀ (i : Nat) (y : Str) (v : V), N[i]? = some y → vs[i]? = some v → Vis scope y → ∃ u, RelV v u ∧ ((scope.names.lookup y = some .local ∧ m y = some u) ∨ (scope.names.lookup y = some .free ∧ ∃ c, cells.lookup y = some c ∧ s.heap.IsCell c (some u)))) :
    Inv (cxLam P w K mg base N qual scope f c' cells A outer s H E) [] (L2.start N vs) H { s with heap := h₁, toks := tk } := by
  have cellK : ∀ {c : Addr} {v : Option Value}, s.heap.IsCell c v → h₁.IsCell c v := fun {c v} ⟨o, ho, hd⟩ => ⟨o, kp _ _ ho, hd⟩
  have noA : ∀ b : Addr, b ∉ (cxLam P w K mg base N qual scope f c' cells A outer s H E).ex := fun b z => absurd (show b ∈ ([] : List Addr) from z) (by simp)
  refine ⟨⟨e0.mod, hk, rfl, rfl, Nat.le_refl _, hinj, fun y hy => ?_, fun y c z _ => ?_, fun _ => hd, Around.frames_deeper e0.frames, .inr ⟨rfl, rfl⟩, fun b z => absurd z (noA b), e0.bs, e0.bsz, fun b _ _ => noA b,
      fun b z => absurd z (noA b), e0.funs, e0.frf⟩,
    rfl, e0.bare, Un.kept kp, ⟨_, hns, fun i y v e1 e2 e3 => ?_⟩, fun y c e => ?_, e0.hok.fresh (Nat.le_refl _), fun y c e => (hcell y c e).2, fun q hq => absurd (show q ∈ ([] : List (Addr × Obj)) ++ [] from hq) (by simp), e0.hok.kept kp, ?_⟩
  · have hy : scope.names.lookup y = some .cell ∨ scope.names.lookup y = some .free := hy
    rcases hy with hy | hy
    · exact absurd hy (own y)
    · exact hfree y hy
  · have z : false = true := z
    cases z
  · have hi : vs[i]? = some v := by
      unfold L2.start at e2
      by_cases hi : i < vs.length
      · rw [List.getElem?_append_left (by simpa using hi), List.getElem?_map] at e2
        cases q : vs[i]? with
        | none => rw [q] at e2; cases e2
        | some a => rw [q] at e2; cases e2; rfl
      · rw [List.getElem?_append_right (by simpa using hi), List.getElem?_replicate] at e2
        split at e2 <;> cases e2
    obtain ⟨u, r, q⟩ := hloc i y v e1 hi e3
    refine ⟨u, r, ?_⟩
    rcases q with ⟨k, q⟩ | ⟨k, c, hc, q⟩
    · exact .inl ⟨k, q⟩
    · exact .inr ⟨.inr k, c, hc, cellK q⟩
  · obtain ⟨⟨v, q⟩, _⟩ := hcell y c e
    exact ⟨v, cellK q⟩
  · unfold L2.start
    show _ = N.length
    rw [List.length_append, List.length_map, List.length_replicate]
    omega
/-- a lambda called: its body in its own context -/
theorem lam_run {N : List Str} {name qual : Str} {params : Arguments} {body : Expr} {scope : Scope} {cells : List (Str × Addr)} {dV doc pm ctv : Value} {f c' : Addr} {A : Around} {outer : List PySem.Env} {s : Shared} {H : Hp} {E : XK} {Q : VK} {k : Nat} {us : List Value} {vs : List V} {binds : List (Str × Value)} {t : TE}
    (hr : Room (k + 1) A) (e0 : Env0 P w K mg base A outer s H) (hl : s.heap.NoLimit) (ho : s.heap.get? f = some (PySem.W.kdv_obj name qual params (.expr body) scope cells dV doc pm c' ctv)) (hcode : s.heap.CodeRec (.ref c') qual)
    (hk : scope.kind = .function) (hco : scope.isCoroutine = false) (hgen : scope.isGenerator = false) (own : ∀ y ∈ scope.names, y.2 ≠ .cell)
    (hbind : BindsTo s (PySem.W.kdv_fn name qual params (.expr body) scope cells dV doc pm (.ref c') ctv) ⟨us, []⟩ binds) (hbl : ∀ x ∈ binds, scope.names.lookup x.1 = some .local)
    (hinj : ∀ x y c, cells.lookup x = some c → cells.lookup y = some c → x = y) (hfree : ∀ y, scope.names.lookup y = some .free → ∃ c, cells.lookup y = some c)
    (hcell : ∀ y c, cells.lookup y = some c → (∃ v, s.heap.IsCell c v) ∧ H c = none) (hlen : vs.length ≤ N.length)
    (hloc : ∀ (i : Nat) (y : Str) (v : V), N[i]? = some y → vs[i]? = some v → Vis scope y → ∃ u, RelV v u ∧ ((scope.names.lookup y = some .local ∧ binds.reverse.lookup y = some u) ∨ (scope.names.lookup y = some .free ∧ ∃ c, cells.lookup y = some c ∧ s.heap.IsCell c (some u))))
    (hbody : PE (cxLam P w K mg base N qual scope f c' cells A outer s H E) body t) (ht : t (L2.start N vs) H Q) :
    codeAny (model P w) A (.call (.ref f) ⟨us, []⟩) (CR (L2.CX P w) outer P w H s Q E) s := by
  refine PySem.W.kla_callFunE hr.depth ho rfl hco hgen rfl hcode (hbind _ _ _ _ ?_)
  refine (wpAny_newFunctionEnv own hbl (fun h₁ hns hsb => ⟨hl.fresh _ hsb, ?_⟩) hk)
  show codeAny _ _ (.expr body (lamE qual scope s.heap.objs.size f c' cells)) _ _
  have kp : ∀ b o, s.heap.get? b = some o → h₁.get? b = some o := fun b o e => hsb.extBut b o (Nat.ne_of_lt (Heap.lt_size e)) (Heap.get?_push_of_some _ e)
  have J : Inv (cxLam P w K mg base N qual scope f c' cells A outer s H E) [] (L2.start N vs) H { s with heap := h₁, toks := s.toks + binds.length } :=
    lam_inv e0 hr.hd hk (fun y z => own _ (PySem.mem_of_lookup z) rfl) hns kp hinj hfree hcell hlen hloc
  refine PySem.W.kla_codeExpr (wpAny_mono (hbody.run [] _ _ H Q J ht) (fun v s' hq => ?_) fun e s' hq => hq)
  obtain ⟨w', H', J', rv, q⟩ := hq
  exact ⟨w', H', J'.os, J'.bare, J'.base, J'.hok, rv, q⟩
end
end EV
end

section
set_option Elab.async false
set_option linter.all false
set_option maxRecDepth 100000
set_option maxHeartbeats 4000000
/-! EV21: a call's end told with more or less known -/
namespace EV
open PySem PySem.Spec PyProof.Rows L2
section
variable {P : Program} {w : World} {H H' : Hp} {h B h' : PySem.Heap} {ts : List (Addr × Obj)} {fs : List Addr}
theorem ub_sub (ub : UB fs (addX H ts) H' h B h') (okB : HOk P w H' B) (ht : ∀ a o, ts.lookup a = some o → h.get? a = some o ∧ H a = none ∧ a ∉ fs) (hk : ∀ a o, ts.lookup a = some o → H' a = some (exO a o)) : UB fs H (subX H' ts) h B h' := by
  have nin : ∀ {b : Addr} {v : HO}, H b = some v → ts.lookup b = none := fun {b v} e => by
    rcases opt_cases (ts.lookup b) with q | ⟨o, q⟩
    · exact q
    · rw [(ht b o q).2.1] at e; cases e
  refine ⟨fun b o e n nf => ?_, ub.slot, fun b o e n => ?_, ub.there, fun b xs e => ?_, fun b o u e => ?_, fun b ps e => ?_⟩
  · rcases opt_cases (ts.lookup b) with q | ⟨p, q⟩
    · exact ub.keep b o e (by rw [addX_out q]; exact n) nf
    · have e1 := (ht b p q).1
      rw [e] at e1
      cases e1
      exact (okB b _ (hk b _ q)).1
  · rcases opt_cases (ts.lookup b) with q | ⟨p, q⟩
    · rw [subX_out q]; exact ub.free b o e (by rw [addX_out q]; exact n)
    · exact subX_in q
  · rw [subX_out (nin e)]; exact ub.tups b xs (by rw [addX_out (nin e)]; exact e)
  · rw [subX_out (nin e)]; exact ub.frzs b o u (by rw [addX_out (nin e)]; exact e)
  · rw [subX_out (nin e)]; exact ub.tbls b ps (by rw [addX_out (nin e)]; exact e)
theorem ub_add (ub : UB fs (subX H ts) H' h B h') (ht : ∀ a o, ts.lookup a = some o → H a = some (exO a o) ∧ h.get? a = some o ∧ a ∉ fs) : UB fs H (addX H' ts) h B h' ∧ ∀ a o, ts.lookup a = some o → B.get? a = some o ∧ H' a = none := by
  have nin : ∀ {b : Addr} {v : HO}, H b = some v → (∀ φ, v ≠ .ext φ) → ts.lookup b = none := fun {b v} e hv => by
    rcases opt_cases (ts.lookup b) with q | ⟨o, q⟩
    · exact q
    · rw [(ht b o q).1] at e; cases e; exact absurd rfl (hv _)
  have nin2 : ∀ {b : Addr}, H b = none → ts.lookup b = none := fun {b} e => by
    rcases opt_cases (ts.lookup b) with q | ⟨o, q⟩
    · exact q
    · rw [(ht b o q).1] at e; cases e
  refine ⟨⟨fun b o e n nf => ?_, ub.slot, fun b o e n => ?_, ub.there, fun b xs e => ?_, fun b o u e => ?_, fun b ps e => ?_⟩, fun a o q => ?_⟩
  · exact ub.keep b o e (by rw [subX_out (nin2 n)]; exact n) nf
  · rw [addX_out (nin2 n)]; exact ub.free b o e (by rw [subX_out (nin2 n)]; exact n)
  · have q := nin e (fun _ z => by cases z)
    rw [addX_out q]; exact ub.tups b xs (by rw [subX_out q]; exact e)
  · have q := nin e (fun _ z => by cases z)
    rw [addX_out q]; exact ub.frzs b o u (by rw [subX_out q]; exact e)
  · have q := nin e (fun _ z => by cases z)
    obtain ⟨more, z⟩ := ub.tbls b ps (by rw [subX_out q]; exact e)
    exact ⟨more, by rw [addX_out q]; exact z⟩
  · obtain ⟨_, e, nf⟩ := ht a o q
    exact ⟨ub.keep a o e (subX_in q) nf, ub.free a o e (subX_in q)⟩
theorem cr_sub {outer : List PySem.Env} {s s' : Shared} {Q Q' : VK} {E E' : XK} {r : Result} (c : CR (L2.CX P w) outer P w (addX H ts) s Q' E' r s') (ht : ∀ a o, ts.lookup a = some o → s.heap.get? a = some o ∧ H a = none ∧ a ∉ frs outer)
    (hQ : ∀ v H', Q' v H' → (∀ a o, ts.lookup a = some o → H' a = some (exO a o)) ∧ Q v (subX H' ts)) (hE : ∀ cls d H', E' cls d H' → (∀ a o, ts.lookup a = some o → H' a = some (exO a o)) ∧ E cls d (subX H' ts)) : CR (L2.CX P w) outer P w H s Q E r s' := by
  cases r with
  | error e =>
    obtain ⟨a, B, H', cls, d, rfl, fl, ok, ub, na, os, ag, q⟩ := c
    obtain ⟨hk, q⟩ := hE _ _ _ q
    refine ⟨a, B, subX H' ts, cls, d, rfl, fl, hok_sub ok hk, ub_sub ub ok ht hk, ?_, os, ag, q⟩
    unfold subX
    split
    · rfl
    · exact na
  | ok fl =>
    cases fl with
    | ret u =>
      obtain ⟨v, H', os, bare, un, ok, rv, q⟩ := c
      obtain ⟨hk, q⟩ := hQ _ _ q
      exact ⟨v, subX H' ts, os, bare, un_sub un ok ht hk, hok_sub ok hk, rv, q⟩
    | next => exact c
    | brk => exact c
    | cont => exact c
theorem cr_add {outer : List PySem.Env} {s s' : Shared} {Q : VK} {E : XK} {r : Result} (c : CR (L2.CX P w) outer P w (subX H ts) s (fun v H' => (∀ a o, ts.lookup a = some o → H' a = none) → Q v (addX H' ts)) (fun cls d H' => (∀ a o, ts.lookup a = some o → H' a = none) → E cls d (addX H' ts)) r s')
    (ht : ∀ a o, ts.lookup a = some o → H a = some (exO a o) ∧ s.heap.get? a = some o ∧ a ∉ frs outer) : CR (L2.CX P w) outer P w H s Q E r s' := by
  cases r with
  | error e =>
    obtain ⟨a, B, H', cls, d, rfl, fl, ok, ub, na, os, ag, q⟩ := c
    obtain ⟨ub2, hk⟩ := ub_add ub ht
    refine ⟨a, B, addX H' ts, cls, d, rfl, fl, hok_add ok hk, ub2, ?_, os, ag, q fun b o z => (hk b o z).2⟩
    rcases opt_cases (ts.lookup a) with z | ⟨o, z⟩
    · rw [addX_out z]; exact na
    · have e1 := (hk a o z).1
      rw [fl.2.1] at e1
      cases e1
  | ok fl =>
    cases fl with
    | ret u =>
      obtain ⟨v, H', os, bare, un, ok, rv, q⟩ := c
      obtain ⟨un2, hk⟩ := un_add un ht
      exact ⟨v, addX H' ts, os, bare, un2, hok_add ok hk, rv, q fun b o z => (hk b o z).2⟩
    | next => exact c
    | brk => exact c
    | cont => exact c
end
end EV
end

section
set_option Elab.async false
set_option linter.all false
set_option maxRecDepth 100000
set_option maxHeartbeats 4000000
/-! EV22: the heap's telling with exact objects taken away, or added -/
namespace EV
open PySem PySem.Spec PyProof.Rows L2
/-- what is told by its kind stands -/
def Me (H H' : Hp) : Prop := ∀ a o, H a = some o → (∀ φ, o ≠ .ext φ) → H' a = some o
section
variable {K : PySem.W.Frag} {L : Addr → Prop} {H H' : Hp}
theorem Me.tup (m : Me H H') {a : Addr} {vs : List V} (h : SqT K H a vs) : SqT K H' a vs := by
  rcases h with (h | ⟨o, h⟩) | h
  · exact .inl (.inl (m a _ h fun φ z => by cases z))
  · exact .inl (.inr ⟨o, m a _ h fun φ z => by cases z⟩)
  · exact .inr h
mutual
theorem Rep.me (m : Me H H') : ∀ (d : D) (v : V), Rep K L H d v → Rep K L H' d v
  | .non, _, h => by cases h; exact .non
  | .bl b, _, h => by cases h; exact .bl b
  | .int i, _, h => by cases h; exact .int i
  | .str s, _, h => by cases h with | str o => exact .str o
  | .tup ds, _, h => by
    cases h with
    | tup hs hl hr => exact .tup (m.tup hs) hl (Reps.me m ds _ hr)
  | .lst ds, _, h => by
    cases h with
    | lst ha hn hl hr => exact .lst (m _ _ ha fun φ z => by cases z) hn hl (Reps.me m ds _ hr)
theorem Reps.me (m : Me H H') : ∀ (ds : List D) (vs : List V), Reps K L H ds vs → Reps K L H' ds vs
  | [], _, h => by cases h; exact .nil
  | d :: ds, _, h => by
    cases h with
    | cons h1 h2 => exact .cons (Rep.me m d _ h1) (Reps.me m ds _ h2)
end
theorem RepKs.me (m : Me H H') : ∀ {ks : List (Ky × D)} {vs : List (Key × V)}, RepKs K L H ks vs → RepKs K L H' ks vs
  | _, _, .nil => .nil
  | _, _, .cons o r t => .cons o (Rep.me m _ _ r) (RepKs.me m t)
theorem CellOk.me (m : Me H H') {a : Addr} {x : Cell} (h : CellOk K L H a x) : CellOk K L H' a x := by
  cases x with
  | lst ds => obtain ⟨vs, e, hl, r⟩ := h; exact ⟨vs, m _ _ e (fun φ z => by cases z), hl, Reps.me m _ _ r⟩
  | fzn ds => exact Rep.me m _ _ h
  | dic kvs => obtain ⟨vs, e, hl, r⟩ := h; exact ⟨vs, m _ _ e (fun φ z => by cases z), hl, r.me m⟩
end
section
variable {c : Glb} {g : G} {H' : Hp} {ts : List (Addr × Obj)}
theorem gok_me (ok : GOk c g) (m : Me g.H H') (t : LamX.Tabs c.tabs H') : GOk c ⟨g.hid, g.ρ, g.S, H'⟩ :=
  ⟨ok.len, ok.nd, ok.apart, fun a ha => by
    rcases ok.hid a ha with ⟨xs, e⟩ | ⟨kvs, e⟩
    · exact .inl ⟨xs, m _ _ e fun φ z => by cases z⟩
    · exact .inr ⟨kvs, m _ _ e fun φ z => by cases z⟩, fun n a x h1 h2 => (ok.cell n a x h1 h2).me m, t⟩
theorem me_sub {H : Hp} (ht : ∀ a o, ts.lookup a = some o → H a = some (exO a o)) : Me H (subX H ts) := fun a o e n => by
  rcases opt_cases (ts.lookup a) with z | ⟨p, z⟩
  · rw [subX_out z]; exact e
  · have q := ht a p z
    rw [e] at q
    cases q
    exact absurd rfl (n _)
theorem add_keep {H : Hp} (ht : ∀ a o, ts.lookup a = some o → H a = none) : ∀ a o, H a = some o → addX H ts a = some o := fun a o e => by
  rcases opt_cases (ts.lookup a) with z | ⟨p, z⟩
  · rw [addX_out z]; exact e
  · rw [ht a p z] at e; cases e
theorem me_add {H : Hp} (ht : ∀ a o, ts.lookup a = some o → H a = none) : Me H (addX H ts) := fun a o e _ => add_keep ht a o e
/-- cells are no code objects -/
theorem tabs_sub {P : Program} {w : World} {H : Hp} {h : PySem.Heap} (ok : HOk P w H h) (t : LamX.Tabs c.tabs H) (ht : ∀ a o, ts.lookup a = some o → H a = some (exO a o) ∧ h.get? a = some o ∧ ∃ v, o.data = .cell v) : LamX.Tabs c.tabs (subX H ts) := fun p hp => by
  obtain ⟨ps, q1, q2, q3⟩ := t p hp
  have me : Me H (subX H ts) := me_sub fun a o e => (ht a o e).1
  refine ⟨ps, me _ _ q1 (fun φ z => by cases z), q2, fun pos cv hc => ?_⟩
  obtain ⟨c0, z1, z2⟩ := q3 pos cv hc
  refine ⟨c0, z1, ?_⟩
  rcases opt_cases (ts.lookup c0) with z | ⟨o, z⟩
  · rw [subX_out z]; exact z2
  · obtain ⟨_, e2, v, e3⟩ := ht c0 o z
    obtain ⟨⟨oc, vs, t, e4, e5, _⟩, _, _⟩ := ok c0 _ z2
    rw [e2] at e4
    cases e4
    rw [e3] at e5
    cases e5
theorem tabs_add {H : Hp} (t : LamX.Tabs c.tabs H) (ht : ∀ a o, ts.lookup a = some o → H a = none) : LamX.Tabs c.tabs (addX H ts) := t.ext (add_keep ht)
theorem RepB.me {v : Vl} {w : V} (r : RepB c g v w) (m : Me g.H H') : RepB c ⟨g.hid, g.ρ, g.S, H'⟩ v w := by
  cases r with
  | d r => exact .d (Rep.me m _ _ r)
  | ref e => exact .ref e
  | fnv e => exact .fnv e
theorem RepB.v {v : Vl} {w : V} (r : RepB c g v w) : RepV c g v w := by
  cases r with
  | d r => exact .d r
  | ref e => exact .ref e
  | fnv e => exact .fnv e
theorem RepBs.me : ∀ {vs : List Vl} {ws : List V}, RepBs c g vs ws → Me g.H H' → RepBs c ⟨g.hid, g.ρ, g.S, H'⟩ vs ws
  | _, _, .nil, _ => .nil
  | _, _, .cons r t, m => .cons (r.me m) (RepBs.me t m)
theorem RepBs.vs : ∀ {vs : List Vl} {ws : List V}, RepBs c g vs ws → RepVs c g vs ws
  | _, _, .nil => .nil
  | _, _, .cons r t => .cons r.v (RepBs.vs t)
theorem RepVs.app : ∀ {xs ys : List Vl} {vs ws : List V}, RepVs c g xs vs → RepVs c g ys ws → RepVs c g (xs ++ ys) (vs ++ ws)
  | _, _, _, _, .nil, t => t
  | _, _, _, _, .cons r s, t => .cons r (RepVs.app s t)
end
end EV
end

section
set_option Elab.async false
set_option linter.all false
set_option maxRecDepth 100000
set_option maxHeartbeats 4000000
/-! EV26: a lambda made, handed to a def -/
namespace EV
open PySem PySem.Spec PyProof.Rows L2
/-! ### the heap grows by objects known exactly and by tables -/
section
variable {c : Glb} {g : G} {H1 : Hp}
theorem mo_extN (h : GOk c g) (e : LamX.ExtN g.H H1) : Mo (live g) g.H (live g) H1 := ⟨fun a o q nl t => ⟨e a o q t, nl⟩, h.lv⟩
theorem live_extN {a : Addr} : live (⟨g.hid, g.ρ, g.S, H1⟩ : G) a ↔ live g a := Iff.rfl
theorem extN_same (h : GOk c g) (e : LamX.ExtN g.H H1) {a : Addr} (l : live g a) : H1 a = g.H a := by
  rcases h.lv a l with ⟨xs, q⟩ | ⟨xs, q⟩ | ⟨xs, q⟩ <;> rw [q, e a _ q (fun ps z => by cases z)]
theorem gok_extN (h : GOk c g) (e : LamX.ExtN g.H H1) (t : LamX.Tabs c.tabs H1) : GOk c ⟨g.hid, g.ρ, g.S, H1⟩ :=
  ⟨h.len, h.nd, h.apart, fun a ha => hid_same (h.hid a ha) (extN_same h e (.inl ha)), fun n a x h1 h2 => CellOk.mo (L := live g) (H := g.H) (mo_extN (g := g) h e) (fun z => extN_same (g := g) h e (.inr ⟨n, x, h1, h2, z⟩)) (h.cell n a x h1 h2), t⟩
theorem le_extN (h : GOk c g) (e : LamX.ExtN g.H H1) (gr : ∀ b, g.H b ≠ none → H1 b ≠ none) : Le g ⟨g.hid, g.ρ, g.S, H1⟩ :=
  ⟨List.prefix_refl _, rfl, fun a ha => extN_same h e (.inl ha), fun a o q nl t => ⟨e a o q t, nl⟩, gr⟩
end
theorem extN_upd {H : Hp} {a : Addr} {o : HO} (n : H a = none) : LamX.ExtN H (upd H a o) := fun b u e _ => by rw [upd_ne (ne_of_none e n)]; exact e
theorem grow_upd {H : Hp} {a : Addr} {o : HO} : ∀ b, H b ≠ none → upd H a o b ≠ none := fun b h => by
  by_cases e : b = a
  · subst e; rw [upd_same]; simp
  · rw [upd_ne e]; exact h
/-! ### the making -/
section
variable {X : Cx} {pins : List (Addr × Obj)} {σ : L2.St} {H : Hp} {s : Shared}
theorem lam_tail {T : List (Addr × Str)} {cc P : Addr} {params : Arguments} {body : Expr} {scope : Scope} {pos : Pos} {dV : Value} {E Q : Value → Shared → Prop} (I : Inv X pins σ H s) (TB : LamX.TabB X.base X.mg cc P) (hcode : X.env.code = .ref cc)
    (hm : (P, X.env.qual ++ "<lambda>") ∈ T) (hu : ∀ p ∈ T, p.1 = P → p.2 = X.env.qual ++ "<lambda>") (hT : LamX.Tabs T H) (hfree : ∀ y ∈ scope.names, y.2 = .free → ∃ a, X.env.cells.lookup y.1 = some a)
    (h : ∀ (f c' : Addr) (doc pm ctv : Value) (H1 : Hp) (s' : Shared), Inv X pins σ H1 s' → LamX.ExtN H H1 → (∀ b, H b ≠ none → H1 b ≠ none) → LamX.Tabs T H1 →
      H1 f = some (exO f (PySem.W.kdv_obj "<lambda>" (X.env.qual ++ "<lambda>") params (.expr body) scope (cloFrom X.env.cells scope.names []) dV doc pm c' ctv)) → H1 c' = some (LamX.CodeO c' (X.env.qual ++ "<lambda>")) → Q (.ref f) s') :
    wpAny (model X.prog X.w) X.A (makeTail "<lambda>" (X.env.qual ++ "<lambda>") params (.expr body) scope X.env dV .none none pos pos.line) Q E s := by
  obtain ⟨ps, hP, ht, ha⟩ := hT _ hm
  have bP : s.heap.BuiltinsAt X.mg P := TB.bm.keeps I.bk
  have hP' : s.heap.get? P = some { cls := .none, data := .fields ps } := I.hok P _ hP
  cases hc : codeAmong pos ps.toList with
  | none =>
    refine PySem.W.kdv_makeTail (mg := X.mg) (c := cc) (P := P) (ps := ps) (closure_ok hfree) I.ok.glob (I.mod.glob.keeps I.bk) hcode (TB.code.keeps I.bk) hP' ht hc TB.gP bP fun c' ctv doc h' tk hx hge hlt hrec htb => ?_
    obtain ⟨c2, oc, vs, t, e2, hoc, hd, hv⟩ := hrec
    cases e2
    have nC : H c' = none := I.hok.fresh hge
    have I1 := LamX.inv_table (t' := tk) (more := #[rawInt pos.line, rawInt pos.col, .ref c']) (h' := h') I hP (fun b o hb e => hx b o hb e) htb hge ⟨oc, vs, t, hoc, hd, hv⟩
    have hE : LamX.ExtN H (upd (upd H P (.tbl (ps ++ #[rawInt pos.line, rawInt pos.col, .ref c']))) c' (LamX.CodeO c' (X.env.qual ++ "<lambda>"))) := fun b o e n => by
      rw [upd_ne (ne_of_none e nC), upd_ne (fun z => n ps (Option.some.inj (e.symm.trans (by rw [z]; exact hP))))]
      exact e
    have eL : (ps ++ #[rawInt pos.line, rawInt pos.col, .ref c']).toList = ps.toList ++ [rawInt pos.line, rawInt pos.col, .ref c'] := by simp
    have T1 : LamX.Tabs T (upd (upd H P (.tbl (ps ++ #[rawInt pos.line, rawInt pos.col, .ref c']))) c' (LamX.CodeO c' (X.env.qual ++ "<lambda>"))) := fun p hp => by
      by_cases hb : p.1 = P
      · rw [hu p hp hb, hb]
        refine ⟨_, by rw [upd_ne (ne_of_none hP nC), upd_same], by rw [eL]; exact PySem.TriplesOk_snoc _ _ _ _ ht, fun p' cv hcv => ?_⟩
        rw [eL] at hcv
        rcases LamX.among_app _ ht hcv with z | z
        · obtain ⟨c0, e1, e2⟩ := ha p' cv z
          exact ⟨c0, e1, hE _ _ e2 LamX.codeO_ne⟩
        · exact ⟨c', z, upd_same⟩
      · obtain ⟨ps', a1, a2, a3⟩ := hT p hp
        refine ⟨ps', by rw [upd_ne (ne_of_none a1 nC), upd_ne hb]; exact a1, a2, fun p' cv hcv => ?_⟩
        obtain ⟨c0, e1, e2⟩ := a3 p' cv hcv
        exact ⟨c0, e1, hE _ _ e2 LamX.codeO_ne⟩
    have nF : upd (upd H P (.tbl (ps ++ #[rawInt pos.line, rawInt pos.col, .ref c']))) c' (LamX.CodeO c' (X.env.qual ++ "<lambda>")) h'.objs.size = none := I1.hok.fresh (Nat.le_refl _)
    have I2 := I1.laid (t' := tk) (a := h'.objs.size) (h' := h'.push (PySem.W.kdv_obj "<lambda>" (X.env.qual ++ "<lambda>") params (.expr body) scope (cloFrom X.env.cells scope.names []) dV doc ((X.mg "__name__").getD .none) c' ctv))
      (o := exO h'.objs.size (PySem.W.kdv_obj "<lambda>" (X.env.qual ++ "<lambda>") params (.expr body) scope (cloFrom X.env.cells scope.names []) dV doc ((X.mg "__name__").getD .none) c' ctv)) (fun b u e => Heap.get?_push_of_some _ e) (Nat.le_refl _) (exO_ok (Heap.get?_push_size _ rfl))
    have e2 := extN_upd (o := exO h'.objs.size (PySem.W.kdv_obj "<lambda>" (X.env.qual ++ "<lambda>") params (.expr body) scope (cloFrom X.env.cells scope.names []) dV doc ((X.mg "__name__").getD .none) c' ctv)) nF
    refine h h'.objs.size c' doc _ ctv _ _ I2 (hE.trans e2) (fun b hb => grow_upd b (grow_upd b (grow_upd b hb))) (T1.ext fun b u e => by rw [upd_ne (ne_of_none e nF)]; exact e) upd_same ?_
    rw [upd_ne (Nat.ne_of_lt hlt), upd_same]
  | some cv =>
    obtain ⟨c', e, hco⟩ := ha pos cv hc
    subst e
    refine PySem.W.kdv_makeTailHit (mg := X.mg) (c := cc) (P := P) (ps := ps) (closure_ok hfree) I.ok.glob (I.mod.glob.keeps I.bk) hcode (TB.code.keeps I.bk) hP' ht hc bP fun ctv doc h' tk hx hsz => ?_
    have I1 : Inv X pins σ H { s with heap := h', toks := tk } := I.kept hx
    have nF : H h'.objs.size = none := I1.hok.fresh (Nat.le_refl _)
    have I2 := I1.laid (t' := tk) (a := h'.objs.size) (h' := h'.push (PySem.W.kdv_obj "<lambda>" (X.env.qual ++ "<lambda>") params (.expr body) scope (cloFrom X.env.cells scope.names []) dV doc ((X.mg "__name__").getD .none) c' ctv))
      (o := exO h'.objs.size (PySem.W.kdv_obj "<lambda>" (X.env.qual ++ "<lambda>") params (.expr body) scope (cloFrom X.env.cells scope.names []) dV doc ((X.mg "__name__").getD .none) c' ctv)) (fun b u e => Heap.get?_push_of_some _ e) (Nat.le_refl _) (exO_ok (Heap.get?_push_size _ rfl))
    refine h h'.objs.size c' doc _ ctv _ _ I2 (extN_upd nF) grow_upd (hT.ext fun b u e => by rw [upd_ne (ne_of_none e nF)]; exact e) upd_same ?_
    rw [upd_ne (ne_of_none hco nF)]
    exact hco
end
/-- the lambda's objects, but its cells -/
structure LamAt (c : Glb) (X : Cx) (H : Hp) (fl : Nat) (f : Addr) (I : LamI) : Prop where
  lam : c.lam fl I
  free : ∀ y ∈ I.scope.names, y.2 = .free → y.1 ∈ I.caps
  cap : ∀ y ∈ I.caps, I.scope.names.lookup y = some .free ∧ X.env.scope.names.lookup y = some .cell
  at_ : ∃ (c' : Addr) (doc pm ctv dV : Value), H f = some (exO f (PySem.W.kdv_obj "<lambda>" (X.env.qual ++ "<lambda>") I.params (.expr I.body) I.scope (cloFrom X.env.cells I.scope.names []) dV doc pm c' ctv)) ∧ H c' = some (LamX.CodeO c' (X.env.qual ++ "<lambda>")) ∧
    ((I.dfl = 0 ∧ dV = .none) ∨ (I.dfl ≠ 0 ∧ ∃ (t : Addr) (o : Obj) (its : List Value) (n : Nat), dV = .ref t ∧ H t = some (exO t o) ∧ o.data = .seq its.toArray n ∧ its.length = I.dfl))
theorem LamAt.lw {c : Glb} {X : Cx} {g g' : G} {fl : Nat} {f : Addr} {I : LamI} (k : LamAt c X g.H fl f I) (h : GOk c g) (l : Lw g g') : LamAt c X g'.H fl f I := by
  obtain ⟨c', doc, pm, ctv, dV, q1, q2, q3⟩ := k.at_
  exact ⟨k.lam, k.free, k.cap, c', doc, pm, ctv, dV, ext_keep h l q1, ext_keep h l q2, q3.imp id fun ⟨z, t, o, its, n, e1, e2, e3, e4⟩ => ⟨z, t, o, its, n, e1, ext_keep h l e2, e3, e4⟩⟩
section
variable {X : Cx} {c : Glb}
theorem pe_lam {N : List Str} {Γ : Sg} {fl : Nat} {caps : List Nat} {sc : Scope} {e : Expr} (h : lamB Γ N fl caps sc e = true) (eS : X.env.scope = sc) (mk : Γ.mn ≠ [] → sc.names = Γ.mn → MkAt c X ∧ ∀ y a, X.env.cells.lookup y = some a → X.fn y = true)
    (hl : ∀ fl I, Γ.lmk fl I = true → c.lam fl I) : ∃ I : LamI, I.caps = namesAt N caps ∧ PE X e (fun σ H Q => ∃ g : G, g.H = H ∧ GOk c g ∧ ∀ f H1, GOk c ⟨g.hid, g.ρ, g.S, H1⟩ → Le g ⟨g.hid, g.ρ, g.S, H1⟩ → LamAt c X H1 fl f I → Q (.ref f) H1) := by
  unfold lamB at h
  split at h
  · rename_i params body scope pos
    simp only [Bool.and_eq_true, decide_eq_true_eq, List.all_eq_true] at h
    obtain ⟨⟨⟨⟨⟨⟨h1, h2⟩, h3⟩, h4⟩, h5⟩, h6⟩, h7⟩ := h
    have hne : Γ.mn ≠ [] := fun z => by rw [z] at h1; cases h1
    obtain ⟨⟨cc, P, k1, k2, k3, k4⟩, k5⟩ := mk hne h2
    have free : ∀ y ∈ scope.names, y.2 = .free → y.1 ∈ namesAt N caps := fun y hy e => by
      have q := h6 y hy
      rw [Bool.or_eq_true] at q
      rcases q with q | q
      · rw [decide_eq_true e] at q; cases q
      · simpa using q
    have cap : ∀ y ∈ namesAt N caps, scope.names.lookup y = some .free ∧ X.env.scope.names.lookup y = some .cell := fun y hy => by
      rw [eS]
      exact h7 y hy
    refine ⟨⟨params, body, scope, namesAt N caps, params.defaults.length⟩, rfl, ⟨fun pins s σ H Q I q => ?_⟩⟩
    obtain ⟨g, rfl, ok, q⟩ := q
    have hfree : ∀ y ∈ scope.names, y.2 = .free → ∃ a, X.env.cells.lookup y.1 = some a := fun y hy e => I.ok.has _ (.inl (cap _ (free y hy e)).2)
    unfold dflB at h4
    rw [Bool.and_eq_true, List.isEmpty_iff] at h4
    obtain ⟨d1, d2⟩ := h4
    split at d2
    · rename_i hd
      refine PySem.W.kla_eval (by rw [PySem.defaultsOf_eq, hd, d1]; rfl) ?_
      rw [makeFunction_eq]
      simp only [List.zip_nil_right, List.filterMap_nil, List.isEmpty_nil, if_true, pure_bind]
      refine lam_tail I k2 k1 k3 k4 ok.tabs hfree fun f c' doc pm ctv H1 s' I1 eN gr T1 hf hc => ?_
      refine ⟨.ref f, H1, I1, rfl, q f H1 (gok_extN ok eN T1) (le_extN ok eN gr) ⟨hl _ _ h5, free, cap, c', doc, pm, ctv, .none, hf, hc, .inl ⟨by rw [hd]; rfl, rfl⟩⟩⟩
    · rename_i i j p hd
      refine PySem.W.kdv_lam (by rw [hd]; rfl) d1 ?_
      rw [hd]
      refine PySem.W.kdv_all1 (thn ((pe_int (X := X) (i := i) (j := j) (pos := p)).run pins s σ g.H (fun _ H1 => H1 = g.H) I rfl) fun u s1 ⟨v, H1, I1, r1, e1⟩ => ?_)
      subst e1
      refine PySem.W.kdv_all0 ?_
      rw [makeFunction_eq]
      simp only [List.zip_nil_right, List.filterMap_nil, List.isEmpty_nil, if_true, pure_bind, List.isEmpty_cons, Bool.false_eq_true, if_false]
      refine wpAny_bind (wpAny_newTextTuple ?_)
      have nT : g.H s1.heap.objs.size = none := I1.hok.fresh (Nat.le_refl _)
      have I2 := I1.laid (t' := s1.toks) (a := s1.heap.objs.size) (h' := s1.heap.push { cls := .type "tuple", data := .seq [u].toArray }) (o := exO s1.heap.objs.size { cls := .type "tuple", data := .seq [u].toArray }) (fun b u e => Heap.get?_push_of_some _ e) (Nat.le_refl _) (exO_ok (Heap.get?_push_size _ rfl))
      have ok2 : GOk c { g with H := upd g.H s1.heap.objs.size (exO s1.heap.objs.size { cls := .type "tuple", data := .seq [u].toArray }) } := gok_laid ok nT
      refine lam_tail I2 k2 k1 k3 k4 ok2.tabs hfree fun f c' doc pm ctv H1 s' I3 eN gr T1 hf hc => ?_
      refine ⟨.ref f, H1, I3, rfl, q f H1 (gok_extN (g := { g with H := upd g.H s1.heap.objs.size (exO s1.heap.objs.size { cls := .type "tuple", data := .seq [u].toArray }) }) ok2 eN T1) ((le_laid ok nT).trans (le_extN (g := { g with H := upd g.H s1.heap.objs.size (exO s1.heap.objs.size { cls := .type "tuple", data := .seq [u].toArray }) }) ok2 eN gr)) ⟨hl _ _ h5, free, cap, c', doc, pm, ctv, .ref s1.heap.objs.size, hf, hc, .inr ⟨by rw [hd]; simp, s1.heap.objs.size, _, [u], 0, rfl, eN _ _ upd_same (fun ps z => by unfold exO at z; cases z), rfl, by rw [hd]; rfl⟩⟩⟩
    · cases d2
  · cases h
end
end EV
end

section
set_option Elab.async false
set_option linter.all false
set_option maxRecDepth 100000
set_option maxHeartbeats 4000000
/-! EV27: a def called with lambdas -/
namespace EV
open PySem PySem.Spec PyProof.Rows L2
/-! ### the maker's cells -/
def cellsOf (env : PySem.Env) (h : PySem.Heap) : List (Addr × Obj) := env.cells.filterMap fun p => (env.cells.lookup p.1).bind fun a => (h.get? a).map fun o => (a, o)
theorem lk_mem {α : Type} : ∀ {l : List (Addr × α)} {a : Addr} {o : α}, (a, o) ∈ l → ∃ o', l.lookup a = some o'
  | (k, v) :: r, a, o, h => by
    rw [List.lookup_cons]
    cases hb : a == k with
    | true => exact ⟨_, rfl⟩
    | false =>
      rcases List.mem_cons.mp h with e | h
      · cases e
        rw [beq_self_eq_true] at hb
        cases hb
      · exact lk_mem h
theorem mem_lk {α : Type} : ∀ {l : List (Addr × α)} {a : Addr} {o : α}, l.lookup a = some o → (a, o) ∈ l
  | (k, v) :: r, a, o, h => by
    rw [List.lookup_cons] at h
    cases hb : a == k with
    | true =>
      rw [hb] at h
      have e : a = k := by simpa using hb
      cases h
      rw [e]
      exact List.mem_cons_self
    | false =>
      rw [hb] at h
      exact List.mem_cons_of_mem _ (mem_lk h)
theorem cellsOf_mem {env : PySem.Env} {h : PySem.Heap} {a : Addr} {o : Obj} (m : (a, o) ∈ cellsOf env h) : ∃ y, env.cells.lookup y = some a ∧ h.get? a = some o := by
  unfold cellsOf at m
  obtain ⟨p, hp, e⟩ := List.mem_filterMap.mp m
  rw [Option.bind_eq_some_iff] at e
  obtain ⟨b, e1, e2⟩ := e
  rw [Option.map_eq_some_iff] at e2
  obtain ⟨o', e3, e4⟩ := e2
  cases e4
  exact ⟨p.1, e1, e3⟩
theorem cellsOf_lk {env : PySem.Env} {h : PySem.Heap} {a : Addr} {o : Obj} (m : (cellsOf env h).lookup a = some o) : ∃ y, env.cells.lookup y = some a ∧ h.get? a = some o := cellsOf_mem (mem_lk m)
theorem cellsOf_has {env : PySem.Env} {h : PySem.Heap} {y : Str} {a : Addr} {o : Obj} (e : env.cells.lookup y = some a) (e2 : h.get? a = some o) : (cellsOf env h).lookup a = some o := by
  have m : (a, o) ∈ cellsOf env h := List.mem_filterMap.mpr ⟨(y, a), PySem.mem_of_lookup e, by
    show (env.cells.lookup y).bind _ = _
    rw [e]
    show (h.get? a).map _ = _
    rw [e2]; rfl⟩
  obtain ⟨o', q⟩ := lk_mem m
  obtain ⟨_, _, q2⟩ := cellsOf_lk q
  rw [e2] at q2
  cases q2
  exact q
/-- tables without the cells -/
theorem tabs_sub2 {T : List (Addr × Str)} {ts : List (Addr × Obj)} {H : Hp} {h : PySem.Heap} (t : LamX.Tabs T H) (ht : ∀ a o, ts.lookup a = some o → H a = some (exO a o) ∧ h.get? a = some o ∧ ∃ v, o.data = .cell v) : LamX.Tabs T (subX H ts) := fun p hp => by
  obtain ⟨ps, q1, q2, q3⟩ := t p hp
  have me : Me H (subX H ts) := me_sub fun a o e => (ht a o e).1
  refine ⟨ps, me _ _ q1 (fun φ z => by cases z), q2, fun pos cv hc => ?_⟩
  obtain ⟨c0, z1, z2⟩ := q3 pos cv hc
  refine ⟨c0, z1, ?_⟩
  rcases opt_cases (ts.lookup c0) with z | ⟨o, z⟩
  · rw [subX_out z]; exact z2
  · obtain ⟨e1, e2, v, e3⟩ := ht c0 o z
    rw [e1] at z2
    exfalso
    have z3 : (HO.ext fun h => h.get? c0 = some o) = LamX.CodeO c0 p.2 := Option.some.inj z2
    unfold LamX.CodeO at z3
    have z4 := HO.ext.inj z3
    have z5 := congrFun z4 h
    obtain ⟨oc, vs, t, e4, e5, _⟩ := z5.mp e2
    rw [e2] at e4
    cases e4
    rw [e3] at e5
    cases e5
/-! ### values that may be lambdas just made -/
inductive RepL (c : Glb) (X : Cx) (g : G) (loc : Loc) : Vl → V → Prop
  | v {v : Vl} {w : V} : RepV c g v w → RepL c X g loc v w
  | lam {fl : Nat} {caps : List Nat} {cs : List Vl} {f : Addr} {I : LamI} : LamAt c X g.H fl f I → I.caps = namesAt X.N caps → (namesAt X.N caps).length = caps.length → capsOf loc caps = some cs → cs.all plainV = true → RepL c X g loc (.clo fl cs) (.ref f)
inductive RepLs (c : Glb) (X : Cx) (g : G) (loc : Loc) : List Vl → List V → Prop
  | nil : RepLs c X g loc [] []
  | cons {v : Vl} {w : V} {vs : List Vl} {ws : List V} : RepL c X g loc v w → RepLs c X g loc vs ws → RepLs c X g loc (v :: vs) (w :: ws)
theorem RepL.le {c : Glb} {X : Cx} {g g' : G} {loc : Loc} {v : Vl} {w : V} (r : RepL c X g loc v w) (h : GOk c g) (l : Le g g') : RepL c X g' loc v w := by
  cases r with
  | v r => exact .v (r.le h l)
  | lam a b d e f => exact .lam (a.lw h l.lw) b d e f
def tLs (c : Glb) (X : Cx) (U : Env) (W : WX) (l : LEs) : TA := fun σ H Q => ∃ (g : G) (loc : Loc), g.H = H ∧ GOk c g ∧ LocOk c g loc σ ∧ Out c g W σ (evEs U l loc g.S) (fun vs g' => ∀ ws, RepLs c X g' loc vs ws → Q ws g'.H)
section
variable {c : Glb} {U : EV.Env} {W : WX} {X : Cx} {e : Expr} {es : List Expr} {l : LE} {ls : LEs}
theorem sl_nil : PA X [] (tLs c X U W .nil) := PA.imp pa_nil fun σ H Q => by
  rintro ⟨g, loc, rfl, ok, lo, out⟩
  simp only [evEs] at out
  exact (Out.here out ok) _ .nil
theorem sl_cons (hp : plainX e = true) (ha : PE X e (tEv c U W l)) (hs : PA X es (tLs c X U W ls)) : PA X (e :: es) (tLs c X U W (.cons l ls)) := PA.imp (pa_cons ha hs (star_cons hp)) fun σ H Q => by
  rintro ⟨g, loc, rfl, ok, lo, out⟩
  refine ⟨g, loc, rfl, ok, lo, (Out.bind out).imp fun v g1 ⟨le1, ok1, out1⟩ w rw1 => ?_⟩
  refine ⟨g1, loc, rfl, ok1, lo.le ok le1, (Out.bind out1).imp fun vs g2 ⟨le2, ok2, out2⟩ ws rws => ?_⟩
  exact (Out.here out2 ok2) _ (.cons (.v (rw1.le ok1 le2)) rws)
theorem sl_lam {fl : Nat} {caps : List Nat} {I : LamI} (hp : plainX e = true) (hI : I.caps = namesAt X.N caps) (hn : (namesAt X.N caps).length = caps.length)
    (ha : PE X e (fun σ H Q => ∃ g : G, g.H = H ∧ GOk c g ∧ ∀ f H1, GOk c ⟨g.hid, g.ρ, g.S, H1⟩ → Le g ⟨g.hid, g.ρ, g.S, H1⟩ → LamAt c X H1 fl f I → Q (.ref f) H1)) (hs : PA X es (tLs c X U W ls)) : PA X (e :: es) (tLs c X U W (.cons (.lam fl caps) ls)) := PA.imp (pa_cons ha hs (star_cons hp)) fun σ H Q => by
  rintro ⟨g, loc, rfl, ok, lo, out⟩
  simp only [evEs, evE] at out
  cases hc : capsOf loc caps with
  | none => rw [hc] at out; exact out.elim
  | some cs =>
    rw [hc] at out
    simp only [R.opt_some] at out
    by_cases hpl : cs.all plainV = true
    · rw [if_pos hpl] at out
      simp only [R.bind_ok] at out
      refine ⟨g, rfl, ok, fun f H1 ok1 le1 at1 => ?_⟩
      refine ⟨⟨g.hid, g.ρ, g.S, H1⟩, loc, rfl, ok1, lo.le ok le1, (Out.bind (Out.le out le1)).imp fun vs g2 ⟨le2, ok2, out2⟩ ws rws => ?_⟩
      exact (Out.here out2 ok2) _ (.cons (.lam (at1.lw (g := ⟨g.hid, g.ρ, g.S, H1⟩) ok1 le2.lw) hI hn hc hpl) rws)
    · rw [if_neg hpl] at out
      exact out.elim
end
/-! ### what is captured -/
theorem namesAt_le (N : List Str) : ∀ is : List Nat, (namesAt N is).length ≤ is.length
  | [] => Nat.le_refl _
  | i :: is => by
    unfold namesAt
    exact List.length_filterMap_le _ _
theorem namesAt_cons {N : List Str} {i : Nat} {is : List Nat} (h : (namesAt N (i :: is)).length = (i :: is).length) : ∃ y, N[i]? = some y ∧ namesAt N (i :: is) = y :: namesAt N is ∧ (namesAt N is).length = is.length := by
  cases hy : N[i]? with
  | none =>
    have e : namesAt N (i :: is) = namesAt N is := by unfold namesAt; rw [List.filterMap_cons, hy]
    rw [e] at h
    have := namesAt_le N is
    rw [h] at this
    simp at this
    omega
  | some y =>
    have e : namesAt N (i :: is) = y :: namesAt N is := by unfold namesAt; rw [List.filterMap_cons, hy]
    rw [e] at h
    exact ⟨y, rfl, e, by simpa using h⟩
theorem caps_vals {c : Glb} {X : Cx} {pins : List (Addr × Obj)} {σ : L2.St} {g : G} {s : Shared} {loc : Loc} (J : Inv X pins σ g.H s) (lo : LocOk c g loc σ) : ∀ {caps : List Nat} {cs : List Vl}, capsOf loc caps = some cs → cs.all plainV = true → (namesAt X.N caps).length = caps.length →
    (∀ y ∈ namesAt X.N caps, X.env.scope.names.lookup y = some .cell) → ∃ (us : List Value) (ws : List V), RepBs c g cs ws ∧ Vals ws us ∧ ws.length = caps.length ∧ ∀ (i : Nat) (y : Str), (namesAt X.N caps)[i]? = some y → ∃ (a : Addr) (u : Value), X.env.cells.lookup y = some a ∧ s.heap.IsCell a (some u) ∧ us[i]? = some u
  | [], cs, h, hp, hn, hk => by
    simp only [capsOf, Option.some.injEq] at h
    subst h
    exact ⟨[], [], .nil, .nil, rfl, fun i y e => by simp [namesAt] at e⟩
  | i :: is, cs, h, hp, hn, hk => by
    simp only [capsOf] at h
    split at h
    · rename_i v vs h1 h2
      cases h
      rw [List.all_cons, Bool.and_eq_true] at hp
      obtain ⟨y, n1, n2, n3⟩ := namesAt_cons hn
      have kc : X.env.scope.names.lookup y = some .cell := hk y (by rw [n2]; exact List.mem_cons_self)
      obtain ⟨us, ws, a1, a2, a3, a4⟩ := caps_vals J lo h2 hp.2 n3 fun z hz => hk z (by rw [n2]; exact List.mem_cons_of_mem _ hz)
      obtain ⟨w, hw, rw1⟩ := lo.at_ i v h1
      obtain ⟨m, hm, hl⟩ := J.loc
      obtain ⟨u, ru, lk⟩ := hl i y w n1 hw (.inr (.inl kc))
      have lk2 : ∃ a, X.env.cells.lookup y = some a ∧ s.heap.IsCell a (some u) := by
        rcases lk with ⟨z, _⟩ | ⟨_, z⟩
        · have z : X.env.scope.names.lookup y = some .local := z
          rw [kc] at z
          cases z
        · exact z
      obtain ⟨a, la, ia⟩ := lk2
      have rb : RepB c g v w := by
        cases rw1 with
        | d r => exact .d r
        | ref e => exact .ref e
        | fnv e => exact .fnv e
        | exn e => cases hp.1
        | clo k r => cases hp.1
        | scr a b r => cases hp.1
      refine ⟨u :: us, w :: ws, .cons rb a1, .cons ru a2, by simp [a3], fun j z hj => ?_⟩
      rw [n2] at hj
      cases j with
      | zero =>
        simp at hj
        subst hj
        exact ⟨a, u, la, ia, rfl⟩
      | succ j =>
        obtain ⟨b, u', b1, b2, b3⟩ := a4 j z (by simpa using hj)
        exact ⟨b, u', b1, b2, by simpa using b3⟩
    · cases h
/-! ### the call -/
section
variable {c : Glb} {U : EV.Env} {W : WX} {X : Cx} {pins : List (Addr × Obj)} {σ : L2.St} {s : Shared}
theorem lam_reps {g : G} {loc : Loc} {ts : List (Addr × Obj)} (I : Inv X pins σ g.H s) (ok : GOk c g) (lo : LocOk c g loc σ) (ets : ts = cellsOf X.env s.heap) (hts : ∀ a o, ts.lookup a = some o → g.H a = none) (hcell : ∀ a o, ts.lookup a = some o → ∃ v, o.data = .cell v) :
    ∀ {vs : List Vl} {ws : List V}, RepLs c X g loc vs ws → RepVs c ⟨g.hid, g.ρ, g.S, addX g.H ts⟩ vs ws
  | _, _, .nil => .nil
  | _, _, .cons r t => by
    have lw : Lw g ⟨g.hid, g.ρ, g.S, addX g.H ts⟩ := ⟨List.prefix_refl _, fun a o e nl _ => ⟨add_keep hts a o e, nl⟩⟩
    refine .cons ?_ (lam_reps I ok lo ets hts hcell t)
    cases r with
    | v r => exact r.lw ok lw
    | @lam fl caps cs f J at1 hI hn hc hp =>
      obtain ⟨c', doc, pm, ctv, dV, q1, q2, q3⟩ := at1.at_
      have hk : ∀ y ∈ namesAt X.N caps, X.env.scope.names.lookup y = some .cell := fun y hy => (at1.cap y (by rw [hI]; exact hy)).2
      obtain ⟨us, ws', a1, a2, a3, a4⟩ := caps_vals I lo hc hp hn hk
      have cm : ∀ {y a}, (cloFrom X.env.cells J.scope.names []).lookup y = some a → X.env.cells.lookup y = some a := fun {y a} e => by
        rcases cloFrom_mem (PySem.mem_of_lookup e) with hm | ⟨h1, h2⟩
        · cases hm
        · have hy := (at1.cap _ (at1.free _ h1 rfl)).2
          obtain ⟨a1, ha⟩ := I.ok.has y (.inl hy)
          have e2 : a = a1 := by rw [h2, ha] <;> rfl
          rw [e2]
          exact ha
      have look : ∀ {y}, y ∈ J.caps → ∃ a, (cloFrom X.env.cells J.scope.names []).lookup y = some a := fun {y} hl => by
        have hy : (y, NameKind.free) ∈ J.scope.names := PySem.mem_of_lookup (at1.cap y hl).1
        exact mem_lookup (cloFrom_has (cells := X.env.cells) (acc := []) hy)
      refine .clo (f := f) (c' := c') (qual := X.env.qual ++ "<lambda>") (I := J) (cells := cloFrom X.env.cells J.scope.names []) (pm := pm) (ctv := ctv) (ts := ts) (us := us) (ws := ws') ⟨at1.lam, ⟨dV, doc, add_keep hts _ _ q1, q3.imp id fun ⟨z, t, o, its, n, e1, e2, e3, e4⟩ => ⟨z, t, o, its, n, e1, add_keep hts _ _ e2, e3, e4⟩⟩, add_keep hts _ _ q2, fun a o e => addX_in e, fun i y hi => ?_, fun y a hy => ?_, fun x y a e1 e2 => I.ok.inj x y a (cm e1) (cm e2), a2, hcell, by rw [a3, hI, hn]⟩ (a1.lw ok lw)
      · rw [hI] at hi
        obtain ⟨a, u, b1, ⟨o, b2, b3⟩, b4⟩ := a4 i y hi
        obtain ⟨a', ha'⟩ := look (y := y) (by rw [hI]; exact List.mem_of_getElem? hi)
        have e := cm ha'
        rw [b1] at e
        cases e
        exact ⟨a, o, u, ha', by rw [ets]; exact cellsOf_has b1 b2, b3, b4⟩
      · have e := cm hy
        obtain ⟨v, o, b2, b3⟩ := I.cell y a e
        exact ⟨o, v, by rw [ets]; exact cellsOf_has e b2, b3⟩
theorem call_lam {f np k : Nat} {fa : Addr} {fd : FuncData} {ps : List Str} {g : G} {loc : Loc} {vs : List Vl} {ws : List V} {us : List Value} {Q : VK} (F : FnOk X.prog X.w X.K X.mg X.base (L2.CX X.prog X.w) k fa fd ps (spF c U f np)) (hr : Room k X.A) (hb : Binds X.K fd ps []) (tk : Takes X W)
    (hcb : ∀ y a, X.env.cells.lookup y = some a → X.fn y = true) (pl : ∀ vs S v S', U.cf f vs S = .ok v S' → plainV v = true) (I : Inv X pins σ g.H s) (ok : GOk c g) (lo : LocOk c g loc σ) (rs : RepLs c X g loc vs ws) (rv : Vals ws us) (hl : vs.length = np)
    (out : Out c g W σ (U.cf f vs g.S) (fun v g' => ∀ w, RepV c g' v w → Q w g'.H)) : wpAny (model X.prog X.w) X.A (call (.ref fa) us) (EP X pins σ Q) X.xe s := by
  obtain ⟨ts, ets⟩ : ∃ ts, ts = cellsOf X.env s.heap := ⟨_, rfl⟩
  have hts : ∀ a o, ts.lookup a = some o → s.heap.get? a = some o ∧ g.H a = none ∧ a ∉ frs X.stack ∧ X.base.get? a = none ∧ ∃ v, o.data = .cell v := fun a o e => by
    rw [ets] at e
    obtain ⟨y, e1, e2⟩ := cellsOf_lk e
    obtain ⟨v, o', e3, e4⟩ := I.cell y a e1
    rw [e2] at e3
    cases e3
    have big := I.ok.cab y a (hcb y a e1) e1
    refine ⟨e2, I.freeC y a e1, fun m => ?_, Heap.get?_none_of_le (Nat.le_trans I.ok.bsz big), v, e4⟩
    rcases List.mem_cons.mp (I.stkSub a m) with z | z
    · exact I.cne y a e1 z
    · obtain ⟨_, o2, ho2, _⟩ := I.ok.funs.mem z
      exact absurd (Nat.lt_of_lt_of_le (Heap.lt_size ho2) big) (Nat.lt_irrefl _)
  have hn : ∀ a o, ts.lookup a = some o → g.H a = none := fun a o e => (hts a o e).2.1
  have ok2 : GOk c ⟨g.hid, g.ρ, g.S, addX g.H ts⟩ := gok_me ok (me_add hn) (tabs_add ok.tabs hn)
  have rv2 := lam_reps I ok lo ets hn (fun a o e => (hts a o e).2.2.2.2) rs
  have e0 := I.env0
  have bs1 : ∀ b o, X.base.get? b = some o → s.heap.get? b = some o ∧ addX g.H ts b = none := fun b o z => by
    obtain ⟨q1, q2⟩ := e0.bs b o z
    refine ⟨q1, ?_⟩
    rcases opt_cases (ts.lookup b) with k | ⟨p, k⟩
    · rw [addX_out k]; exact q2
    · rw [(hts b p k).2.2.2.1] at z; cases z
  have frf1 : ∀ b ∈ frs X.stack, addX g.H ts b = none := fun b z => by
    rcases opt_cases (ts.lookup b) with k | ⟨p, k⟩
    · rw [addX_out k]; exact e0.frf b z
    · exact absurd z (hts b p k).2.2.1
  have e1 : Env0 X.prog X.w X.K X.mg X.base X.A X.stack s (addX g.H ts) := ⟨e0.frames, e0.mod, bs1, e0.bsz, e0.funs, frf1, hok_add e0.hok fun a o e => ⟨(hts a o e).1, hn a o e⟩, e0.bare⟩
  have back : ∀ {ρ' : List Addr} {S' : Sto} {H' : Hp}, GOk c ⟨g.hid, ρ', S', H'⟩ → Le ⟨g.hid, g.ρ, g.S, addX g.H ts⟩ ⟨g.hid, ρ', S', H'⟩ → (∀ a o, ts.lookup a = some o → H' a = some (exO a o)) ∧ GOk c ⟨g.hid, ρ', S', subX H' ts⟩ ∧ Le g ⟨g.hid, ρ', S', subX H' ts⟩ := fun {ρ' S' H'} ok' le' => by
    have trk : ∀ a o, ts.lookup a = some o → H' a = some (exO a o) := fun a o e => ext_keep ok2 le'.lw (addX_in e)
    have out_ : ∀ a, g.H a ≠ none → ts.lookup a = none := fun a h => by
      rcases opt_cases (ts.lookup a) with k | ⟨p, k⟩
      · exact k
      · exact absurd (hn a p k) h
    refine ⟨trk, gok_me ok' (me_sub trk) (tabs_sub2 (h := s.heap) ok'.tabs fun a o e => ⟨trk a o e, (hts a o e).1, (hts a o e).2.2.2.2⟩), le'.pre, rfl, fun a ha => ?_, fun a o e nl nt => ?_, fun a e => ?_⟩
    · have k := out_ a (ok.hidn ha)
      show subX H' ts a = g.H a
      rw [subX_out k]
      have q := le'.hidk a ha
      rw [show (⟨g.hid, ρ', S', H'⟩ : G).H a = H' a from rfl, show (⟨g.hid, g.ρ, g.S, addX g.H ts⟩ : G).H a = addX g.H ts a from rfl, addX_out k] at q
      exact q
    · have k := out_ a (by rw [e]; simp)
      obtain ⟨q1, q2⟩ := le'.keep a o (add_keep hn a o e) nl nt
      exact ⟨by show subX H' ts a = _; rw [subX_out k]; exact q1, q2⟩
    · have k := out_ a e
      show subX H' ts a ≠ none
      rw [subX_out k]
      exact le'.grow a (by show addX g.H ts a ≠ none; rw [addX_out k]; exact e)
  have sp : spF c U f np ws (addX g.H ts) (fun v H' => (∀ a o, ts.lookup a = some o → H' a = some (exO a o)) ∧ Q v (subX H' ts)) (fun cls d H' => (∀ a o, ts.lookup a = some o → H' a = some (exO a o)) ∧ W cls d σ (subX H' ts)) := by
    refine ⟨⟨g.hid, g.ρ, g.S, addX g.H ts⟩, vs, rfl, ok2, rv2, hl, ?_⟩
    show Out c ⟨g.hid, g.ρ, g.S, addX g.H ts⟩ _ [] (U.cf f vs g.S) _
    cases hcf : U.cf f vs g.S with
    | ok v S' =>
      rw [hcf] at out
      intro ρ' H' ok' le' w rw1
      obtain ⟨trk, ok3, le3⟩ := back ok' le'
      refine ⟨trk, out ρ' (subX H' ts) ok3 le3 w ?_⟩
      have hp := pl _ _ _ _ hcf
      cases rw1 with
      | d r => exact .d (Rep.me (me_sub trk) _ _ r)
      | ref e => exact .ref e
      | fnv e => exact .fnv e
      | exn e => cases hp
      | clo k r => cases hp
      | scr a b r => cases hp
    | exc n xs S' =>
      rw [hcf] at out
      intro ρ' H' d ok' le' ex
      obtain ⟨trk, ok3, le3⟩ := back ok' le'
      obtain ⟨cls, h1, h2⟩ := out ρ' (subX H' ts) d ok3 le3 ex
      exact ⟨cls, h1, trk, h2⟩
    | stuck => rw [hcf] at out; exact out.elim
  have hbs := hb s us I.kIn (by rw [List.append_nil, ← rv.length]; exact F.len _ _ _ _ sp)
  rw [List.append_nil] at hbs
  refine wpAny_call (codeAny_mono (F.run X.A X.stack s (addX g.H ts) ⟨us, []⟩ us ws (fun v H' => (∀ a o, ts.lookup a = some o → H' a = some (exO a o)) ∧ Q v (subX H' ts)) (fun cls d H' => (∀ a o, ts.lookup a = some o → H' a = some (exO a o)) ∧ W cls d σ (subX H' ts)) hr e1 hbs rv sp) fun r s' hq0 => ?_)
  have hq := cr_sub (Q := Q) (E := fun cls d H' => W cls d σ H') hq0 (fun a o e => ⟨(hts a o e).1, hn a o e, (hts a o e).2.2.1⟩) (fun v H' h => h) (fun cls d H' h => h)
  cases r with
  | error e => exact passAt tk σ pins g.H s e s' I hq
  | ok fl =>
    cases fl with
    | ret u => exact I.after hq
    | next => exact False.elim hq
    | brk => exact False.elim hq
    | cont => exact False.elim hq
theorem se_callL {f np k : Nat} {fa : Addr} {fd : FuncData} {ps : List Str} {x : String} {p pos : Pos} {e : Expr} {es : List Expr} {ls : LEs} (F : FnOk X.prog X.w X.K X.mg X.base (L2.CX X.prog X.w) k fa fd ps (spF c U f np)) (hr : Room k X.A) (hg : Gl X x) (hm : X.mg x = some (.ref fa)) (hk : PySem.W.keepIn X.K (.ref fa) = true) (hb : Binds X.K fd ps [])
    (tk : Takes X W) (hes : (e :: es).all plainX = true) (hn : lenEs ls = np) (hcb : ∀ y a, X.env.cells.lookup y = some a → X.fn y = true) (pl : ∀ vs S v S', U.cf f vs S = .ok v S' → plainV v = true) (ha : PA X (e :: es) (tLs c X U W ls)) (hdb : ((x : Str) == ("__debug__" : Str)) = false) : PE X (.Call (.Name x p) (e :: es) [] pos) (tEv c U W (.call f x ls)) := by
  rw [List.all_cons, Bool.and_eq_true] at hes
  refine ⟨fun pins s σ H Q I h => ?_⟩
  obtain ⟨g, loc, rfl, ok, lo, out⟩ := h
  refine wpAny_Call_Name_kw (ld_glob I hg hm ?_ hdb)
  have ht : tLs c X U W ls σ g.H (fun ws H1 => ∃ (g1 : G) (vs : List Vl), g1.H = H1 ∧ GOk c g1 ∧ LocOk c g1 loc σ ∧ RepLs c X g1 loc vs ws ∧ vs.length = np ∧ Out c g1 W σ (U.cf f vs g1.S) (fun v g' => ∀ w, RepV c g' v w → Q w g'.H)) := by
    refine ⟨g, loc, rfl, ok, lo, Out.imp' (Out.bind out) fun vs g1 eq ⟨le1, ok1, out1⟩ ws rws => ?_⟩
    exact ⟨g1, vs, rfl, ok1, lo.le ok le1, rws, by rw [evEs_len eq, hn], out1⟩
  refine PySem.W.callWith_K (h₀ := X.base) I.ok.mod.kin hk (thn (ha.run pos pins s σ _ _ I ht) fun us s1 ⟨ws, H1, I1, r, q⟩ => ⟨I1.kIn, ?_⟩) (star_cons hes.1) (star_any hes.2 _)
  obtain ⟨g1, vs, rfl, ok1, lo1, rs, hl, out1⟩ := q
  exact call_lam F hr hb tk hcb pl I1 ok1 lo1 rs r hl out1
end
end EV
end

section
set_option Elab.async false
set_option linter.all false
set_option maxRecDepth 100000
set_option maxHeartbeats 4000000
/-! EV16: what the reader of expressions says is so -/
namespace EV
open PySem PySem.Spec PyProof.Rows L2
section
variable {c : Glb} {U : EV.Env} {W : WX} {X : Cx} {a b d e : Expr} {la lb ld l : LE} {pos : Pos}
theorem st_chain {o p : Cm} (hK : X.K = c.K) (hu : X.A.units + 200 < cLine) (ha : PE X a (tEv c U W la)) (hb : PE X b (tEv c U W lb)) (hd : PE X d (tEv c U W ld)) (hm2 : behindInMarks (cmOf p) d = false) :
    PT X (.Compare a [cmOf o, cmOf p] [b, d] pos) (tTv c U W (.chain o p la lb ld)) := PT.imp (pt_chain (cmrD hu o) (cmrD hu p) ha hb hd hm2) fun σ H Q => by
  rintro ⟨g, loc, rfl, ok, lo, out⟩
  refine ⟨g, loc, rfl, ok, lo, (Out.bind out).imp fun v g1 ⟨le1, ok1, out1⟩ w rw1 => ?_⟩
  refine ⟨g1, loc, rfl, ok1, lo.le ok le1, (Out.bind out1).imp fun v2 g2 ⟨le2, ok2, out2⟩ w2 rw2 => ?_⟩
  obtain ⟨k, hk, q⟩ := Out.opt out2
  rw [hK]
  refine cmV_ok ok2 (rw1.le ok1 le2) rw2 hk ⟨k, rfl, ?_⟩
  cases k with
  | true =>
    refine ⟨g2, loc, rfl, ok2, (lo.le ok le1).le ok1 le2, (Out.bind q).imp fun v3 g3 ⟨le3, ok3, out3⟩ w3 rw3 => ?_⟩
    obtain ⟨m, hm, q3⟩ := Out.opt out3
    obtain ⟨b', hb', q4⟩ := Out.here q3 ok3
    cases hb'
    exact cmV_ok ok3 (rw2.le ok2 le3) rw3 hm ⟨_, rfl, q4⟩
  | false =>
    obtain ⟨b', hb', q4⟩ := Out.here q ok2
    cases hb'
    exact ⟨_, rfl, q4⟩
/-- a list that is not changed any more -/
theorem se_frz (h : PE X e (tEv c U W l)) : PE X e (tEv c U W (.frz l)) := PE.imp h fun σ H Q => by
  rintro ⟨g, loc, rfl, ok, lo, out⟩
  refine ⟨g, loc, rfl, ok, lo, (Out.bind out).imp fun v g1 ⟨le1, ok1, out1⟩ w rw1 => ?_⟩
  obtain ⟨p, hp, q⟩ := Out.opt out1
  obtain ⟨ok2, le2, r2⟩ := take_ok ok1 rw1 hp
  exact q _ _ ok2 le2 w (.d r2)
theorem tst_ok (h : tstX e = true) (he : PE X e (tEv c U W l)) : PT X e (tTv c U W l) := st_val he (by cases e <;> first | (intro _; rfl) | cases h)
theorem set_ok {e : Expr} {env : PySem.Env} (h : plainX e = true) (x : Value) : foldedSetIterable e env x = pure x := by
  cases e <;> first | rfl | cases h
def Sound (c : Glb) (U : EV.Env) (X : Cx) (l : LE) (m : Nat) (e : Expr) : Prop := ∀ W : WX, Takes X W →
  (m = 0 → PE X e (tEv c U W l)) ∧
  (m = 1 → PE X e (tEvN c U W l) ∧ ∀ (elt : Expr) (gs : List Comprehension) (scope : Scope) (cp : Pos), e = .ListComp elt gs scope cp → ∀ (i : Nat) (y : Str) (py spos : Pos), X.N[i]? = some y → X.env.scope.names.lookup y = some .local → swapsWith e (some (.Name y py)) spos.line X.env = pure true →
    PS X (.Assign [.Name y py] e spos) (tAsg (tEvN c U W l) (gName i))) ∧
  (m = 2 → PT X e (tTv c U W l) ∧ ∀ (op : BoolOp) (vs : List Expr) (bp : Pos), e = .BoolOp op vs bp → PW X e (tTv c U W l))
/-- by new values, for a form that is no comprehension -/
theorem snd_n {m : Nat} (hm : (m == 0 || m == 1) = true) (hp : plainC e = true) (hd : ∀ loc S v S', evE U l loc S = .ok v S' → ∃ z, v = .d z) (h : ∀ W, Takes X W → PE X e (tEvN c U W l)) : Sound c U X l m e := fun W tk => by
  refine ⟨fun _ => pe_froz (h W tk) hd, fun _ => ⟨h W tk, fun elt gs scope cp e' => by subst e'; cases hp⟩, fun z => ?_⟩
  subst z
  cases hm
theorem snd_nt {m : Nat} (hp : plainC e = true) (ht : tstX e = true) (hd : ∀ loc S v S', evE U l loc S = .ok v S' → ∃ z, v = .d z) (h : ∀ W, Takes X W → PE X e (tEvN c U W l)) : Sound c U X l m e := fun W tk => by
  refine ⟨fun _ => pe_froz (h W tk) hd, fun _ => ⟨h W tk, fun elt gs scope cp e' => by subst e'; cases hp⟩, fun _ => ⟨tst_ok ht (pe_froz (h W tk) hd), fun op vs bp e' => by subst e'; cases ht⟩⟩
theorem snd_v {m : Nat} (hm : (m == 0) = true) (h : ∀ W, Takes X W → PE X e (tEv c U W l)) : Sound c U X l m e := fun W tk => by
  have e0 : m = 0 := by simpa using hm
  subst e0
  exact ⟨fun _ => h W tk, (fun z => absurd z (by decide)), (fun z => absurd z (by decide))⟩
theorem snd_vt {m : Nat} (hm : (m == 0 || m == 2) = true) (ht : tstX e = true) (h : ∀ W, Takes X W → PE X e (tEv c U W l)) : Sound c U X l m e := fun W tk => by
  refine ⟨fun _ => h W tk, fun z => ?_, fun _ => ⟨tst_ok ht (h W tk), fun op vs bp e' => by subst e'; cases ht⟩⟩
  subst z
  cases hm
end
/-! ### new values are data -/
section
variable {U : EV.Env}
theorem bind_ok {α β : Type} {r : R α} {f : α → Sto → R β} {b : β} {S' : Sto} (h : r.bind f = .ok b S') : ∃ a S1, r = .ok a S1 ∧ f a S1 = .ok b S' := by
  cases r with
  | ok a S1 => exact ⟨a, S1, rfl, h⟩
  | exc => cases h
  | stuck => cases h
theorem opt_ok {α β : Type} {o : Option α} {f : α → R β} {b : β} {S' : Sto} (h : R.opt o f = .ok b S') : ∃ a, o = some a ∧ f a = .ok b S' := by
  cases o with
  | none => cases h
  | some a => exact ⟨a, rfl, h⟩
theorem hd_tup {es : LEs} : ∀ loc S v S', evE U (.tup es) loc S = .ok v S' → ∃ z, v = .d z := fun loc S v S' h => by
  simp only [evE] at h
  obtain ⟨a, S1, _, h⟩ := bind_ok h
  obtain ⟨p, _, h⟩ := opt_ok h
  cases h
  exact ⟨_, rfl⟩
theorem hd_lst {es : LEs} : ∀ loc S v S', evE U (.lst es) loc S = .ok v S' → ∃ z, v = .d z := fun loc S v S' h => by
  simp only [evE] at h
  obtain ⟨a, S1, _, h⟩ := bind_ok h
  obtain ⟨p, _, h⟩ := opt_ok h
  cases h
  exact ⟨_, rfl⟩
theorem hd_slc {a : LE} {p q : LO} : ∀ loc S v S', evE U (.slc a p q) loc S = .ok v S' → ∃ z, v = .d z := fun loc S v S' h => by
  simp only [evE] at h
  obtain ⟨x, S1, _, h⟩ := bind_ok h
  obtain ⟨y, S2, _, h⟩ := bind_ok h
  obtain ⟨z, S3, _, h⟩ := bind_ok h
  unfold slcV at h
  split at h
  · cases h; exact ⟨_, rfl⟩
  · obtain ⟨p, _, h⟩ := opt_ok h
    cases h
    exact ⟨_, rfl⟩
theorem hd_rev {a : LE} : ∀ loc S v S', evE U (.rev a) loc S = .ok v S' → ∃ z, v = .d z := fun loc S v S' h => by
  simp only [evE] at h
  obtain ⟨x, S1, _, h⟩ := bind_ok h
  split at h
  · obtain ⟨p, _, h⟩ := opt_ok h
    cases h
    exact ⟨_, rfl⟩
  · cases h
theorem hd_bi {b : Bi} {es : LEs} : ∀ loc S v S', evE U (.bi b es) loc S = .ok v S' → ∃ z, v = .d z := fun loc S v S' h => by
  simp only [evE] at h
  obtain ⟨a, S1, _, h⟩ := bind_ok h
  obtain ⟨p, _, h⟩ := opt_ok h
  cases h
  exact ⟨_, rfl⟩
theorem hd_comp {e : LE} {g : LI} {t : LT} {c : LO} {own : List Nat} : ∀ loc S v S', evE U (.comp e g t c own) loc S = .ok v S' → ∃ z, v = .d z := fun loc S v S' h => by
  simp only [evE] at h
  obtain ⟨a, S1, _, h⟩ := bind_ok h
  obtain ⟨a, S1, _, h⟩ := bind_ok h
  cases h
  exact ⟨_, rfl⟩
end
theorem lit_ok {c : Glb} {U : EV.Env} {W : WX} {X : Cx} {d : D} {k : Const} {j : Nat} {pos : Pos} (h : okLit d k = true) : PE X (.Constant k j pos) (tEv c U W (.lit d)) := by
  unfold okLit at h
  split at h
  · exact se_const pe_non fun _ _ => .non
  · rw [beq_iff_eq] at h; subst h; exact se_const pe_bl fun _ _ => .bl _
  · rw [decide_eq_true_eq] at h; subst h; exact se_const pe_int fun _ _ => .int _
  · simp only [Bool.and_eq_true, decide_eq_true_eq, List.all_eq_true] at h
    obtain ⟨h1, h2⟩ := h
    subst h1
    exact se_const pe_str fun _ _ => .str h2
  · cases h
theorem str_eq {x y : Str} (h : (x == y) = true) : x = y := by simpa using h
section
variable {c : Glb} {P : Program} {w : World} {mg : Str → Option Value} {base : PySem.Heap} {k : Nat} {N : List Str} {Γ : Sg} {U : EV.Env}
theorem nm_ok {ws sc : Scope} {X : Cx} (g : XG c P w mg base k N Γ ws sc X) {i : Nat} {x : Str} (h : nmB N sc i x = true) : X.N[i]? = some x ∧ Vis X.env.scope x ∧ (x == ("__debug__" : Str)) = false ∧ (x == ("__classdict__" : Str)) = false := by
  unfold nmB at h
  simp only [Bool.and_eq_true, decide_eq_true_eq] at h
  obtain ⟨⟨⟨h1, h2⟩, h3⟩, h4⟩ := h
  exact ⟨g.at_ h1, g.vis h2, bnot h3, bnot h4⟩
theorem fn_at (S : SgOk c P w mg base k Γ U) {ws sc : Scope} {X : Cx} (g : XG c P w mg base k N Γ ws sc X) {f : Nat} {x : String} {n : Nat} (h : Γ.fns[f]? = some (x, n)) :
    ∃ (fa : Addr) (fd : FuncData) (ps : List Str), FnOk X.prog X.w X.K X.mg X.base (L2.CX X.prog X.w) k fa fd ps (spF c U f n) ∧ X.mg (x : Str) = some (.ref fa) ∧ PySem.W.keepIn X.K (.ref fa) = true ∧ Binds X.K fd ps [] ∧ c.fa f = some fa := by
  obtain ⟨fa, fd, ps, F, hm, hk, hb, hf⟩ := S.fn f x n h
  refine ⟨fa, fd, ps, ?_, ?_, ?_, ?_, hf⟩
  · rw [g.prog, g.w, g.K, g.mg, g.base]; exact F
  · rw [g.mg]; exact hm
  · rw [g.K]; exact hk
  · rw [g.K]; exact hb
theorem glob_ok (S : SgOk c P w mg base k Γ U) {ws sc : Scope} {X : Cx} (g : XG c P w mg base k N Γ ws sc X) {x : String} {v : Vl} {p : Pos} {W : WX} (h1 : glB sc (x : Str) = true) (h2 : (!dbg (x : Str)) = true) (h3 : gvB Γ x v = true) : PE X (.Name (x : Str) p) (tEv c U W (.glob x v)) := by
  unfold gvB at h3
  split at h3
  · rw [List.any_eq_true] at h3
    obtain ⟨⟨x', d'⟩, hp, hq⟩ := h3
    rw [Bool.and_eq_true, beq_iff_eq] at hq
    obtain ⟨q1, q2⟩ := hq
    have q1 : x' = x := q1
    have q2 := sameD_eq _ _ q2
    have q2 : d' = _ := q2
    subst q1
    subst q2
    obtain ⟨u, v, hm, r, rr⟩ := S.gv _ _ hp
    exact se_glob (pe_glob (g.gl h1) (by rw [g.mg]; exact hm) r (bnot h2)) fun g' => .d (rr _ _)
  · cases hf : Γ.fns[‹Nat›]? with
    | none => rw [hf] at h3; cases h3
    | some p =>
      obtain ⟨x', n⟩ := p
      rw [hf] at h3
      have e : x' = x := by simpa using h3
      subst e
      obtain ⟨fa, fd, ps, F, hm, hk, hb, hc⟩ := fn_at S g hf
      exact se_glob (pe_glob (v := .ref fa) (g.gl h1) hm rfl (bnot h2)) fun g' => .fnv hc
  · cases h3
theorem PE.or {X : Cx} {e : Expr} {t1 t2 : TE} (h1 : PE X e t1) (h2 : PE X e t2) : PE X e (fun σ H Q => t1 σ H Q ∨ t2 σ H Q) := ⟨fun pins s σ H Q I h => h.elim (h1.run pins s σ H Q I) (h2.run pins s σ H Q I)⟩
/-- a function object that a name holds, called -/
theorem pe_callG {X : Cx} {i : Nat} {x : Str} {p pos : Pos} {e : Expr} {es : List Expr} {t : TA} {R : Addr → List V → Hp → VK → L2.St → Prop}
    (hc : ∀ (pins : List (Addr × Obj)) (s : Shared) (σ : L2.St) (H : Hp) (vs : List V) (us : List Value) (a : Addr) (Q : VK), Inv X pins σ H s → Vals vs us → R a vs H Q σ → PySem.W.FnAt a s.heap ∧ wpAny (model X.prog X.w) X.A (call (.ref a) us) (EP X pins σ Q) X.xe s)
    (hN : X.N[i]? = some x) (hv : Vis X.env.scope x) (hes : (e :: es).all plainX = true) (ha : PA X (e :: es) t) (hdb : (x == ("__debug__" : Str)) = false) (hcd : (x == ("__classdict__" : Str)) = false) :
    PE X (.Call (.Name x p) (e :: es) [] pos) (fun σ H Q => ∃ a, σ[i]? = some (some (.ref a)) ∧ (∃ oc od fd sl, H a = some (exO a ⟨oc, od, .func fd, sl⟩)) ∧ t σ H fun vs H1 => R a vs H1 Q σ) := by
  rw [List.all_cons, Bool.and_eq_true] at hes
  refine ⟨fun pins s σ H Q I h => ?_⟩
  obtain ⟨a, hs, ⟨oc, od, fd, sl, hat⟩, ht⟩ := h
  refine wpAny_Call_Name_kw (thn ((pe_var (pos := p) hN hv hdb hcd).run pins s σ H (fun v H1 => v = .ref a ∧ H1 = H) I ⟨.ref a, hs, rfl, rfl⟩) fun u s1 ⟨v, H1, I1, r1, q1⟩ => ?_)
  obtain ⟨rfl, rfl⟩ := q1
  cases r1
  have of1 := (I1.hok a _ hat).1
  exact PySem.W.callWith_F ⟨_, _, _, _, of1⟩ (thn (ha.run pos pins s1 σ _ _ I1 ht) fun us s2 ⟨vs, H2, I2, r, q⟩ => hc _ _ _ _ _ _ _ _ I2 r q) (star_cons hes.1) (star_any hes.2 _)
theorem pe_callG0 {X : Cx} {i : Nat} {x : Str} {p pos : Pos} {R : Addr → List V → Hp → VK → L2.St → Prop}
    (hc : ∀ (pins : List (Addr × Obj)) (s : Shared) (σ : L2.St) (H : Hp) (vs : List V) (us : List Value) (a : Addr) (Q : VK), Inv X pins σ H s → Vals vs us → R a vs H Q σ → PySem.W.FnAt a s.heap ∧ wpAny (model X.prog X.w) X.A (call (.ref a) us) (EP X pins σ Q) X.xe s)
    (hN : X.N[i]? = some x) (hv : Vis X.env.scope x) (hdb : (x == ("__debug__" : Str)) = false) (hcd : (x == ("__classdict__" : Str)) = false) :
    PE X (.Call (.Name x p) [] [] pos) (fun σ H Q => ∃ a, σ[i]? = some (some (.ref a)) ∧ (∃ oc od fd sl, H a = some (exO a ⟨oc, od, .func fd, sl⟩)) ∧ R a [] H Q σ) := by
  refine ⟨fun pins s σ H Q I h => ?_⟩
  obtain ⟨a, hs, ⟨oc, od, fd, sl, hat⟩, ht⟩ := h
  refine wpAny_Call_Name_kw (thn ((pe_var (pos := p) hN hv hdb hcd).run pins s σ H (fun v H1 => v = .ref a ∧ H1 = H) I ⟨.ref a, hs, rfl, rfl⟩) fun u s1 ⟨v, H1, I1, r1, q1⟩ => ?_)
  obtain ⟨rfl, rfl⟩ := q1
  cases r1
  obtain ⟨f1, f2⟩ := hc _ _ _ _ _ _ _ _ I1 .nil ht
  exact PySem.W.callWith_F0 f1 f2
theorem repBs_of {c : Glb} {g : G} : ∀ {vs : List Vl} {ws : List V}, RepVs c g vs ws → vs.all plainV = true → RepBs c g vs ws
  | _, _, .nil, _ => .nil
  | _, _, .cons r t, h => by
    rw [List.all_cons, Bool.and_eq_true] at h
    refine .cons ?_ (repBs_of t h.2)
    cases r with
    | d r => exact .d r
    | ref e => exact .ref e
    | fnv e => exact .fnv e
    | exn e => cases h.1
    | clo k r => cases h.1
    | scr a b r => cases h.1
/-- what a closure's call wants -/
def CloR (c : Glb) (U : EV.Env) (W : WX) (a : Addr) (vs : List V) (H : Hp) (Q : VK) (σ : L2.St) : Prop :=
  ∃ (g : G) (fl : Nat) (cs ds : List Vl), g.H = H ∧ GOk c g ∧ RepV c g (.clo fl cs) (.ref a) ∧ RepBs c g ds vs ∧ Out c g W σ (U.cf fl (cs ++ ds) g.S) (fun v g' => ∀ w, RepV c g' v w → Q w g'.H)
theorem clo_call (S : SgOk c P w mg base k Γ U) {ws sc : Scope} {X : Cx} (g : XG c P w mg base k N Γ ws sc X) (hh : Γ.hot = false) {W : WX} (tk : Takes X W) (pins : List (Addr × Obj)) (s : Shared) (σ : L2.St) (H : Hp) (vs : List V) (us : List Value) (a : Addr) (Q : VK)
    (I : Inv X pins σ H s) (rv : Vals vs us) (h : CloR c U W a vs H Q σ) : PySem.W.FnAt a s.heap ∧ wpAny (model X.prog X.w) X.A (call (.ref a) us) (EP X pins σ Q) X.xe s := by
  obtain ⟨g0, fl, cs, ds, rfl, ok, rc, rd, out⟩ := h
  have L : LamOk c X.prog X.w X.mg X.base k U.cf := by rw [g.prog, g.w, g.mg, g.base]; exact S.lam
  have e0 := I.env0
  rw [g.K] at e0
  cases rc with
  | clo C rb =>
    obtain ⟨dV, doc, fo, _⟩ := C.fo
    refine ⟨⟨_, _, _, _, (I.hok a _ fo).1⟩, ?_⟩
    refine wpAny_call (codeAny_mono (L fl _ g0 cs ds a _ _ _ _ _ _ _ us _ vs X.A X.stack s Q (WE W σ) ok C rb rd rv (g.room hh) e0 out) fun r s' hq => ?_)
    cases r with
    | error e => exact passAt tk σ pins g0.H s e s' I hq
    | ok fl =>
      cases fl with
      | ret u => exact I.after hq
      | next => exact False.elim hq
      | brk => exact False.elim hq
      | cont => exact False.elim hq
theorem callv_ok (S : SgOk c P w mg base k Γ U) {ws sc : Scope} {X : Cx} (g : XG c P w mg base k N Γ ws sc X) (hh : Γ.hot = false) {W : WX} (tk : Takes X W) {i : Nat} {y : Str} {p pos : Pos} {a : Expr} {as : List Expr} {es : LEs} (h1 : nmB N sc i y = true) (h2 : (a :: as).all plainX = true) (ha : PA X (a :: as) (tEvs c U W es)) :
    PE X (.Call (.Name y p) (a :: as) [] pos) (tEv c U W (.callv i es)) := by
  obtain ⟨q1, q2, q3, q4⟩ := nm_ok g h1
  refine PE.imp (PE.or (pe_callD (AV := fun f a => c.fa f = some a) (sp := fun f vs H Q E => ∃ x n, Γ.fns[f]? = some (x, n) ∧ spF c U f n vs H Q E) tk (fun f a hf => ?_) q1 q2 h2 ha q3 q4) (pe_callG (R := CloR c U W) (clo_call S g hh tk) q1 q2 h2 ha q3 q4)) fun σ H Q => ?_
  · obtain ⟨⟨x, n⟩, hx⟩ := S.fa f a hf
    obtain ⟨fa, fd, ps, F, hm, hk, hb, hc⟩ := fn_at S g hx
    rw [hf] at hc
    cases hc
    exact ⟨k, fd, ps, F.imp fun vs H Q E ⟨x', n', e, q⟩ => by rw [hx] at e; cases e; exact q, g.room hh, hk, hb⟩
  · rintro ⟨g0, loc, rfl, ok, lo, out⟩
    have out : Out c g0 W σ (match loc[i]? with
      | some (some (.fnv f)) => (evEs U es loc g0.S).bind fun vs S1 => U.cf f vs S1
      | some (some (.clo f cs)) => (evEs U es loc g0.S).bind fun vs S1 => if vs.all plainV then U.cf f (cs ++ vs) S1 else .stuck
      | _ => .stuck) _ := out
    split at out
    · rename_i f hf
      left
      obtain ⟨w, hw, rw1⟩ := lo.at_ _ _ hf
      cases rw1 with
      | @fnv _ fa hfa =>
        refine ⟨f, fa, hw, hfa, g0, loc, rfl, ok, lo, (Out.bind out).imp fun vs g1 ⟨le1, ok1, out1⟩ ws rws => ?_⟩
        obtain ⟨⟨x, n⟩, hx⟩ := S.fa f fa hfa
        refine ⟨x, n, hx, g1, vs, rfl, ok1, rws, ?_, out1⟩
        by_cases hn : vs.length = n
        · exact hn
        · rw [S.ar f x n vs _ hx hn] at out1
          exact out1.elim
    · rename_i f cs hf
      right
      obtain ⟨w, hw, rw1⟩ := lo.at_ _ _ hf
      have rw2 := rw1
      cases rw1 with
      | @clo _ _ fa _ _ _ _ _ _ _ _ _ C rb =>
        refine ⟨fa, hw, (let ⟨_, _, fo, _⟩ := C.fo; ⟨_, _, _, _, fo⟩), g0, loc, rfl, ok, lo, (Out.bind out).imp fun vs g1 ⟨le1, ok1, out1⟩ ws rws => ?_⟩
        split at out1
        · rename_i hp
          exact ⟨g1, f, cs, vs, rfl, ok1, rw2.le ok le1, repBs_of rws hp, out1⟩
        · exact out1.elim
    · exact out.elim
theorem callv0_ok (S : SgOk c P w mg base k Γ U) {ws sc : Scope} {X : Cx} (g : XG c P w mg base k N Γ ws sc X) (hh : Γ.hot = false) {W : WX} (tk : Takes X W) {i : Nat} {y : Str} {p pos : Pos} (h1 : nmB N sc i y = true) (hz : Γ.fns.all (fun p => p.2 != 0) = true) :
    PE X (.Call (.Name y p) [] [] pos) (tEv c U W (.callv i .nil)) := by
  obtain ⟨q1, q2, q3, q4⟩ := nm_ok g h1
  refine PE.imp (pe_callG0 (R := CloR c U W) (clo_call S g hh tk) q1 q2 q3 q4) fun σ H Q => ?_
  rintro ⟨g0, loc, rfl, ok, lo, out⟩
  have out : Out c g0 W σ (match loc[i]? with
      | some (some (.fnv f)) => U.cf f [] g0.S
      | some (some (.clo f cs)) => U.cf f (cs ++ []) g0.S
      | _ => .stuck) (fun v g' => ∀ w, RepV c g' v w → Q w g'.H) := by
    have out : Out c g0 W σ (match loc[i]? with
      | some (some (.fnv f)) => (evEs U .nil loc g0.S).bind fun vs S1 => U.cf f vs S1
      | some (some (.clo f cs)) => (evEs U .nil loc g0.S).bind fun vs S1 => if vs.all plainV then U.cf f (cs ++ vs) S1 else .stuck
      | _ => .stuck) (fun v g' => ∀ w, RepV c g' v w → Q w g'.H) := out
    simpa only [evEs, R.bind_ok, List.all_nil, if_true] using out
  split at out
  · rename_i f hf
    obtain ⟨w, hw, rw1⟩ := lo.at_ _ _ hf
    cases rw1 with
    | @fnv _ fa hfa =>
      obtain ⟨⟨x, n⟩, hx⟩ := S.fa f fa hfa
      have hn : n ≠ 0 := by
        rw [List.all_eq_true] at hz
        simpa using hz _ (List.mem_of_getElem? hx)
      rw [S.ar f x n [] _ hx (by simpa using Ne.symm hn)] at out
      exact out.elim
  · rename_i f cs hf
    obtain ⟨w, hw, rw1⟩ := lo.at_ _ _ hf
    have rw2 := rw1
    cases rw1 with
    | @clo _ _ fa _ _ _ _ _ _ _ _ _ C rb => exact ⟨fa, hw, (let ⟨_, _, fo, _⟩ := C.fo; ⟨_, _, _, _, fo⟩), g0, f, cs, [], rfl, ok, rw2, .nil, out⟩
  · exact out.elim
theorem isx_ok (S : SgOk c P w mg base k Γ U) {ws sc : Scope} {X : Cx} (g : XG c P w mg base k N Γ ws sc X) {W : WX} {i ci : Nat} {x : String} {z : Str} {p p2 p3 pos : Pos} (h3 : nmB N sc i z = true) (h4 : glB sc "isinstance" = true) (h5 : glB sc (x : Str) = true) (h6 : (!dbg (x : Str)) = true) (h7 : Γ.blt.contains "isinstance" = true) (h8 : Γ.cls[ci]? = some x) :
    PE X (.Call (.Name "isinstance" p) [.Name z p2, .Name (x : Str) p3] [] pos) (tEv c U W (.isx i x ci)) := by
  obtain ⟨q1, q2, q3, q4⟩ := nm_ok g h3
  obtain ⟨cv, v, hca, rv, hun, hn⟩ := S.cl ci x h8
  have hx : PE X (.Name (x : Str) p3) (tC v) := by
    rcases hn with hn | ⟨hn, hb, hne⟩
    · exact pe_glob (g.gl h5) (by rw [g.mg]; exact hn) rv (bnot h6)
    · exact pe_bltn (g.gl h5) (by rw [g.mg]; exact hn) hb rv hne (bnot h6)
  have ha : PA X [.Name z p2, .Name (x : Str) p3] (tCons (tVar i) (tCons (tC v) tNil)) := pa_cons (pe_var q1 q2 q3 q4) (pa_cons hx pa_nil)
  by_cases hex : ∃ a j, c.ex = some (a, j)
  · obtain ⟨a, j, hex⟩ := hex
    obtain ⟨D, hD, hcr⟩ := g.isE a j hex
    refine PE.imp (pe_callB hcr (g.gl h4) (S.none g h7) (by decide +kernel) ha (by decide) (by decide) rfl rfl) fun σ H Q => ?_
    rintro ⟨g0, loc, rfl, ok, lo, out⟩
    have out : Out c g0 W σ (match loc[i]? with
      | some (some (.exn k _)) => R.opt (U.sub k ci) fun b => R.ok (Vl.d (.bl b)) g0.S
      | _ => .stuck) _ := out
    split at out
    · rename_i k' xs hl
      obtain ⟨w0, hw, rw0⟩ := lo.at_ _ _ hl
      cases rw0 with
      | exn e =>
        rw [hex] at e
        cases e
        obtain ⟨b, hb, o2⟩ := Out.opt out
        obtain ⟨D', cv', d1, d2, d3, d4, d5⟩ := S.sb _ _ _ hb
        rw [hD] at d1
        cases d1
        rw [hca] at d2
        cases d2
        refine ⟨_, hw, v, cv, b, rfl, hun, by rw [g.K]; exact d4, (Out.here o2 ok) _ (.d (.bl b))⟩
    · exact out.elim
  · refine ⟨fun pins s σ H Q I h => ?_⟩
    exfalso
    obtain ⟨g0, loc, rfl, ok, lo, out⟩ := h
    have out : Out c g0 W σ (match loc[i]? with
      | some (some (.exn k _)) => R.opt (U.sub k ci) fun b => R.ok (Vl.d (.bl b)) g0.S
      | _ => .stuck) _ := out
    split at out
    · rename_i k' xs hl
      obtain ⟨w0, hw, rw0⟩ := lo.at_ _ _ hl
      cases rw0 with
      | exn e => exact hex ⟨_, _, e⟩
    · exact out.elim
/-- a lambda stands in its maker's own scope -/
theorem lamB_mn {fl : Nat} {caps : List Nat} {sc : Scope} {e : Expr} (h : lamB Γ N fl caps sc e = true) : Γ.mn ≠ [] ∧ sc.names = Γ.mn := by
  unfold lamB at h
  split at h
  · simp only [Bool.and_eq_true, decide_eq_true_eq] at h
    obtain ⟨⟨⟨⟨⟨⟨h1, h2⟩, h3⟩, h4⟩, h5⟩, h6⟩, h7⟩ := h
    exact ⟨(fun z => by rw [z] at h1; cases h1), h2⟩
  · cases h
theorem okAs_mn : ∀ (ls : LEs) (sc : Scope) (es : List Expr), okAs Γ N ls sc es = true → someLam ls = true → Γ.mn ≠ [] ∧ sc.names = Γ.mn
  | .nil, sc, es, h, hs => by cases hs
  | .cons l ls, sc, es, h, hs => by
    cases l with
    | lam fl caps =>
      simp only [okAs] at h
      split at h
      · simp only [Bool.and_eq_true] at h
        exact lamB_mn h.1.2
      · cases h
    | _ =>
      simp only [okAs] at h
      split at h
      · simp only [Bool.and_eq_true] at h
        exact okAs_mn ls sc _ h.2 hs
      · cases h
/-! ### all of it -/
mutual
theorem ok_snd (S : SgOk c P w mg base k Γ U) : ∀ (l : LE) (m : Nat) (ws sc : Scope) (e : Expr) (X : Cx), XG c P w mg base k N Γ ws sc X → ok Γ N l m sc e = true → Sound c U X l m e
  | .lit d, m, ws, sc, e, X, g, h => by
    simp only [ok, Bool.and_eq_true] at h
    obtain ⟨hm, h⟩ := h
    split at h
    · exact snd_v hm fun W tk => lit_ok h
    · cases h
  | .var i, m, ws, sc, e, X, g, h => by
    simp only [ok, Bool.and_eq_true] at h
    obtain ⟨hm, h⟩ := h
    split at h
    · obtain ⟨q1, q2, q3, q4⟩ := nm_ok g h
      exact snd_vt hm rfl fun W tk => se_var (pe_var q1 q2 q3 q4)
    · cases h
  | .glob x v, m, ws, sc, e, X, g, h => by
    simp only [ok, Bool.and_eq_true] at h
    obtain ⟨hm, h⟩ := h
    split at h
    · simp only [Bool.and_eq_true] at h
      obtain ⟨⟨⟨h1, h2⟩, h3⟩, h4⟩ := h
      have e1 := str_eq h1
      subst e1
      exact snd_v hm fun W tk => glob_ok S g h2 h3 h4
    · cases h
  | .op o a b, m, ws, sc, e, X, g, h => by
    simp only [ok, Bool.and_eq_true] at h
    obtain ⟨hm, h⟩ := h
    split at h
    · simp only [Bool.and_eq_true, decide_eq_true_eq] at h
      obtain ⟨⟨h1, h2⟩, h3⟩ := h
      subst h1
      exact snd_n hm rfl hd_op fun W tk => se_op g.K ((ok_snd S a 0 ws sc _ X g h2 W tk).1 rfl) ((ok_snd S b 0 ws sc _ X g h3 W tk).1 rfl)
    · cases h
  | .neg a, m, ws, sc, e, X, g, h => by
    simp only [ok, Bool.and_eq_true] at h
    obtain ⟨hm, h⟩ := h
    split at h
    · simp only [Bool.and_eq_true, decide_eq_true_eq] at h
      obtain ⟨h1, h2⟩ := h
      subst h1
      exact snd_v hm fun W tk => se_neg ((ok_snd S a 0 ws sc _ X g h2 W tk).1 rfl)
    · cases h
  | .not a, m, ws, sc, e, X, g, h => by
    simp only [ok, Bool.and_eq_true] at h
    obtain ⟨hm, h⟩ := h
    split at h
    · simp only [Bool.and_eq_true, decide_eq_true_eq] at h
      obtain ⟨h1, h2⟩ := h
      subst h1
      refine fun W tk => ⟨fun z => ?_, fun z => ?_, fun z => ?_⟩
      · subst z; exact se_not ((ok_snd S a 0 ws sc _ X g h2 W tk).1 rfl)
      · subst z; cases hm
      · subst z; exact ⟨st_not ((ok_snd S a 2 ws sc _ X g h2 W tk).2.2 rfl).1, fun op vs bp e' => by cases e'⟩
    · cases h
  | .and a b, m, ws, sc, e, X, g, h => by
    simp only [ok, Bool.and_eq_true] at h
    obtain ⟨hm, h⟩ := h
    split at h
    · simp only [Bool.and_eq_true, decide_eq_true_eq] at h
      obtain ⟨⟨h1, h2⟩, h3⟩ := h
      subst h1
      refine fun W tk => ⟨fun z => ?_, fun z => ?_, fun z => ?_⟩
      · subst z; exact se_and ((ok_snd S a 0 ws sc _ X g h2 W tk).1 rfl) (pe_one ((ok_snd S b 0 ws sc _ X g h3 W tk).1 rfl))
      · subst z; cases hm
      · subst z
        have q := fun p : Pos => sw_and (pos := p) ((ok_snd S a 2 ws sc _ X g h2 W tk).2.2 rfl).1 (pw_and1 ((ok_snd S b 2 ws sc _ X g h3 W tk).2.2 rfl).1)
        exact ⟨(q _).pt, fun op vs bp e' => by cases e'; exact q _⟩
    · simp only [Bool.and_eq_true, decide_eq_true_eq] at h
      obtain ⟨⟨h1, h2⟩, h3⟩ := h
      subst h1
      refine fun W tk => ⟨fun z => ?_, fun z => ?_, fun z => ?_⟩
      · subst z; exact se_and ((ok_snd S a 0 ws sc _ X g h2 W tk).1 rfl) ((ok_snd S b 0 ws sc _ X g h3 W tk).1 rfl)
      · subst z; cases hm
      · subst z
        have q := sw_and ((ok_snd S a 2 ws sc _ X g h2 W tk).2.2 rfl).1 (((ok_snd S b 2 ws sc _ X g h3 W tk).2.2 rfl).2 _ _ _ rfl)
        exact ⟨q.pt, fun op vs bp e' => by cases e'; exact q⟩
    · cases h
  | .or a b, m, ws, sc, e, X, g, h => by
    simp only [ok, Bool.and_eq_true] at h
    obtain ⟨hm, h⟩ := h
    split at h
    · simp only [Bool.and_eq_true, decide_eq_true_eq] at h
      obtain ⟨⟨h1, h2⟩, h3⟩ := h
      subst h1
      refine fun W tk => ⟨fun z => ?_, fun z => ?_, fun z => ?_⟩
      · subst z; exact se_or ((ok_snd S a 0 ws sc _ X g h2 W tk).1 rfl) (pe_one ((ok_snd S b 0 ws sc _ X g h3 W tk).1 rfl))
      · subst z; cases hm
      · subst z
        have q := fun p : Pos => sw_or (pos := p) ((ok_snd S a 2 ws sc _ X g h2 W tk).2.2 rfl).1 (pw_or1 ((ok_snd S b 2 ws sc _ X g h3 W tk).2.2 rfl).1)
        exact ⟨(q _).pt, fun op vs bp e' => by cases e'; exact q _⟩
    · simp only [Bool.and_eq_true, decide_eq_true_eq] at h
      obtain ⟨⟨h1, h2⟩, h3⟩ := h
      subst h1
      refine fun W tk => ⟨fun z => ?_, fun z => ?_, fun z => ?_⟩
      · subst z; exact se_or ((ok_snd S a 0 ws sc _ X g h2 W tk).1 rfl) ((ok_snd S b 0 ws sc _ X g h3 W tk).1 rfl)
      · subst z; cases hm
      · subst z
        have q := sw_or ((ok_snd S a 2 ws sc _ X g h2 W tk).2.2 rfl).1 (((ok_snd S b 2 ws sc _ X g h3 W tk).2.2 rfl).2 _ _ _ rfl)
        exact ⟨q.pt, fun op vs bp e' => by cases e'; exact q⟩
    · cases h
  | .cmp o a b, m, ws, sc, e, X, g, h => by
    simp only [ok, Bool.and_eq_true] at h
    obtain ⟨hm, h⟩ := h
    split at h
    · simp only [Bool.and_eq_true, decide_eq_true_eq] at h
      obtain ⟨⟨⟨h1, h2⟩, h3⟩, h4⟩ := h
      subst h1
      refine fun W tk => ⟨fun z => ?_, fun z => ?_, fun z => ?_⟩
      · exact se_cmp g.K g.hu ((ok_snd S a 0 ws sc _ X g h3 W tk).1 rfl) ((ok_snd S b 0 ws sc _ X g h4 W tk).1 rfl) (nomark_ok h2)
      · subst z; cases hm
      · exact ⟨st_cmp g.K g.hu ((ok_snd S a 0 ws sc _ X g h3 W tk).1 rfl) ((ok_snd S b 0 ws sc _ X g h4 W tk).1 rfl) (nomark_ok h2), fun op vs bp e' => by cases e'⟩
    · cases h
  | .chain o p a b d, m, ws, sc, e, X, g, h => by
    simp only [ok, Bool.and_eq_true] at h
    obtain ⟨hm, h⟩ := h
    split at h
    · simp only [Bool.and_eq_true, decide_eq_true_eq] at h
      obtain ⟨⟨⟨⟨⟨h1, h2⟩, h3⟩, h4⟩, h5⟩, h6⟩ := h
      subst h1
      subst h2
      refine fun W tk => ⟨fun z => ?_, fun z => ?_, fun z => ?_⟩
      · exact se_chain g.K g.hu ((ok_snd S a 0 ws sc _ X g h4 W tk).1 rfl) ((ok_snd S b 0 ws sc _ X g h5 W tk).1 rfl) ((ok_snd S d 0 ws sc _ X g h6 W tk).1 rfl) (nomark_ok h3)
      · subst z; cases hm
      · exact ⟨st_chain g.K g.hu ((ok_snd S a 0 ws sc _ X g h4 W tk).1 rfl) ((ok_snd S b 0 ws sc _ X g h5 W tk).1 rfl) ((ok_snd S d 0 ws sc _ X g h6 W tk).1 rfl) (nomark_ok h3), fun op vs bp e' => by cases e'⟩
    · cases h
  | .ife d a b, m, ws, sc, e, X, g, h => by
    simp only [ok, Bool.and_eq_true] at h
    obtain ⟨hm, h⟩ := h
    split at h
    · simp only [Bool.and_eq_true] at h
      obtain ⟨⟨h1, h2⟩, h3⟩ := h
      exact snd_v hm fun W tk => se_ife ((ok_snd S d 2 ws sc _ X g h1 W tk).2.2 rfl).1 ((ok_snd S a 0 ws sc _ X g h2 W tk).1 rfl) ((ok_snd S b 0 ws sc _ X g h3 W tk).1 rfl)
    · cases h
  | .tup es, m, ws, sc, e, X, g, h => by
    simp only [ok, Bool.and_eq_true] at h
    obtain ⟨hm, h⟩ := h
    split at h
    · simp only [Bool.and_eq_true, decide_eq_true_eq] at h
      exact snd_n hm rfl hd_tup fun W tk => se_tup h.1 (okEs_snd S es ws sc _ X g h.2 W tk)
    · cases h
  | .lst es, m, ws, sc, e, X, g, h => by
    simp only [ok, Bool.and_eq_true] at h
    obtain ⟨hm, h⟩ := h
    split at h
    · simp only [Bool.and_eq_true, decide_eq_true_eq] at h
      exact snd_n hm rfl hd_lst fun W tk => se_lst h.1 (okEs_snd S es ws sc _ X g h.2 W tk)
    · cases h
  | .thaw a, m, ws, sc, e, X, g, h => by
    simp only [ok, Bool.and_eq_true] at h
    obtain ⟨hm, h⟩ := h
    exact snd_v hm fun W tk => pe_thaw ((ok_snd S a 1 ws sc _ X g h W tk).2.1 rfl).1
  | .frz a, m, ws, sc, e, X, g, h => by
    simp only [ok, Bool.and_eq_true] at h
    obtain ⟨hm, h⟩ := h
    exact snd_v hm fun W tk => se_frz ((ok_snd S a 0 ws sc _ X g h W tk).1 rfl)
  | .idx a i, m, ws, sc, e, X, g, h => by
    simp only [ok, Bool.and_eq_true] at h
    obtain ⟨hm, h⟩ := h
    split at h
    · simp only [Bool.and_eq_true] at h
      obtain ⟨⟨h1, h2⟩, h3⟩ := h
      exact snd_vt hm rfl fun W tk => se_idx g.K g.hu h1 ((ok_snd S a 0 ws sc _ X g h2 W tk).1 rfl) ((ok_snd S i 0 ws sc _ X g h3 W tk).1 rfl)
    · cases h
  | .slc a lo hi, m, ws, sc, e, X, g, h => by
    simp only [ok, Bool.and_eq_true] at h
    obtain ⟨hm, h⟩ := h
    split at h
    · simp only [Bool.and_eq_true] at h
      obtain ⟨⟨h1, h2⟩, h3⟩ := h
      exact snd_n hm rfl hd_slc fun W tk => se_slc g.K ((ok_snd S a 0 ws sc _ X g h1 W tk).1 rfl) (okO_snd S lo ws sc _ X g h2 W tk) (okO_snd S hi ws sc _ X g h3 W tk)
    · cases h
  | .rev a, m, ws, sc, e, X, g, h => by
    simp only [ok, Bool.and_eq_true] at h
    obtain ⟨hm, h⟩ := h
    split at h
    · simp only [Bool.and_eq_true, decide_eq_true_eq] at h
      obtain ⟨⟨h1, h2⟩, h3⟩ := h
      subst h1
      subst h2
      exact snd_n hm rfl hd_rev fun W tk => se_rev g.K ((ok_snd S a 0 ws sc _ X g h3 W tk).1 rfl)
    · cases h
  | .call f x es, m, ws, sc, e, X, g, h => by
    simp only [ok, Bool.and_eq_true] at h
    obtain ⟨hm, h⟩ := h
    split at h
    · simp only [Bool.and_eq_true] at h
      obtain ⟨⟨⟨⟨⟨⟨h0, h1⟩, h2⟩, h3⟩, h4⟩, h5⟩, h6⟩ := h
      have e1 := str_eq h1
      subst e1
      unfold fnB at h4
      cases hf : Γ.fns[f]? with
      | none => rw [hf] at h4; cases h4
      | some p =>
        obtain ⟨x', n⟩ := p
        rw [hf] at h4
        have h4 : (x' == x && n == lenEs es) = true := h4
        rw [Bool.and_eq_true, beq_iff_eq, beq_iff_eq] at h4
        obtain ⟨q1, q2⟩ := h4
        subst q1
        obtain ⟨fa, fd, ps, F, hmm, hk, hb, hc⟩ := fn_at S g hf
        split at h6
        · rename_i hsl
          have hmn : Γ.mn ≠ [] ∧ sc.names = Γ.mn := okAs_mn es sc _ h6 hsl
          exact snd_vt hm rfl fun W tk => se_callL F (g.room (bnot h0)) (g.gl h2) hmm hk hb tk h5 q2.symm (g.mkr hmn.1 hmn.2).2 (fun vs S0 v S' e => S.pl f vs S0 v S' e) (okAs_snd S es ws sc _ X g h6 W tk) (bnot h3)
        · exact snd_vt hm rfl fun W tk => se_call F (g.room (bnot h0)) (g.gl h2) hmm hk hb tk h5 q2.symm (okEs_snd S es ws sc _ X g h6 W tk) (bnot h3)
    · cases h
  | .callv i es, m, ws, sc, e, X, g, h => by
    simp only [ok, Bool.and_eq_true] at h
    obtain ⟨hm, h⟩ := h
    split at h
    · simp only [Bool.and_eq_true] at h
      obtain ⟨⟨⟨h0, h1⟩, h2⟩, h3⟩ := h
      exact snd_vt hm rfl fun W tk => callv_ok S g (bnot h0) tk h1 h2 (okEs_snd S es ws sc _ X g h3 W tk)
    · simp only [Bool.and_eq_true] at h
      obtain ⟨⟨⟨h0, h1⟩, h2⟩, h3⟩ := h
      cases es with
      | nil => exact snd_vt hm rfl fun W tk => callv0_ok S g (bnot h0) tk h1 h3
      | cons e es => cases h2
    · cases h
  | .bi b es, m, ws, sc, e, X, g, h => by
    simp only [ok, Bool.and_eq_true] at h
    obtain ⟨hm, h⟩ := h
    split at h
    · simp only [Bool.and_eq_true] at h
      obtain ⟨⟨⟨⟨⟨h0, h1⟩, h2⟩, h3⟩, h4⟩, h5⟩ := h
      have e1 := str_eq h1
      subst e1
      exact snd_nt rfl rfl hd_bi fun W tk => se_bi (g.calm (bnot h0)) g.hu g.K (g.gl h2) (S.none g h3) h4 (okEs_snd S es ws sc _ X g h5 W tk)
    · cases h
  | .mt mm o es, m, ws, sc, e, X, g, h => by
    simp only [ok, Bool.and_eq_true] at h
    obtain ⟨hm, h⟩ := h
    split at h
    · simp only [Bool.and_eq_true, decide_eq_true_eq] at h
      obtain ⟨⟨⟨⟨⟨⟨h1, h2⟩, h3⟩, h4⟩, h5⟩, h6⟩, h7⟩ := h
      have e1 := str_eq h1
      subst e1
      refine snd_vt hm rfl fun W tk => ?_
      have q := okEs_snd S es ws sc _ X g h7 W tk
      rename_i as cpos
      cases as with
      | nil =>
        have e2 : es = .nil := by
          cases es with
          | nil => rfl
          | cons _ _ => simp only [okEs] at h7; cases h7
        subst e2
        exact se_mt0 g.K g.hu ((ok_snd S o 0 ws sc _ X g h6 W tk).1 rfl) h2 h5
      | cons a as => exact se_mt g.K g.hu ((ok_snd S o 0 ws sc _ X g h6 W tk).1 rfl) q h2 h3 h4 h5
    · cases h
  | .isi a t, m, ws, sc, e, X, g, h => by
    simp only [ok, Bool.and_eq_true] at h
    obtain ⟨hm, h⟩ := h
    split at h
    · simp only [Bool.and_eq_true] at h
      obtain ⟨⟨⟨⟨⟨⟨⟨h1, h2⟩, h3⟩, h4⟩, h5⟩, h6⟩, h7⟩, h8⟩ := h
      have e1 := str_eq h1
      subst e1
      have e2 := str_eq h2
      subst e2
      exact snd_vt hm rfl fun W tk => se_isi g.K (g.gl h3) (S.none g h5) (g.gl h4) (S.none g h6) h7 ((ok_snd S a 0 ws sc _ X g h8 W tk).1 rfl)
    · cases h
  | .isx i x ci, m, ws, sc, e, X, g, h => by
    simp only [ok, Bool.and_eq_true] at h
    obtain ⟨hm, h⟩ := h
    split at h
    · simp only [Bool.and_eq_true, decide_eq_true_eq] at h
      obtain ⟨⟨⟨⟨⟨⟨⟨⟨h0, h1⟩, h2⟩, h3⟩, h4⟩, h5⟩, h6⟩, h7⟩, h8⟩ := h
      have e1 := str_eq h1
      subst e1
      have e2 := str_eq h2
      subst e2
      exact snd_vt hm rfl fun W tk => isx_ok S g h3 h4 h5 h6 h7 h8
    · cases h
  | .comp elt gi t cn own, m, ws, sc, e, X, g, h => by
    simp only [ok, Bool.and_eq_true] at h
    obtain ⟨hm, h⟩ := h
    split at h
    · rename_i eelt tg iter ifs kk scope cp
      simp only [Bool.and_eq_true, decide_eq_true_eq] at h
      obtain ⟨⟨⟨⟨⟨⟨⟨⟨⟨⟨h0, h1⟩, h2⟩, hmn⟩, h3⟩, h4⟩, h5⟩, h6⟩, h7⟩, h8⟩, h9⟩ := h
      subst h1
      have hh := bnot h0
      have hown : ∀ i ∈ slotsT t, i ∈ (ownN N own).map Prod.snd := fun i hi => by
        rw [h4]
        rw [List.all_eq_true] at h5
        simpa using h5 i hi
      have key : ∀ W, Takes X W → _ := fun W tk => se_comp (c := c) (U := U) (W := W) (own := ownN N own) (pos := cp) (le := elt) (t := t) (lc := cn) (g.calm hh) g.ndN (okI_snd S gi ws sc tg iter X g h6 W tk) (by rw [g.eN, g.eS]; exact blkOk_by h3) hown
        (fun s H C cl fp => okG_ok (g.blk hh s H scope hmn C cl fp) t tg h7) (fun s H C cl fp => okC_snd S cn scope (relS scope sc) ifs _ (g.blk hh s H scope hmn C cl fp) h8 F0 takes0)
        (fun s H C cl fp => (ok_snd S elt 0 scope (relS scope sc) eelt _ (g.blk hh s H scope hmn C cl fp) h9 F0 takes0).1 rfl) (fun x => set_ok h2 x)
      rw [h4] at key
      refine fun W tk => ⟨fun _ => pe_froz (key W tk).1 hd_comp, fun _ => ⟨(key W tk).1, fun elt gs scope cp e' => ?_⟩, fun z => ?_⟩
      · exact fun i y py spos q1 q2 q3 => (key W tk).2 i y py spos q1 q2 q3
      · subst z; cases hm
    · cases h
  | .dct es, m, ws, sc, e, X, g, h => by
    simp only [ok, Bool.and_eq_true] at h
    obtain ⟨hm, h⟩ := h
    split at h
    · rename_i ks vs dp
      simp only [Bool.and_eq_true, decide_eq_true_eq] at h
      obtain ⟨⟨⟨h1, h2⟩, h3⟩, h4⟩ := h
      refine snd_v hm fun W tk => ?_
      cases ks with
      | nil =>
        cases vs with
        | nil =>
          cases es with
          | nil => exact se_dct0
          | cons l ls => cases ls <;> (simp only [okPs] at h4; cases h4)
        | cons v vs => cases h1
      | cons k ks => exact se_dct (okPs_snd S es ws sc (k :: ks) vs X dp g h4 W tk).1 (okPs_snd S es ws sc (k :: ks) vs X dp g h4 W tk).2 h1 (by simp) h2 h3
    · cases h
  | .dcomp _ _ _ _ _, m, ws, sc, e, X, g, h => by simp only [ok] at h; cases h
  | .lam _ _, m, ws, sc, e, X, g, h => by simp only [ok] at h; cases h
theorem okEs_snd (S : SgOk c P w mg base k Γ U) : ∀ (ls : LEs) (ws sc : Scope) (es : List Expr) (X : Cx), XG c P w mg base k N Γ ws sc X → okEs Γ N ls sc es = true → ∀ W, Takes X W → PA X es (tEvs c U W ls)
  | .nil, ws, sc, es, X, g, h => by
    simp only [okEs, List.isEmpty_iff] at h
    subst h
    exact fun W tk => sa_nil
  | .cons l ls, ws, sc, es, X, g, h => by
    simp only [okEs] at h
    split at h
    · simp only [Bool.and_eq_true] at h
      obtain ⟨⟨h1, h2⟩, h3⟩ := h
      exact fun W tk => sa_cons h1 ((ok_snd S l 0 ws sc _ X g h2 W tk).1 rfl) (okEs_snd S ls ws sc _ X g h3 W tk)
    · cases h
theorem okAs_snd (S : SgOk c P w mg base k Γ U) : ∀ (ls : LEs) (ws sc : Scope) (es : List Expr) (X : Cx), XG c P w mg base k N Γ ws sc X → okAs Γ N ls sc es = true → ∀ W, Takes X W → PA X es (tLs c X U W ls)
  | .nil, ws, sc, es, X, g, h => by
    simp only [okAs, List.isEmpty_iff] at h
    subst h
    exact fun W tk => sl_nil
  | .cons l ls, ws, sc, es, X, g, h => by
    by_cases hl : ∃ fl caps, l = .lam fl caps
    · obtain ⟨fl, caps, rfl⟩ := hl
      simp only [okAs] at h
      split at h
      · simp only [Bool.and_eq_true] at h
        obtain ⟨⟨h1, h2⟩, h3⟩ := h
        intro W tk
        obtain ⟨I, hI, hp⟩ := pe_lam h2 g.eS g.mkr S.lmk
        have hn : (namesAt N caps).length = caps.length := by
          unfold lamB at h2
          split at h2
          · simp only [Bool.and_eq_true, decide_eq_true_eq] at h2
            exact h2.1.1.1.1.2
          · cases h2
        exact sl_lam h1 (by rw [g.eN]; exact hI) (by rw [g.eN]; exact hn) hp (okAs_snd S ls ws sc _ X g h3 W tk)
      · cases h
    · cases es with
      | nil => exfalso; cases l <;> first | (exact hl ⟨_, _, rfl⟩) | (simp only [okAs] at h; cases h)
      | cons e es =>
        have h' : (plainX e && ok Γ N l 0 sc e && okAs Γ N ls sc es) = true := by
          cases l <;> first | (exact absurd ⟨_, _, rfl⟩ hl) | (simp only [okAs] at h; exact h)
        simp only [Bool.and_eq_true] at h'
        obtain ⟨⟨h1, h2⟩, h3⟩ := h'
        exact fun W tk => sl_cons h1 ((ok_snd S l 0 ws sc _ X g h2 W tk).1 rfl) (okAs_snd S ls ws sc _ X g h3 W tk)
theorem okPs_snd (S : SgOk c P w mg base k Γ U) : ∀ (ls : LEs) (ws sc : Scope) (ks : List (Option Expr)) (vs : List Expr) (X : Cx) (dp : Pos), XG c P w mg base k N Γ ws sc X → okPs Γ N ls sc ks vs = true → ∀ W, Takes X W → SD c U W X dp ls ks vs ∧ ks.all (·.isSome) = true
  | .nil, ws, sc, ks, vs, X, dp, g, h => by
    simp only [okPs, Bool.and_eq_true, List.isEmpty_iff] at h
    obtain ⟨h1, h2⟩ := h
    subst h1
    subst h2
    exact fun W tk => ⟨sd_nil, rfl⟩
  | .cons l (.cons l2 ls), ws, sc, ks, vs, X, dp, g, h => by
    simp only [okPs] at h
    split at h
    · simp only [Bool.and_eq_true] at h
      obtain ⟨⟨h1, h2⟩, h3⟩ := h
      intro W tk
      have q := okPs_snd S ls ws sc _ _ X dp g h3 W tk
      exact ⟨sd_cons ((ok_snd S l 0 ws sc _ X g h1 W tk).1 rfl) ((ok_snd S l2 0 ws sc _ X g h2 W tk).1 rfl) q.1, by rw [List.all_cons, q.2]; rfl⟩
    · cases h
  | .cons _ .nil, ws, sc, ks, vs, X, dp, g, h => by simp only [okPs] at h; cases h
theorem okO_snd (S : SgOk c P w mg base k Γ U) : ∀ (l : LO) (ws sc : Scope) (e : Option Expr) (X : Cx), XG c P w mg base k N Γ ws sc X → okO Γ N l sc e = true → ∀ W, Takes X W → PO X e (tOv c U W l)
  | .no, ws, sc, e, X, g, h => by
    simp only [okO, Option.isNone_iff_eq_none] at h
    subst h
    exact fun W tk => so_no
  | .yes l, ws, sc, e, X, g, h => by
    simp only [okO] at h
    split at h
    · exact fun W tk => so_yes ((ok_snd S l 0 ws sc _ X g h W tk).1 rfl)
    · cases h
theorem okC_snd (S : SgOk c P w mg base k Γ U) : ∀ (l : LO) (ws sc : Scope) (es : List Expr) (X : Cx), XG c P w mg base k N Γ ws sc X → okC Γ N l sc es = true → ∀ W, Takes X W → PTs X es (tCv c U W l)
  | .no, ws, sc, es, X, g, h => by
    simp only [okC, List.isEmpty_iff] at h
    subst h
    exact fun W tk => sc_no
  | .yes l, ws, sc, es, X, g, h => by
    simp only [okC] at h
    split at h
    · exact fun W tk => sc_yes ((ok_snd S l 2 ws sc _ X g h W tk).2.2 rfl).1
    · cases h
theorem okI_snd (S : SgOk c P w mg base k Γ U) : ∀ (l : LI) (ws sc : Scope) (tg e : Expr) (X : Cx), XG c P w mg base k N Γ ws sc X → okI Γ N l sc tg e = true → ∀ W, Takes X W → PI X tg e (tIv c U W l)
  | .val l, ws, sc, tg, e, X, g, h => by
    simp only [okI] at h
    exact fun W tk => si_val g.K ((ok_snd S l 0 ws sc _ X g h W tk).1 rfl)
  | .rng1 a, ws, sc, tg, e, X, g, h => by
    simp only [okI] at h
    split at h
    · simp only [Bool.and_eq_true] at h
      obtain ⟨⟨⟨⟨h1, h2⟩, h3⟩, h4⟩, h5⟩ := h
      have e1 := str_eq h1
      subst e1
      exact fun W tk => si_rng1 (g.gl h2) (S.none g h3) h4 ((ok_snd S a 0 ws sc _ X g h5 W tk).1 rfl)
    · cases h
  | .rng2 a b, ws, sc, tg, e, X, g, h => by
    simp only [okI] at h
    split at h
    · simp only [Bool.and_eq_true] at h
      obtain ⟨⟨⟨⟨⟨⟨h1, h2⟩, h3⟩, h4⟩, h5⟩, h6⟩, h7⟩ := h
      have e1 := str_eq h1
      subst e1
      exact fun W tk => si_rng2 (g.gl h2) (S.none g h3) h4 h5 ((ok_snd S a 0 ws sc _ X g h6 W tk).1 rfl) ((ok_snd S b 0 ws sc _ X g h7 W tk).1 rfl)
    · cases h
  | .zip a b, ws, sc, tg, e, X, g, h => by
    simp only [okI] at h
    split at h
    · simp only [Bool.and_eq_true] at h
      obtain ⟨⟨⟨⟨⟨⟨h1, h2⟩, h3⟩, h4⟩, h5⟩, h6⟩, h7⟩ := h
      have e1 := str_eq h1
      subst e1
      exact fun W tk => si_zip g.K (g.gl h2) (S.none g h3) h4 h5 ((ok_snd S a 0 ws sc _ X g h6 W tk).1 rfl) ((ok_snd S b 0 ws sc _ X g h7 W tk).1 rfl)
    · cases h
  | .enm a, ws, sc, tg, e, X, g, h => by
    simp only [okI] at h
    split at h
    · simp only [Bool.and_eq_true] at h
      obtain ⟨⟨⟨⟨h1, h2⟩, h3⟩, h4⟩, h5⟩ := h
      have e1 := str_eq h1
      subst e1
      exact fun W tk => si_enm g.K (g.gl h2) (S.none g h3) h4 ((ok_snd S a 0 ws sc _ X g h5 W tk).1 rfl)
    · cases h
end
end
end EV
end

section
set_option Elab.async false
set_option linter.all false
set_option maxRecDepth 100000
set_option maxHeartbeats 4000000
/-! EV17: statements read; defs -/
namespace EV
open PySem PySem.Spec PyProof.Rows L2
def starX : Expr → Bool
  | .Starred .. => true
  | _ => false
theorem swp2 {x y : Str} {px py pt pt2 : Pos} {kt k2 : Nat} {a b : Expr} {env : PySem.Env} (hk : env.scope.kind = .function) (hx : env.scope.names.lookup x = some .local) (hy : env.scope.names.lookup y = some .local) (hl : py.line = px.line) (hne : x ≠ y)
    (sa : plainX a = true) (sb : plainX b = true) (hf : (foldedForSure 8 a && foldedForSure 8 b) = false) (hc : (constantsAlone 8 a && constantsAlone 8 b) = false) :
    swappedStores [.Tuple [.Name x px, .Name y py] kt pt] (.Tuple [a, b] k2 pt2) env = pure (some [x, y]) := by
  have hb : env.blockKind = .function := by unfold PySem.Env.blockKind; rw [hk]; rfl
  have kx : env.kindOf x = some .local := hx
  have ky : env.kindOf y = some .local := hy
  have s1 : ∀ e : Expr, plainX e = true → (match e with | .Starred .. => true | _ => false) = false := fun e h => by cases e <;> first | rfl | cases h
  have yx : (y == x) = false := by simpa using hne.symm
  have ed : [x, y].eraseDups = [x, y] := by simp [List.eraseDups, List.eraseDupsBy, List.eraseDupsBy.loop, yx]
  unfold swappedStores
  simp [hb, kx, ky, Expr.pos, hl, s1 a sa, s1 b sb, ed, hf, hc]
  intro z
  exfalso
  rcases z with z | z
  · split at z
    · cases sa
    · cases z
  · split at z
    · cases sb
    · cases z
theorem swp3 {x y z : Str} {px py pz pt pt2 : Pos} {kt k2 : Nat} {a b d : Expr} {env : PySem.Env} (hk : env.scope.kind = .function) (hx : env.scope.names.lookup x = some .local) (hy : env.scope.names.lookup y = some .local) (hz : env.scope.names.lookup z = some .local) (hl : py.line = px.line) (hl2 : pz.line = px.line) (hne : x ≠ y) (hne2 : x ≠ z) (hne3 : y ≠ z)
    (sa : plainX a = true) (sb : plainX b = true) (sd : plainX d = true) (hf : (foldedForSure 8 a && foldedForSure 8 b && foldedForSure 8 d) = false) (hc : (constantsAlone 8 a && constantsAlone 8 b && constantsAlone 8 d) = false) :
    swappedStores [.Tuple [.Name x px, .Name y py, .Name z pz] kt pt] (.Tuple [a, b, d] k2 pt2) env = pure (some [x, y, z]) := by
  have hb : env.blockKind = .function := by unfold PySem.Env.blockKind; rw [hk]; rfl
  have kx : env.kindOf x = some .local := hx
  have kz : env.kindOf z = some .local := hz
  have ky : env.kindOf y = some .local := hy
  have s1 : ∀ e : Expr, plainX e = true → (match e with | .Starred .. => true | _ => false) = false := fun e h => by cases e <;> first | rfl | cases h
  have yx : (y == x) = false := by simpa using hne.symm
  have zx : (z == x) = false := by simpa using hne2.symm
  have zy : (z == y) = false := by simpa using hne3.symm
  have ed : [x, y, z].eraseDups = [x, y, z] := by simp [zx, zy, List.eraseDups, List.eraseDupsBy, List.eraseDupsBy.loop, yx]
  unfold swappedStores
  simp [hb, kx, ky, kz, Expr.pos, hl, hl2, s1 a sa, s1 b sb, s1 d sd, ed, hf, hc]
  refine (if_neg fun q => ?_).trans ((if_neg fun q => ?_).trans (if_neg fun q => ?_))
  · rcases q with q | q | q
    · split at q
      · cases sa
      · cases q
    · split at q
      · cases sb
      · cases q
    · split at q
      · cases sd
      · cases q
  · simp [q.1, q.2.1, q.2.2] at hf
  · simp [q.1, q.2.1, q.2.2] at hc
def notTup : Expr → Bool
  | .Tuple .. => false
  | _ => true
theorem notTup_sw {ts : List Expr} {e : Expr} {env : PySem.Env} (h : notTup e = true) : swappedStores ts e env = pure none := by
  cases e <;> first | (cases h; done) | skip
  all_goals (unfold swappedStores; rcases ts with _ | ⟨t, _ | ⟨u, r⟩⟩ <;> first | rfl | (cases t <;> rfl))
theorem nol2 {x y : Str} {px py p p2 : Pos} {k k2 : Nat} {vs : List Expr} {env : PySem.Env} (hk : ¬ env.kindOf x = some .local ∨ ¬ env.kindOf y = some .local) : swappedStores [.Tuple [.Name x px, .Name y py] k p] (.Tuple vs k2 p2) env = pure none := by
  unfold swappedStores
  rcases hk with hk | hk <;> simp [hk, List.filterMap_cons] <;> (intro _ _ _ h4; exfalso; split at h4 <;> (try split at h4) <;> simp at h4)
theorem nol3 {x y z : Str} {px py pz p p2 : Pos} {k k2 : Nat} {vs : List Expr} {env : PySem.Env} (hk : (¬ env.kindOf x = some .local ∨ ¬ env.kindOf y = some .local) ∨ ¬ env.kindOf z = some .local) : swappedStores [.Tuple [.Name x px, .Name y py, .Name z pz] k p] (.Tuple vs k2 p2) env = pure none := by
  unfold swappedStores
  rcases hk with (hk | hk) | hk <;> simp [hk, List.filterMap_cons] <;> (intro _ _ _ h4; exfalso; split at h4 <;> (try split at h4) <;> (try split at h4) <;> simp at h4)
def nolB (sc : Scope) : List Expr → Bool
  | [.Name x _, .Name y _] => decide (¬ sc.names.lookup x = some .local) || decide (¬ sc.names.lookup y = some .local)
  | [.Name x _, .Name y _, .Name z _] => decide (¬ sc.names.lookup x = some .local) || decide (¬ sc.names.lookup y = some .local) || decide (¬ sc.names.lookup z = some .local)
  | _ => false
theorem nol_sw {sc : Scope} {es : List Expr} {k : Nat} {p : Pos} {e : Expr} {env : PySem.Env} (hs : env.scope = sc) (h : (notTup e || nolB sc es) = true) : swappedStores [.Tuple es k p] e env = pure none := by
  rw [Bool.or_eq_true] at h
  rcases h with h | h
  · exact notTup_sw h
  · subst hs
    unfold nolB at h
    cases e with
    | Tuple vs k2 p2 =>
      split at h
      · simp only [Bool.or_eq_true, decide_eq_true_eq] at h
        exact nol2 h
      · simp only [Bool.or_eq_true, decide_eq_true_eq] at h
        exact nol3 h
      · cases h
    | _ => exact notTup_sw rfl
def notNm : LT → Bool
  | .nm _ => false
  | _ => true
def par2B (N : List Str) (sc : Scope) (i j : Nat) (x y : Str) (px py : Pos) (ea eb : Expr) : Bool :=
  decide (N[i]? = some x) && decide (N[j]? = some y) && decide (i ≠ j) && lclB sc x && lclB sc y && decide (py.line = px.line) && decide (x ≠ y) && plainX ea && plainX eb && !(foldedForSure 8 ea && foldedForSure 8 eb) && !(constantsAlone 8 ea && constantsAlone 8 eb)
def par3B (N : List Str) (sc : Scope) (i j k : Nat) (x y z : Str) (px py pz : Pos) (ea eb ec : Expr) : Bool :=
  decide (N[i]? = some x) && decide (N[j]? = some y) && decide (N[k]? = some z) && (decide (i ≠ j) && decide (i ≠ k) && decide (j ≠ k)) && (lclB sc x && lclB sc y && lclB sc z) && (decide (py.line = px.line) && decide (pz.line = px.line)) && (decide (x ≠ y) && decide (x ≠ z) && decide (y ≠ z)) && (plainX ea && plainX eb && plainX ec) && !(foldedForSure 8 ea && foldedForSure 8 eb && foldedForSure 8 ec) && !(constantsAlone 8 ea && constantsAlone 8 eb && constantsAlone 8 ec)
def cmpB (sc : Scope) (x : Str) (p : Pos) : Expr → Bool
  | .ListComp _ _ scope pos => lclB sc x && p.line == pos.line && !(scope.names.any fun (n, k) => n == x && (k == .local || k == .cell))
  | _ => false
def okCs (Γ : Sg) (N : List Str) (sc : Scope) (e : Expr) : LE → Bool
  | .thaw l => ok Γ N l 1 sc e
  | .comp a g t c own => ok Γ N (.comp a g t c own) 1 sc e
  | _ => false
mutual
def rdS (N : List Str) : LS → Sg → Scope → Stmt → Bool
  | .pass, Γ, _, s => match s with
    | .Pass _ => true
    | _ => false
  | .never, Γ, _, _ => true
  | .asg t l, Γ, sc, s => match s with
    | .Assign [.Name x p] e _ => (match t with
      | .nm i => decide (N[i]? = some x) && ((plainC e && stB sc sc x && ok Γ N l 0 sc e) || (cmpB sc x p e && okCs Γ N sc e l))
      | _ => false)
    | .Assign [.Tuple es k p] e _ => notNm t && plainC e && (notTup e || nolB sc es) && okG N Γ.hot sc t sc (.Tuple es k p) && ok Γ N l 0 sc e
    | _ => false
  | .par i j a b, Γ, sc, s => match s with
    | .Assign [.Tuple [.Name x px, .Name y py] _ _] (.Tuple [ea, eb] _ _) _ => !Γ.hot && par2B N sc i j x y px py ea eb && ok Γ N a 0 sc ea && ok Γ N b 0 sc eb
    | _ => false
  | .par3 i j k a b d, Γ, sc, s => match s with
    | .Assign [.Tuple [.Name x px, .Name y py, .Name z pz] _ _] (.Tuple [ea, eb, ed] _ _) _ => !Γ.hot && par3B N sc i j k x y z px py pz ea eb ed && ok Γ N a 0 sc ea && ok Γ N b 0 sc eb && ok Γ N d 0 sc ed
    | _ => false
  | .sub a i l, Γ, sc, s => match s with
    | .Assign [.Subscript ea ei _] e _ => plainX ei && ok Γ N a 0 sc ea && ok Γ N i 0 sc ei && ok Γ N l 0 sc e
    | _ => false
  | .ex l, Γ, sc, s => match s with
    | .Expr e _ => plainC e && ok Γ N l 0 sc e
    | _ => false
  | .ife l a b, Γ, sc, s => match s with
    | .If e sa sb _ => ok Γ N l 2 sc e && rdSs N a Γ sc sa && rdSs N b Γ sc sb
    | _ => false
  | .for_ t g b, Γ, sc, s => match s with
    | .For tg iter sb [] _ => !Γ.hot && plainX iter && okI Γ N g sc tg iter && okG N Γ.hot sc t sc tg && rdSs N b Γ sc sb
    | _ => false
  | .while_ l b, Γ, sc, s => match s with
    | .While e sb [] _ => ok Γ N l 2 sc e && rdSs N b Γ sc sb
    | _ => false
  | .ret l, Γ, sc, s => match s with
    | .Return (some e) _ => ok Γ N l 0 sc e
    | _ => false
  | .retk l, Γ, sc, s => match s with
    | .Return (some e) _ => ok Γ N l 0 sc e
    | _ => false
  | .retn, Γ, _, s => match s with
    | .Return none _ => true
    | _ => false
  | .raise ci x es, Γ, sc, s => match s with
    | .Raise (some (.Call (.Name y _) [] [] _)) none _ => !Γ.hot && y == (x : Str) && glB sc y && !dbg y && decide (Γ.cls[ci]? = some x) && Γ.rz.contains ci && decide (lenEs es = 0)
    | _ => false
  | .try_ b ci x j h, Γ, sc, s => match s with
    | .Try body [.ExceptHandler (some (.Name y _)) (some n) (b0 :: su) _] [] [] _ => !Γ.hot && y == (x : Str) && glB sc y && !dbg y && decide (Γ.cls[ci]? = some x) && decide (N[j]? = some n) && lclB sc n && rdSs N b Γ sc body && rdSs N h { Γ with hot := true } sc (b0 :: su)
    | _ => false
def rdSs (N : List Str) : LSs → Sg → Scope → List Stmt → Bool
  | .nil, Γ, _, ss => ss.isEmpty
  | .cons l ls, Γ, sc, ss => match ss with
    | s :: ss => rdS N l Γ sc s && rdSs N ls Γ sc ss
    | [] => false
end
section
variable {P : Program} {w : World} {mg : Str → Option Value} {base : PySem.Heap} {k : Nat} {N : List Str}
theorem SgOk.heat {c : Glb} {U : EV.Env} {Γ : Sg} (S : SgOk c P w mg base k Γ U) (ex : Option (Addr × Nat)) : SgOk { c with ex := ex } P w mg base k { Γ with hot := true } { U with cf := fun _ _ _ => .stuck } where
  fn := fun f x np h => by
    obtain ⟨fa, fd, ps, F, hm, hk, hb, hf⟩ := S.fn f x np h
    exact ⟨fa, fd, ps, ⟨fun vs H Q E ⟨g, xs, _, _, _, _, o⟩ => o.elim, fun A outer s H args us vs Q E hr he hbd hv ⟨g, xs, _, _, _, _, o⟩ => o.elim⟩, hm, hk, hb, hf⟩
  fa := S.fa
  ar := fun f x np vs St h hn => rfl
  blt := S.blt
  cl := S.cl
  sb := S.sb
  rz := S.rz
  gv := S.gv
  lam := fun fl I g cs ds f c' qual cells pm ctv ts us xs ws vs A outer s Q E _ _ _ _ _ _ _ out => out.elim
  lmk := S.lmk
  pl := fun f vs St v S' h => by cases h
/-- X(), an own error without arguments -/
theorem pmk_own0 {X : Cx} {C : Addr} {bmB : List Value} {B newId initId : String} {x : Str} {p pos : Pos} (F : ExcBaseFacts B newId initId bmB) (q : PySem.W.excIn X.K C bmB newId = true) (gC : X.mg x = some (.ref C)) (kC : PySem.W.keepIn X.K (.ref C) = true) (r : Raises X (.ref C)) (hg : Gl X x)
    (hdb : (x == ("__debug__" : Str)) = false) : PMk X (.Call (.Name x p) [] [] pos) (fun _ H Q => Q (.ref C) none H) := by
  intro pins s σ H Q I h
  refine wpAny_Call_Name_kw (ld_glob I hg gC ?_ hdb)
  refine PySem.W.callWith_K0 I.kIn kC ?_
  show wpAny _ _ (call (.ref C) []) _ _ _
  obtain ⟨bm, N, nm, qn, bs, hdct, sn, sub, ab, col, dd, k0, k1, k2, k3, k5, mN, hC, hN, hni, T⟩ := exc_obj I.kIn q
  refine wpAny_call_exc_subT F T hC hN hni (fun h' e hm => ?_) (Nat.zero_le _)
  exact mk_of I hm r h (I.hok.gone hm.new)
theorem raise_ok {c : Glb} {U : EV.Env} {Γ : Sg} (S : SgOk c P w mg base k Γ U) {ws sc : Scope} {X : Cx} (g : XG c P w mg base k N Γ ws sc X) (hh : Γ.hot = false) {W : WX} (tk : Takes X W) {ci : Nat} {x : String} {p p2 p3 : Pos} (h2 : glB sc (x : Str) = true) (h3 : dbg (x : Str) = false) (h4 : Γ.cls[ci]? = some x) (h5 : ci ∈ Γ.rz) :
    PS X (.Raise (some (.Call (.Name (x : Str) p) [] [] p2)) none p3) (tS c U W (.raise ci x .nil)) := by
  obtain ⟨C, B, newId, initId, bmB, hca, hm, hk, F, q, r1, r2⟩ := S.rz ci x h5 h4
  refine PS.imp (ps_raise (g.calm hh) tk (pmk_own0 F (by rw [g.K]; exact q) (by rw [g.mg]; exact hm) (by rw [g.K]; exact hk) (raises_own (by rw [g.K]; exact r1) (by rw [g.K]; exact r2)) (g.gl h2) h3)) fun E σ H => ?_
  rintro ⟨g0, loc, rfl, ok, lo, out⟩
  obtain ⟨cls, e, hw⟩ := out g0.ρ g0.H none σ ok (Le.refl g0) lo ⟨rfl, rfl⟩
  rw [hca] at e
  cases e
  exact hw
theorem repBs_ex {c : Glb} {ex : Option (Addr × Nat)} {g : G} : ∀ {vs : List Vl} {ws : List V}, RepBs { c with ex := ex } g vs ws → RepBs c g vs ws
  | _, _, .nil => .nil
  | _, _, .cons r t => .cons (by cases r with | d r => exact .d r | ref r => exact .ref r | fnv r => exact .fnv r) (repBs_ex t)
theorem repBs_ex2 {c : Glb} {ex : Option (Addr × Nat)} {g : G} : ∀ {vs : List Vl} {ws : List V}, RepBs c g vs ws → RepBs { c with ex := ex } g vs ws
  | _, _, .nil => .nil
  | _, _, .cons r t => .cons (by cases r with | d r => exact .d r | ref r => exact .ref r | fnv r => exact .fnv r) (repBs_ex2 t)
theorem noX_rep {c : Glb} {ex : Option (Addr × Nat)} {g : G} : ∀ (v : Vl) (w : V), noX v = true → RepV { c with ex := ex } g v w → RepV c g v w
  | .d x, w, h, r => by cases r with | d r => exact .d r
  | .ref n, w, h, r => by cases r with | ref r => exact .ref r
  | .fnv f, w, h, r => by cases r with | fnv r => exact .fnv r
  | .exn k xs, w, h, r => by cases h
  | .clo f cs, w, h, r => by cases r with | clo k r => exact .clo ⟨k.lam, k.fo, k.co, k.tk, k.cap, k.cel, k.inj, k.rv, k.tc, k.ln⟩ (repBs_ex r)
  | .scr ds, w, h, r => by cases r with | scr a b r => exact .scr a b r
theorem cold_rep {c : Glb} (hc : c.ex = none) {ex : Option (Addr × Nat)} {g : G} : ∀ (v : Vl) (w : V), RepV c g v w → RepV { c with ex := ex } g v w
  | .d x, w, r => by cases r with | d r => exact .d r
  | .ref n, w, r => by cases r with | ref r => exact .ref r
  | .fnv f, w, r => by cases r with | fnv r => exact .fnv r
  | .exn k xs, w, r => by
    cases r with
    | exn e => rw [hc] at e; cases e
  | .clo f cs, w, r => by cases r with | clo k r => exact .clo ⟨k.lam, k.fo, k.co, k.tk, k.cap, k.cel, k.inj, k.rv, k.tc, k.ln⟩ (repBs_ex2 r)
  | .scr ds, w, r => by cases r with | scr a b r => exact .scr a b r
theorem gok_ex {c : Glb} {ex : Option (Addr × Nat)} {g : G} (h : GOk c g) : GOk { c with ex := ex } g := ⟨h.len, h.nd, h.apart, h.hid, h.cell, h.tabs⟩
theorem gok_unex {c : Glb} {ex : Option (Addr × Nat)} {g : G} (h : GOk { c with ex := ex } g) : GOk c g := ⟨h.len, h.nd, h.apart, h.hid, h.cell, h.tabs⟩
theorem noXl_loc {c : Glb} {ex : Option (Addr × Nat)} {g : G} {l : Loc} {σ : L2.St} {j : Nat} (h : noXl (l.set j none) = true) (r : LocOk { c with ex := ex } g l σ) : LocOk c g (l.set j none) (σ.set j none) := by
  have r2 := r.forget j
  refine ⟨r2.len, fun i v e => ?_⟩
  obtain ⟨w, h1, h2⟩ := r2.at_ i v e
  refine ⟨w, h1, noX_rep v w ?_ h2⟩
  unfold noXl at h
  rw [List.all_eq_true] at h
  exact h (some v) (List.mem_of_getElem? e)
theorem try_ok {c : Glb} {U : EV.Env} {Γ : Sg} (S : SgOk c P w mg base k Γ U) {ws sc : Scope} {X : Cx} (g : XG c P w mg base k N Γ ws sc X) (hh : Γ.hot = false) (hst : X.stack = X.env :: X.outer ∧ X.env.frame = some X.env.locals) {W : WX} (tk : Takes X W) {ci j : Nat} {x : String} {n : Str} {np pos pos' : Pos} {body su : List Stmt} {b0 : Stmt} {b hs : LSs}
    (h2 : glB sc (x : Str) = true) (h3 : dbg (x : Str) = false) (h4 : Γ.cls[ci]? = some x) (h5 : N[j]? = some n) (h6 : lclB sc n = true)
    (hb : ∀ (W : WX) (pn : List (Addr × Obj)) (xe : Value → Shared → Prop), Takes (X.tr pn xe) W → PassesOwn (model X.prog X.w) X.A X.env xe → PSs (X.tr pn xe) body (tSs c U W b))
    (hu : ∀ (a : Addr) (oe : Obj) (k' : Nat) (pn : List (Addr × Obj)) (D : Addr), Zc (.ref D) none oe → (∃ vs, oe.data = .fields vs) → c.ca k' = some (.ref D) → ExcC X.K D → PSs (X.suite a ((a, oe) :: pn)) (b0 :: su) (tSs { c with ex := some (a, k') } { U with cf := fun _ _ _ => .stuck } F0 hs)) :
    PS X (.Try body [.ExceptHandler (some (.Name (x : Str) np)) (some n) (b0 :: su) pos'] [] [] pos) (tS c U W (.try_ b ci x j hs)) := by
  obtain ⟨cv, v, hca, rv, hun, hn⟩ := S.cl ci x h4
  have hl := g.lcl h6
  have hnm : Names X (x : Str) cv := ⟨g.gl h2, h3, by rw [g.mg]; exact hn⟩
  refine PS.imp (ps_try_as (c := cv) (i := j) (tb := fun W => tSs c U W b)
    (ts := fun a cls d E σ H => ∃ (k' : Nat) (D : Addr), cls = .ref D ∧ d = none ∧ c.ca k' = some (.ref D) ∧ ExcC X.K D ∧ tSs { c with ex := some (a, k') } { U with cf := fun _ _ _ => .stuck } F0 hs E σ H)
    hst.1 hst.2 g.ndN (g.at_ h5) hl hnm tk hb (fun a oe cls d pn hz hf => ⟨fun pins s σ H E I h => ?_⟩)) fun E σ H => ?_
  · obtain ⟨k', D, rfl, rfl, q1, q2, q3⟩ := h
    exact (hu a oe k' pn D hz hf q1 q2).run pins s σ H E I q3
  · rintro ⟨g0, loc, rfl, ok, lo, out⟩
    refine ⟨g0, loc, rfl, ok, lo, ?_⟩
    have out : OutS c g0 W E (match evSs U b loc g0.S with
      | .exc k xs l' S' => (match U.sub k ci with
        | some true => (match evSs { U with cf := fun _ _ _ => .stuck } hs (l'.set j (some (.exn k xs))) S' with
          | .nx l2 S2 => if noXl (l2.set j none) then .nx (l2.set j none) S2 else .stuck
          | .ret v S2 => if noX v then .ret v S2 else .stuck
          | _ => .stuck)
        | some false => .exc k xs l' S'
        | none => .stuck)
      | r => r) := out
    cases hr : evSs U b loc g0.S with
    | nx l' S' => rw [hr] at out; exact out
    | ret v S' => rw [hr] at out; exact out
    | bk l' S' => rw [hr] at out; exact out
    | ct l' S' => rw [hr] at out; exact out
    | stuck => rw [hr] at out; exact out
    | exc kx xs l' S' =>
      rw [hr] at out
      intro ρ' H' d σ' ok1 le1 lo1 ex1
      have out : OutS c g0 W E (match U.sub kx ci with
        | some true => (match evSs { U with cf := fun _ _ _ => .stuck } hs (l'.set j (some (.exn kx xs))) S' with
          | .nx l2 S2 => if noXl (l2.set j none) then .nx (l2.set j none) S2 else .stuck
          | .ret v S2 => if noX v then .ret v S2 else .stuck
          | _ => .stuck)
        | some false => .exc kx xs l' S'
        | none => .stuck) := out
      cases hsb : U.sub kx ci with
      | none => rw [hsb] at out; exact out.elim
      | some bb =>
        obtain ⟨D, cv', d1, d2, d3, d4, d5⟩ := S.sb _ _ _ hsb
        rw [hca] at d2
        cases d2
        rw [hsb] at out
        refine ⟨.ref D, d1, bb, by rw [g.K]; exact d3, fun e => ?_, fun e => ?_⟩
        · subst e
          intro a ha
          obtain ⟨e1, e2⟩ := ex1
          refine ⟨kx, D, rfl, e2, d1, by rw [g.K]; exact d5, ⟨g0.hid, ρ', S', H'⟩, l'.set j (some (.exn kx xs)), rfl, gok_ex ok1, ?_, ?_⟩
          · exact LocOk.set (c := { c with ex := some (a, kx) }) ⟨lo1.len, fun i v q => let ⟨w, q1, q2⟩ := lo1.at_ i v q; ⟨w, q1, cold_rep (g.cold hh) v w q2⟩⟩ (.exn rfl) j
          · have out : OutS c ⟨g0.hid, ρ', S', H'⟩ W E (match evSs { U with cf := fun _ _ _ => .stuck } hs (l'.set j (some (.exn kx xs))) S' with
              | .nx l2 S2 => if noXl (l2.set j none) then .nx (l2.set j none) S2 else .stuck
              | .ret v S2 => if noX v then .ret v S2 else .stuck
              | _ => .stuck) := OutS.le (g := g0) out le1
            show OutS { c with ex := some (a, kx) } ⟨g0.hid, ρ', S', H'⟩ F0 _ (evSs { U with cf := fun _ _ _ => .stuck } hs (l'.set j (some (.exn kx xs))) S')
            cases hq : evSs { U with cf := fun _ _ _ => .stuck } hs (l'.set j (some (.exn kx xs))) S' with
            | nx l2 S2 =>
              rw [hq] at out
              have out : OutS c ⟨g0.hid, ρ', S', H'⟩ W E (if noXl (l2.set j none) then .nx (l2.set j none) S2 else .stuck) := out
              split at out
              · rename_i hx
                intro ρ2 H2 σ2 ok2 le2 lo2
                exact out ρ2 H2 _ (gok_unex ok2) le2 (noXl_loc hx lo2)
              · exact out.elim
            | ret v2 S2 =>
              rw [hq] at out
              have out : OutS c ⟨g0.hid, ρ', S', H'⟩ W E (if noX v2 then .ret v2 S2 else .stuck) := out
              split at out
              · rename_i hx
                intro ρ2 H2 w2 ok2 le2 r2
                exact out ρ2 H2 w2 (gok_unex ok2) le2 (noX_rep v2 w2 hx r2)
              · exact out.elim
            | bk l2 S2 => rw [hq] at out; exact out.elim
            | ct l2 S2 => rw [hq] at out; exact out.elim
            | exc k2 xs2 l2 S2 => rw [hq] at out; exact out.elim
            | stuck => rw [hq] at out; exact out.elim
        · subst e
          obtain ⟨cls, q1, q2⟩ := out ρ' H' d σ' ok1 le1 lo1 ex1
          rw [d1] at q1
          cases q1
          exact q2
theorem lclB_loc {ws sc : Scope} {x : Str} (h : lclB sc x = true) : stB ws sc x = true := by
  have h1 : locB sc x = true := by
    unfold lclB at h
    unfold locB
    split at h
    · rename_i q; rw [q]
    · cases h
  unfold stB
  rw [h1, h]
  rfl
mutual
theorem rdS_snd : ∀ (l : LS) (c : Glb) (U : EV.Env) (Γ : Sg) (S : SgOk c P w mg base k Γ U) (sc : Scope) (s : Stmt) (X : Cx), sc.kind = .function → XG c P w mg base k N Γ sc sc X → PassesOwn (model X.prog X.w) X.A X.env X.xe → (X.stack = X.env :: X.outer ∧ X.env.frame = some X.env.locals) → rdS N l Γ sc s = true → ∀ W, Takes X W → PS X s (tS c U W l)
  | .pass, c, U, Γ, S, sc, s, X, hk, g, po, hst, h, W, tk => by
    simp only [rdS] at h
    split at h
    · exact s_pass
    · cases h
  | .never, c, U, Γ, S, sc, s, X, hk, g, po, hst, h, W, tk => s_never
  | .asg t l, c, U, Γ, S, sc, s, X, hk, g, po, hst, h, W, tk => by
    simp only [rdS] at h
    split at h
    · split at h
      · simp only [Bool.and_eq_true, Bool.or_eq_true, decide_eq_true_eq] at h
        obtain ⟨h1, h | h⟩ := h
        · obtain ⟨⟨h2, h3⟩, h4⟩ := h
          obtain ⟨q1, q2⟩ := g.lc h3
          exact s_asg g.ndN (g.at_ h1) q1 q2 h2 ((ok_snd S l 0 sc sc _ X g h4 W tk).1 rfl)
        · obtain ⟨h2, h3⟩ := h
          unfold cmpB at h2
          split at h2
          · rename_i x p spos i _ _ elt gs scope cp
            simp only [Bool.and_eq_true] at h2
            obtain ⟨⟨h4, h5⟩, h6⟩ := h2
            have hl := g.lcl h4
            have sw : swapsWith (.ListComp elt gs scope cp) (some (.Name x p)) spos.line X.env = pure true := sw_true (by rw [g.eS]; exact hk) hl h5 (bnot h6)
            unfold okCs at h3
            split at h3
            · exact s_asgT (((ok_snd S _ 1 sc sc _ X g h3 W tk).2.1 rfl).2 _ _ _ _ rfl _ _ _ _ (g.at_ h1) hl sw)
            · exact s_asgF hd_comp (((ok_snd S _ 1 sc sc _ X g h3 W tk).2.1 rfl).2 _ _ _ _ rfl _ _ _ _ (g.at_ h1) hl sw)
            · cases h3
          · cases h2
      · cases h
    · simp only [Bool.and_eq_true] at h
      obtain ⟨⟨⟨⟨h1, h2⟩, h3⟩, h4⟩, h5⟩ := h
      exact s_asgTup (fun i e => by subst e; cases h1) h2 (nol_sw g.eS h3) ((ok_snd S l 0 sc sc _ X g h5 W tk).1 rfl) (okG_ok g t _ h4)
    · cases h
  | .par i j a b, c, U, Γ, S, sc, s, X, hk, g, po, hst, h, W, tk => by
    simp only [rdS] at h
    split at h
    · unfold par2B at h
      simp only [Bool.and_eq_true, decide_eq_true_eq] at h
      obtain ⟨⟨⟨h0, ⟨⟨⟨⟨⟨⟨⟨⟨⟨⟨h1, h2⟩, h3⟩, h4⟩, h5⟩, h6⟩, h7⟩, h8⟩, h9⟩, h10⟩, h11⟩⟩, h12⟩, h13⟩ := h
      exact s_par (g.calm (bnot h0)) g.ndN (g.at_ h1) (g.at_ h2) h3 (g.lcl h4) (g.lcl h5) h8 h9 ((ok_snd S a 0 sc sc _ X g h12 W tk).1 rfl) ((ok_snd S b 0 sc sc _ X g h13 W tk).1 rfl)
        (swp2 (by rw [g.eS]; exact hk) (g.lcl h4) (g.lcl h5) h6 h7 h8 h9 (bnot h10) (bnot h11))
    · cases h
  | .par3 i j m a b d, c, U, Γ, S, sc, s, X, hk, g, po, hst, h, W, tk => by
    simp only [rdS] at h
    split at h
    · unfold par3B at h
      simp only [Bool.and_eq_true, decide_eq_true_eq] at h
      obtain ⟨⟨⟨⟨h0, ⟨⟨⟨⟨⟨⟨⟨⟨⟨h1, h2⟩, h3⟩, ⟨⟨h4, h5⟩, h6⟩⟩, ⟨⟨h7, h8⟩, h9⟩⟩, ⟨h10, h11⟩⟩, ⟨⟨h12, h13⟩, h14⟩⟩, ⟨⟨h15, h16⟩, h17⟩⟩, h18⟩, h19⟩⟩, h20⟩, h21⟩, h22⟩ := h
      exact s_par3 (g.calm (bnot h0)) g.ndN (g.at_ h1) (g.at_ h2) (g.at_ h3) h4 h5 h6 (g.lcl h7) (g.lcl h8) (g.lcl h9) h15 h16 h17 ((ok_snd S a 0 sc sc _ X g h20 W tk).1 rfl) ((ok_snd S b 0 sc sc _ X g h21 W tk).1 rfl) ((ok_snd S d 0 sc sc _ X g h22 W tk).1 rfl)
        (swp3 (by rw [g.eS]; exact hk) (g.lcl h7) (g.lcl h8) (g.lcl h9) h10 h11 h12 h13 h14 h15 h16 h17 (bnot h18) (bnot h19))
    · cases h
  | .sub a i l, c, U, Γ, S, sc, s, X, hk, g, po, hst, h, W, tk => by
    simp only [rdS] at h
    split at h
    · simp only [Bool.and_eq_true] at h
      obtain ⟨⟨⟨h1, h2⟩, h3⟩, h4⟩ := h
      exact s_sub g.hu h1 ((ok_snd S a 0 sc sc _ X g h2 W tk).1 rfl) ((ok_snd S i 0 sc sc _ X g h3 W tk).1 rfl) ((ok_snd S l 0 sc sc _ X g h4 W tk).1 rfl)
    · cases h
  | .ex l, c, U, Γ, S, sc, s, X, hk, g, po, hst, h, W, tk => by
    simp only [rdS] at h
    split at h
    · simp only [Bool.and_eq_true] at h
      exact s_ex h.1 ((ok_snd S l 0 sc sc _ X g h.2 W tk).1 rfl)
    · cases h
  | .ife l a b, c, U, Γ, S, sc, s, X, hk, g, po, hst, h, W, tk => by
    simp only [rdS] at h
    split at h
    · simp only [Bool.and_eq_true] at h
      obtain ⟨⟨h1, h2⟩, h3⟩ := h
      exact s_if ((ok_snd S l 2 sc sc _ X g h1 W tk).2.2 rfl).1 (rdSs_snd a c U Γ S sc _ X hk g po hst h2 W tk) (rdSs_snd b c U Γ S sc _ X hk g po hst h3 W tk)
    · cases h
  | .for_ t gi b, c, U, Γ, S, sc, s, X, hk, g, po, hst, h, W, tk => by
    simp only [rdS] at h
    split at h
    · simp only [Bool.and_eq_true] at h
      obtain ⟨⟨⟨⟨h0, h1⟩, h2⟩, h3⟩, h4⟩ := h
      exact s_for po (g.calm (bnot h0)) (okI_snd S gi sc sc _ _ X g h2 W tk) (okG_ok g t _ h3) (rdSs_snd b c U Γ S sc _ X hk g po hst h4 W tk) (fun x => set_ok h1 x)
    · cases h
  | .while_ l b, c, U, Γ, S, sc, s, X, hk, g, po, hst, h, W, tk => by
    simp only [rdS] at h
    split at h
    · simp only [Bool.and_eq_true] at h
      exact s_while po ((ok_snd S l 2 sc sc _ X g h.1 W tk).2.2 rfl).1 (rdSs_snd b c U Γ S sc _ X hk g po hst h.2 W tk)
    · cases h
  | .ret l, c, U, Γ, S, sc, s, X, hk, g, po, hst, h, W, tk => by
    simp only [rdS] at h
    split at h
    · exact s_ret ((ok_snd S l 0 sc sc _ X g h W tk).1 rfl)
    · cases h
  | .retk l, c, U, Γ, S, sc, s, X, hk, g, po, hst, h, W, tk => by
    simp only [rdS] at h
    split at h
    · exact s_retk ((ok_snd S l 0 sc sc _ X g h W tk).1 rfl)
    · cases h
  | .retn, c, U, Γ, S, sc, s, X, hk, g, po, hst, h, W, tk => by
    simp only [rdS] at h
    split at h
    · exact s_retn
    · cases h
  | .raise ci x es, c, U, Γ, S, sc, s, X, hk, g, po, hst, h, W, tk => by
    simp only [rdS] at h
    split at h
    · simp only [Bool.and_eq_true, decide_eq_true_eq] at h
      obtain ⟨⟨⟨⟨⟨⟨h0, h1⟩, h2⟩, h3⟩, h4⟩, h5⟩, h6⟩ := h
      have e1 := str_eq h1
      subst e1
      cases es with
      | cons e es => simp [lenEs] at h6
      | nil => exact raise_ok S g (bnot h0) tk h2 (bnot h3) h4 (by simpa using h5)
    · cases h
  | .try_ b ci x j hs, c, U, Γ, S, sc, s, X, hk, g, po, hst, h, W, tk => by
    simp only [rdS] at h
    split at h
    · simp only [Bool.and_eq_true, decide_eq_true_eq] at h
      obtain ⟨⟨⟨⟨⟨⟨⟨⟨h0, h1⟩, h2⟩, h3⟩, h4⟩, h5⟩, h6⟩, h7⟩, h8⟩ := h
      have e1 := str_eq h1
      subst e1
      have hh := bnot h0
      exact try_ok S g hh hst tk h2 (bnot h3) h4 h5 h6
        (fun W pn xe tk' po' => rdSs_snd b c U Γ S sc _ (X.tr pn xe) hk ⟨g.prog, g.w, g.K, g.mg, g.base, g.eN, g.nd, g.eS, g.calm, g.fn, g.room, g.hu, g.cold, (fun a j e => by rw [g.cold hh] at e; cases e), g.mkr⟩ po' hst h7 W tk')
        (fun a oe k' pn D hz hf hc C => rdSs_snd hs { c with ex := some (a, k') } { U with cf := fun _ _ _ => .stuck } { Γ with hot := true } (S.heat _) sc _ (X.suite a ((a, oe) :: pn)) hk
          ⟨g.prog, g.w, g.K, g.mg, g.base, g.eN, g.nd, g.eS, (fun z => absurd (show true = false from z) (by decide)), g.fn, (fun z => absurd (show true = false from z) (by decide)), g.hu, (fun z => absurd (show true = false from z) (by decide)), (fun a' j' e => by cases e; exact ⟨D, hc, call_isE C hz hf⟩), g.mkr⟩ PassesOwn.never hst h8 F0 takes0)
    · cases h
theorem rdSs_snd : ∀ (l : LSs) (c : Glb) (U : EV.Env) (Γ : Sg) (S : SgOk c P w mg base k Γ U) (sc : Scope) (s : List Stmt) (X : Cx), sc.kind = .function → XG c P w mg base k N Γ sc sc X → PassesOwn (model X.prog X.w) X.A X.env X.xe → (X.stack = X.env :: X.outer ∧ X.env.frame = some X.env.locals) → rdSs N l Γ sc s = true → ∀ W, Takes X W → PSs X s (tSs c U W l)
  | .nil, c, U, Γ, S, sc, s, X, hk, g, po, hst, h, W, tk => by
    simp only [rdSs, List.isEmpty_iff] at h
    subst h
    exact ss_nil
  | .cons l ls, c, U, Γ, S, sc, s, X, hk, g, po, hst, h, W, tk => by
    simp only [rdSs] at h
    split at h
    · simp only [Bool.and_eq_true] at h
      exact ss_cons (rdS_snd l c U Γ S sc _ X hk g po hst h.1 W tk) (rdSs_snd ls c U Γ S sc _ X hk g po hst h.2 W tk)
    · cases h
end
end
end EV
end

section
set_option Elab.async false
set_option linter.all false
set_option maxRecDepth 100000
set_option maxHeartbeats 4000000
/-! EV18: all defs of a text -/
namespace EV
open PySem PySem.Spec PyProof.Rows L2
theorem start_ok {c : Glb} {g : G} : ∀ {ds : List Vl} {vs : List V}, RepVs c g ds vs → ∀ n, LocOk c g (ds.map some ++ List.replicate n none) (vs.map some ++ List.replicate n none)
  | [], _, .nil, n => ⟨by simp, fun i v h => by
    rw [List.map_nil, List.nil_append, List.getElem?_replicate] at h
    split at h <;> cases h⟩
  | d :: ds, _, .cons (w := w) r t, n => by
    have ih := start_ok t n
    refine ⟨by simp [t.length], fun i v h => ?_⟩
    cases i with
    | zero => simp at h; subst h; exact ⟨w, by simp, r⟩
    | succ i =>
      obtain ⟨w', h1, h2⟩ := ih.at_ i v (by simpa using h)
      exact ⟨w', by simpa using h1, h2⟩
section
variable {c : Glb} {P : Program} {w : World} {mg : Str → Option Value} {base : PySem.Heap} {k : Nat} {N ps : List Str} {Γ : Sg} {U : EV.Env}
theorem cut_le {g : G} {ρ' : List Addr} {S' : Sto} {H' : Hp} (ok : GOk c g) (le : Le g ⟨g.hid, ρ', S', H'⟩) : Le g ⟨g.hid, ρ'.take g.S.length, S'.take g.S.length, H'⟩ := by
  refine ⟨?_, rfl, le.hidk, fun a o h n t => ?_, le.grow⟩
  · obtain ⟨t, e⟩ := le.pre
    have e : g.ρ ++ t = ρ' := e
    rw [← ok.len, ← e, List.take_left]
    exact List.prefix_refl _
  · obtain ⟨h1, h2⟩ := le.keep a o h n t
    exact ⟨h1, fun z => h2 (live_cut (g := ⟨g.hid, ρ', S', H'⟩) z)⟩
/-- a body's end is the call's -/
theorem run_end {g : G} {E : XK} {Q : VK} {r : RS} {U : EV.Env} (ok : GOk c g)
    (out : Out c g (fun cls d _ H' => E cls d H') [] (match r with
      | .nx _ S' => R.ok (Vl.d .non) (S'.take g.S.length)
      | .ret v S' => keepS g.S.length v S'
      | .exc c xs _ S' => .exc c xs (S'.take g.S.length)
      | _ => .stuck) (fun v g' => ∀ w, RepV c g' v w → Q w g'.H)) : OutS c g (fun cls d _ H' => E cls d H') { nx := fun _ H' => Q .non H', rt := Q } r := by
  cases r with
  | nx l S' =>
    intro ρ' H' σ' ok1 le1 lo1
    exact out (ρ'.take g.S.length) H' (gok_cut ok1 _) (cut_le ok le1) .non (.d .non)
  | ret v S' =>
    intro ρ' H' w ok1 le1 rw1
    have out : Out c g (fun cls d _ H' => E cls d H') [] (keepS g.S.length v S') (fun v g' => ∀ w, RepV c g' v w → Q w g'.H) := out
    cases rw1 with
    | d r => exact out (ρ'.take g.S.length) H' (gok_cut ok1 _) (cut_le ok le1) w (.d (Rep.mo (mo_cut ok1 _) _ _ r))
    | @ref n a e =>
      have out : Out c g (fun cls d _ H' => E cls d H') [] (if n < g.S.length then R.ok (Vl.ref n) (S'.take g.S.length) else R.ok (Vl.ref n) S') (fun v g' => ∀ w, RepV c g' v w → Q w g'.H) := out
      split at out
      · rename_i hn
        exact out (ρ'.take g.S.length) H' (gok_cut ok1 _) (cut_le ok le1) _ (.ref (by
          show (ρ'.take g.S.length)[_]? = _
          rw [List.getElem?_take_of_lt hn]; exact e))
      · exact out ρ' H' ok1 le1 _ (.ref e)
    | fnv e => exact out.elim
    | exn e => exact out.elim
    | clo k r => exact out.elim
    | scr h hl r => exact out.elim
  | exc n xs l S' =>
    intro ρ' H' d σ' ok1 le1 lo1 ex
    exact out (ρ'.take g.S.length) H' d (gok_cut ok1 _) (cut_le ok le1) ex
  | bk l S' => exact out.elim
  | ct l S' => exact out.elim
  | stuck => exact out.elim
theorem room_hu {k : Nat} {A : Around} (r : Room k A) : A.units + 200 < cLine := by have := r.un; omega
/-- what the making of lambdas wants of a def's code -/
def MkFd (c : Glb) (mg : Str → Option Value) (base : PySem.Heap) (qual : Str) (fd : FuncData) : Prop := ∃ (cc P : Addr), fd.code = .ref cc ∧ LamX.TabB base mg cc P ∧ (P, (qual ++ ".<locals>.") ++ "<lambda>") ∈ c.tabs ∧ ∀ p ∈ c.tabs, p.1 = P → p.2 = (qual ++ ".<locals>.") ++ "<lambda>"
theorem Fun.okXc {CX : CXT} {x qual : Str} {st : Stmt} {f : Addr} {fd : FuncData} {N ps : List Str} {k : Nat} {sp : Sp} {K : PySem.W.Frag} (F : Fun K x qual st f fd) (S : FnScope N ps (defScope st)) (len : ∀ vs H Q E, sp vs H Q E → vs.length = ps.length)
    (hbody : ∀ (cdv : Value) (A : Around) (outer : List PySem.Env) (s : Shared) (H : Hp) (vs : List V) (Q : VK) (E : XK), fd.code = cdv → Room k (A.deeper (envOfC qual (defScope st) s.heap.objs.size f cdv)) → sp vs H Q E →
      ∃ t, PSs (cxOf CX P w K mg base N qual (defScope st) f cdv A outer s H E) (defBody st) t ∧ t { nx := fun _ H' => Q .non H', rt := Q } (start N vs) H) : FnOk P w K mg base CX (k + 1) f fd ps sp := by
  obtain ⟨oc, od, kV, doc, pm, an, cdv, ct, osl, rfl, lk, hcd⟩ := F.ex
  exact fn_of lk hcd S len fun A outer s H vs Q E hr hsp => hbody cdv A outer s H vs Q E rfl hr hsp
theorem fn_okE {T : List Fn} {sub : Nat → Nat → Option Bool} {wf n i : Nat} {F : Fn} {x qual : Str} {st : Stmt} {f : Addr} {fd : FuncData} (S : SgOk c P w mg base k Γ ⟨callN T sub wf n, wf, sub⟩) (Fu : Fun c.K x qual st f fd) (FS : FnScope N ps (defScope st))
    (hF : T[i]? = some F) (hnp : F.np = ps.length) (hnl : F.nl = N.length) (hex : c.ex = none) (hmk : Γ.mn ≠ [] → MkFd c mg base qual fd) (hrd : rdSs N F.body Γ (defScope st) (defBody st) = true) :
    FnOk P w c.K mg base (L2.CX P w) (k + 1) f fd ps (spF c ⟨callN T sub wf (n + 1), wf, sub⟩ i ps.length) := by
  refine Fun.okXc Fu FS (fun vs H Q E h => ?_) (fun cdv A outer s H vs Q E hcdv hr h => ?_)
  · obtain ⟨g, ds, _, _, rs, hl, _⟩ := h
    rw [← rs.length, hl]
  · obtain ⟨g, ds, rfl, ok, rs, hl, out⟩ := h
    refine ⟨tSs c ⟨callN T sub wf n, wf, sub⟩ (fun cls d _ H' => E cls d H') F.body, rdSs_snd F.body c ⟨callN T sub wf n, wf, sub⟩ Γ S (defScope st) (defBody st) _ FS.kind ⟨rfl, rfl, rfl, rfl, rfl, rfl, FS.nd, rfl, fun _ => rfl, fun _ _ => rfl, fun _ => hr, room_hu hr, fun _ => hex, (fun a j e => by rw [hex] at e; cases e), fun h1 _ => ⟨?mk, ?cl⟩⟩ PassesOwn.leaving ⟨rfl, rfl⟩ hrd _ (takes_of rfl rfl rfl rfl), ?_⟩
    case mk =>
      obtain ⟨cc, P', e1, e2, e3, e4⟩ := hmk h1
      exact ⟨cc, P', hcdv.symm.trans e1, e2, e3, e4⟩
    case cl =>
      exact fun y a e => rfl
    refine ⟨g, ds.map some ++ List.replicate (N.length - ds.length) none, rfl, ok, ?_, ?_⟩
    · unfold L2.start
      rw [← rs.length]
      exact start_ok rs _
    · have out : Out c g (fun cls d _ H' => E cls d H') [] (callN T sub wf (n + 1) i ds g.S) (fun v g' => ∀ w, RepV c g' v w → Q w g'.H) := out
      simp only [callN, hF, runF] at out
      rw [if_pos (by rw [hl, hnp]), hnl, hnp, ← hl] at out
      exact run_end (U := ⟨callN T sub wf n, wf, sub⟩) ok out
/-! ### the text's defs -/
structure Def where
  nm : String
  ps : List String
  N : List String
  fn : Fn
  st : Stmt
  mkl : Bool
def sgOf (ds : List Def) (blt : List String) (gv : List (String × D)) (cls : List String) (rz : List Nat) (lmk : Nat → LamI → Bool) : Sg := ⟨ds.map fun d => (d.nm, d.ps.length), blt, gv, cls, rz, false, [], lmk⟩
def nmsOf (l : List String) : List Str := l.map Str.ofString
def fnScB (N P : List Str) (sc : Scope) : Bool :=
  decide (sc.kind = .function) && !sc.isCoroutine && !sc.isGenerator && decide N.Nodup && decide (N.take P.length = P) && P.all (fun x => locB sc x) && sc.names.all (fun y => decide (y.2 ≠ .free))
theorem fnSc_ok {N P : List Str} {sc : Scope} (h : fnScB N P sc = true) : FnScope N P sc := by
  unfold fnScB at h
  simp only [Bool.and_eq_true, decide_eq_true_eq, List.all_eq_true] at h
  obtain ⟨⟨⟨⟨⟨⟨h1, h2⟩, h3⟩, h4⟩, h5⟩, h6⟩, h7⟩ := h
  refine ⟨h1, bnot h2, bnot h3, h4, h5, fun x hx => ?_, h7⟩
  have q := h6 x hx
  unfold locB at q
  split at q
  · exact .inl (by assumption)
  · exact .inr (by assumption)
  · cases q
def mnOf (d : Def) : List (Str × NameKind) := if d.mkl then (defScope d.st).names else []
def defB (Γ : Sg) (d : Def) : Bool := fnScB (nmsOf d.N) (nmsOf d.ps) (defScope d.st) && decide (d.fn.np = d.ps.length) && decide (d.fn.nl = d.N.length) && rdSs (nmsOf d.N) d.fn.body { Γ with mn := mnOf d } (defScope d.st) (defBody d.st)
def DefOk (c : Glb) (mg : Str → Option Value) (base : PySem.Heap) (d : Def) (a : Addr) : Prop := ∃ fd, Fun c.K d.nm d.nm d.st a fd ∧ mg (d.nm : Str) = some (.ref a) ∧ Binds c.K fd (nmsOf d.ps) [] ∧ (d.mkl = true → MkFd c mg base d.nm fd)
def DefsOk (c : Glb) (mg : Str → Option Value) (base : PySem.Heap) : List Def → List Addr → Prop
  | [], [] => True
  | d :: ds, a :: as => DefOk c mg base d a ∧ DefsOk c mg base ds as
  | _, _ => False
theorem mnOf_mk {d : Def} (hm : mnOf d ≠ []) : d.mkl = true := by
  by_cases z : d.mkl = true
  · exact z
  · unfold mnOf at hm
    rw [if_neg z] at hm
    exact absurd rfl hm
theorem SgOk.mn (S : SgOk c P w mg base k Γ U) (m : List (Str × NameKind)) : SgOk c P w mg base k { Γ with mn := m } U := ⟨S.fn, S.fa, S.ar, S.blt, S.cl, S.sb, S.rz, S.gv, S.lam, S.lmk, S.pl⟩
theorem SgOk.lmk0 (S : SgOk c P w mg base k Γ U) : SgOk c P w mg base k { Γ with mn := [], lmk := fun _ _ => false } U := ⟨S.fn, S.fa, S.ar, S.blt, S.cl, S.sb, S.rz, S.gv, S.lam, (fun fl I h => by cases h), S.pl⟩
theorem DefsOk.at_ {c : Glb} {mg : Str → Option Value} {base : PySem.Heap} : ∀ {ds : List Def} {as : List Addr} {i : Nat} {d : Def}, DefsOk c mg base ds as → ds[i]? = some d → ∃ a, as[i]? = some a ∧ DefOk c mg base d a
  | [], [], i, d, _, h => by simp at h
  | _ :: _, [], _, _, h, _ => h.elim
  | [], _ :: _, _, _, h, _ => h.elim
  | x :: ds, a :: as, 0, d, h, e => by simp at e; subst e; exact ⟨a, rfl, h.1⟩
  | x :: ds, a :: as, i + 1, d, h, e => by
    obtain ⟨b, h1, h2⟩ := DefsOk.at_ (i := i) h.2 (by simpa using e)
    exact ⟨b, by simpa using h1, h2⟩
theorem DefsOk.len {c : Glb} {mg : Str → Option Value} {base : PySem.Heap} : ∀ {ds : List Def} {as : List Addr}, DefsOk c mg base ds as → ds.length = as.length
  | [], [], _ => rfl
  | _ :: _, [], h => h.elim
  | [], _ :: _, h => h.elim
  | x :: ds, a :: as, h => by simp [DefsOk.len h.2]
def fnsOf (ds : List Def) : List Fn := ds.map (·.fn)
end
end EV
end

section
set_option Elab.async false
set_option linter.all false
set_option maxRecDepth 100000
set_option maxHeartbeats 4000000
/-! EV23: a closure called -/
namespace EV
open PySem PySem.Spec PyProof.Rows L2
theorem lk_none {l : List (Str × Value)} {x : Str} (h : ∀ v, (x, v) ∉ l) : l.lookup x = none := by
  cases e : l.lookup x with
  | none => rfl
  | some v => exact absurd (PySem.mem_of_lookup e) (h v)
theorem zip_lk : ∀ {ps : List Str} {us : List Value} {i : Nat} {x : Str} {u : Value}, ps.Nodup → ps[i]? = some x → us[i]? = some u → (ps.zip us).reverse.lookup x = some u
  | [], _, _, _, _, _, h, _ => by simp at h
  | _ :: _, [], _, _, _, _, _, h => by simp at h
  | p :: ps, v :: us, 0, x, u, nd, h1, h2 => by
    simp at h1 h2
    subst h1
    subst h2
    have hn : (ps.zip us).reverse.lookup p = none := lk_none fun w hw => (List.nodup_cons.mp nd).1 (List.of_mem_zip (List.mem_reverse.mp hw)).1
    rw [List.zip_cons_cons, List.reverse_cons, List.lookup_append, hn]
    simp
  | p :: ps, v :: us, i + 1, x, u, nd, h1, h2 => by
    have e : (ps.zip us).reverse.lookup x = some u := zip_lk (i := i) (List.nodup_cons.mp nd).2 (by simpa using h1) (by simpa using h2)
    rw [List.zip_cons_cons, List.reverse_cons, List.lookup_append, e] <;> rfl
/-- a lambda that can be run -/
structure LamTx (Γ : Sg) (I : LamI) (pn : List Str) (l : LE) (F : Fn) : Prop where
  nd : (I.caps ++ pn).Nodup
  kind : I.scope.kind = .function
  co : I.scope.isCoroutine = false
  gen : I.scope.isGenerator = false
  own : ∀ y ∈ I.scope.names, y.2 ≠ .cell
  free : ∀ y, I.scope.names.lookup y = some .free → y ∈ I.caps
  cap : ∀ y ∈ I.caps, I.scope.names.lookup y = some .free
  par : ∀ y ∈ pn, I.scope.names.lookup y = some .local
  bind : (I.dfl = 0 ∧ ∀ (name qual : Str) (cells : List (Str × Addr)) (doc pm cv ctv : Value) (us : List Value), us.length = pn.length → bindArgs (PySem.W.kdv_fn name qual I.params (.expr I.body) I.scope cells .none doc pm cv ctv) ⟨us, []⟩ = pure (pn.zip us)) ∨
    (I.dfl ≠ 0 ∧ pn = [] ∧ ∃ qn : List Str, (∀ y ∈ qn, I.scope.names.lookup y = some .local) ∧ ∀ (name qual : Str) (cells : List (Str × Addr)) (t : Addr) (doc pm cv ctv : Value) (its : List Value), its.length = I.dfl → ∃ k, bindArgs (PySem.W.kdv_fn name qual I.params (.expr I.body) I.scope cells (.ref t) doc pm cv ctv) ⟨[], []⟩ = seqItems? (.ref t) >>= k ∧ k (some its.toArray) = pure (qn.zip its))
  np : F.np = I.caps.length + pn.length
  nl : F.nl = I.caps.length + pn.length
  body : F.body = .cons (.ret l) .nil
  rd : ok Γ (I.caps ++ pn) l 0 I.scope I.body = true
theorem vals_get : ∀ {ws : List V} {us : List Value} {i : Nat} {v : V} {u : Value}, Vals ws us → ws[i]? = some v → us[i]? = some u → RelV v u
  | _, _, _, _, _, .nil, h, _ => by simp at h
  | _, _, 0, _, _, .cons r t, h1, h2 => by simp at h1 h2; subst h1; subst h2; exact r
  | _, _, i + 1, _, _, .cons r t, h1, h2 => vals_get (i := i) t (by simpa using h1) (by simpa using h2)
theorem vals_get1 : ∀ {ws : List V} {us : List Value} {i : Nat} {v : V}, Vals ws us → ws[i]? = some v → ∃ u, us[i]? = some u
  | _, _, _, _, .nil, h => by simp at h
  | _, _, 0, _, .cons r t, h1 => ⟨_, rfl⟩
  | _, _, i + 1, _, .cons r t, h1 => by
    obtain ⟨u, e⟩ := vals_get1 (i := i) t (by simpa using h1)
    exact ⟨u, by simpa using e⟩
section
variable {c : Glb} {P : Program} {w : World} {mg : Str → Option Value} {base : PySem.Heap} {k : Nat} {Γ : Sg}
theorem le_back {g : G} {ts : List (Addr × Obj)} {ρ' : List Addr} {S' : Sto} {H' : Hp} (ok : GOk c g) (ht : ∀ a o, ts.lookup a = some o → g.H a = some (exO a o)) (hn : ∀ a o, ts.lookup a = some o → H' a = none)
    (le : Le ⟨g.hid, g.ρ, g.S, subX g.H ts⟩ ⟨g.hid, ρ', S', H'⟩) (ok' : GOk c ⟨g.hid, ρ', S', addX H' ts⟩) : Le g ⟨g.hid, ρ', S', addX H' ts⟩ := by
  refine ⟨le.pre, rfl, fun a ha => ?_, fun a o e nl nt => ?_, fun a e => ?_⟩
  · have z : ts.lookup a = none := by
      rcases opt_cases (ts.lookup a) with z | ⟨p, z⟩
      · exact z
      · have q := ht a p z
        rcases ok.hid a ha with ⟨_, e⟩ | ⟨_, e⟩ <;> rw [e] at q <;> cases q
    have q : H' a = subX g.H ts a := le.hidk a ha
    show addX H' ts a = g.H a
    rw [addX_out z, q, subX_out z]
  · rcases opt_cases (ts.lookup a) with z | ⟨p, z⟩
    · obtain ⟨q1, q2⟩ := le.keep a o (by show subX g.H ts a = _; rw [subX_out z]; exact e) nl nt
      exact ⟨by show addX H' ts a = _; rw [addX_out z]; exact q1, q2⟩
    · have q := ht a p z
      rw [e] at q
      cases q
      refine ⟨addX_in z, fun lv => ?_⟩
      have e2 : addX H' ts a = some (exO a p) := addX_in z
      rcases ok'.lv a lv with ⟨_, q⟩ | ⟨_, q⟩ | ⟨_, q⟩ <;> rw [show (⟨g.hid, ρ', S', addX H' ts⟩ : G).H a = _ from e2] at q <;> cases q
  · rcases opt_cases (ts.lookup a) with z | ⟨p, z⟩
    · show addX H' ts a ≠ none
      rw [addX_out z]
      exact le.grow a (by show subX g.H ts a ≠ none; rw [subX_out z]; exact e)
    · show addX H' ts a ≠ none
      rw [addX_in z]
      simp
end
end EV
end

section
set_option Elab.async false
set_option linter.all false
set_option maxRecDepth 100000
set_option maxHeartbeats 4000000
/-! EV24: a closure's call, by its body's reading -/
namespace EV
open PySem PySem.Spec PyProof.Rows L2
theorem RepBs.length {c : Glb} {g : G} : ∀ {vs : List Vl} {ws : List V}, RepBs c g vs ws → vs.length = ws.length
  | _, _, .nil => rfl
  | _, _, .cons _ t => by simp [RepBs.length t]
theorem vals_len : ∀ {ws : List V} {us : List Value}, Vals ws us → ws.length = us.length
  | _, _, .nil => rfl
  | _, _, .cons _ t => by simp [vals_len t]
section
variable {c : Glb} {P : Program} {w : World} {mg : Str → Option Value} {base : PySem.Heap} {k : Nat} {Γ : Sg}
theorem lam_okE {T : List Fn} {sub : Nat → Nat → Option Bool} {wf n fl : Nat} {F : Fn} {I : LamI} {pn : List Str} {l : LE} (S : SgOk c P w mg base k Γ ⟨callN T sub wf n, wf, sub⟩) (hh : Γ.hot = false) (hex : c.ex = none) (hca : ∀ m, ∃ cls, c.ca m = some cls) (hF : T[fl]? = some F) (hmn : Γ.mn = []) (LT : LamTx Γ I pn l F)
    {g : G} {cs ds : List Vl} {f c' : Addr} {qual : Str} {cells : List (Str × Addr)} {pm ctv : Value} {ts : List (Addr × Obj)} {us xs : List Value} {ws vs : List V} {A : Around} {outer : List PySem.Env} {s : Shared} {Q : VK} {E : XK}
    (ok : GOk c g) (C : CloAt c g fl f c' qual I cells pm ctv ts us ws) (rc : RepBs c g cs ws) (rd : RepBs c g ds vs) (rx : Vals vs xs) (hr : Room (k + 1) A) (e0 : Env0 P w c.K mg base A outer s g.H)
    (out : Out c g (fun cls d _ H' => E cls d H') [] (callN T sub wf (n + 1) fl (cs ++ ds) g.S) (fun v g' => ∀ w, RepV c g' v w → Q w g'.H)) :
    codeAny (model P w) A (.call (.ref f) ⟨xs, []⟩) (CR (L2.CX P w) outer P w g.H s Q E) s := by
  simp only [callN, hF, runF] at out
  have l1 : cs.length = I.caps.length := rc.length.trans C.ln
  have l2 : cs.length + ds.length = F.np := by
    by_cases e : (cs ++ ds).length = F.np
    · simpa using e
    · rw [if_neg e] at out; exact out.elim
  rw [if_pos (by simpa using l2), LT.body, LT.nl, LT.np, Nat.sub_self] at out
  have l3 : ds.length = pn.length := by have := LT.np; omega
  have hts : ∀ a o, ts.lookup a = some o → g.H a = some (exO a o) ∧ s.heap.get? a = some o ∧ a ∉ frs outer := fun a o z => by
    have q := C.tk a o z
    refine ⟨q, (e0.hok a _ q).1, fun m => ?_⟩
    have := e0.frf a m
    rw [q] at this
    cases this
  have me : Me g.H (subX g.H ts) := me_sub fun a o z => (hts a o z).1
  have ok0 : GOk c ⟨g.hid, g.ρ, g.S, subX g.H ts⟩ := gok_me ok me (tabs_sub e0.hok ok.tabs fun a o z => ⟨(hts a o z).1, (hts a o z).2.1, C.tc a o z⟩)
  have e1 : Env0 P w c.K mg base A outer s (subX g.H ts) := ⟨e0.frames, e0.mod, fun b o z => by
    obtain ⟨q1, q2⟩ := e0.bs b o z
    refine ⟨q1, ?_⟩
    unfold subX
    split
    · rfl
    · exact q2, e0.bsz, e0.funs, fun b z => by
    unfold subX
    split
    · rfl
    · exact e0.frf b z, hok_sub e0.hok fun a o z => (hts a o z).1, e0.bare⟩
  have lim : s.heap.NoLimit := e0.mod.nolimit.keeps fun b o e => (e0.bs b o e).1
  obtain ⟨dV, doc, fo0, hdv⟩ := C.fo
  have fo : s.heap.get? f = some _ := (e0.hok f _ fo0).1
  obtain ⟨⟨oc, fvs, t, hoc, hdc, hvc⟩, _, _⟩ := e0.hok c' _ C.co
  have ndc : I.caps.Nodup := (List.nodup_append.mp LT.nd).1
  have ndp : pn.Nodup := (List.nodup_append.mp LT.nd).2.1
  have lw : ws.length = I.caps.length := C.ln
  have lv : vs.length = pn.length := by rw [← rd.length]; exact l3
  have lx : xs.length = pn.length := by rw [← vals_len rx]; exact lv
  have hb : ∃ binds : List (Str × Value), BindsTo s (PySem.W.kdv_fn "<lambda>" qual I.params (.expr I.body) I.scope cells dV doc pm (.ref c') ctv) ⟨xs, []⟩ binds ∧ (∀ x ∈ binds, I.scope.names.lookup x.1 = some .local) ∧ ∀ (i : Nat) (x : Str) (u : Value), pn[i]? = some x → xs[i]? = some u → binds.reverse.lookup x = some u := by
    rcases LT.bind with ⟨hz, hb⟩ | ⟨hz, hp, qn, hq, hb⟩
    · rcases hdv with ⟨_, rfl⟩ | ⟨hn, _⟩
      · exact ⟨pn.zip xs, BindsTo.of_eq (hb _ _ _ _ _ _ _ xs lx), fun x hx => LT.par _ (List.of_mem_zip hx).1, fun i x u h1 h2 => zip_lk ndp h1 h2⟩
      · exact absurd hz hn
    · rcases hdv with ⟨hn, _⟩ | ⟨_, t, o, its, n, rfl, h1, h2, h3⟩
      · exact absurd hn hz
      · obtain ⟨k, k1, k2⟩ := hb "<lambda>" qual cells t doc pm (.ref c') ctv its h3
        subst hp
        have ex : xs = [] := List.length_eq_zero_iff.mp lx
        subst ex
        exact ⟨qn.zip its, BindsTo.of_defaults rfl (e0.hok t _ h1).1 h2 k1 k2, fun x hx => hq _ (List.of_mem_zip hx).1, fun i x u h1 h2 => by simp at h1⟩
  obtain ⟨binds, hb1, hb2, hb3⟩ := hb
  refine codeAny_mono (lam_run (Q := fun v H' => (∀ a o, ts.lookup a = some o → H' a = none) → Q v (addX H' ts)) (E := fun cls d H' => (∀ a o, ts.lookup a = some o → H' a = none) → E cls d (addX H' ts)) (N := I.caps ++ pn) (vs := ws ++ vs) (t := tEv c ⟨callN T sub wf n, wf, sub⟩ (fun cls d _ H' => (∀ a o, ts.lookup a = some o → H' a = none) → E cls d (addX H' ts)) l) hr e1 lim fo ⟨c', oc, fvs, t, rfl, hoc, hdc, hvc⟩ LT.kind LT.co LT.gen LT.own
    hb1 hb2 C.inj (fun y hy => ?_) (fun y a hy => ?_) (by simp [lw, lv]) (fun i y v h1 h2 hv => ?_) ?_ ?_) fun r s' hq => cr_add hq hts
  · obtain ⟨i, hi⟩ := List.getElem?_of_mem (LT.free y hy)
    obtain ⟨a, o, u, q, _⟩ := C.cap i y hi
    exact ⟨a, q⟩
  · obtain ⟨o, v, q1, q2⟩ := C.cel y a hy
    exact ⟨⟨v, o, (hts a o q1).2.1, q2⟩, subX_in q1⟩
  · by_cases hi : i < I.caps.length
    · rw [List.getElem?_append_left hi] at h1
      rw [List.getElem?_append_left (by rw [lw]; exact hi)] at h2
      obtain ⟨a, o, u, q1, q2, q3, q4⟩ := C.cap i y h1
      exact ⟨u, vals_get C.rv h2 q4, .inr ⟨LT.cap y (List.mem_of_getElem? h1), a, q1, o, (hts a o q2).2.1, q3⟩⟩
    · have hi : I.caps.length ≤ i := by omega
      rw [List.getElem?_append_right hi] at h1
      rw [List.getElem?_append_right (by rw [lw]; exact hi), lw] at h2
      obtain ⟨u, hu⟩ := vals_get1 rx h2
      exact ⟨u, vals_get rx h2 hu, .inl ⟨LT.par y (List.mem_of_getElem? h1), hb3 _ _ _ h1 hu⟩⟩
  · refine ((ok_snd S l 0 I.scope I.scope I.body _ ⟨rfl, rfl, rfl, rfl, rfl, rfl, LT.nd, rfl, fun _ => rfl, fun x e => absurd rfl (LT.own _ (PySem.mem_of_lookup e)), fun _ => (hr.deeper _), room_hu (hr.deeper _), fun _ => hex, (fun a j e => by rw [hex] at e; cases e), fun h1 => absurd hmn h1⟩ LT.rd) _ (takes_of rfl rfl rfl rfl)).1 rfl
  · refine ⟨⟨g.hid, g.ρ, g.S, subX g.H ts⟩, (cs ++ ds).map some, rfl, ok0, ?_, ?_⟩
    · have q := start_ok ((rc.me me).vs.app (rd.me me).vs) 0
      simp only [List.replicate_zero, List.append_nil] at q
      unfold L2.start
      have e : (I.caps ++ pn).length - (ws ++ vs).length = 0 := by simp [lw, lv]
      rw [e, List.replicate_zero, List.append_nil]
      exact q
    · simp only [List.replicate_zero, List.append_nil, evSs, evS] at out
      show Out c ⟨g.hid, g.ρ, g.S, subX g.H ts⟩ _ _ (evE ⟨callN T sub wf n, wf, sub⟩ l ((cs ++ ds).map some) g.S) _
      cases hev : evE ⟨callN T sub wf n, wf, sub⟩ l ((cs ++ ds).map some) g.S with
      | ok v S' =>
        rw [hev] at out
        simp only [R.st_ok] at out
        intro ρ' H' ok1 le1 w rw1 hn
        cases ht : take S' v with
        | none => rw [ht] at out; exact out.elim
        | some p =>
          rw [ht] at out
          obtain ⟨o2, l2, r2⟩ := take_ok ok1 rw1 ht
          have out : Out c g (fun cls d _ H' => E cls d H') [] (R.ok (.d p.1) (p.2.take g.S.length)) (fun v g' => ∀ w, RepV c g' v w → Q w g'.H) := out
          have o3 := gok_cut o2 g.S.length
          have le3 := cut_le ok0 (le1.trans l2)
          have o4 := gok_me o3 (me_add hn) (tabs_add o3.tabs hn)
          exact out (ρ'.take g.S.length) (addX H' ts) o4 (le_back ok (fun a o z => (hts a o z).1) hn le3 o4) w (.d (Rep.me (me_add hn) _ _ (Rep.mo (mo_cut o2 _) _ _ r2)))
      | exc m es S' =>
        rw [hev] at out
        simp only [R.st_exc] at out
        intro ρ' H' d ok1 le1 ex
        have out : Out c g (fun cls d _ H' => E cls d H') [] (R.exc m es (S'.take g.S.length) : R Vl) (fun v g' => ∀ w, RepV c g' v w → Q w g'.H) := out
        have o3 := gok_cut ok1 g.S.length
        have le3 := cut_le ok0 le1
        obtain ⟨cls, hcls⟩ := hca m
        refine ⟨cls, hcls, fun hn => ?_⟩
        have o4 := gok_me o3 (me_add hn) (tabs_add o3.tabs hn)
        obtain ⟨cls', h1, h2⟩ := out (ρ'.take g.S.length) (addX H' ts) d o4 (le_back ok (fun a o z => (hts a o z).1) hn le3 o4) ex
        rw [hcls] at h1
        cases h1
        exact h2
      | stuck => rw [hev] at out; exact out.elim
end
end EV
end

section
set_option Elab.async false
set_option linter.all false
set_option maxRecDepth 100000
set_option maxHeartbeats 4000000
/-! EV25: all defs and lambdas of a text -/
namespace EV
open PySem PySem.Spec PyProof.Rows L2
section
variable {c : Glb} {P : Program} {w : World} {mg : Str → Option Value} {base : PySem.Heap} {k : Nat} {N ps : List Str} {Γ : Sg}
theorem all_ok {ds : List Def} {as : List Addr} {blt : List String} {gv : List (String × D)} {cls : List String} {rz : List Nat} {sub : Nat → Nat → Option Bool} {wf : Nat} {ls : List Fn} {lmk : Nat → LamI → Bool} (hca : ∀ m, ∃ cls, c.ca m = some cls) (hlm : ∀ fl I, lmk fl I = true → c.lam fl I) (hL : ∀ fl I, c.lam fl I → ∃ pn l F, (fnsOf ds ++ ls)[fl]? = some F ∧ LamTx { sgOf ds blt gv cls rz lmk with mn := [], lmk := fun _ _ => false } I pn l F) (hD : DefsOk c mg base ds as) (hfa : c.fa = fun i => as[i]?) (hB : ds.all (defB (sgOf ds blt gv cls rz lmk)) = true)
    (hex : c.ex = none) (hblt : ∀ x ∈ blt, mg (x : Str) = none)
    (hcl : ∀ (i : Nat) (x : String), cls[i]? = some x → ∃ (cv : Value) (v : V), c.ca i = some cv ∧ RelV v cv ∧ (∀ u, RelV v u → u = cv) ∧ (mg (x : Str) = some cv ∨ (mg (x : Str) = none ∧ bootBuiltins (x : Str) = some cv ∧ (x : Str) ≠ "__name__")))
    (hsb : ∀ i j b, sub i j = some b → ∃ (D : Addr) (cv : Value), c.ca i = some (.ref D) ∧ c.ca j = some cv ∧ PySem.W.exmOne c.K (.ref D) cv = some b ∧ PySem.W.kitOne c.K (.ref D) cv = some b ∧ ExcC c.K D)
    (hrz : ∀ i x, i ∈ rz → cls[i]? = some x → ∃ (C : Addr) (B newId initId : String) (bmB : List Value), c.ca i = some (.ref C) ∧ mg (x : Str) = some (.ref C) ∧ PySem.W.keepIn c.K (.ref C) = true ∧ ExcBaseFacts B newId initId bmB ∧ PySem.W.excIn c.K C bmB newId = true ∧ PySem.W.subIn c.K (.ref C) (.type "BaseException") = some true ∧ PySem.W.typeIn c.K (.ref C) = some (.type "type")) (hgv : ∀ (x : String) (d : D), (x, d) ∈ gv → ∃ (u : Value) (v : V), mg (x : Str) = some u ∧ RelV v u ∧ ∀ L H, Rep c.K L H d v) :
    ∀ n, SgOk c P w mg base n (sgOf ds blt gv cls rz lmk) ⟨callN (fnsOf ds ++ ls) sub wf n, wf, sub⟩ := by
  have getD : ∀ {f : Nat} {x : String} {np : Nat}, (sgOf ds blt gv cls rz lmk).fns[f]? = some (x, np) → ∃ d, ds[f]? = some d ∧ d.nm = x ∧ d.ps.length = np := fun {f x np} h => by
    have h : (ds.map fun d => (d.nm, d.ps.length))[f]? = some (x, np) := h
    rw [List.getElem?_map, Option.map_eq_some_iff] at h
    obtain ⟨d, hd, e⟩ := h
    cases e
    exact ⟨d, hd, rfl, rfl⟩
  have back : ∀ f a, c.fa f = some a → ∃ p, (sgOf ds blt gv cls rz lmk).fns[f]? = some p := fun f a h => by
    rw [hfa] at h
    have hf : f < as.length := (List.getElem?_eq_some_iff.mp h).1
    rw [← hD.len] at hf
    exact ⟨(ds[f].nm, ds[f].ps.length), by show (ds.map fun d => (d.nm, d.ps.length))[f]? = _; rw [List.getElem?_map, List.getElem?_eq_getElem hf]; rfl⟩
  have chk : ∀ {f : Nat} {d : Def}, ds[f]? = some d → defB (sgOf ds blt gv cls rz lmk) d = true := fun {f d} h => by
    rw [List.all_eq_true] at hB
    exact hB d (List.mem_of_getElem? h)
  have ar : ∀ n (f : Nat) (x : String) (np : Nat) (vs : List Vl) (S : Sto), (sgOf ds blt gv cls rz lmk).fns[f]? = some (x, np) → vs.length ≠ np → callN (fnsOf ds ++ ls) sub wf n f vs S = .stuck := fun n f x np vs S h hne => by
    cases n with
    | zero => rfl
    | succ n =>
      obtain ⟨d, hd, rfl, rfl⟩ := getD h
      have q := chk hd
      unfold defB at q
      simp only [Bool.and_eq_true, decide_eq_true_eq] at q
      have hT : (fnsOf ds ++ ls)[f]? = some d.fn := by
        have h0 : (fnsOf ds)[f]? = some d.fn := by unfold fnsOf; rw [List.getElem?_map, hd]; rfl
        rw [List.getElem?_append_left (List.getElem?_eq_some_iff.mp h0).1]; exact h0
      simp only [callN, hT, runF]
      rw [if_neg (by rw [q.1.1.2]; exact hne)]
  have pl : ∀ n f vs S v S', callN (fnsOf ds ++ ls) sub wf n f vs S = .ok v S' → plainV v = true := fun n f vs S v S' h => by
    cases n with
    | zero => cases h
    | succ n =>
      simp only [callN] at h
      split at h
      · unfold runF at h
        split at h
        · split at h
          · cases h; rfl
          · unfold keepS at h
            split at h
            · cases h; rfl
            · split at h <;> (cases h; rfl)
            · cases h
          · cases h
          · cases h
        · cases h
      · cases h
  intro n
  induction n with
  | zero =>
    refine ⟨fun f x np h => ?_, back, ar 0, hblt, hcl, hsb, hrz, hgv, (fun fl I g cs ds f c' qual cells pm ctv ts us xs ws vs A outer s Q E _ _ _ _ _ _ _ out => out.elim), hlm, pl 0⟩
    obtain ⟨d, hd, rfl, rfl⟩ := getD h
    obtain ⟨a, ha, fd, Fu, hm, hb, hmk⟩ := hD.at_ hd
    refine ⟨a, fd, nmsOf d.ps, ⟨fun vs H Q E ⟨g, xs, _, _, _, _, o⟩ => o.elim, fun A outer s H args us vs Q E hr he hbd hv ⟨g, xs, _, _, _, _, o⟩ => o.elim⟩, hm, Fu.kp, hb, by rw [hfa]; exact ha⟩
  | succ n ih =>
    refine ⟨fun f x np h => ?_, back, ar (n + 1), hblt, hcl, hsb, hrz, hgv, fun fl I g cs dd f c' qual cells pm ctv ts us xs ws vs A outer s Q E ok C rc rd rx hr e0 out => ?_, hlm, pl (n + 1)⟩
    rotate_left
    · obtain ⟨pn, l, F, hF, LT⟩ := hL fl I C.lam
      exact lam_okE ih.lmk0 rfl hex hca hF rfl LT ok C rc rd rx hr e0 out
    obtain ⟨d, hd, rfl, rfl⟩ := getD h
    obtain ⟨a, ha, fd, Fu, hm, hb, hmk⟩ := hD.at_ hd
    have q := chk hd
    unfold defB at q
    simp only [Bool.and_eq_true, decide_eq_true_eq] at q
    obtain ⟨⟨⟨q1, q2⟩, q3⟩, q4⟩ := q
    have hT : (fnsOf ds ++ ls)[f]? = some d.fn := by
        have h0 : (fnsOf ds)[f]? = some d.fn := by unfold fnsOf; rw [List.getElem?_map, hd]; rfl
        rw [List.getElem?_append_left (List.getElem?_eq_some_iff.mp h0).1]; exact h0
    have e1 : d.ps.length = (nmsOf d.ps).length := by simp [nmsOf]
    have e2 : d.N.length = (nmsOf d.N).length := by simp [nmsOf]
    refine ⟨a, fd, nmsOf d.ps, ?_, hm, Fu.kp, hb, by rw [hfa]; exact ha⟩
    rw [e1]
    have r := fn_okE (N := nmsOf d.N) (ih.mn (mnOf d)) Fu (fnSc_ok q1) hT (q2.trans e1) (q3.trans e2) hex (fun z => hmk (mnOf_mk z)) q4
    exact r
end
end EV
end

section
set_option Elab.async false
set_option linter.all false
set_option maxRecDepth 100000
set_option maxHeartbeats 4000000
/-! EV28: does a lambda of the text read as told? -/
namespace EV
open PySem PySem.Spec PyProof.Rows L2
theorem seqNone : seqItems? Value.none = pure none := rfl
theorem bind0 {name qual : Str} {body : Expr} {scope : Scope} {cells : List (Str × Addr)} {doc pm cv ctv : Value} : bindArgs (PySem.W.kdv_fn name qual ⟨[], [], none, [], [], none, []⟩ (.expr body) scope cells .none doc pm cv ctv) ⟨[], []⟩ = pure [] := rfl
theorem bind1 {name qual : Str} {a : Arg} {body : Expr} {scope : Scope} {cells : List (Str × Addr)} {doc pm cv ctv u : Value} : bindArgs (PySem.W.kdv_fn name qual ⟨[], [a], none, [], [], none, []⟩ (.expr body) scope cells .none doc pm cv ctv) ⟨[u], []⟩ = pure [(a.arg, u)] := by
  unfold bindArgs
  simp [seqNone, List.lookup_cons]
theorem bind2 {name qual : Str} {a b : Arg} {body : Expr} {scope : Scope} {cells : List (Str × Addr)} {doc pm cv ctv u v : Value} (h : a.arg ≠ b.arg) : bindArgs (PySem.W.kdv_fn name qual ⟨[], [a, b], none, [], [], none, []⟩ (.expr body) scope cells .none doc pm cv ctv) ⟨[u, v], []⟩ = pure [(a.arg, u), (b.arg, v)] := by
  have h1 : (b.arg == a.arg) = false := by simpa using h.symm
  unfold bindArgs
  simp [seqNone, h1, List.lookup_cons]
theorem bind3 {name qual : Str} {a b d : Arg} {body : Expr} {scope : Scope} {cells : List (Str × Addr)} {doc pm cv ctv u v w : Value} (h : a.arg ≠ b.arg) (h2 : a.arg ≠ d.arg) (h3 : b.arg ≠ d.arg) : bindArgs (PySem.W.kdv_fn name qual ⟨[], [a, b, d], none, [], [], none, []⟩ (.expr body) scope cells .none doc pm cv ctv) ⟨[u, v, w], []⟩ = pure [(a.arg, u), (b.arg, v), (d.arg, w)] := by
  have h1 : (b.arg == a.arg) = false := by simpa using h.symm
  have h4 : (d.arg == a.arg) = false := by simpa using h2.symm
  have h5 : (d.arg == b.arg) = false := by simpa using h3.symm
  unfold bindArgs
  simp [seqNone, h1, h4, h5, List.lookup_cons]
theorem bindD {name qual : Str} {a : Arg} {e : Expr} {body : Expr} {scope : Scope} {cells : List (Str × Addr)} {t : Addr} {doc pm cv ctv u : Value} : ∃ k, bindArgs (PySem.W.kdv_fn name qual ⟨[], [a], none, [], [], none, [e]⟩ (.expr body) scope cells (.ref t) doc pm cv ctv) ⟨[], []⟩ = seqItems? (.ref t) >>= k ∧ k (some [u].toArray) = pure [(a.arg, u)] := by
  refine ⟨_, rfl, ?_⟩
  simp
def bindB (I : LamI) (pn : List Str) : Bool :=
  match I.params with
  | ⟨[], as, none, [], [], none, ds⟩ =>
    match as, ds, pn with
    | [], [], [] => I.dfl == 0
    | [a], [], [x] => I.dfl == 0 && decide (a.arg = x)
    | [a, b], [], [x, y] => I.dfl == 0 && decide (a.arg = x) && decide (b.arg = y) && decide (x ≠ y)
    | [a, b, d], [], [x, y, z] => I.dfl == 0 && decide (a.arg = x) && decide (b.arg = y) && decide (d.arg = z) && decide (x ≠ y) && decide (x ≠ z) && decide (y ≠ z)
    | [a], [_], [] => I.dfl == 1 && decide (I.scope.names.lookup a.arg = some .local)
    | _, _, _ => false
  | _ => false
theorem bindB_ok {I : LamI} {pn : List Str} (h : bindB I pn = true) : (I.dfl = 0 ∧ ∀ (name qual : Str) (cells : List (Str × Addr)) (doc pm cv ctv : Value) (us : List Value), us.length = pn.length → bindArgs (PySem.W.kdv_fn name qual I.params (.expr I.body) I.scope cells .none doc pm cv ctv) ⟨us, []⟩ = pure (pn.zip us)) ∨
    (I.dfl ≠ 0 ∧ pn = [] ∧ ∃ qn : List Str, (∀ y ∈ qn, I.scope.names.lookup y = some .local) ∧ ∀ (name qual : Str) (cells : List (Str × Addr)) (t : Addr) (doc pm cv ctv : Value) (its : List Value), its.length = I.dfl → ∃ k, bindArgs (PySem.W.kdv_fn name qual I.params (.expr I.body) I.scope cells (.ref t) doc pm cv ctv) ⟨[], []⟩ = seqItems? (.ref t) >>= k ∧ k (some its.toArray) = pure (qn.zip its)) := by
  obtain ⟨params, body, scope, caps, dfl⟩ := I
  unfold bindB at h
  simp only at h
  split at h
  · split at h
    · refine .inl ⟨by simpa using h, fun name qual cells doc pm cv ctv us hl => ?_⟩
      cases us with
      | nil => exact bind0
      | cons _ _ => simp at hl
    · simp only [Bool.and_eq_true, beq_iff_eq, decide_eq_true_eq] at h
      obtain ⟨h0, rfl⟩ := h
      refine .inl ⟨h0, fun name qual cells doc pm cv ctv us hl => ?_⟩
      match us, hl with
      | [u], _ => exact bind1
    · simp only [Bool.and_eq_true, beq_iff_eq, decide_eq_true_eq] at h
      obtain ⟨⟨⟨h0, rfl⟩, rfl⟩, h1⟩ := h
      refine .inl ⟨h0, fun name qual cells doc pm cv ctv us hl => ?_⟩
      match us, hl with
      | [u, v], _ => exact bind2 h1
    · simp only [Bool.and_eq_true, beq_iff_eq, decide_eq_true_eq] at h
      obtain ⟨⟨⟨⟨⟨⟨h0, rfl⟩, rfl⟩, rfl⟩, h1⟩, h2⟩, h3⟩ := h
      refine .inl ⟨h0, fun name qual cells doc pm cv ctv us hl => ?_⟩
      match us, hl with
      | [u, v, w], _ => exact bind3 h1 h2 h3
    · rename_i a e
      simp only [Bool.and_eq_true, beq_iff_eq, decide_eq_true_eq] at h
      obtain ⟨h0, h1⟩ := h
      refine .inr ⟨by rw [h0]; exact Nat.one_ne_zero, rfl, [a.arg], fun y hy => by
        have e : y = a.arg := by simpa using hy
        rw [e]; exact h1, fun name qual cells t doc pm cv ctv its hl => ?_⟩
      have hl : its.length = 1 := hl.trans h0
      match its, hl with
      | [u], _ => exact bindD
    · cases h
  · cases h
/-- a lambda of the text: its own parameters, its body -/
structure LamD where
  pn : List Str
  np : Nat
  body : LE
def LamD.fn (d : LamD) : Fn := ⟨d.np, d.np, .cons (.ret d.body) .nil⟩
def lamTxB (Γ : Sg) (I : LamI) (d : LamD) : Bool :=
  decide (I.caps ++ d.pn).Nodup && decide (I.scope.kind = .function) && !I.scope.isCoroutine && !I.scope.isGenerator && I.scope.names.all (fun y => decide (y.2 ≠ .cell) && (decide (y.2 ≠ .free) || I.caps.contains y.1)) && I.caps.all (fun y => decide (I.scope.names.lookup y = some .free)) &&
    d.pn.all (fun y => decide (I.scope.names.lookup y = some .local)) && bindB I d.pn && decide (d.np = I.caps.length + d.pn.length) && ok Γ (I.caps ++ d.pn) d.body 0 I.scope I.body
theorem lamTx_ok {Γ : Sg} {I : LamI} {d : LamD} (h : lamTxB Γ I d = true) : LamTx Γ I d.pn d.body d.fn := by
  unfold lamTxB at h
  simp only [Bool.and_eq_true, decide_eq_true_eq, List.all_eq_true] at h
  obtain ⟨⟨⟨⟨⟨⟨⟨⟨⟨h1, h2⟩, h3⟩, h4⟩, h5⟩, h6⟩, h7⟩, h8⟩, h9⟩, h10⟩ := h
  refine ⟨h1, h2, bnot h3, bnot h4, fun y hy => (h5 y hy).1, fun y hy => ?_, h6, h7, bindB_ok h8, h9, h9, rfl, h10⟩
  have q := (h5 _ (PySem.mem_of_lookup hy)).2
  rw [Bool.or_eq_true] at q
  rcases q with q | q
  · simp at q
  · simpa using q
/-- the text's lambdas behind its n defs -/
def lmkOf (Γ : Sg) (n : Nat) (ls : List LamD) : Nat → LamI → Bool := fun fl I => decide (n ≤ fl) && match ls[fl - n]? with
  | some d => lamTxB Γ I d
  | none => false
def CLam (Γ : Sg) (T : List Fn) : Nat → LamI → Prop := fun fl I => ∃ pn l F, T[fl]? = some F ∧ LamTx Γ I pn l F
theorem lmkOf_ok {Γ : Sg} {fs : List Fn} {ls : List LamD} {fl : Nat} {I : LamI} (h : lmkOf Γ fs.length ls fl I = true) : CLam Γ (fs ++ ls.map LamD.fn) fl I := by
  unfold lmkOf at h
  simp only [Bool.and_eq_true, decide_eq_true_eq] at h
  obtain ⟨h1, h2⟩ := h
  split at h2
  · rename_i d hd
    refine ⟨d.pn, d.body, d.fn, ?_, lamTx_ok h2⟩
    rw [List.getElem?_append_right h1, List.getElem?_map, hd]
    rfl
  · cases h2
end EV
end

section
set_option Elab.async false
set_option linter.all false
set_option maxRecDepth 100000
set_option maxHeartbeats 4000000
/-! EV29: the law, from the evaluator to the row -/
namespace EV
open PySem PySem.Spec PyProof.Rows L2
theorem lk_zip : ∀ {ns : List Str} {us : List Value} {x : Str}, us.length = ns.length → x ∈ ns → ∃ v, (ns.zip us).lookup x = some v
  | [], _, _, _, h => by cases h
  | n :: ns, [], _, hl, _ => by cases hl
  | n :: ns, u :: us, x, hl, h => by
    rw [List.zip_cons_cons, List.lookup_cons]
    cases hb : x == n with
    | true => exact ⟨u, rfl⟩
    | false =>
      rcases List.mem_cons.mp h with e | h
      · rw [e, beq_self_eq_true] at hb; cases hb
      · exact lk_zip (by simpa using hl) h
theorem fm_zip : ∀ {ns : List Str} {us : List Value} {l : List (Str × Value)}, us.length = ns.length → ns.Nodup → (∀ x ∈ ns, l.lookup x = (ns.zip us).lookup x) → ns.filterMap (fun n => (l.lookup n).map (n, ·)) = ns.zip us
  | [], _, _, _, _, _ => rfl
  | n :: ns, [], _, hl, _, _ => by cases hl
  | n :: ns, u :: us, l, hl, nd, h => by
    obtain ⟨n1, n2⟩ := List.nodup_cons.mp nd
    have h0 := h n List.mem_cons_self
    rw [List.zip_cons_cons, List.lookup_cons, beq_self_eq_true] at h0
    rw [List.filterMap_cons, h0, List.zip_cons_cons]
    show (n, u) :: _ = _
    rw [fm_zip (by simpa using hl) n2 fun x hx => ?_]
    rw [h x (List.mem_cons_of_mem _ hx), List.zip_cons_cons, List.lookup_cons]
    have e : (x == n) = false := by
      rw [beq_eq_false_iff_ne]
      intro e; subst e; exact n1 hx
    rw [e]
theorem bind_gen {fd : FuncData} {as : List Arg} (hp : fd.params = ⟨[], as, none, [], [], none, []⟩) (hd : fd.defaults = .none) (nd : (as.map (·.arg)).Nodup) {us : List Value} (hl : us.length = as.length) : bindArgs fd ⟨us, []⟩ = pure ((as.map (·.arg)).zip us) := by
  have hl' : us.length = (as.map (·.arg)).length := by rw [List.length_map]; exact hl
  have h1 : ((as.map (·.arg)).filter fun n => (((as.map (·.arg)).zip us).lookup n).isNone) = [] := by
    rw [List.filter_eq_nil_iff]
    intro x hx
    obtain ⟨v, e⟩ := lk_zip hl' hx
    rw [e]
    simp
  have h2 := fm_zip (l := (as.map (·.arg)).zip us) hl' nd fun x _ => rfl
  unfold bindArgs
  simp only [hp, hd, seqNone, pure_bind, List.map_nil, List.nil_append, List.append_nil]
  simp [hl]
  refine (if_neg (fun z => ?_)).trans ?_
  · have e1 : List.take ((as.map fun x => x.arg).length - (List.drop (0 - (as.map fun x => x.arg).length) ([] : List Value)).length) (as.map fun x => x.arg) = as.map fun x => x.arg := List.take_of_length_le (by simp)
    rw [e1] at z
    have h1' : List.filter (fun n => (List.lookup n ((List.map (fun x => x.arg) as).zip us)).isNone) (List.map (fun x => x.arg) as) = [] := h1
    rw [h1'] at z
    simp at z
  · rw [← List.filterMap_map]
    exact congrArg pure h2
/-! ### a law's text -/
structure LawT where
  ds : List Def
  lds : List LamD
  blt : List String
  gv : List (String × D)
  own : List String
  bcl : List String
  rz : List Nat
  subs : List (Nat × Nat × Bool)
namespace LawT
def fs (T : LawT) : List Fn := fnsOf T.ds ++ T.lds.map LamD.fn
def Γ0 (T : LawT) : Sg := sgOf T.ds T.blt T.gv (T.own ++ T.bcl) T.rz (fun _ _ => false)
def lmk (T : LawT) : Nat → LamI → Bool := lmkOf T.Γ0 (fnsOf T.ds).length T.lds
def Γ (T : LawT) : Sg := sgOf T.ds T.blt T.gv (T.own ++ T.bcl) T.rz T.lmk
def sub (T : LawT) : Nat → Nat → Option Bool := fun i j => (T.subs.find? fun p => p.1 == i && p.2.1 == j).map (·.2.2)
def clsV (T : LawT) (K : PySem.W.Frag) (i : Nat) : Value := match T.own[i]? with
  | some x => .ref (He.ga K x)
  | none => .type ((T.bcl[i - T.own.length]?).getD "object")
def mks (T : LawT) : List Def := T.ds.filter (·.mkl)
def tabs (T : LawT) (K : PySem.W.Frag) : List (Addr × Str) := T.mks.map fun d => ((He.cT K (d.nm, none)).2, ((d.nm : Str) ++ ".<locals>.") ++ "<lambda>")
def excCB (K : PySem.W.Frag) (D : Addr) : Bool :=
  He.eqO (PySem.W.findIn K (.ref D) "__getattribute__") (some (some (.builtin "BaseException.__getattribute__"))) && (He.eqO (PySem.W.findIn K (.ref D) "__getattr__") (some none) && (decide (PySem.W.subIn K (.ref D) (.type "BaseException") = some true) && (PySem.W.hasDictIn K D &&
  (He.eqO (PySem.W.findIn K (.ref D) "__class__") (some (some (.builtin "object.__class__"))) && (He.eqO (PySem.W.specialIn K (.builtin "object.__class__") "__get__") (some (some (.builtin "getset_descriptor.__get__"))) && (decide (PySem.W.takesIn K (.builtin "object.__class__") = some true) && decide (PySem.W.mroIn K D (.type "object") = some true)))))))
theorem excCB_ok {K : PySem.W.Frag} {D : Addr} (h : excCB K D = true) : ExcC K D := by
  unfold excCB at h
  obtain ⟨h1, h⟩ := He.ba h
  obtain ⟨h2, h⟩ := He.ba h
  obtain ⟨h3, h⟩ := He.ba h
  obtain ⟨h4, h⟩ := He.ba h
  obtain ⟨h5, h⟩ := He.ba h
  obtain ⟨h6, h⟩ := He.ba h
  obtain ⟨h7, h8⟩ := He.ba h
  exact ⟨He.eqO_ok h1, He.eqO_ok h2, of_decide_eq_true h3, h4, He.eqO_ok h5, He.eqO_ok h6, of_decide_eq_true h7, of_decide_eq_true h8⟩
def exB (T : LawT) (K : PySem.W.Frag) : Bool :=
  (T.subs.all fun p => decide (p.1 < T.own.length) && (decide (PySem.W.exmOne K (T.clsV K p.1) (T.clsV K p.2.1) = some p.2.2) && (decide (PySem.W.kitOne K (T.clsV K p.1) (T.clsV K p.2.1) = some p.2.2) && excCB K (He.ga K ((T.own.getD p.1 "" : String) : Str))))) &&
  ((T.tabs K).all fun p => (T.tabs K).all fun q => !decide (p.1 = q.1) || decide (p.2 = q.2))
def gvF : String × D → List He.Fa
  | (x, .int i) => [.int x i]
  | (x, .str s) => [.str x (SS s)]
  | _ => []
def gvB : String × D → Bool
  | (_, .int _) => true
  | (_, .str s) => s.all fun c => decide (c < 0x110000)
  | _ => false
def fas (T : LawT) : List He.Fa := T.ds.map (fun d => .glo d.nm) ++ (T.blt.map (fun x => .free x) ++ (T.own.map (fun x => .glo x) ++ (T.bcl.map (fun x => .free x) ++ (T.rz.map (fun i => .exc ((T.own.getD i "" : String) : Str)) ++ T.gv.flatMap gvF))))
def fns (T : LawT) : List He.DefD := T.ds.map fun d => ⟨(d.nm, none), d.nm, d.nm, defArgs d.st, defBody d.st, defScope d.st, [], []⟩
def tfs (T : LawT) : List He.Defn := T.mks.map fun d => ((d.nm : Str), none)
def parB (d : Def) : Bool := match defArgs d.st with
  | ⟨[], as, none, [], [], none, []⟩ => decide (as.map (·.arg) = nmsOf d.ps) && decide (nmsOf d.ps).Nodup
  | _ => false
/-- what is looked at without the heap -/
def ok (T : LawT) : Bool := T.ds.all (defB T.Γ) && T.ds.all parB && T.gv.all gvB && T.bcl.all (fun x => decide (bootBuiltins (x : Str) = some (.type x)) && decide ((x : Str) ≠ "__name__")) && T.rz.all (fun i => decide (i < T.own.length))
end LawT
theorem parB_ok {d : Def} (h : LawT.parB d = true) {fd : FuncData} (hp : fd.params = defArgs d.st) (hd : fd.defaults = .none) {us : List Value} (hl : us.length = (nmsOf d.ps).length) : bindArgs fd ⟨us, []⟩ = pure ((nmsOf d.ps).zip us) := by
  unfold LawT.parB at h
  split at h
  · rename_i as e
    simp only [Bool.and_eq_true, decide_eq_true_eq] at h
    rw [← h.1]
    exact bind_gen (hp.trans e) hd (by rw [h.1]; exact h.2) (by rw [hl, ← h.1, List.length_map])
  · cases h
theorem defsOk_of {c : Glb} {mg : Str → Option Value} {base : PySem.Heap} {f : Def → Addr} : ∀ {ds : List Def}, (∀ d ∈ ds, DefOk c mg base d (f d)) → DefsOk c mg base ds (ds.map f)
  | [], _ => True.intro
  | d :: ds, h => ⟨h d List.mem_cons_self, defsOk_of fun e he => h e (List.mem_cons_of_mem _ he)⟩
theorem law_at {l : PySem.W.OpenLaw} {T : LawT} {w : World} {K : PySem.W.Frag} {mg : Str → Option Value} {fa : Addr} {h : PySem.Heap} {k iLaw wf : Nat} {dl : Def}
    (KX : K.In h) (GN : h.Ns mainGlobals mg) (hfa : mg ("law" : Str) = some (.ref fa)) (c : He.SaysX T.fas T.fns [] T.tfs T.exB w h K) (chk : T.ok = true)
    (hl : T.ds[iLaw]? = some dl) (hnm : dl.nm = "law") (hps : dl.ps = ["script"])
    (hP : ∀ ns : List Int, ns.length ≤ 63 → (∀ z ∈ ns, Builtin.Int.intBits z ≤ 1048576) → ∃ S', callN T.fs T.sub wf (k + 1) iLaw [.scr (ns.map .int)] [] = .ok (.d (.bl true)) S') :
    LamX.LawAtS l w K (L2.CX l.prog w) (k + 1) 63 "script" mg fa h := by
  have cd := c.t.d
  unfold LawT.ok at chk
  simp only [Bool.and_eq_true, List.all_eq_true, decide_eq_true_eq] at chk
  obtain ⟨⟨⟨⟨k1, k2⟩, k3⟩, k4⟩, k5⟩ := chk
  obtain ⟨x1, x2⟩ := He.ba c.more
  simp only [List.all_eq_true] at x1 x2
  have fGlo : ∀ d ∈ T.ds, mg (d.nm : Str) = some (.ref (He.ga K d.nm)) := fun d hd => He.glo_ok KX GN (cd.facts (f := .glo d.nm) (List.mem_append_left _ (List.mem_map.mpr ⟨d, hd, rfl⟩)))
  have fFree : ∀ x ∈ T.blt, mg (x : Str) = none := fun x hx => He.free_ok KX GN (cd.facts (f := .free x) (List.mem_append_right _ (List.mem_append_left _ (List.mem_map.mpr ⟨x, hx, rfl⟩))))
  have fOwn : ∀ x ∈ T.own, mg (x : Str) = some (.ref (He.ga K x)) := fun x hx => He.glo_ok KX GN (cd.facts (f := .glo x) (List.mem_append_right _ (List.mem_append_right _ (List.mem_append_left _ (List.mem_map.mpr ⟨x, hx, rfl⟩)))))
  have fBcl : ∀ x ∈ T.bcl, mg (x : Str) = none := fun x hx => He.free_ok KX GN (cd.facts (f := .free x) (List.mem_append_right _ (List.mem_append_right _ (List.mem_append_right _ (List.mem_append_left _ (List.mem_map.mpr ⟨x, hx, rfl⟩))))))
  have fRz : ∀ i ∈ T.rz, (He.Fa.exc ((T.own.getD i "" : String) : Str)).ok K = true := fun i hi => cd.facts (f := .exc ((T.own.getD i "" : String) : Str)) (List.mem_append_right _ (List.mem_append_right _ (List.mem_append_right _ (List.mem_append_right _ (List.mem_append_left _ (List.mem_map.mpr ⟨i, hi, rfl⟩))))))
  have fGv : ∀ p ∈ T.gv, ∀ f ∈ LawT.gvF p, f.ok K = true := fun p hp f hf => cd.facts (List.mem_append_right _ (List.mem_append_right _ (List.mem_append_right _ (List.mem_append_right _ (List.mem_append_right _ (List.mem_flatMap.mpr ⟨p, hp, hf⟩))))))
  have defAt : ∀ d ∈ T.ds, ∃ fd, Fun K d.nm d.nm d.st (He.ga K d.nm) fd ∧ Binds K fd (nmsOf d.ps) [] ∧ (∀ (s : Shared) (us : List Value), us.length = (nmsOf d.ps).length → BindsTo s fd ⟨us, []⟩ ((nmsOf d.ps).zip us)) ∧ fd.code = .ref (He.codeOf K (d.nm, none)) := fun d hd => by
    obtain ⟨fd, F⟩ := cd.defs (d := ⟨(d.nm, none), d.nm, d.nm, defArgs d.st, defBody d.st, defScope d.st, [], []⟩) (List.mem_map.mpr ⟨d, hd, rfl⟩)
    have F : FunD K d.nm d.nm (defArgs d.st) (defBody d.st) (defScope d.st) [] [] (He.ga K d.nm) fd := F
    obtain ⟨oc, od, dV, kV, doc, pm, an, cdv, ct, osl, rfl, lk, hcd, hD, hK⟩ := F.ex
    rcases hD with ⟨_, rfl⟩ | ⟨e, _⟩
    · have bnd : ∀ us : List Value, us.length = (nmsOf d.ps).length → bindArgs (PySem.W.fnOf d.nm d.nm (defArgs d.st) (defBody d.st) (defScope d.st) .none kV doc pm an cdv ct) ⟨us, []⟩ = pure ((nmsOf d.ps).zip us) := fun us hl => parB_ok (k2 d hd) rfl rfl hl
      obtain ⟨cc, hcc⟩ := He.codeIn_ref hcd
      refine ⟨_, ⟨⟨oc, od, kV, doc, pm, an, cdv, ct, osl, rfl, lk, hcd⟩, F.kp⟩, Binds.all bnd, fun s us hl => BindsTo.of_eq (bnd us hl), ?_⟩
      show cdv = _
      rw [He.codeOf_eq (p := (d.nm, none)) lk hcc, hcc]
    · exact absurd rfl e
  have hdl : dl ∈ T.ds := List.mem_of_getElem? hl
  obtain ⟨fd, Fu, hbL, hbT, hcode⟩ := defAt dl hdl
  have eNm : (dl.nm : Str) = ("law" : Str) := by rw [hnm]
  have ePs : nmsOf dl.ps = [("script" : Str)] := by rw [hps]; rfl
  have hga : He.ga K dl.nm = fa := by
    have e : mg ("law" : Str) = some (.ref (He.ga K dl.nm)) := by rw [← eNm]; exact fGlo dl hdl
    rw [hfa] at e
    injection e with e
    injection e with e
    exact e.symm
  -- what is fixed
  let c0 : Glb := { lam := CLam { T.Γ with mn := [], lmk := fun _ _ => false } T.fs, K := K, fa := fun i => (T.ds.map fun d => He.ga K d.nm)[i]?, ca := fun i => some (T.clsV K i), tabs := T.tabs K, ex := none }
  have own_at : ∀ {i : Nat} {x : String}, T.own[i]? = some x → T.clsV K i = .ref (He.ga K x) := fun {i x} e => by unfold LawT.clsV; rw [e]
  have own_none : ∀ {i : Nat} {x : String}, T.own[i]? = none → T.bcl[i - T.own.length]? = some x → T.clsV K i = .type x := fun {i x} e e2 => by unfold LawT.clsV; rw [e, e2]; rfl
  have hcl : ∀ (i : Nat) (x : String), (T.own ++ T.bcl)[i]? = some x → ∃ (cv : Value) (v : V), c0.ca i = some cv ∧ RelV v cv ∧ (∀ u, RelV v u → u = cv) ∧ (mg (x : Str) = some cv ∨ (mg (x : Str) = none ∧ bootBuiltins (x : Str) = some cv ∧ (x : Str) ≠ "__name__")) := fun i x hx => by
    by_cases hi : i < T.own.length
    · rw [List.getElem?_append_left hi] at hx
      exact ⟨.ref (He.ga K x), .ref (He.ga K x), congrArg some (own_at hx), rfl, fun u r => r, .inl (fOwn x (List.mem_of_getElem? hx))⟩
    · rw [List.getElem?_append_right (by omega)] at hx
      have hm := List.mem_of_getElem? hx
      exact ⟨.type x, .ty x, congrArg some (own_none (List.getElem?_eq_none_iff.mpr (by omega)) hx), rfl, fun u r => r, .inr ⟨fBcl x hm, (k4 x hm).1, (k4 x hm).2⟩⟩
  have hsb : ∀ i j b, T.sub i j = some b → ∃ (D : Addr) (cv : Value), c0.ca i = some (.ref D) ∧ c0.ca j = some cv ∧ PySem.W.exmOne c0.K (.ref D) cv = some b ∧ PySem.W.kitOne c0.K (.ref D) cv = some b ∧ ExcC c0.K D := fun i j b hb => by
    unfold LawT.sub at hb
    rw [Option.map_eq_some_iff] at hb
    obtain ⟨p, hp, rfl⟩ := hb
    have hm := List.mem_of_find?_eq_some hp
    have hq := List.find?_some hp
    simp only [Bool.and_eq_true, beq_iff_eq] at hq
    obtain ⟨rfl, rfl⟩ := hq
    have q := x1 p hm
    simp only [Bool.and_eq_true, decide_eq_true_eq] at q
    obtain ⟨q1, q2, q3, q4⟩ := q
    have e1 : T.own[p.1]? = some (T.own.getD p.1 "") := by rw [List.getD_eq_getElem?_getD, List.getElem?_eq_getElem q1]; rfl
    rw [own_at e1] at q2 q3
    exact ⟨He.ga K ((T.own.getD p.1 "" : String) : Str), T.clsV K p.2.1, congrArg some (own_at e1), rfl, q2, q3, LawT.excCB_ok q4⟩
  have hrz : ∀ i x, i ∈ T.rz → (T.own ++ T.bcl)[i]? = some x → ∃ (C : Addr) (B newId initId : String) (bmB : List Value), c0.ca i = some (.ref C) ∧ mg (x : Str) = some (.ref C) ∧ PySem.W.keepIn c0.K (.ref C) = true ∧ ExcBaseFacts B newId initId bmB ∧ PySem.W.excIn c0.K C bmB newId = true ∧ PySem.W.subIn c0.K (.ref C) (.type "BaseException") = some true ∧ PySem.W.typeIn c0.K (.ref C) = some (.type "type") := fun i x hi hx => by
    have hlt := k5 i hi
    rw [List.getElem?_append_left hlt] at hx
    have e : T.own.getD i "" = x := by rw [List.getD_eq_getElem?_getD, hx]; rfl
    have q := fRz i hi
    rw [e] at q
    obtain ⟨e1, e2, e3, e4⟩ := He.exc_ok q
    exact ⟨He.ga K x, _, _, _, He.veBase, congrArg some (own_at hx), fOwn x (List.mem_of_getElem? hx), e2, PySem.F.excBase_ValueError, e1, e3, e4⟩
  have hgv : ∀ (x : String) (d : D), (x, d) ∈ T.gv → ∃ (u : Value) (v : V), mg (x : Str) = some u ∧ RelV v u ∧ ∀ L H, Rep c0.K L H d v := fun x d hx => by
    have q := fGv _ hx
    have q2 := k3 _ hx
    cases d with
    | int i =>
      obtain ⟨t, e⟩ := He.int_ok KX GN (q (.int x i) List.mem_cons_self)
      exact ⟨_, .int i, e, ⟨t, rfl⟩, fun _ _ => .int i⟩
    | str s =>
      obtain ⟨t, e⟩ := He.str_ok KX GN (q (.str x (SS s)) List.mem_cons_self)
      have q3 : (s.all fun c => decide (c < 0x110000)) = true := q2
      simp only [List.all_eq_true, decide_eq_true_eq] at q3
      exact ⟨_, .str (SS s), e, ⟨t, rfl⟩, fun _ _ => .str q3⟩
    | _ => cases q2
  have tabE : ∀ d ∈ T.mks, ((He.cT K (d.nm, none)).2, ((d.nm : Str) ++ ".<locals>.") ++ "<lambda>") ∈ T.tabs K := fun d hd => List.mem_map.mpr ⟨d, hd, rfl⟩
  have tabU : ∀ p ∈ T.tabs K, ∀ q ∈ T.tabs K, p.1 = q.1 → p.2 = q.2 := fun p hp q hq e => by
    have z := x2 p hp q hq
    rw [Bool.or_eq_true] at z
    rcases z with z | z
    · rw [decide_eq_true e] at z; cases z
    · exact of_decide_eq_true z
  have chkL := k1 dl hdl
  unfold defB at chkL
  simp only [Bool.and_eq_true, decide_eq_true_eq] at chkL
  obtain ⟨⟨⟨q1, q2⟩, q3⟩, q4⟩ := chkL
  refine ⟨fd, T.tfs.map (He.cT K), spF c0 ⟨callN T.fs T.sub wf (k + 1), wf, T.sub⟩ iLaw 1, fun p hp => ?_, fun p hp => ?_, fun p hp => ?_, fun s u => ?_, fun H a ns h63 hbits hT hS => ?_, fun base KB GB hTB => ?_⟩
  · obtain ⟨x, hx, rfl⟩ := List.mem_map.mp hp
    exact c.empty x hx
  · obtain ⟨x, hx, rfl⟩ := List.mem_map.mp hp
    exact c.out x hx
  · obtain ⟨x, hx, rfl⟩ := List.mem_map.mp hp
    exact PySem.W.codeHd_of_K KX (c.hd x hx)
  · have z := hbT s [u] (by rw [ePs]; rfl)
    rw [ePs] at z
    exact z
  · obtain ⟨S', hS'⟩ := hP ns h63 hbits
    have hlen : (ns.map D.int).length ≤ lim := by rw [List.length_map]; exact Nat.le_trans h63 (by decide)
    have tb : LamX.Tabs (T.tabs K) H := fun p hp => by
      obtain ⟨d, hd, rfl⟩ := List.mem_map.mp hp
      exact LamX.TabS.nil (hT _ (List.mem_map.mpr ⟨((d.nm : Str), none), List.mem_map.mpr ⟨d, hd, rfl⟩, rfl⟩))
    have ok0 : GOk c0 ⟨[], [], [], H⟩ := ⟨rfl, .nil, fun a ha => absurd ha (by simp), fun a ha => absurd ha (by simp), fun n a x h1 => by simp at h1, tb⟩
    have reps : ∀ ns : List Int, Reps c0.K (live ⟨[], [], [], H⟩) H (ns.map D.int) (ns.map V.int) := fun ns => by
      induction ns with
      | nil => exact .nil
      | cons n ns ih => exact .cons (.int n) ih
    have nolive : ∀ a, ¬ live (⟨[], [], [], H⟩ : G) a := fun a z => by
      rcases z with z | ⟨n, x, h1, _⟩
      · cases z
      · simp at h1
    have sq : SqS c0 ⟨[], [], [], H⟩ a (ns.map V.int) := by
      rcases hS with hS | hS
      · exact .inl ⟨hS, nolive a⟩
      · exact .inr (.inr hS)
    refine ⟨⟨[], [], [], H⟩, [.scr (ns.map D.int)], rfl, ok0, .cons (.scr sq hlen (reps ns)) .nil, rfl, ?_⟩
    show Out c0 ⟨[], [], [], H⟩ _ [] (callN T.fs T.sub wf (k + 1) iLaw [.scr (ns.map D.int)] []) _
    rw [hS']
    intro ρ' H' _ _ w hw
    cases hw with
    | d r => cases r; rfl
  · have mkfd : ∀ d ∈ T.mks, ∀ fd : FuncData, fd.code = .ref (He.codeOf K (d.nm, none)) → MkFd c0 mg base d.nm fd := fun d hdm fd hco => by
      have t1 := hTB _ (List.mem_map.mpr ⟨((d.nm : Str), none), List.mem_map.mpr ⟨d, hdm, rfl⟩, rfl⟩)
      have t2 := tabE d hdm
      refine ⟨(He.cT K (d.nm, none)).1, (He.cT K (d.nm, none)).2, ?_, ?_, ?_, ?_⟩
      rotate_left
      · exact t1
      · apply t2
      · intro p hp e
        have := tabU p hp _ t2 e
        assumption
      rw [hco]
      unfold He.cT
      rfl
    have dok : DefsOk c0 mg base T.ds (T.ds.map fun d => He.ga K d.nm) := defsOk_of fun d hd => by
      obtain ⟨fd, Fu, hb, _, hco⟩ := defAt d hd
      refine ⟨fd, Fu, fGlo d hd, hb, fun hm => ?_⟩
      exact mkfd d (List.mem_filter.mpr ⟨hd, hm⟩) fd hco
    have all := all_ok (c := c0) (P := l.prog) (w := w) (mg := mg) (base := base) (ds := T.ds) (as := T.ds.map fun d => He.ga K d.nm) (blt := T.blt) (gv := T.gv) (cls := T.own ++ T.bcl) (rz := T.rz) (sub := T.sub) (wf := wf) (ls := T.lds.map LamD.fn) (lmk := T.lmk)
      (fun m => ⟨_, rfl⟩) (fun fl I hf => lmkOf_ok hf) (fun fl I hf => hf) dok rfl (by rw [List.all_eq_true]; exact k1) rfl fFree hcl hsb hrz hgv k
    obtain ⟨fd2, _, _, _, hmk⟩ : DefOk c0 mg base dl (He.ga K dl.nm) := by
      obtain ⟨a, ha, hd⟩ := dok.at_ hl
      rw [List.getElem?_map, hl] at ha
      cases ha
      exact hd
    have hT : T.fs[iLaw]? = some dl.fn := by
      have h0 : (fnsOf T.ds)[iLaw]? = some dl.fn := by unfold fnsOf; rw [List.getElem?_map, hl]; rfl
      unfold LawT.fs
      rw [List.getElem?_append_left (List.getElem?_eq_some_iff.mp h0).1]; exact h0
    have e1 : dl.ps.length = (nmsOf dl.ps).length := by simp [nmsOf]
    have e2 : dl.N.length = (nmsOf dl.N).length := by simp [nmsOf]
    have hmk' : mnOf dl ≠ [] → MkFd c0 mg base dl.nm fd := fun z => by
      have hm := mnOf_mk z
      exact mkfd dl (List.mem_filter.mpr ⟨hdl, hm⟩) fd hcode
    have r := fn_okE (N := nmsOf dl.N) (ps := nmsOf dl.ps) (all.mn (mnOf dl)) Fu (fnSc_ok q1) hT (q2.trans e1) (q3.trans e2) rfl hmk' q4
    rw [hga, ePs] at r
    exact r
end EV
end

section
set_option Elab.async false
set_option linter.all false
set_option maxRecDepth 100000
set_option maxHeartbeats 1000000
/-! EVP: laws of the evaluator for plain proofs -/
namespace EV
theorem lim_val : lim = 16777216 := rfl
/-! ### store and names -/
theorem get_at {α : Type} (S G : List α) (c : α) : (S ++ c :: G)[S.length]? = some c := by simp
theorem set_at {α : Type} (S G : List α) (c d : α) : (S ++ c :: G).set S.length d = S ++ d :: G := by
  induction S with
  | nil => rfl
  | cons x S ih => simp
theorem take_at {α : Type} (S G : List α) : (S ++ G).take S.length = S := by simp
/-! ### comprehensions -/
theorem compGo_map {t : LT} {c : Loc → Sto → R Bool} {e : Loc → Sto → R Vl} {l : Loc} {S : Sto} (f : D → D) : ∀ {xs acc : List D}, (∀ x ∈ xs, ∃ l', setT t x l = some l' ∧ c l' S = .ok true S ∧ e l' S = .ok (.d (f x)) S) → acc.length + xs.length ≤ lim →
    compGo t c e l xs acc S = .ok (acc ++ xs.map f) S
  | [], acc, _, _ => by simp [compGo]
  | x :: xs, acc, h, hl => by
    obtain ⟨l', h1, h2, h3⟩ := h x List.mem_cons_self
    have hl' : acc.length < lim := by simp at hl; omega
    simp only [compGo, h1, h2, h3, take, if_pos hl']
    rw [compGo_map f (fun y hy => h y (List.mem_cons_of_mem _ hy)) (by simp at hl ⊢; omega)]
    simp
/-- with a condition -/
theorem compGo_fm {t : LT} {c : Loc → Sto → R Bool} {e : Loc → Sto → R Vl} {l : Loc} {S : Sto} (p : D → Bool) (f : D → D) : ∀ {xs acc : List D}, (∀ x ∈ xs, ∃ l', setT t x l = some l' ∧ c l' S = .ok (p x) S ∧ (p x = true → e l' S = .ok (.d (f x)) S)) → acc.length + xs.length ≤ lim →
    compGo t c e l xs acc S = .ok (acc ++ (xs.filter p).map f) S
  | [], acc, _, _ => by simp [compGo]
  | x :: xs, acc, h, hl => by
    obtain ⟨l', h1, h2, h3⟩ := h x List.mem_cons_self
    have hl' : acc.length < lim := by simp at hl; omega
    cases hp : p x with
    | true =>
      have h4 := h3 hp
      simp only [compGo, h1, h2, hp, h4, take, if_pos hl']
      rw [compGo_fm p f (fun y hy => h y (List.mem_cons_of_mem _ hy)) (by simp at hl ⊢; omega)]
      simp [hp]
    | false =>
      simp only [compGo, h1, h2, hp]
      rw [compGo_fm p f (fun y hy => h y (List.mem_cons_of_mem _ hy)) (by simp at hl ⊢; omega)]
      simp [hp]
/-- the store may change by an invariant -/
theorem compGo_inv {t : LT} {c : Loc → Sto → R Bool} {e : Loc → Sto → R Vl} {l : Loc} (I : Sto → Prop) (P : D → Prop) : ∀ {xs acc : List D} {S : Sto}, I S → (∀ x ∈ xs, ∀ S, I S → ∃ l' y S', setT t x l = some l' ∧ c l' S = .ok true S ∧ e l' S = .ok (.d y) S' ∧ I S' ∧ P y) → acc.length + xs.length ≤ lim →
    ∃ ys S', compGo t c e l xs acc S = .ok (acc ++ ys) S' ∧ ys.length = xs.length ∧ (∀ y ∈ ys, P y) ∧ I S'
  | [], acc, S, h0, _, _ => ⟨[], S, by simp [compGo], rfl, by simp, h0⟩
  | x :: xs, acc, S, h0, h, hl => by
    obtain ⟨l', y, S1, h1, h2, h3, h4, h5⟩ := h x List.mem_cons_self S h0
    have hl' : acc.length < lim := by simp at hl; omega
    obtain ⟨ys, S2, q1, q2, q3, q4⟩ := compGo_inv I P (acc := acc ++ [y]) h4 (fun z hz => h z (List.mem_cons_of_mem _ hz)) (by simp at hl ⊢; omega)
    refine ⟨y :: ys, S2, ?_, by simp [q2], fun z hz => ?_, q4⟩
    · simp only [compGo, h1, h2, h3, take, if_pos hl', q1]
      simp
    · rcases List.mem_cons.mp hz with rfl | hz
      · exact h5
      · exact q3 z hz
/-! ### loops -/
theorem forGo_inv {t : LT} {b : Loc → Sto → RS} (I : Nat → Loc → Sto → Prop) : ∀ {xs : List D} {k : Nat} {l : Loc} {S : Sto}, I k l S → (∀ i x l S, xs[i]? = some x → I (k + i) l S → ∃ l' l2 S2, setT t x l = some l' ∧ b l' S = .nx l2 S2 ∧ I (k + i + 1) l2 S2) →
    ∃ l' S', forGo t b xs l S = .nx l' S' ∧ I (k + xs.length) l' S'
  | [], k, l, S, h0, _ => ⟨l, S, rfl, h0⟩
  | x :: xs, k, l, S, h0, h => by
    obtain ⟨l', l2, S2, h1, h2, h3⟩ := h 0 x l S rfl h0
    obtain ⟨l3, S3, q1, q2⟩ := forGo_inv I (xs := xs) (k := k + 1) (l := l2) (S := S2) h3 fun i y l S e hI => by
      have := h (i + 1) y l S (by simpa using e) (by rw [show k + (i + 1) = k + 1 + i by omega]; exact hI)
      rw [show k + (i + 1) = k + 1 + i by omega] at this
      exact this
    refine ⟨l3, S3, ?_, by rw [show k + (x :: xs).length = k + 1 + xs.length by simp; omega]; exact q2⟩
    simp only [forGo, h1, h2, q1]
theorem ev_comp_map {V : Env} {elt : LE} {g : LI} {t : LT} {own : List Nat} {l : Loc} {S : Sto} {ds : List D} (f : D → D) (h1 : evI V g l S = .ok (.items ds) S) (h2 : ∀ x ∈ ds, ∃ l', setT t x (wipeL l own) = some l' ∧ evE V elt l' S = .ok (.d (f x)) S) (h3 : ds.length ≤ lim) :
    evE V (.comp elt g t .no own) l S = .ok (.d (.lst (ds.map f))) S := by
  simp only [evE, h1, R.bind_ok, compR]
  rw [compGo_map f (fun x hx => ?_) (by simpa using h3)]
  · simp
  · obtain ⟨l', q1, q2⟩ := h2 x hx
    exact ⟨l', q1, rfl, q2⟩
theorem ev_comp_fm {V : Env} {elt cn : LE} {g : LI} {t : LT} {own : List Nat} {l : Loc} {S : Sto} {ds : List D} (p : D → Bool) (f : D → D) (h1 : evI V g l S = .ok (.items ds) S) (h2 : ∀ x ∈ ds, ∃ l', setT t x (wipeL l own) = some l' ∧ evE V cn l' S = .ok (.d (.bl (p x))) S ∧ (p x = true → evE V elt l' S = .ok (.d (f x)) S)) (h3 : ds.length ≤ lim) :
    evE V (.comp elt g t (.yes cn) own) l S = .ok (.d (.lst ((ds.filter p).map f))) S := by
  simp only [evE, h1, R.bind_ok, compR]
  rw [compGo_fm p f (fun x hx => ?_) (by simpa using h3)]
  · simp
  · obtain ⟨l', q1, q2, q3⟩ := h2 x hx
    exact ⟨l', q1, by simp [evC, q2, asBool], q3⟩
theorem ev_comp_inv {V : Env} {elt : LE} {g : LI} {t : LT} {own : List Nat} {l : Loc} {S S0 : Sto} {ds : List D} (I : Sto → Prop) (P : D → Prop) (h1 : evI V g l S0 = .ok (.items ds) S) (h0 : I S) (h2 : ∀ x ∈ ds, ∀ S, I S → ∃ l' y S', setT t x (wipeL l own) = some l' ∧ evE V elt l' S = .ok (.d y) S' ∧ I S' ∧ P y) (h3 : ds.length ≤ lim) :
    ∃ ys S', evE V (.comp elt g t .no own) l S0 = .ok (.d (.lst ys)) S' ∧ ys.length = ds.length ∧ (∀ y ∈ ys, P y) ∧ I S' := by
  obtain ⟨ys, S', q1, q2, q3, q4⟩ := compGo_inv (t := t) (c := evC V .no) (e := evE V elt) (l := wipeL l own) I P (xs := ds) (acc := []) h0 (fun x hx S hS => by
    obtain ⟨l', y, S', r1, r2, r3, r4⟩ := h2 x hx S hS
    exact ⟨l', y, S', r1, rfl, r2, r3, r4⟩) (by simpa using h3)
  refine ⟨ys, S', ?_, q2, q3, q4⟩
  simp only [evE, h1, R.bind_ok, compR, q1]
  simp
/-! ### constructs, one by one -/
theorem ev_op {V : Env} {o : Op} {a b : LE} {l : Loc} {S S1 S2 : Sto} {x y z : D} (h1 : evE V a l S = .ok (.d x) S1) (h2 : evE V b l S1 = .ok (.d y) S2) (h3 : opD o x y = some z) : evE V (.op o a b) l S = .ok (.d z) S2 := by
  simp only [evE, h1, h2, R.bind_ok, peek, h3, R.opt_some]
theorem ev_bi1 {V : Env} {b : Bi} {e : LE} {l : Loc} {S S1 : Sto} {x z : D} (h1 : evE V e l S = .ok (.d x) S1) (h : biD b [x] = some z) : evE V (.bi b (.cons e .nil)) l S = .ok (.d z) S1 := by
  simp only [evE, evEs, h1, R.bind_ok, biV, dicOf, peeks, peek, Option.bind_some, h, R.opt_some]
theorem ev_lst1 {V : Env} {e : LE} {l : Loc} {S S1 : Sto} {x : D} (h1 : evE V e l S = .ok (.d x) S1) : evE V (.lst (.cons e .nil)) l S = .ok (.d (.lst [x])) S1 := by
  simp only [evE, evEs, h1, R.bind_ok, takes, take, R.opt_some]
theorem ev_thaw {V : Env} {e : LE} {l : Loc} {S S1 : Sto} {ds : List D} (h1 : evE V e l S = .ok (.d (.lst ds)) S1) : evE V (.thaw e) l S = .ok (.ref S1.length) (S1 ++ [.lst ds]) := by
  simp only [evE, h1, R.bind_ok]
theorem ev_var {V : Env} {i : Nat} {l : Loc} {S : Sto} {v : Vl} (h : l[i]? = some (some v)) : evE V (.var i) l S = .ok v S := by simp only [evE, h]
theorem ev_lit {V : Env} {d : D} {l : Loc} {S : Sto} : evE V (.lit d) l S = .ok (.d d) S := by simp only [evE]
theorem ev_asgD {V : Env} {i : Nat} {e : LE} {l : Loc} {S S1 : Sto} {v : Vl} (h1 : evE V e l S = .ok v S1) : evS V (.asg (.nm i) e) l S = .nx (l.set i (some v)) S1 := by
  simp only [evS, h1, R.st_ok, setTV, RS.opt_some]
theorem ev_rng2 {V : Env} {a b : LE} {l : Loc} {S S1 S2 : Sto} {i j : Int} (h1 : evE V a l S = .ok (.d (.int i)) S1) (h2 : evE V b l S1 = .ok (.d (.int j)) S2) (hi : wideI i = true) (hj : wideI j = true) : evI V (.rng2 a b) l S = .ok (.items (rangeD i j)) S2 := by
  simp only [evI, h1, h2, R.bind_ok, hi, hj, Bool.and_self, if_true]
theorem ev_rng1 {V : Env} {a : LE} {l : Loc} {S S1 : Sto} {j : Int} (h1 : evE V a l S = .ok (.d (.int j)) S1) (hj : wideI j = true) : evI V (.rng1 a) l S = .ok (.items (rangeD 0 j)) S1 := by
  simp only [evI, h1, R.bind_ok, hj, if_true]
theorem ev_for {V : Env} {t : LT} {g : LI} {b : LSs} {l : Loc} {S S1 : Sto} {ds : List D} (h : evI V g l S = .ok (.items ds) S1) : evS V (.for_ t g b) l S = forGo t (evSs V b) ds l S1 := by
  simp only [evS, h, R.st_ok, forR]
theorem opD_addI (i j : Int) : opD .add (.int i) (.int j) = some (.int (i + j)) := rfl
theorem opD_subI (i j : Int) : opD .sub (.int i) (.int j) = some (.int (i - j)) := rfl
end EV
end

section
set_option Elab.async false
set_option linter.all false
set_option maxRecDepth 100000
set_option maxHeartbeats 1000000
/-! EVQ: more laws of the evaluator -/
namespace EV
theorem ev_if_t {V : Env} {c : LE} {a b : LSs} {l : Loc} {S : Sto} (h : evE V c l S = .ok (.d (.bl true)) S) : evS V (.ife c a b) l S = evSs V a l S := by simp only [evS, h, R.st_ok, asBool, RS.opt_some, if_true]
theorem ev_if_f {V : Env} {c : LE} {a b : LSs} {l : Loc} {S : Sto} (h : evE V c l S = .ok (.d (.bl false)) S) : evS V (.ife c a b) l S = evSs V b l S := by simp only [evS, h, R.st_ok, asBool, RS.opt_some]; rfl
end EV
end

section
set_option Elab.async false
set_option linter.all false
set_option maxRecDepth 100000
set_option maxHeartbeats 4000000
/-! EVR: the laws' own hand of draws -/
namespace EV
def drawBody : LSs := (.cons (.ife (.and (.cmp .eq (.idx (.var 0) (.lit (.int 2))) (.lit (.int 0))) (.cmp .lt (.idx (.var 0) (.lit (.int 1))) (.bi .len (.cons (.idx (.var 0) (.lit (.int 0))) .nil)))) (.cons (.asg (.nm 3) (.idx (.idx (.var 0) (.lit (.int 0))) (.idx (.var 0) (.lit (.int 1)))))
  (.cons (.sub (.var 0) (.lit (.int 1)) (.op .add (.idx (.var 0) (.lit (.int 1))) (.lit (.int 1))))
  (.cons (.sub (.var 0) (.lit (.int 3)) (.op .mod (.bi .int (.cons (.op .add (.op .add (.op .mul (.idx (.var 0) (.lit (.int 3))) (.lit (.int 69621))) (.op .mul (.var 3) (.lit (.int 40692)))) (.lit (.int 31))) .nil)) (.lit (.int 2147483629))))
  (.cons (.ife (.cmp .ge (.var 3) (.op .pow (.lit (.int 10)) (.lit (.int 18)))) (.cons (.sub (.var 0) (.lit (.int 2)) (.var 3))
  .nil) .nil)
  .nil)))) .nil)
  (.cons (.ife (.cmp .gt (.idx (.var 0) (.lit (.int 2))) (.lit (.int 0))) (.cons (.asg (.nm 4) (.op .mod (.bi .int (.cons (.idx (.var 0) (.lit (.int 2))) .nil)) (.var 1)))
  (.cons (.sub (.var 0) (.lit (.int 2)) (.op .fdiv (.idx (.var 0) (.lit (.int 2))) (.var 1)))
  (.cons (.ret (.var 4))
  .nil))) .nil)
  (.cons (.sub (.var 0) (.lit (.int 4)) (.op .add (.idx (.var 0) (.lit (.int 4))) (.lit (.int 1))))
  (.cons (.asg (.nm 2) (.op .mod (.bi .int (.cons (.op .mul (.bi .int (.cons (.op .add (.idx (.var 0) (.lit (.int 3))) (.op .mul (.lit (.int 7919)) (.idx (.var 0) (.lit (.int 4))))) .nil)) (.lit (.int 48271))) .nil)) (.lit (.int 2147483647))))
  (.cons (.asg (.nm 2) (.op .mod (.bi .int (.cons (.op .mul (.var 2) (.op .add (.op .fdiv (.var 2) (.lit (.int 1009))) (.lit (.int 69621)))) .nil)) (.lit (.int 2147483647))))
  (.cons (.asg (.nm 2) (.op .mod (.bi .int (.cons (.op .mul (.var 2) (.op .add (.op .fdiv (.var 2) (.lit (.int 2003))) (.lit (.int 40014)))) .nil)) (.lit (.int 2147483563))))
  (.cons (.ret (.op .mod (.bi .int (.cons (.op .fdiv (.var 2) (.lit (.int 16))) .nil)) (.var 1)))
  .nil)))))))
theorem ev_ixR {V : Env} {i r j : Nat} {k : Int} {l : Loc} {S : Sto} {ds : List D} {x : D} (h1 : l[i]? = some (some (.ref r))) (h2 : (S : List Cell)[r]? = some (.lst ds)) (h3 : ixI ds.length k = some j) (h4 : ds[j]? = some x) : evE V (.idx (.var i) (.lit (.int k))) l S = .ok (.d x) S := by
  simp only [evE, h1, R.bind_ok, idxV, dicOf, h2, peek, idxD, h3, Option.bind_some, h4, R.opt_some]
theorem ev_subR {V : Env} {i r m : Nat} {k : Int} {e : LE} {l : Loc} {S : Sto} {x : D} {ds : List D} (he : evE V e l S = .ok (.d x) S) (h1 : l[i]? = some (some (.ref r))) (hn : (S : List Cell)[r]? = some (.lst ds)) (hk : ixI ds.length k = some m) :
    evS V (.sub (.var i) (.lit (.int k)) e) l S = .nx l (S.set r (.lst (ds.set m x))) := by
  simp only [evS, he, R.st_ok]
  simp only [evE, h1, R.st_ok, take, RS.opt_some, subC, hn, hk]
theorem ev_int1 {V : Env} {e : LE} {l : Loc} {S S1 : Sto} {i : Int} (h1 : evE V e l S = .ok (.d (.int i)) S1) : evE V (.bi .int (.cons e .nil)) l S = .ok (.d (.int i)) S1 := ev_bi1 h1 rfl
theorem ev_cmp {V : Env} {o : Cm} {a b : LE} {l : Loc} {S S1 S2 : Sto} {x y : D} {r : Bool} (h1 : evE V a l S = .ok (.d x) S1) (h2 : evE V b l S1 = .ok (.d y) S2) (h : cmD o x y = some r) : evE V (.cmp o a b) l S = .ok (.d (.bl r)) S2 := by
  simp only [evE, h1, h2, R.bind_ok, cmV, dicOf, peek, h, R.opt_some]
theorem ev_and_f {V : Env} {a b : LE} {l : Loc} {S S1 : Sto} (h1 : evE V a l S = .ok (.d (.bl false)) S1) : evE V (.and a b) l S = .ok (.d (.bl false)) S1 := by
  simp only [evE, h1, R.bind_ok, asBool, R.opt_some]; rfl
theorem ev_and_t {V : Env} {a b : LE} {l : Loc} {S S1 S2 : Sto} {r : Bool} (h1 : evE V a l S = .ok (.d (.bl true)) S1) (h2 : evE V b l S1 = .ok (.d (.bl r)) S2) : evE V (.and a b) l S = .ok (.d (.bl r)) S2 := by
  simp only [evE, h1, h2, R.bind_ok, asBool, R.opt_some, if_true]
theorem ev_or_t {V : Env} {a b : LE} {l : Loc} {S S1 : Sto} (h1 : evE V a l S = .ok (.d (.bl true)) S1) : evE V (.or a b) l S = .ok (.d (.bl true)) S1 := by
  simp only [evE, h1, R.bind_ok, asBool, R.opt_some, if_true]
theorem ev_or_f {V : Env} {a b : LE} {l : Loc} {S S1 S2 : Sto} {r : Bool} (h1 : evE V a l S = .ok (.d (.bl false)) S1) (h2 : evE V b l S1 = .ok (.d (.bl r)) S2) : evE V (.or a b) l S = .ok (.d (.bl r)) S2 := by
  simp only [evE, h1, h2, R.bind_ok, asBool, R.opt_some]; rfl
theorem ev_not {V : Env} {a : LE} {l : Loc} {S S1 : Sto} {r : Bool} (h1 : evE V a l S = .ok (.d (.bl r)) S1) : evE V (.not a) l S = .ok (.d (.bl (!r))) S1 := by
  simp only [evE, h1, R.bind_ok, asBool, R.opt_some]
theorem ev_ret {V : Env} {e : LE} {l : Loc} {S S1 : Sto} {x : D} (h : evE V e l S = .ok (.d x) S1) : evS V (.ret e) l S = .ret (.d x) S1 := by simp only [evS, h, R.st_ok, take, RS.opt_some]
theorem evSs_cons {V : Env} {s : LS} {ss : LSs} {l l1 : Loc} {S S1 : Sto} (h : evS V s l S = .nx l1 S1) : evSs V (.cons s ss) l S = evSs V ss l1 S1 := by simp only [evSs, h]
theorem evSs_ret {V : Env} {s : LS} {ss : LSs} {l : Loc} {S S1 : Sto} {v : Vl} (h : evS V s l S = .ret v S1) : evSs V (.cons s ss) l S = .ret v S1 := by simp only [evSs, h]
theorem opD_mul {i j : Int} (h : smallI j = true) : opD .mul (.int i) (.int j) = some (.int (i * j)) := by
  show (if smallI i || smallI j then some (D.int (i * j)) else none) = _
  rw [if_pos (by rw [h, Bool.or_true])]
theorem opD_mul' {i j : Int} (h : smallI i = true) : opD .mul (.int i) (.int j) = some (.int (i * j)) := by
  show (if smallI i || smallI j then some (D.int (i * j)) else none) = _
  rw [if_pos (by rw [h, Bool.true_or])]
theorem opD_mod {i j : Int} (h : 0 < j) : opD .mod (.int i) (.int j) = some (.int (i % j)) := by
  show (if 0 < j then some (D.int (i % j)) else none) = _
  rw [if_pos h]
theorem opD_div {i j : Int} (h : 0 < j) (h2 : j < 1073741824) : opD .fdiv (.int i) (.int j) = some (.int (i / j)) := by
  show (if 0 < j ∧ j < 1073741824 then some (D.int (i / j)) else none) = _
  rw [if_pos ⟨h, h2⟩]
theorem small_of {i : Int} (h1 : 0 ≤ i) (h2 : i < 18446744073709551616) : smallI i = true := by
  unfold smallI
  rw [Bool.and_eq_true]
  exact ⟨decide_eq_true (by omega), decide_eq_true (by omega)⟩
theorem pow10 : opD .pow (.int 10) (.int 18) = some (.int 1000000000000000000) := by
  show (if (0 : Int) ≤ 18 ∧ (18 : Int) ≤ 1000000 ∧ (10 : Int).natAbs < 2 ^ 64 then some (D.int ((10 : Int) ^ (18 : Int).toNat)) else none) = _
  rw [if_pos (by decide)]
  exact congrArg (fun z => some (D.int z)) (by decide)
/-- a hand: cells, place, what is drawn from, seed, count -/
structure Hd (hd : List D) : Prop where
  ex : ∃ (cells : List Int) (p acc seed cnt : Int), hd = [.lst (cells.map .int), .int p, .int acc, .int seed, .int cnt] ∧ 0 ≤ p ∧ 0 ≤ acc

theorem draw_tail {V : Env} {r : Nat} {St : Sto} {cells : List Int} {p acc seed cnt many : Int} {o2 o3 o4 : Option Vl} (hr : (St : List Cell)[r]? = some (.lst [.lst (cells.map .int), .int p, .int acc, .int seed, .int cnt])) (hp : 0 ≤ p) (ha : 0 ≤ acc) (hm : 1 ≤ many) (hm2 : many < 1073741824) :
    ∃ d hd', 0 ≤ d ∧ d < many ∧ Hd hd' ∧ evSs V (.cons (.ife (.cmp .gt (.idx (.var 0) (.lit (.int 2))) (.lit (.int 0))) (.cons (.asg (.nm 4) (.op .mod (.bi .int (.cons (.idx (.var 0) (.lit (.int 2))) .nil)) (.var 1)))
  (.cons (.sub (.var 0) (.lit (.int 2)) (.op .fdiv (.idx (.var 0) (.lit (.int 2))) (.var 1)))
  (.cons (.ret (.var 4))
  .nil))) .nil)
  (.cons (.sub (.var 0) (.lit (.int 4)) (.op .add (.idx (.var 0) (.lit (.int 4))) (.lit (.int 1))))
  (.cons (.asg (.nm 2) (.op .mod (.bi .int (.cons (.op .mul (.bi .int (.cons (.op .add (.idx (.var 0) (.lit (.int 3))) (.op .mul (.lit (.int 7919)) (.idx (.var 0) (.lit (.int 4))))) .nil)) (.lit (.int 48271))) .nil)) (.lit (.int 2147483647))))
  (.cons (.asg (.nm 2) (.op .mod (.bi .int (.cons (.op .mul (.var 2) (.op .add (.op .fdiv (.var 2) (.lit (.int 1009))) (.lit (.int 69621)))) .nil)) (.lit (.int 2147483647))))
  (.cons (.asg (.nm 2) (.op .mod (.bi .int (.cons (.op .mul (.var 2) (.op .add (.op .fdiv (.var 2) (.lit (.int 2003))) (.lit (.int 40014)))) .nil)) (.lit (.int 2147483563))))
  (.cons (.ret (.op .mod (.bi .int (.cons (.op .fdiv (.var 2) (.lit (.int 16))) .nil)) (.var 1)))
  .nil)))))) [some (.ref r), some (.d (.int many)), o2, o3, o4] St = .ret (.d (.int d)) (St.set r (.lst hd')) := by
  have rd : ∀ {St : Sto} {l : Loc} {hd : List D} (k : Nat) (x : D), l[0]? = some (some (.ref r)) → (St : List Cell)[r]? = some (.lst hd) → hd.length = 5 → k < 5 → hd[k]? = some x → evE V (.idx (.var 0) (.lit (.int (k : Nat)))) l St = .ok (.d x) St := fun {St l hd} k x h0 h1 h2 h3 h4 => by
    refine ev_ixR h0 h1 (j := k) ?_ h4
    rw [h2]
    unfold ixI
    rw [if_pos (by omega), if_pos (by omega)]
    simp
  by_cases hpos : 0 < acc
  · have c : evE V (.cmp .gt (.idx (.var 0) (.lit (.int 2))) (.lit (.int 0))) [some (.ref r), some (.d (.int many)), o2, o3, o4] St = .ok (.d (.bl true)) St := ev_cmp (rd 2 _ rfl hr rfl (by decide) rfl) ev_lit (by show some (decide (0 < acc)) = _; rw [decide_eq_true hpos])
    have s1 := ev_asgD (i := 4) (ev_op (ev_int1 (rd (l := [some (.ref r), some (.d (.int many)), o2, o3, o4]) 2 _ rfl hr rfl (by decide) rfl)) (ev_var (i := 1) rfl) (opD_mod (i := acc) (j := many) (by omega)))
    have s2 := ev_subR (V := V) (i := 0) (k := 2) (m := 2) (e := .op .fdiv (.idx (.var 0) (.lit (.int 2))) (.var 1)) (l := [some (.ref r), some (.d (.int many)), o2, o3, some (.d (.int (acc % many)))]) (ev_op (rd 2 _ rfl hr rfl (by decide) rfl) (ev_var (i := 1) rfl) (opD_div (i := acc) (j := many) (by omega) hm2)) rfl hr rfl
    refine ⟨acc % many, [.lst (cells.map .int), .int p, .int (acc / many), .int seed, .int cnt], Int.emod_nonneg _ (by omega), Int.emod_lt_of_pos _ (by omega), ⟨cells, p, acc / many, seed, cnt, rfl, hp, Int.ediv_nonneg ha (by omega)⟩, ?_⟩
    refine evSs_ret ((ev_if_t c).trans ((evSs_cons s1).trans ((evSs_cons s2).trans (evSs_ret (ev_ret (ev_var rfl))))))
  · have c : evE V (.cmp .gt (.idx (.var 0) (.lit (.int 2))) (.lit (.int 0))) [some (.ref r), some (.d (.int many)), o2, o3, o4] St = .ok (.d (.bl false)) St := ev_cmp (rd 2 _ rfl hr rfl (by decide) rfl) ev_lit (by show some (decide (0 < acc)) = _; rw [decide_eq_false hpos])
    have hlt := (List.getElem?_eq_some_iff.mp hr).1
    have s1 := ev_subR (V := V) (i := 0) (k := 4) (m := 4) (e := .op .add (.idx (.var 0) (.lit (.int 4))) (.lit (.int 1))) (l := [some (.ref r), some (.d (.int many)), o2, o3, o4]) (ev_op (rd 4 _ rfl hr rfl (by decide) rfl) ev_lit (opD_addI _ _)) rfl hr rfl
    obtain ⟨S1, hS1⟩ : ∃ S1, S1 = St.set r (.lst [.lst (cells.map .int), .int p, .int acc, .int seed, .int (cnt + 1)]) := ⟨_, rfl⟩
    have hr1 : (S1 : List Cell)[r]? = some (.lst [.lst (cells.map .int), .int p, .int acc, .int seed, .int (cnt + 1)]) := by rw [hS1]; exact List.getElem?_set_self hlt
    have s2 := ev_asgD (i := 2) (ev_op (ev_int1 (ev_op (ev_int1 (ev_op (rd (l := [some (.ref r), some (.d (.int many)), o2, o3, o4]) 3 _ rfl hr1 rfl (by decide) rfl) (ev_op (ev_lit (d := .int 7919)) (rd 4 _ rfl hr1 rfl (by decide) rfl) (opD_mul' (i := 7919) (j := cnt + 1) (by decide))) (opD_addI seed (7919 * (cnt + 1))))) (ev_lit (d := .int 48271)) (opD_mul (i := seed + 7919 * (cnt + 1)) (j := 48271) (by decide)))) (ev_lit (d := .int 2147483647)) (opD_mod (i := (seed + 7919 * (cnt + 1)) * 48271) (j := 2147483647) (by decide)))
    obtain ⟨n1, hn1⟩ : ∃ n1, n1 = (seed + 7919 * (cnt + 1)) * 48271 % 2147483647 := ⟨_, rfl⟩
    rw [← hn1] at s2
    have b1 : 0 ≤ n1 := by rw [hn1]; exact Int.emod_nonneg _ (by decide)
    have b2 : n1 < 2147483647 := by rw [hn1]; exact Int.emod_lt_of_pos _ (by decide)
    have s3 := ev_asgD (i := 2) (S := S1) (ev_op (V := V) (ev_int1 (ev_op (ev_var (i := 2) (l := [some (.ref r), some (.d (.int many)), some (.d (.int n1)), o3, o4]) rfl) (ev_op (ev_op (ev_var (i := 2) rfl) (ev_lit (d := .int 1009)) (opD_div (i := n1) (j := 1009) (by decide) (by decide))) (ev_lit (d := .int 69621)) (opD_addI (n1 / 1009) 69621)) (opD_mul' (i := n1) (j := n1 / 1009 + 69621) (small_of b1 (by omega))))) (ev_lit (d := .int 2147483647)) (opD_mod (i := n1 * (n1 / 1009 + 69621)) (j := 2147483647) (by decide)))
    obtain ⟨n2, hn2⟩ : ∃ n2, n2 = n1 * (n1 / 1009 + 69621) % 2147483647 := ⟨_, rfl⟩
    rw [← hn2] at s3
    have b3 : 0 ≤ n2 := by rw [hn2]; exact Int.emod_nonneg _ (by decide)
    have b4 : n2 < 2147483647 := by rw [hn2]; exact Int.emod_lt_of_pos _ (by decide)
    have s4 := ev_asgD (i := 2) (S := S1) (ev_op (V := V) (ev_int1 (ev_op (ev_var (i := 2) (l := [some (.ref r), some (.d (.int many)), some (.d (.int n2)), o3, o4]) rfl) (ev_op (ev_op (ev_var (i := 2) rfl) (ev_lit (d := .int 2003)) (opD_div (i := n2) (j := 2003) (by decide) (by decide))) (ev_lit (d := .int 40014)) (opD_addI (n2 / 2003) 40014)) (opD_mul' (i := n2) (j := n2 / 2003 + 40014) (small_of b3 (by omega))))) (ev_lit (d := .int 2147483563)) (opD_mod (i := n2 * (n2 / 2003 + 40014)) (j := 2147483563) (by decide)))
    obtain ⟨n3, hn3⟩ : ∃ n3, n3 = n2 * (n2 / 2003 + 40014) % 2147483563 := ⟨_, rfl⟩
    rw [← hn3] at s4
    have s5 := ev_ret (V := V) (S := S1) (ev_op (ev_int1 (ev_op (ev_var (i := 2) (l := [some (.ref r), some (.d (.int many)), some (.d (.int n3)), o3, o4]) rfl) (ev_lit (d := .int 16)) (opD_div (i := n3) (j := 16) (by decide) (by decide)))) (ev_var (i := 1) rfl) (opD_mod (i := n3 / 16) (j := many) (by omega)))
    refine ⟨n3 / 16 % many, [.lst (cells.map .int), .int p, .int acc, .int seed, .int (cnt + 1)], Int.emod_nonneg _ (by omega), Int.emod_lt_of_pos _ (by omega), ⟨cells, p, acc, seed, cnt + 1, rfl, hp, ha⟩, ?_⟩
    rw [← hS1]
    have s1 : evS V (.sub (.var 0) (.lit (.int 4)) (.op .add (.idx (.var 0) (.lit (.int 4))) (.lit (.int 1)))) [some (.ref r), some (.d (.int many)), o2, o3, o4] St = .nx [some (.ref r), some (.d (.int many)), o2, o3, o4] S1 := by rw [hS1]; exact s1
    refine (evSs_cons ((ev_if_f c).trans rfl)).trans ((evSs_cons s1).trans ((evSs_cons s2).trans ((evSs_cons s3).trans ((evSs_cons s4).trans (evSs_ret s5)))))
theorem cells_at {cells : List Int} {p : Int} (h0 : 0 ≤ p) (h1 : p < cells.length) : ∃ c, ixI (cells.map D.int).length p = some p.toNat ∧ (cells.map D.int)[p.toNat]? = some (.int c) := by
  have hl : p.toNat < cells.length := by omega
  refine ⟨cells[p.toNat], ?_, by rw [List.getElem?_map, List.getElem?_eq_getElem hl]; rfl⟩
  unfold ixI
  rw [List.length_map, if_pos h0, if_pos h1]
theorem draw_ok {V : Env} {r : Nat} {St : Sto} {hd : List D} {many : Int} (hr : (St : List Cell)[r]? = some (.lst hd)) (hH : Hd hd) (hm : 1 ≤ many) (hm2 : many < 1073741824) :
    ∃ d hd', 0 ≤ d ∧ d < many ∧ Hd hd' ∧ evSs V drawBody [some (.ref r), some (.d (.int many)), none, none, none] St = .ret (.d (.int d)) (St.set r (.lst hd')) := by
  obtain ⟨cells, p, acc, seed, cnt, rfl, hp, ha⟩ := hH.ex
  have hlt := (List.getElem?_eq_some_iff.mp hr).1
  have rd : ∀ {St : Sto} {l : Loc} {hd : List D} (k : Nat) (x : D), l[0]? = some (some (.ref r)) → (St : List Cell)[r]? = some (.lst hd) → hd.length = 5 → k < 5 → hd[k]? = some x → evE V (.idx (.var 0) (.lit (.int (k : Nat)))) l St = .ok (.d x) St := fun {St l hd} k x h0 h1 h2 h3 h4 => by
    refine ev_ixR h0 h1 (j := k) ?_ h4
    rw [h2]
    unfold ixI
    rw [if_pos (by omega), if_pos (by omega)]
    simp
  by_cases hz : acc = 0
  · have c1 : evE V (.cmp .eq (.idx (.var 0) (.lit (.int 2))) (.lit (.int 0))) [some (.ref r), some (.d (.int many)), none, none, none] St = .ok (.d (.bl true)) St := ev_cmp (rd 2 _ rfl hr rfl (by decide) rfl) ev_lit (by subst hz; rfl)
    by_cases hlen : p < cells.length
    · have c2 : evE V (.cmp .lt (.idx (.var 0) (.lit (.int 1))) (.bi .len (.cons (.idx (.var 0) (.lit (.int 0))) .nil))) [some (.ref r), some (.d (.int many)), none, none, none] St = .ok (.d (.bl true)) St :=
        ev_cmp (rd 1 _ rfl hr rfl (by decide) rfl) (ev_bi1 (rd 0 _ rfl hr rfl (by decide) rfl) (z := .int (cells.length : Nat)) (by show some (D.int ((cells.map D.int).length : Nat)) = _; rw [List.length_map])) (by show some (decide (p < (cells.length : Nat))) = _; rw [decide_eq_true hlen])
      obtain ⟨c, e1, e2⟩ := cells_at hp hlen
      have s1 : evS V (.asg (.nm 3) (.idx (.idx (.var 0) (.lit (.int 0))) (.idx (.var 0) (.lit (.int 1))))) [some (.ref r), some (.d (.int many)), none, none, none] St = .nx [some (.ref r), some (.d (.int many)), none, some (.d (.int c)), none] St := by
        refine ev_asgD (v := .d (.int c)) ?_
        have q1 := rd (l := [some (.ref r), some (.d (.int many)), none, none, none]) 0 _ rfl hr rfl (by decide) rfl
        have q2 := rd (l := [some (.ref r), some (.d (.int many)), none, none, none]) 1 _ rfl hr rfl (by decide) rfl
        show (evE V (.idx (.var 0) (.lit (.int 0))) _ _).bind _ = _
        have q1 : evE V (.idx (.var 0) (.lit (.int 0))) [some (.ref r), some (.d (.int many)), none, none, none] St = .ok (.d (.lst (cells.map .int))) St := q1
        have q2 : evE V (.idx (.var 0) (.lit (.int 1))) [some (.ref r), some (.d (.int many)), none, none, none] St = .ok (.d (.int p)) St := q2
        rw [q1]
        simp only [R.bind_ok, q2, idxV, dicOf, peek, idxD, e1, Option.bind_some, e2, R.opt_some]
      have s2 := ev_subR (V := V) (i := 0) (k := 1) (m := 1) (e := .op .add (.idx (.var 0) (.lit (.int 1))) (.lit (.int 1))) (l := [some (.ref r), some (.d (.int many)), none, some (.d (.int c)), none]) (ev_op (rd 1 _ rfl hr rfl (by decide) rfl) ev_lit (opD_addI _ _)) rfl hr rfl
      obtain ⟨S1, hS1⟩ : ∃ S1, S1 = St.set r (.lst [.lst (cells.map .int), .int (p + 1), .int acc, .int seed, .int cnt]) := ⟨_, rfl⟩
      have hr1 : (S1 : List Cell)[r]? = some (.lst [.lst (cells.map .int), .int (p + 1), .int acc, .int seed, .int cnt]) := by rw [hS1]; exact List.getElem?_set_self hlt
      have hlt1 := (List.getElem?_eq_some_iff.mp hr1).1
      have s3 := ev_subR (V := V) (i := 0) (k := 3) (m := 3) (l := [some (.ref r), some (.d (.int many)), none, some (.d (.int c)), none]) (ev_op (ev_int1 (ev_op (ev_op (ev_op (rd 3 _ rfl hr1 rfl (by decide) rfl) (ev_lit (d := .int 69621)) (opD_mul (i := seed) (j := 69621) (by decide))) (ev_op (ev_var (i := 3) rfl) (ev_lit (d := .int 40692)) (opD_mul (i := c) (j := 40692) (by decide))) (opD_addI (seed * 69621) (c * 40692))) (ev_lit (d := .int 31)) (opD_addI (seed * 69621 + c * 40692) 31))) (ev_lit (d := .int 2147483629)) (opD_mod (i := seed * 69621 + c * 40692 + 31) (j := 2147483629) (by decide))) rfl hr1 rfl
      obtain ⟨sd, hsd⟩ : ∃ sd, sd = (seed * 69621 + c * 40692 + 31) % 2147483629 := ⟨_, rfl⟩
      rw [← hsd] at s3
      obtain ⟨S2, hS2⟩ : ∃ S2, S2 = S1.set r (.lst [.lst (cells.map .int), .int (p + 1), .int acc, .int sd, .int cnt]) := ⟨_, rfl⟩
      have hr2 : (S2 : List Cell)[r]? = some (.lst [.lst (cells.map .int), .int (p + 1), .int acc, .int sd, .int cnt]) := by rw [hS2]; exact List.getElem?_set_self hlt1
      have hlt2 := (List.getElem?_eq_some_iff.mp hr2).1
      have s4 : ∃ acc', 0 ≤ acc' ∧ evS V (.ife (.cmp .ge (.var 3) (.op .pow (.lit (.int 10)) (.lit (.int 18)))) (.cons (.sub (.var 0) (.lit (.int 2)) (.var 3)) .nil) .nil) [some (.ref r), some (.d (.int many)), none, some (.d (.int c)), none] S2 = .nx [some (.ref r), some (.d (.int many)), none, some (.d (.int c)), none] (S2.set r (.lst [.lst (cells.map .int), .int (p + 1), .int acc', .int sd, .int cnt])) := by
        by_cases hbig : 1000000000000000000 ≤ c
        · have k : evE V (.cmp .ge (.var 3) (.op .pow (.lit (.int 10)) (.lit (.int 18)))) [some (.ref r), some (.d (.int many)), none, some (.d (.int c)), none] S2 = .ok (.d (.bl true)) S2 := ev_cmp (ev_var rfl) (ev_op ev_lit ev_lit pow10) (by show some (decide (1000000000000000000 ≤ c)) = _; rw [decide_eq_true hbig])
          have q := ev_subR (V := V) (i := 0) (k := 2) (m := 2) (e := .var 3) (l := [some (.ref r), some (.d (.int many)), none, some (.d (.int c)), none]) (ev_var rfl) rfl hr2 rfl
          exact ⟨c, by omega, (ev_if_t k).trans ((evSs_cons q).trans rfl)⟩
        · have k : evE V (.cmp .ge (.var 3) (.op .pow (.lit (.int 10)) (.lit (.int 18)))) [some (.ref r), some (.d (.int many)), none, some (.d (.int c)), none] S2 = .ok (.d (.bl false)) S2 := ev_cmp (ev_var rfl) (ev_op ev_lit ev_lit pow10) (by show some (decide (1000000000000000000 ≤ c)) = _; rw [decide_eq_false hbig])
          refine ⟨acc, ha, (ev_if_f k).trans ?_⟩
          have e : S2.set r (.lst [.lst (cells.map .int), .int (p + 1), .int acc, .int sd, .int cnt]) = S2 := by
            refine List.ext_getElem? fun i => ?_
            by_cases hi : r = i
            · subst hi; rw [List.getElem?_set_self hlt2, hr2]
            · rw [List.getElem?_set_ne hi]
          rw [e]
          rfl
      obtain ⟨acc', ha', s4⟩ := s4
      have hr3 : ((S2.set r (.lst [.lst (cells.map .int), .int (p + 1), .int acc', .int sd, .int cnt]) : Sto) : List Cell)[r]? = some (.lst [.lst (cells.map .int), .int (p + 1), .int acc', .int sd, .int cnt]) := List.getElem?_set_self hlt2
      obtain ⟨d, hd', t1, t2, t3, t4⟩ := draw_tail (V := V) (o2 := none) (o3 := some (.d (.int c))) (o4 := none) hr3 (by omega) ha' hm hm2
      refine ⟨d, hd', t1, t2, t3, ?_⟩
      have e : (S2.set r (.lst [.lst (cells.map .int), .int (p + 1), .int acc', .int sd, .int cnt])).set r (.lst hd') = St.set r (.lst hd') := by
        rw [hS2, hS1, List.set_set, List.set_set, List.set_set]
      rw [e] at t4
      have s2 : evS V (.sub (.var 0) (.lit (.int 1)) (.op .add (.idx (.var 0) (.lit (.int 1))) (.lit (.int 1)))) [some (.ref r), some (.d (.int many)), none, some (.d (.int c)), none] St = .nx [some (.ref r), some (.d (.int many)), none, some (.d (.int c)), none] S1 := by rw [hS1]; exact s2
      have s3' : evS V (.sub (.var 0) (.lit (.int 3)) (.op .mod (.bi .int (.cons (.op .add (.op .add (.op .mul (.idx (.var 0) (.lit (.int 3))) (.lit (.int 69621))) (.op .mul (.var 3) (.lit (.int 40692)))) (.lit (.int 31))) .nil)) (.lit (.int 2147483629)))) [some (.ref r), some (.d (.int many)), none, some (.d (.int c)), none] S1 = .nx [some (.ref r), some (.d (.int many)), none, some (.d (.int c)), none] S2 := by rw [hS2]; exact s3
      exact (evSs_cons ((ev_if_t (ev_and_t c1 c2)).trans ((evSs_cons s1).trans ((evSs_cons s2).trans ((evSs_cons s3').trans ((evSs_cons s4).trans rfl)))))).trans t4
    · have c2 : evE V (.cmp .lt (.idx (.var 0) (.lit (.int 1))) (.bi .len (.cons (.idx (.var 0) (.lit (.int 0))) .nil))) [some (.ref r), some (.d (.int many)), none, none, none] St = .ok (.d (.bl false)) St :=
        ev_cmp (rd 1 _ rfl hr rfl (by decide) rfl) (ev_bi1 (rd 0 _ rfl hr rfl (by decide) rfl) (z := .int (cells.length : Nat)) (by show some (D.int ((cells.map D.int).length : Nat)) = _; rw [List.length_map])) (by show some (decide (p < (cells.length : Nat))) = _; rw [decide_eq_false hlen])
      obtain ⟨d, hd', t1, t2, t3, t4⟩ := draw_tail (V := V) (o2 := none) (o3 := none) (o4 := none) hr hp ha hm hm2
      exact ⟨d, hd', t1, t2, t3, (evSs_cons ((ev_if_f (ev_and_t c1 c2)).trans rfl)).trans t4⟩
  · have c1 : evE V (.cmp .eq (.idx (.var 0) (.lit (.int 2))) (.lit (.int 0))) [some (.ref r), some (.d (.int many)), none, none, none] St = .ok (.d (.bl false)) St := ev_cmp (rd 2 _ rfl hr rfl (by decide) rfl) ev_lit (by show some (acc == 0) = _; rw [beq_eq_false_iff_ne.mpr hz])
    obtain ⟨d, hd', t1, t2, t3, t4⟩ := draw_tail (V := V) (o2 := none) (o3 := none) (o4 := none) hr hp ha hm hm2
    exact ⟨d, hd', t1, t2, t3, (evSs_cons ((ev_if_f (ev_and_f c1)).trans rfl)).trans t4⟩
end EV
end

section
set_option Elab.async false
set_option linter.all false
set_option maxRecDepth 100000
set_option maxHeartbeats 0
namespace K66
open PySem PySem.Spec PyProof.Rows EV
def tp (i : Nat) : Stmt := PySem.Challenge.pw_placesayings_k66_whole_codes_put_and_rea.main.body.getD i (.Pass ⟨0, 0, 0, 0⟩)
def d_is_sized : Def := ⟨"is_sized", ["thing", "least", "most"], ["thing", "least", "most"], ⟨3, 3, (.cons (.ret (.and (.isi (.var 0) .tup) (.chain .le .le (.var 1) (.bi .len (.cons (.var 0) .nil)) (.var 2))))
  .nil)⟩, tp 6, false⟩
def x_is_letters_1e : LE := (.cmp .isin (.var 2) (.glob "LETTERS" (.d (.str [97, 98]))))
def x_is_letters_1 : LE := .comp x_is_letters_1e (.val (.var 0)) (.nm 2) .no [2]
def d_is_letters : Def := ⟨"is_letters", ["thing", "most"], ["thing", "most", "sign"], ⟨2, 3, (.cons (.ret (.and (.isi (.var 0) .str) (.and (.cmp .le (.bi .len (.cons (.var 0) .nil)) (.var 1)) (.bi .all (.cons x_is_letters_1 .nil)))))
  .nil)⟩, tp 7, false⟩
def d_check_word : Def := ⟨"check_word", ["word", "most"], ["word", "most"], ⟨2, 2, (.cons (.ife (.not (.call 1 "is_letters" (.cons (.var 0) (.cons (.var 1) .nil)))) (.cons (.raise 1 "NoWord" .nil)
  .nil) .nil)
  .nil)⟩, tp 8, false⟩
def x_is_code_1e : LE := (.call 1 "is_letters" (.cons (.var 1) (.cons (.glob "MOST_PUT" (.d (.int 4))) .nil)))
def x_is_code_1 : LE := .comp x_is_code_1e (.val (.var 0)) (.nm 1) .no [1]
def d_is_code : Def := ⟨"is_code", ["thing"], ["thing", "one"], ⟨1, 2, (.cons (.ret (.and (.call 0 "is_sized" (.cons (.var 0) (.cons (.lit (.int 2)) (.cons (.lit (.int 2)) .nil)))) (.bi .all (.cons x_is_code_1 .nil))))
  .nil)⟩, tp 15, false⟩
def d_check_code : Def := ⟨"check_code", ["code"], ["code"], ⟨1, 1, (.cons (.ife (.not (.call 3 "is_code" (.cons (.var 0) .nil))) (.cons (.raise 2 "NoCode" .nil)
  .nil) .nil)
  .nil)⟩, tp 16, false⟩
def x_raw_image_1e : LE := (.idx (.var 0) (.mt .sidx (.glob "LETTERS" (.d (.str [97, 98]))) (.cons (.var 2) .nil)))
def x_raw_image_1 : LE := .comp x_raw_image_1e (.val (.var 1)) (.nm 2) .no [2]
def d_raw_image : Def := ⟨"raw_image", ["code", "word"], ["code", "word", "letter"], ⟨2, 3, (.cons (.ret (.mt .join (.lit (.str [])) (.cons x_raw_image_1 .nil)))
  .nil)⟩, tp 17, false⟩
def d_image : Def := ⟨"image", ["code", "word"], ["code", "word"], ⟨2, 2, (.cons (.ex (.call 4 "check_code" (.cons (.var 0) .nil)))
  (.cons (.ex (.call 2 "check_word" (.cons (.var 1) (.cons (.glob "MOST_WORD" (.d (.int 12))) .nil))))
  (.cons (.ret (.call 5 "raw_image" (.cons (.var 0) (.cons (.var 1) .nil))))
  .nil)))⟩, tp 18, false⟩
def f_counts_back_1 : LSs := (.cons (.ife (.and (.cmp .ne (.var 5) (.lit (.str []))) (.and (.cmp .le (.bi .len (.cons (.var 5) .nil)) (.var 3)) (.cmp .eq (.slc (.var 1) (.yes (.op .sub (.var 3) (.bi .len (.cons (.var 5) .nil)))) (.yes (.var 3))) (.var 5)))) (.cons (.asg (.nm 4) (.op .add (.var 4) (.idx (.var 2) (.op .sub (.var 3) (.bi .len (.cons (.var 5) .nil))))))
  .nil) .nil)
  .nil)
def f_counts_back_2 : LSs := (.cons (.asg (.nm 4) (.lit (.int 0)))
  (.cons (.for_ (.nm 5) (.val (.var 0)) f_counts_back_1)
  (.cons (.ex (.mt .append (.var 2) (.cons (.var 4) .nil)))
  .nil)))
def d_counts_back : Def := ⟨"counts_back", ["code", "word"], ["code", "word", "found", "end", "many", "put"], ⟨2, 6, (.cons (.asg (.nm 2) (.thaw (.lst (.cons (.lit (.int 1)) .nil))))
  (.cons (.for_ (.nm 3) (.rng2 (.lit (.int 1)) (.op .add (.bi .len (.cons (.var 1) .nil)) (.lit (.int 1)))) f_counts_back_2)
  (.cons (.ret (.var 2))
  .nil)))⟩, tp 19, false⟩
def d_many_back : Def := ⟨"many_back", ["code", "word"], ["code", "word", "many"], ⟨2, 3, (.cons (.ex (.call 4 "check_code" (.cons (.var 0) .nil)))
  (.cons (.ex (.call 2 "check_word" (.cons (.var 1) (.cons (.glob "MOST_READ" (.d (.int 40))) .nil))))
  (.cons (.asg (.nm 2) (.idx (.call 7 "counts_back" (.cons (.var 0) (.cons (.var 1) .nil))) (.neg (.lit (.int 1)))))
  (.cons (.ret (.ife (.and (.cmp .gt (.var 2) (.lit (.int 0))) (.cmp .isin (.lit (.str [])) (.var 0))) (.lit (.non)) (.var 2)))
  .nil))))⟩, tp 20, false⟩
def f_read_back_1 : LSs := (.cons (.asg (.nm 7) (.op .sub (.var 3) (.bi .len (.cons (.var 6) .nil))))
  (.cons (.ife (.and (.cmp .ne (.var 6) (.lit (.str []))) (.and (.cmp .ge (.var 7) (.lit (.int 0))) (.and (.cmp .eq (.slc (.var 1) (.yes (.var 7)) (.yes (.var 3))) (.var 6)) (.cmp .isnot (.idx (.var 2) (.var 7)) (.lit (.non)))))) (.cons (.ex (.mt .append (.var 4) (.cons (.tup (.cons (.op .add (.bi .len (.cons (.idx (.var 2) (.var 7)) .nil)) (.lit (.int 1))) (.cons (.op .add (.idx (.var 2) (.var 7)) (.var 5)) .nil))) .nil)))
  .nil) .nil)
  .nil))
def f_read_back_2 : LSs := (.cons (.asg (.nm 4) (.thaw (.lst .nil)))
  (.cons (.for_ (.tp (.nm 5) (.nm 6)) (.zip (.glob "LETTERS" (.d (.str [97, 98]))) (.var 0)) f_read_back_1)
  (.cons (.sub (.var 2) (.var 3) (.ife (.cmp .gt (.bi .len (.cons (.var 4) .nil)) (.lit (.int 0))) (.idx (.bi .min (.cons (.var 4) .nil)) (.lit (.int 1))) (.lit (.non))))
  .nil)))
def d_read_back : Def := ⟨"read_back", ["code", "word"], ["code", "word", "best", "end", "some", "letter", "put", "begin"], ⟨2, 8, (.cons (.ex (.call 4 "check_code" (.cons (.var 0) .nil)))
  (.cons (.ex (.call 2 "check_word" (.cons (.var 1) (.cons (.glob "MOST_READ" (.d (.int 40))) .nil))))
  (.cons (.asg (.nm 2) (.thaw (.op .add (.lst (.cons (.lit (.str [])) .nil)) (.op .mul (.lst (.cons (.lit (.non)) .nil)) (.bi .len (.cons (.var 1) .nil))))))
  (.cons (.for_ (.nm 3) (.rng2 (.lit (.int 1)) (.op .add (.bi .len (.cons (.var 1) .nil)) (.lit (.int 1)))) f_read_back_2)
  (.cons (.ret (.idx (.var 2) (.neg (.lit (.int 1)))))
  .nil)))))⟩, tp 21, false⟩
def d_raw_sure : Def := ⟨"raw_sure", ["code"], ["code"], ⟨1, 1, (.cons (.ife (.cmp .eq (.idx (.var 0) (.lit (.int 0))) (.lit (.str []))) (.cons (.ret (.tup (.cons (.glob "TWO" (.d (.str [116, 119, 111]))) (.cons (.lit (.str [])) (.cons (.idx (.glob "LETTERS" (.d (.str [97, 98]))) (.lit (.int 0))) .nil)))))
  .nil) .nil)
  (.cons (.ife (.cmp .eq (.idx (.var 0) (.lit (.int 1))) (.lit (.str []))) (.cons (.ret (.tup (.cons (.glob "TWO" (.d (.str [116, 119, 111]))) (.cons (.lit (.str [])) (.cons (.idx (.glob "LETTERS" (.d (.str [97, 98]))) (.lit (.int 1))) .nil)))))
  .nil) .nil)
  (.cons (.ife (.cmp .eq (.op .add (.idx (.var 0) (.lit (.int 0))) (.idx (.var 0) (.lit (.int 1)))) (.op .add (.idx (.var 0) (.lit (.int 1))) (.idx (.var 0) (.lit (.int 0))))) (.cons (.ret (.tup (.cons (.glob "TWO" (.d (.str [116, 119, 111]))) (.cons (.glob "LETTERS" (.d (.str [97, 98]))) (.cons (.rev (.glob "LETTERS" (.d (.str [97, 98])))) .nil)))))
  .nil) .nil)
  (.cons (.ret (.tup (.cons (.glob "SURE" (.d (.str [115, 117, 114, 101]))) .nil)))
  .nil))))⟩, tp 22, false⟩
def d_sure_told : Def := ⟨"sure_told", ["code"], ["code"], ⟨1, 1, (.cons (.ex (.call 4 "check_code" (.cons (.var 0) .nil)))
  (.cons (.ret (.call 10 "raw_sure" (.cons (.var 0) .nil)))
  .nil))⟩, tp 23, false⟩
def x_is_sure_told_1e : LE := (.call 1 "is_letters" (.cons (.var 2) (.cons (.glob "MOST_WORD" (.d (.int 12))) .nil)))
def x_is_sure_told_1 : LE := .comp x_is_sure_told_1e (.val (.slc (.var 1) (.yes (.lit (.int 1))) .no)) (.nm 2) .no [2]
def x_is_sure_told_2e : LE := (.isi (.var 2) .str)
def x_is_sure_told_2 : LE := .comp x_is_sure_told_2e (.val (.var 1)) (.nm 2) .no [2]
def d_is_sure_told : Def := ⟨"is_sure_told", ["code", "thing"], ["code", "thing", "one"], ⟨2, 3, (.cons (.ex (.call 4 "check_code" (.cons (.var 0) .nil)))
  (.cons (.ife (.or (.not (.isi (.var 1) .tup)) (.not (.bi .all (.cons x_is_sure_told_2 .nil)))) (.cons (.ret (.lit (.bl false)))
  .nil) .nil)
  (.cons (.ife (.cmp .eq (.var 1) (.tup (.cons (.glob "SURE" (.d (.str [115, 117, 114, 101]))) .nil))) (.cons (.ret (.cmp .eq (.call 10 "raw_sure" (.cons (.var 0) .nil)) (.tup (.cons (.glob "SURE" (.d (.str [115, 117, 114, 101]))) .nil))))
  .nil) .nil)
  (.cons (.ife (.or (.cmp .ne (.bi .len (.cons (.var 1) .nil)) (.lit (.int 3))) (.or (.cmp .ne (.idx (.var 1) (.lit (.int 0))) (.glob "TWO" (.d (.str [116, 119, 111])))) (.not (.bi .all (.cons x_is_sure_told_1 .nil))))) (.cons (.ret (.lit (.bl false)))
  .nil) .nil)
  (.cons (.ret (.and (.cmp .ne (.idx (.var 1) (.lit (.int 1))) (.idx (.var 1) (.lit (.int 2)))) (.cmp .eq (.call 5 "raw_image" (.cons (.var 0) (.cons (.idx (.var 1) (.lit (.int 1))) .nil))) (.call 5 "raw_image" (.cons (.var 0) (.cons (.idx (.var 1) (.lit (.int 2))) .nil))))))
  .nil)))))⟩, tp 24, false⟩
def d_joined_codes : Def := ⟨"joined_codes", ["one", "other"], ["one", "other", "found"], ⟨2, 3, (.cons (.ex (.call 4 "check_code" (.cons (.var 0) .nil)))
  (.cons (.ex (.call 4 "check_code" (.cons (.var 1) .nil)))
  (.cons (.asg (.nm 2) (.tup (.cons (.call 5 "raw_image" (.cons (.var 1) (.cons (.idx (.var 0) (.lit (.int 0))) .nil))) (.cons (.call 5 "raw_image" (.cons (.var 1) (.cons (.idx (.var 0) (.lit (.int 1))) .nil))) .nil))))
  (.cons (.ife (.not (.call 3 "is_code" (.cons (.var 2) .nil))) (.cons (.raise 2 "NoCode" .nil)
  .nil) .nil)
  (.cons (.ret (.var 2))
  .nil)))))⟩, tp 25, false⟩
def c_begins_alike_1 : LE := (.and (.cmp .lt (.var 1) (.bi .min (.cons (.bi .len (.cons (.idx (.var 0) (.lit (.int 0))) .nil)) (.cons (.bi .len (.cons (.idx (.var 0) (.lit (.int 1))) .nil)) .nil)))) (.cmp .eq (.idx (.idx (.var 0) (.lit (.int 0))) (.var 1)) (.idx (.idx (.var 0) (.lit (.int 1))) (.var 1))))
def w_begins_alike_2 : LSs := (.cons (.asg (.nm 1) (.op .add (.var 1) (.lit (.int 1))))
  .nil)
def d_begins_alike : Def := ⟨"begins_alike", ["code"], ["code", "size"], ⟨1, 2, (.cons (.ex (.call 4 "check_code" (.cons (.var 0) .nil)))
  (.cons (.asg (.nm 1) (.lit (.int 0)))
  (.cons (.while_ c_begins_alike_1 w_begins_alike_2)
  (.cons (.ret (.slc (.idx (.var 0) (.lit (.int 0))) .no (.yes (.var 1))))
  .nil))))⟩, tp 26, false⟩
def d_told_at_once : Def := ⟨"told_at_once", ["code"], ["code", "least"], ⟨1, 2, (.cons (.ex (.call 4 "check_code" (.cons (.var 0) .nil)))
  (.cons (.asg (.nm 1) (.bi .min (.cons (.bi .len (.cons (.idx (.var 0) (.lit (.int 0))) .nil)) (.cons (.bi .len (.cons (.idx (.var 0) (.lit (.int 1))) .nil)) .nil))))
  (.cons (.ret (.cmp .ne (.slc (.idx (.var 0) (.lit (.int 0))) .no (.yes (.var 1))) (.slc (.idx (.var 0) (.lit (.int 1))) .no (.yes (.var 1)))))
  .nil)))⟩, tp 27, false⟩
def x_law_hand_1e : LE := (.bi .abs (.cons (.bi .int (.cons (.var 2) .nil)) .nil))
def x_law_hand_1 : LE := .comp x_law_hand_1e (.val (.slc (.var 0) .no (.yes (.lit (.int 63))))) (.nm 2) .no [2]
def d_law_hand : Def := ⟨"_law_hand", ["script"], ["script", "cells", "cell"], ⟨1, 3, (.cons (.asg (.nm 1) x_law_hand_1)
  (.cons (.retk (.thaw (.lst (.cons (.var 1) (.cons (.lit (.int 0)) (.cons (.lit (.int 0)) (.cons (.op .add (.lit (.int 97)) (.op .mul (.lit (.int 13)) (.bi .len (.cons (.var 1) .nil)))) (.cons (.lit (.int 0)) .nil))))))))
  .nil))⟩, tp 29, false⟩
def d_law_draw : Def := ⟨"_law_draw", ["hand", "many"], ["hand", "many", "number", "cell", "digit"], ⟨2, 5, (.cons (.ife (.and (.cmp .eq (.idx (.var 0) (.lit (.int 2))) (.lit (.int 0))) (.cmp .lt (.idx (.var 0) (.lit (.int 1))) (.bi .len (.cons (.idx (.var 0) (.lit (.int 0))) .nil)))) (.cons (.asg (.nm 3) (.idx (.idx (.var 0) (.lit (.int 0))) (.idx (.var 0) (.lit (.int 1)))))
  (.cons (.sub (.var 0) (.lit (.int 1)) (.op .add (.idx (.var 0) (.lit (.int 1))) (.lit (.int 1))))
  (.cons (.sub (.var 0) (.lit (.int 3)) (.op .mod (.bi .int (.cons (.op .add (.op .add (.op .mul (.idx (.var 0) (.lit (.int 3))) (.lit (.int 69621))) (.op .mul (.var 3) (.lit (.int 40692)))) (.lit (.int 31))) .nil)) (.lit (.int 2147483629))))
  (.cons (.ife (.cmp .ge (.var 3) (.op .pow (.lit (.int 10)) (.lit (.int 18)))) (.cons (.sub (.var 0) (.lit (.int 2)) (.var 3))
  .nil) .nil)
  .nil)))) .nil)
  (.cons (.ife (.cmp .gt (.idx (.var 0) (.lit (.int 2))) (.lit (.int 0))) (.cons (.asg (.nm 4) (.op .mod (.bi .int (.cons (.idx (.var 0) (.lit (.int 2))) .nil)) (.var 1)))
  (.cons (.sub (.var 0) (.lit (.int 2)) (.op .fdiv (.idx (.var 0) (.lit (.int 2))) (.var 1)))
  (.cons (.ret (.var 4))
  .nil))) .nil)
  (.cons (.sub (.var 0) (.lit (.int 4)) (.op .add (.idx (.var 0) (.lit (.int 4))) (.lit (.int 1))))
  (.cons (.asg (.nm 2) (.op .mod (.bi .int (.cons (.op .mul (.bi .int (.cons (.op .add (.idx (.var 0) (.lit (.int 3))) (.op .mul (.lit (.int 7919)) (.idx (.var 0) (.lit (.int 4))))) .nil)) (.lit (.int 48271))) .nil)) (.lit (.int 2147483647))))
  (.cons (.asg (.nm 2) (.op .mod (.bi .int (.cons (.op .mul (.var 2) (.op .add (.op .fdiv (.var 2) (.lit (.int 1009))) (.lit (.int 69621)))) .nil)) (.lit (.int 2147483647))))
  (.cons (.asg (.nm 2) (.op .mod (.bi .int (.cons (.op .mul (.var 2) (.op .add (.op .fdiv (.var 2) (.lit (.int 2003))) (.lit (.int 40014)))) .nil)) (.lit (.int 2147483563))))
  (.cons (.ret (.op .mod (.bi .int (.cons (.op .fdiv (.var 2) (.lit (.int 16))) .nil)) (.var 1)))
  .nil)))))))⟩, tp 30, false⟩
def d_law_any : Def := ⟨"_law_any", ["hand", "some"], ["hand", "some"], ⟨2, 2, (.cons (.ret (.idx (.var 1) (.call 17 "_law_draw" (.cons (.var 0) (.cons (.bi .len (.cons (.var 1) .nil)) .nil)))))
  .nil)⟩, tp 31, false⟩
def x_law_is_1e : LE := (.call 19 "_law_is" (.cons (.var 2) (.cons (.var 3) .nil)))
def x_law_is_1 : LE := .comp x_law_is_1e (.zip (.var 0) (.var 1)) (.tp (.nm 2) (.nm 3)) .no [2, 3]
def d_law_is : Def := ⟨"_law_is", ["given", "due"], ["given", "due", "mine", "its"], ⟨2, 4, (.cons (.ife (.or (.cmp .is (.var 1) (.lit (.non))) (.cmp .is (.var 0) (.lit (.non)))) (.cons (.ret (.and (.cmp .is (.var 1) (.lit (.non))) (.cmp .is (.var 0) (.lit (.non)))))
  .nil) .nil)
  (.cons (.ife (.or (.isi (.var 1) .tup) (.isi (.var 1) .lst)) (.cons (.ife (.cmp .ne (.isi (.var 0) .tup) (.isi (.var 1) .tup)) (.cons (.ret (.lit (.bl false)))
  .nil) .nil)
  (.cons (.ife (.cmp .ne (.isi (.var 0) .lst) (.isi (.var 1) .lst)) (.cons (.ret (.lit (.bl false)))
  .nil) .nil)
  (.cons (.ret (.and (.cmp .eq (.bi .len (.cons (.var 0) .nil)) (.bi .len (.cons (.var 1) .nil))) (.bi .all (.cons x_law_is_1 .nil))))
  .nil))) .nil)
  (.cons (.ife (.or (.cmp .ne (.isi (.var 0) .bool) (.isi (.var 1) .bool)) (.cmp .ne (.isi (.var 0) .int) (.isi (.var 1) .int))) (.cons (.ret (.lit (.bl false)))
  .nil) .nil)
  (.cons (.ret (.and (.cmp .eq (.isi (.var 0) .str) (.isi (.var 1) .str)) (.cmp .eq (.var 0) (.var 1))))
  .nil))))⟩, tp 32, false⟩
def d_law_word : Def := ⟨"_law_word", ["call"], ["call", "found", "e", "flags"], ⟨1, 4, (.cons (.asg (.nm 1) (.lit (.str [33, 111, 116, 104, 101, 114])))
  (.cons (.try_ (.cons (.asg (.nm 1) (.callv 0 .nil))
  .nil) 0 "SayError" 2 (.cons (.asg (.nm 3) (.lst (.cons (.isx 2 "NoCode" 2) (.cons (.isx 2 "NoWord" 1) .nil))))
  (.cons (.ife (.and (.cmp .eq (.mt .lcnt (.var 3) (.cons (.lit (.bl true)) .nil)) (.lit (.int 1))) (.isx 2 "ValueError" 3)) (.cons (.asg (.nm 1) (.idx (.lst (.cons (.lit (.str [33, 78, 111, 67, 111, 100, 101])) (.cons (.lit (.str [33, 78, 111, 87, 111, 114, 100])) .nil))) (.mt .lidx (.var 3) (.cons (.lit (.bl true)) .nil))))
  .nil) .nil)
  .nil)))
  (.cons (.ret (.var 1))
  .nil)))⟩, tp 33, false⟩
def x_law_code_1e : LE := (.call 18 "_law_any" (.cons (.var 0) (.cons (.lst (.cons (.lit (.str [97])) (.cons (.lit (.str [98])) .nil))) .nil)))
def x_law_code_1 : LE := .comp x_law_code_1e (.rng1 (.call 17 "_law_draw" (.cons (.var 0) (.cons (.lit (.int 4)) .nil)))) (.nm 5) .no [5]
def f_law_code_2 : LSs := (.cons (.ex (.mt .append (.var 1) (.cons (.mt .join (.lit (.str [])) (.cons x_law_code_1 .nil)) .nil)))
  .nil)
def d_law_code : Def := ⟨"_law_code", ["hand"], ["hand", "some", "turn", "root", "pairs", "part"], ⟨1, 6, (.cons (.asg (.nm 1) (.thaw (.lst .nil)))
  (.cons (.for_ (.nm 2) (.rng1 (.lit (.int 2))) f_law_code_2)
  (.cons (.asg (.nm 3) (.call 18 "_law_any" (.cons (.var 0) (.cons (.lst (.cons (.lit (.str [97])) (.cons (.lit (.str [97, 98])) (.cons (.lit (.str [98])) .nil)))) .nil))))
  (.cons (.asg (.nm 4) (.lst (.cons (.bi .tup (.cons (.var 1) .nil)) (.cons (.bi .tup (.cons (.var 1) .nil)) (.cons (.tup (.cons (.var 3) (.cons (.op .add (.var 3) (.var 3)) .nil))) (.cons (.tup (.cons (.idx (.var 1) (.lit (.int 0))) (.cons (.idx (.var 1) (.lit (.int 0))) .nil))) (.cons (.tup (.cons (.lit (.str [])) (.cons (.idx (.var 1) (.lit (.int 1))) .nil))) .nil)))))))
  (.cons (.ret (.call 18 "_law_any" (.cons (.var 0) (.cons (.var 4) .nil))))
  .nil)))))⟩, tp 34, false⟩
def x_law_image_1e : LE := (.idx (.var 0) (.mt .sidx (.lit (.str [97, 98])) (.cons (.var 2) .nil)))
def x_law_image_1 : LE := .comp x_law_image_1e (.val (.var 1)) (.nm 2) .no [2]
def d_law_image : Def := ⟨"_law_image", ["code", "word"], ["code", "word", "letter"], ⟨2, 3, (.cons (.ret (.mt .join (.lit (.str [])) (.cons x_law_image_1 .nil)))
  .nil)⟩, tp 35, false⟩
def x_law_backs_1e : LE := (.tup (.cons (.bi .len (.cons (.var 9) .nil)) (.cons (.var 9) .nil)))
def x_law_backs_1 : LE := .comp x_law_backs_1e (.val (.idx (.var 3) (.neg (.lit (.int 1))))) (.nm 9) .no [9]
def x_law_backs_2e : LE := (.op .add (.var 9) (.var 7))
def x_law_backs_2 : LE := .comp x_law_backs_2e (.val (.idx (.var 3) (.op .sub (.var 4) (.bi .len (.cons (.var 8) .nil))))) (.nm 9) .no [9]
def f_law_backs_3 : LSs := (.cons (.ife (.and (.cmp .le (.bi .len (.cons (.var 8) .nil)) (.var 4)) (.cmp .eq (.slc (.var 1) (.yes (.op .sub (.var 4) (.bi .len (.cons (.var 8) .nil)))) (.yes (.var 4))) (.var 8))) (.cons (.asg (.nm 6) (.op .add (.var 6) x_law_backs_2))
  .nil) .nil)
  .nil)
def f_law_backs_4 : LSs := (.cons (.asg (.nm 6) (.lst .nil))
  (.cons (.for_ (.tp (.nm 7) (.nm 8)) (.val (.var 2)) f_law_backs_3)
  (.cons (.ex (.mt .append (.var 3) (.cons (.var 6) .nil)))
  .nil)))
def x_law_backs_5e : LE := (.tup (.cons (.var 7) (.cons (.var 8) .nil)))
def x_law_backs_5 : LE := .comp x_law_backs_5e (.zip (.lit (.str [97, 98])) (.var 0)) (.tp (.nm 7) (.nm 8)) (.yes (.cmp .ne (.var 8) (.lit (.str [])))) [7, 8]
def d_law_backs : Def := ⟨"_law_backs", ["code", "word"], ["code", "word", "parts", "rows", "at", "found", "here", "letter", "part", "one"], ⟨2, 10, (.cons (.asg (.nm 2) x_law_backs_5)
  (.cons (.asg (.nm 3) (.thaw (.lst (.cons (.lst (.cons (.lit (.str [])) .nil)) .nil))))
  (.cons (.for_ (.nm 4) (.rng2 (.lit (.int 1)) (.op .add (.bi .len (.cons (.var 1) .nil)) (.lit (.int 1)))) f_law_backs_4)
  (.cons (.asg (.nm 5) (.bi .sorted (.cons x_law_backs_1 .nil)))
  (.cons (.ife (.cmp .eq (.bi .len (.cons (.var 5) .nil)) (.lit (.int 0))) (.cons (.ret (.tup (.cons (.lit (.non)) (.cons (.lit (.int 0)) .nil))))
  .nil) .nil)
  (.cons (.ret (.tup (.cons (.idx (.idx (.var 5) (.lit (.int 0))) (.lit (.int 1))) (.cons (.ife (.cmp .eq (.bi .len (.cons (.var 2) .nil)) (.lit (.int 2))) (.bi .len (.cons (.var 5) .nil)) (.lit (.non))) .nil))))
  .nil))))))⟩, tp 36, false⟩
def x_law_is_two_1e : LE := (.cmp .isin (.var 3) (.lit (.str [97, 98])))
def x_law_is_two_1 : LE := .comp x_law_is_two_1e (.val (.var 2)) (.nm 3) .no [3]
def f_law_is_two_2 : LSs := (.cons (.ife (.or (.not (.isi (.var 2) .str)) (.or (.cmp .gt (.bi .len (.cons (.var 2) .nil)) (.lit (.int 12))) (.not (.bi .all (.cons x_law_is_two_1 .nil))))) (.cons (.ret (.lit (.bl false)))
  .nil) .nil)
  .nil)
def d_law_is_two : Def := ⟨"_law_is_two", ["code", "thing"], ["code", "thing", "word", "letter"], ⟨2, 4, (.cons (.ife (.or (.not (.isi (.var 1) .tup)) (.or (.cmp .ne (.bi .len (.cons (.var 1) .nil)) (.lit (.int 3))) (.cmp .ne (.idx (.var 1) (.lit (.int 0))) (.lit (.str [116, 119, 111]))))) (.cons (.ret (.lit (.bl false)))
  .nil) .nil)
  (.cons (.for_ (.nm 2) (.val (.slc (.var 1) (.yes (.lit (.int 1))) .no)) f_law_is_two_2)
  (.cons (.ret (.and (.cmp .ne (.idx (.var 1) (.lit (.int 1))) (.idx (.var 1) (.lit (.int 2)))) (.cmp .eq (.call 22 "_law_image" (.cons (.var 0) (.cons (.idx (.var 1) (.lit (.int 1))) .nil))) (.call 22 "_law_image" (.cons (.var 0) (.cons (.idx (.var 1) (.lit (.int 2))) .nil))))))
  .nil)))⟩, tp 37, false⟩
def f_law_sure_right_1 : LSs := (.cons (.asg (.nm 10) (.ife (.and (.isi (.var 7) .tup) (.cmp .eq (.var 7) (.tup (.cons (.lit (.str [115, 117, 114, 101])) .nil)))) (.var 2) (.call 24 "_law_is_two" (.cons (.var 1) (.cons (.var 7) .nil)))))
  (.cons (.ife (.not (.call 19 "_law_is" (.cons (.call 12 "is_sure_told" (.cons (.var 1) (.cons (.var 7) .nil))) (.cons (.var 10) .nil)))) (.cons (.ret (.lit (.bl false)))
  .nil) .nil)
  .nil))
def f_law_sure_right_2 : LSs := (.cons (.ex (.mt .append (.var 5) (.cons (.tup (.cons (.lit (.str [116, 119, 111])) (.cons (.call 18 "_law_any" (.cons (.var 0) (.cons (.var 4) .nil))) (.cons (.call 18 "_law_any" (.cons (.var 0) (.cons (.var 4) .nil))) .nil)))) .nil)))
  .nil)
def d_law_sure_right : Def := ⟨"_law_sure_right", ["hand", "code"], ["hand", "code", "is_sure", "told", "words", "things", "turn", "thing", "one", "other", "flag"], ⟨2, 11, (.cons (.asg (.tp (.nm 8) (.nm 9)) (.var 1))
  (.cons (.asg (.nm 2) (.and (.cmp .ne (.var 8) (.lit (.str []))) (.and (.cmp .ne (.var 9) (.lit (.str []))) (.cmp .ne (.op .add (.var 8) (.var 9)) (.op .add (.var 9) (.var 8))))))
  (.cons (.asg (.nm 3) (.call 11 "sure_told" (.cons (.var 1) .nil)))
  (.cons (.ife (.or (.and (.var 2) (.cmp .ne (.var 3) (.tup (.cons (.lit (.str [115, 117, 114, 101])) .nil)))) (.and (.not (.var 2)) (.not (.call 24 "_law_is_two" (.cons (.var 1) (.cons (.var 3) .nil)))))) (.cons (.ret (.lit (.bl false)))
  .nil) .nil)
  (.cons (.asg (.nm 4) (.lst (.cons (.lit (.str [])) (.cons (.lit (.str [97])) (.cons (.lit (.str [98])) (.cons (.lit (.str [97, 98])) (.cons (.lit (.str [98, 97])) (.cons (.lit (.str [97, 97, 98])) (.cons (.lit (.str [97, 98, 97])) (.cons (.lit (.str [97, 98, 98])) (.cons (.lit (.str [98, 97, 98])) .nil)))))))))))
  (.cons (.asg (.nm 5) (.thaw (.lst (.cons (.var 3) (.cons (.lit (.non)) (.cons (.tup .nil) (.cons (.lit (.str [115, 117, 114, 101])) (.cons (.lst (.cons (.lit (.str [115, 117, 114, 101])) .nil)) (.cons (.tup (.cons (.lit (.str [115, 117, 114, 101])) .nil)) (.cons (.tup (.cons (.lit (.str [115, 117, 114, 101])) (.cons (.lit (.int 0)) .nil))) (.cons (.tup (.cons (.lit (.str [116, 119, 111])) (.cons (.lit (.str [97])) .nil))) (.cons (.tup (.cons (.lit (.str [116, 119, 111])) (.cons (.lit (.str [99])) (.cons (.lit (.str [97])) .nil)))) .nil))))))))))))
  (.cons (.ex (.mt .append (.var 5) (.cons (.tup (.cons (.lit (.str [116, 119, 111])) (.cons (.lit (.str [63])) (.cons (.lit (.str [])) .nil)))) .nil)))
  (.cons (.for_ (.nm 6) (.rng1 (.lit (.int 5))) f_law_sure_right_2)
  (.cons (.for_ (.nm 7) (.val (.frz (.var 5))) f_law_sure_right_1)
  (.cons (.ret (.lit (.bl true)))
  .nil))))))))))⟩, tp 38, false⟩
def x_law_case_right_1e : LE := (.bi .len (.cons (.var 15) .nil))
def x_law_case_right_1 : LE := .comp x_law_case_right_1e (.val (.var 5)) (.nm 15) .no [15]
def f_law_case_right_2 : LSs := (.cons (.asg (.nm 2) (.ife (.cmp .eq (.slc (.var 11) .no (.yes (.op .add (.var 3) (.lit (.int 1))))) (.slc (.var 12) .no (.yes (.op .add (.var 3) (.lit (.int 1)))))) (.slc (.var 11) .no (.yes (.op .add (.var 3) (.lit (.int 1))))) (.var 2)))
  .nil)
def f_law_case_right_3 : LSs := (.cons (.asg (.tp (.nm 13) (.nm 14)) (.call 23 "_law_backs" (.cons (.var 6) (.cons (.var 10) .nil))))
  (.cons (.ife (.not (.call 19 "_law_is" (.cons (.lst (.cons (.call 9 "read_back" (.cons (.var 6) (.cons (.var 10) .nil))) (.cons (.call 8 "many_back" (.cons (.var 6) (.cons (.var 10) .nil))) .nil))) (.cons (.lst (.cons (.var 13) (.cons (.var 14) .nil))) .nil)))) (.cons (.ret (.lit (.bl false)))
  .nil) .nil)
  .nil))
def x_law_case_right_4e : LE := (.call 18 "_law_any" (.cons (.var 0) (.cons (.lst (.cons (.lit (.str [97])) (.cons (.lit (.str [98])) .nil))) .nil)))
def x_law_case_right_4 : LE := .comp x_law_case_right_4e (.rng1 (.call 17 "_law_draw" (.cons (.var 0) (.cons (.lit (.int 6)) .nil)))) (.nm 15) .no [15]
def f_law_case_right_5 : LSs := (.cons (.asg (.nm 8) (.mt .join (.lit (.str [])) (.cons x_law_case_right_4 .nil)))
  (.cons (.asg (.nm 9) (.call 22 "_law_image" (.cons (.var 6) (.cons (.var 8) .nil))))
  (.cons (.ife (.not (.call 19 "_law_is" (.cons (.call 6 "image" (.cons (.var 6) (.cons (.var 8) .nil))) (.cons (.var 9) .nil)))) (.cons (.ret (.lit (.bl false)))
  .nil) .nil)
  (.cons (.for_ (.nm 10) (.val (.tup (.cons (.var 9) (.cons (.var 8) .nil)))) f_law_case_right_3)
  .nil))))
def d_law_case_right : Def := ⟨"_law_case_right", ["hand"], ["hand", "turn", "same", "at", "flag", "due", "code", "later", "word", "whole", "text", "one", "other", "least_so", "many", "part"], ⟨1, 16, (.cons (.asg (.tp (.nm 6) (.nm 7)) (.tup (.cons (.call 21 "_law_code" (.cons (.var 0) .nil)) (.cons (.call 21 "_law_code" (.cons (.var 0) .nil)) .nil))))
  (.cons (.for_ (.nm 1) (.rng1 (.lit (.int 5))) f_law_case_right_5)
  (.cons (.asg (.tp (.nm 11) (.nm 12)) (.var 6))
  (.cons (.asg (.nm 2) (.lit (.str [])))
  (.cons (.for_ (.nm 3) (.rng1 (.bi .min (.cons (.bi .len (.cons (.var 11) .nil)) (.cons (.bi .len (.cons (.var 12) .nil)) .nil)))) f_law_case_right_2)
  (.cons (.asg (.nm 4) (.and (.cmp .ne (.slc (.var 11) .no (.yes (.bi .len (.cons (.var 12) .nil)))) (.var 12)) (.cmp .ne (.slc (.var 12) .no (.yes (.bi .len (.cons (.var 11) .nil)))) (.var 11))))
  (.cons (.ife (.not (.call 19 "_law_is" (.cons (.lst (.cons (.call 14 "begins_alike" (.cons (.var 6) .nil)) (.cons (.call 15 "told_at_once" (.cons (.var 6) .nil)) .nil))) (.cons (.lst (.cons (.var 2) (.cons (.var 4) .nil))) .nil)))) (.cons (.ret (.lit (.bl false)))
  .nil) .nil)
  (.cons (.asg (.nm 5) (.tup (.cons (.call 22 "_law_image" (.cons (.var 7) (.cons (.var 11) .nil))) (.cons (.call 22 "_law_image" (.cons (.var 7) (.cons (.var 12) .nil))) .nil))))
  (.cons (.asg (.nm 5) (.ife (.cmp .gt (.bi .max (.cons x_law_case_right_1 .nil)) (.lit (.int 4))) (.lit (.str [33, 78, 111, 67, 111, 100, 101])) (.var 5)))
  (.cons (.ret (.and (.call 19 "_law_is" (.cons (.call 20 "_law_word" (.cons (.lam 28 [6, 7]) .nil)) (.cons (.var 5) .nil))) (.call 25 "_law_sure_right" (.cons (.var 0) (.cons (.var 6) .nil)))))
  .nil))))))))))⟩, tp 39, true⟩
def x_law_1e : LE := (.call 26 "_law_case_right" (.cons (.var 1) .nil))
def x_law_1 : LE := .comp x_law_1e (.rng1 (.lit (.int 4))) (.nm 5) .no [5]
def d_law : Def := ⟨"law", ["script"], ["script", "hand", "told", "bad", "words", "turn"], ⟨1, 6, (.cons (.asg (.nm 1) (.call 16 "_law_hand" (.cons (.var 0) .nil)))
  (.cons (.asg (.nm 2) (.thaw (.lst (.cons (.call 6 "image" (.cons (.tup (.cons (.lit (.str [97, 98])) (.cons (.lit (.str [98])) .nil))) (.cons (.lit (.str [97, 97, 98])) .nil))) (.cons (.call 9 "read_back" (.cons (.tup (.cons (.lit (.str [97, 98])) (.cons (.lit (.str [98])) .nil))) (.cons (.lit (.str [97, 98, 98])) .nil))) (.cons (.call 8 "many_back" (.cons (.tup (.cons (.lit (.str [97])) (.cons (.lit (.str [97, 97])) .nil))) (.cons (.lit (.str [97, 97, 97])) .nil))) .nil))))))
  (.cons (.ex (.mt .append (.var 2) (.cons (.call 8 "many_back" (.cons (.tup (.cons (.lit (.str [])) (.cons (.lit (.str [98])) .nil))) (.cons (.lit (.str [98])) .nil))) .nil)))
  (.cons (.ife (.not (.call 19 "_law_is" (.cons (.frz (.var 2)) (.cons (.lst (.cons (.lit (.str [97, 98, 97, 98, 98])) (.cons (.lit (.str [97, 98])) (.cons (.lit (.int 3)) (.cons (.lit (.non)) .nil))))) .nil)))) (.cons (.ret (.lit (.bl false)))
  .nil) .nil)
  (.cons (.asg (.nm 3) (.call 18 "_law_any" (.cons (.var 1) (.cons (.lst (.cons (.lit (.non)) (.cons (.tup .nil) (.cons (.tup (.cons (.lit (.str [97])) .nil)) (.cons (.lst (.cons (.lit (.str [97])) (.cons (.lit (.str [98])) .nil))) (.cons (.tup (.cons (.lit (.str [97, 98, 98, 97, 98])) (.cons (.lit (.str [97])) .nil))) (.cons (.tup (.cons (.lit (.str [99])) (.cons (.lit (.str [97])) .nil))) (.cons (.tup (.cons (.lit (.str [97])) (.cons (.lit (.int 5)) .nil))) (.cons (.lit (.str [97, 98])) .nil))))))))) .nil))))
  (.cons (.asg (.nm 4) (.thaw (.lst (.cons (.call 20 "_law_word" (.cons (.lam 31 [3]) .nil)) (.cons (.call 20 "_law_word" (.cons (.lam 30 []) .nil)) .nil)))))
  (.cons (.ex (.mt .append (.var 4) (.cons (.call 20 "_law_word" (.cons (.lam 29 [3]) .nil)) .nil)))
  (.cons (.ife (.cmp .ne (.var 4) (.lst (.cons (.lit (.str [33, 78, 111, 67, 111, 100, 101])) (.cons (.lit (.str [33, 78, 111, 87, 111, 114, 100])) (.cons (.lit (.str [33, 78, 111, 67, 111, 100, 101])) .nil))))) (.cons (.ret (.lit (.bl false)))
  .nil) .nil)
  (.cons (.ret (.bi .all (.cons x_law_1 .nil)))
  .nil)))))))))⟩, tp 40, true⟩
def ds : List Def := [d_is_sized, d_is_letters, d_check_word, d_is_code, d_check_code, d_raw_image, d_image, d_counts_back, d_many_back, d_read_back, d_raw_sure, d_sure_told, d_is_sure_told, d_joined_codes, d_begins_alike, d_told_at_once, d_law_hand, d_law_draw, d_law_any, d_law_is, d_law_word, d_law_code, d_law_image, d_law_backs, d_law_is_two, d_law_sure_right, d_law_case_right, d_law]
def lds : List LamD := [⟨[], 2, (.call 13 "joined_codes" (.cons (.var 0) (.cons (.var 1) .nil)))⟩,
 ⟨[], 1, (.call 13 "joined_codes" (.cons (.tup (.cons (.lit (.str [97])) (.cons (.lit (.str [98])) .nil))) (.cons (.var 0) .nil)))⟩,
 ⟨[], 0, (.call 6 "image" (.cons (.tup (.cons (.lit (.str [97])) (.cons (.lit (.str [98])) .nil))) (.cons (.lit (.str [97, 98, 99])) .nil)))⟩,
 ⟨[], 1, (.call 6 "image" (.cons (.var 0) (.cons (.lit (.non)) .nil)))⟩]
def T : LawT := { ds := ds, lds := lds, blt := ["abs", "all", "bool", "int", "isinstance", "len", "list", "max", "min", "range", "sorted", "str", "tuple", "zip"], gv := [("LETTERS", .str [97, 98]), ("MOST_PUT", .int 4), ("MOST_READ", .int 40), ("MOST_WORD", .int 12), ("SURE", .str [115, 117, 114, 101]), ("TWO", .str [116, 119, 111])], own := ["SayError", "NoWord", "NoCode"], bcl := ["ValueError"], rz := [0, 1, 2], subs := [(0, 0, true), (0, 1, false), (0, 2, false), (0, 3, true), (1, 0, true), (1, 1, true), (1, 2, false), (1, 3, true), (2, 0, true), (2, 1, false), (2, 2, true), (2, 3, true)] }
theorem ok : T.ok = true := by decide +kernel
abbrev R : PySem.W.OpenRow := PySem.W.OpenLaw.row PySem.Challenge.rw_placesayings_k66_whole_codes_put_and_rea
abbrev hk : PySem.W.Hook := He.hookX 5 T.fas T.fns [] T.tfs T.exB
def ob (s : PySem.W.SharedT) : He.AlX := He.obsX 5 T.fas T.fns [] T.tfs T.exB (HandSHeadRun.getT s)
theorem ob_eq (s : PySem.W.SharedT) : ob s = hk.obs s.abs := He.obsX_eq (HandSHeadRun.getT_eq s)
def names : List PySem.Str := [("SayError" : PySem.Str), ("NoWord" : PySem.Str), ("NoCode" : PySem.Str), ("LETTERS" : PySem.Str), ("is_sized" : PySem.Str), ("is_letters" : PySem.Str), ("check_word" : PySem.Str), ("MOST_PUT" : PySem.Str), ("MOST_WORD" : PySem.Str), ("MOST_READ" : PySem.Str), ("SURE" : PySem.Str), ("TWO" : PySem.Str), ("is_code" : PySem.Str), ("check_code" : PySem.Str), ("raw_image" : PySem.Str), ("image" : PySem.Str), ("counts_back" : PySem.Str), ("many_back" : PySem.Str), ("read_back" : PySem.Str), ("raw_sure" : PySem.Str), ("sure_told" : PySem.Str), ("is_sure_told" : PySem.Str), ("joined_codes" : PySem.Str), ("begins_alike" : PySem.Str), ("told_at_once" : PySem.Str), ("_law_hand" : PySem.Str), ("_law_draw" : PySem.Str), ("_law_any" : PySem.Str), ("_law_is" : PySem.Str), ("_law_word" : PySem.Str), ("_law_code" : PySem.Str), ("_law_image" : PySem.Str), ("_law_backs" : PySem.Str), ("_law_is_two" : PySem.Str), ("_law_sure_right" : PySem.Str), ("_law_case_right" : PySem.Str)]
theorem run (w : World) : HandSHeadRun.RunEq R (PySem.W.view R.prog [40]) hk ob 4000 names w := by
  intro os
  kernel_rfl
/-- what is left: the evaluator's answer -/
def Plain (k : Nat) : Prop := ∃ wf, ∀ ns : List Int, ns.length ≤ 63 → (∀ z ∈ ns, Builtin.Int.intBits z ≤ 1048576) → ∃ S', callN T.fs T.sub wf (k + 1) 27 [.scr (ns.map .int)] [] = .ok (.d (.bl true)) S'
end K66
open PySem PySem.W PySem.Calls PyProof.Rows
theorem k66_end (hp : K66.Plain 40) : PySem.Challenge.rw_placesayings_k66_whole_codes_put_and_rea.Holds := by
  w_on; o_law
  refine HandSHeadRun.head_any (r := OpenLaw.row PySem.Challenge.rw_placesayings_k66_whole_codes_put_and_rea) (q := view (OpenLaw.row PySem.Challenge.rw_placesayings_k66_whole_codes_put_and_rea).prog [40]) (H := K66.hk) (ob := K66.ob) (M := 4000) (loose := K66.names) (d := HandSHeadRun.topDef (OpenLaw.row PySem.Challenge.rw_placesayings_k66_whole_codes_put_and_rea).prog 40) (kwd := []) K66.ob_eq
    (by kernel_rfl) (fun s => by kernel_rfl) K66.run (by kernel_rfl) (by kernel_rfl) (by kernel_rfl) (by rfl) (by first | assumption | decide +kernel) (by decide +kernel) ⟨rfl, rfl, rfl, rfl, rfl, by decide +kernel⟩ ?hw ?hc
  case hw => w_witness2
  case hc =>
    refine LamX.walk_ofTsE (l := PySem.Challenge.rw_placesayings_k66_whole_codes_put_and_rea) (n := 63) (k := 41) (x := "script") (CX := fun w => L2.CX (PySem.Challenge.rw_placesayings_k66_whole_codes_put_and_rea).prog w) rfl (by decide) (by kernel_rfl) ⟨rfl, by decide, by decide⟩ ?F (fun w H s e s' z => ?hx)
    case hx =>
      obtain ⟨_, _, _, _, _, _, _, _, _, _, _, _, q⟩ := z
      exact q
    intro w mg fa h Y G hmg0
    obtain ⟨K, KX, c⟩ := Y
    have hmg : mg ("law" : PySem.Str) = some (.ref fa) := by
      have e : (HandSHeadRun.topDef (OpenLaw.row PySem.Challenge.rw_placesayings_k66_whole_codes_put_and_rea).prog 40).name = ("law" : PySem.Str) := by kernel_rfl
      rw [← e]
      exact hmg0
    obtain ⟨wf, hp⟩ := hp
    exact ⟨K, KX, EV.law_at (iLaw := 27) (wf := wf) (dl := K66.d_law) KX G hmg c K66.ok rfl rfl rfl hp⟩
end

section
set_option Elab.async false
set_option linter.all false
set_option maxRecDepth 100000
set_option maxHeartbeats 4000000
namespace K66
open PySem EV
abbrev CN (n : Nat) := callN T.fs T.sub 100 n
abbrev UN (n : Nat) : EV.Env := ⟨CN n, 100, T.sub⟩
theorem cn_at {n f : Nat} {F : Fn} {vs : List Vl} {S : Sto} (h : T.fs[f]? = some F) : CN (n + 1) f vs S = runF (UN n) F vs S := by
  show (match T.fs[f]? with
    | some F => runF (UN n) F vs S
    | none => .stuck) = _
  rw [h]
/-! ### checks -/
def isSized : D → Int → Int → Bool
  | .tup ds, lo, hi => decide (lo ≤ (ds.length : Int)) && decide ((ds.length : Int) ≤ hi)
  | _, _, _ => false
theorem c_sized (n : Nat) (x : D) (lo hi : Int) (S : Sto) : CN (n + 1) 0 [.d x, .d (.int lo), .d (.int hi)] S = .ok (.d (.bl (isSized x lo hi))) S := by
  rw [cn_at (F := d_is_sized.fn) rfl]
  cases x <;> simp [d_is_sized, evSs, evS, evE, evEs, evO, evC, evI, R.opt, RS.opt, setTV, setT, asBool, isTy, isTyD, cmV, dicOf, peek, peeks, cmD, biV, biD, idxV, idxD, slcV, slcD, mtV, mtApp, mtPure, mtTyp, mtD, opD, take, takes, keepS, runF, noX, isSized]
  · rename_i ds
    by_cases h : lo ≤ (ds.length : Int) <;> simp [h, keepS, take, asBool]
def isC (c : Nat) : Bool := c == 97 || c == 98
def isLet (s : List Nat) (m : Int) : Bool := decide ((s.length : Int) ≤ m) && s.all isC
def isLetD : D → Int → Bool
  | .str s, m => isLet s m
  | _, _ => false
/-- texts are short -/
def smallD : D → Prop
  | .str s => s.length ≤ lim
  | _ => True
theorem bitsOf_map (bs : List Bool) : bitsOf (bs.map .bl) = some bs := by
  induction bs with
  | nil => rfl
  | cons b bs ih => simp [bitsOf, ih]
theorem bitsOf_fn {α : Type} (f : α → Bool) (l : List α) : bitsOf (l.map (D.bl ∘ f)) = some (l.map f) := by
  rw [← List.map_map]; exact bitsOf_map _
theorem bitsOf_fn' {α : Type} (f : α → Bool) (l : List α) : bitsOf (l.map fun x => D.bl (f x)) = some (l.map f) := bitsOf_fn f l
theorem c_letters (n : Nat) (x : D) (m : Int) (S : Sto) (hx : smallD x) : CN (n + 1) 1 [.d x, .d (.int m)] S = .ok (.d (.bl (isLetD x m))) S := by
  rw [cn_at (F := d_is_letters.fn) rfl]
  cases x <;> simp [d_is_letters, evSs, evS, evE, evEs, evO, evC, evI, R.opt, RS.opt, setTV, setT, asBool, isTy, isTyD, cmV, dicOf, peek, peeks, cmD, biV, biD, idxV, idxD, slcV, slcD, mtV, mtApp, mtPure, mtTyp, mtD, opD, take, takes, keepS, runF, noX, isLetD]
  · rename_i s
    have hs : s.length ≤ lim := hx
    have key : evE (UN n) x_is_letters_1 [some (.d (.str s)), some (.d (.int m)), none] S = .ok (.d (.lst ((s.map isC).map .bl))) S := by
      refine (ev_comp_map (ds := s.map fun c => .str [c]) (fun x => match x with | .str [c] => .bl (isC c) | _ => .non) rfl (fun x hx => ?_) (by simpa using hs)).trans (by simp)
      obtain ⟨c, hc, rfl⟩ := List.mem_map.mp hx
      refine ⟨_, rfl, ?_⟩
      simp [x_is_letters_1e, evSs, evS, evE, evEs, evO, evC, evI, R.opt, RS.opt, setTV, setT, asBool, isTy, isTyD, cmV, dicOf, peek, peeks, cmD, biV, biD, idxV, idxD, slcV, slcD, mtV, mtApp, mtPure, mtTyp, mtD, opD, take, takes, keepS, runF, noX, wipeL, isC]
      rfl
    by_cases h : (s.length : Int) ≤ m
    · simp [hs, h, isLet, key, bitsOf_fn, evSs, evS, evE, evEs, evO, evC, evI, R.opt, RS.opt, setTV, setT, asBool, isTy, isTyD, cmV, dicOf, peek, peeks, cmD, biV, biD, idxV, idxD, slcV, slcD, mtV, mtApp, mtPure, mtTyp, mtD, opD, take, takes, keepS, runF, noX]
    · simp [hs, h, isLet, evSs, evS, evE, evEs, evO, evC, evI, R.opt, RS.opt, setTV, setT, asBool, isTy, isTyD, cmV, dicOf, peek, peeks, cmD, biV, biD, idxV, idxD, slcV, slcD, mtV, mtApp, mtPure, mtTyp, mtD, opD, take, takes, keepS, runF, noX]
theorem c_letters' (n : Nat) (s : List Nat) (m : Int) (S : Sto) (hx : s.length ≤ lim) : CN (n + 1) 1 [.d (.str s), .d (.int m)] S = .ok (.d (.bl (isLet s m))) S := c_letters n (.str s) m S hx
theorem c_word (n : Nat) (x : D) (m : Int) (S : Sto) (hx : smallD x) : CN (n + 2) 2 [.d x, .d (.int m)] S = if isLetD x m then .ok (.d .non) S else .exc 1 [] S := by
  rw [cn_at (F := d_check_word.fn) rfl]
  simp [d_check_word, evSs, evS, evE, evEs, evO, evC, evI, R.opt, RS.opt, setTV, setT, asBool, isTy, isTyD, cmV, dicOf, peek, peeks, cmD, biV, biD, idxV, idxD, slcV, slcD, mtV, mtApp, mtPure, mtTyp, mtD, opD, take, takes, keepS, runF, noX, c_letters n x m S hx]
  cases isLetD x m <;> simp [evSs, evS, evE, evEs, evO, evC, evI, R.opt, RS.opt, setTV, setT, asBool, isTy, isTyD, cmV, dicOf, peek, peeks, cmD, biV, biD, idxV, idxD, slcV, slcD, mtV, mtApp, mtPure, mtTyp, mtD, opD, take, takes, keepS, runF, noX]
def isCode : D → Bool
  | .tup [x, y] => isLetD x 4 && isLetD y 4
  | _ => false
/-- a pair of short texts, or something otherwise -/
def smallC : D → Prop
  | .tup ds => ∀ d ∈ ds, smallD d
  | _ => True
theorem c_code (n : Nat) (x : D) (S : Sto) (hx : smallC x) : CN (n + 2) 3 [.d x] S = .ok (.d (.bl (isCode x))) S := by
  rw [cn_at (F := d_is_code.fn) rfl]
  have hz := c_sized n x 2 2 S
  match x, hx, hz with
  | .tup [a, b], hx, hz =>
    have hc : evE (UN (n + 1)) x_is_code_1 [some (.d (.tup [a, b])), none] S = .ok (.d (.lst [.bl (isLetD a 4), .bl (isLetD b 4)])) S := by
      refine (ev_comp_map (ds := [a, b]) (fun x => .bl (isLetD x 4)) rfl (fun x hx' => ⟨_, rfl, ?_⟩) (by show 2 ≤ lim; decide)).trans (by simp)
      have hs : smallD x := hx x hx'
      simp [x_is_code_1e, evSs, evS, evE, evEs, evO, evC, evI, R.opt, RS.opt, setTV, setT, asBool, isTy, isTyD, cmV, dicOf, peek, peeks, cmD, biV, biD, idxV, idxD, slcV, slcD, mtV, mtApp, mtPure, mtTyp, mtD, opD, take, takes, keepS, runF, noX, wipeL, c_letters n x 4 S hs]
    simp [d_is_code, evSs, evS, evE, evEs, evO, evC, evI, R.opt, RS.opt, setTV, setT, asBool, isTy, isTyD, cmV, dicOf, peek, peeks, cmD, biV, biD, idxV, idxD, slcV, slcD, mtV, mtApp, mtPure, mtTyp, mtD, opD, take, takes, keepS, runF, noX, hz, isSized, hc, bitsOf, isCode]
  | .tup [], _, hz => simp [d_is_code, evSs, evS, evE, evEs, evO, evC, evI, R.opt, RS.opt, setTV, setT, asBool, isTy, isTyD, cmV, dicOf, peek, peeks, cmD, biV, biD, idxV, idxD, slcV, slcD, mtV, mtApp, mtPure, mtTyp, mtD, opD, take, takes, keepS, runF, noX, hz, isSized, isCode]
  | .tup [a], _, hz => simp [d_is_code, evSs, evS, evE, evEs, evO, evC, evI, R.opt, RS.opt, setTV, setT, asBool, isTy, isTyD, cmV, dicOf, peek, peeks, cmD, biV, biD, idxV, idxD, slcV, slcD, mtV, mtApp, mtPure, mtTyp, mtD, opD, take, takes, keepS, runF, noX, hz, isSized, isCode]
  | .tup (a :: b :: d :: r), _, hz =>
    have h : ¬ ((r.length : Int) + 1 + 1 + 1 ≤ 2) := by omega
    simp [d_is_code, evSs, evS, evE, evEs, evO, evC, evI, R.opt, RS.opt, setTV, setT, asBool, isTy, isTyD, cmV, dicOf, peek, peeks, cmD, biV, biD, idxV, idxD, slcV, slcD, mtV, mtApp, mtPure, mtTyp, mtD, opD, take, takes, keepS, runF, noX, hz, isSized, isCode, h]
  | .non, _, hz => simp [d_is_code, evSs, evS, evE, evEs, evO, evC, evI, R.opt, RS.opt, setTV, setT, asBool, isTy, isTyD, cmV, dicOf, peek, peeks, cmD, biV, biD, idxV, idxD, slcV, slcD, mtV, mtApp, mtPure, mtTyp, mtD, opD, take, takes, keepS, runF, noX, hz, isSized, isCode]
  | .bl b, _, hz => simp [d_is_code, evSs, evS, evE, evEs, evO, evC, evI, R.opt, RS.opt, setTV, setT, asBool, isTy, isTyD, cmV, dicOf, peek, peeks, cmD, biV, biD, idxV, idxD, slcV, slcD, mtV, mtApp, mtPure, mtTyp, mtD, opD, take, takes, keepS, runF, noX, hz, isSized, isCode]
  | .int i, _, hz => simp [d_is_code, evSs, evS, evE, evEs, evO, evC, evI, R.opt, RS.opt, setTV, setT, asBool, isTy, isTyD, cmV, dicOf, peek, peeks, cmD, biV, biD, idxV, idxD, slcV, slcD, mtV, mtApp, mtPure, mtTyp, mtD, opD, take, takes, keepS, runF, noX, hz, isSized, isCode]
  | .str s, _, hz => simp [d_is_code, evSs, evS, evE, evEs, evO, evC, evI, R.opt, RS.opt, setTV, setT, asBool, isTy, isTyD, cmV, dicOf, peek, peeks, cmD, biV, biD, idxV, idxD, slcV, slcD, mtV, mtApp, mtPure, mtTyp, mtD, opD, take, takes, keepS, runF, noX, hz, isSized, isCode]
  | .lst ds, _, hz => simp [d_is_code, evSs, evS, evE, evEs, evO, evC, evI, R.opt, RS.opt, setTV, setT, asBool, isTy, isTyD, cmV, dicOf, peek, peeks, cmD, biV, biD, idxV, idxD, slcV, slcD, mtV, mtApp, mtPure, mtTyp, mtD, opD, take, takes, keepS, runF, noX, hz, isSized, isCode]
theorem c_chk (n : Nat) (x : D) (S : Sto) (hx : smallC x) : CN (n + 3) 4 [.d x] S = if isCode x then .ok (.d .non) S else .exc 2 [] S := by
  rw [cn_at (F := d_check_code.fn) rfl]
  simp [d_check_code, evSs, evS, evE, evEs, evO, evC, evI, R.opt, RS.opt, setTV, setT, asBool, isTy, isTyD, cmV, dicOf, peek, peeks, cmD, biV, biD, idxV, idxD, slcV, slcD, mtV, mtApp, mtPure, mtTyp, mtD, opD, take, takes, keepS, runF, noX, c_code n x S hx]
  cases isCode x <;> simp [evSs, evS, evE, evEs, evO, evC, evI, R.opt, RS.opt, setTV, setT, asBool, isTy, isTyD, cmV, dicOf, peek, peeks, cmD, biV, biD, idxV, idxD, slcV, slcD, mtV, mtApp, mtPure, mtTyp, mtD, opD, take, takes, keepS, runF, noX]
end K66
end

section
set_option Elab.async false
set_option linter.all false
set_option maxRecDepth 100000
set_option maxHeartbeats 4000000
namespace K66
open PySem EV
/-! ### images -/
def imgC (a b : List Nat) (c : Nat) : List Nat := if c = 97 then a else b
def img (a b w : List Nat) : List Nat := w.flatMap (imgC a b)
theorem joinS_nil : ∀ ss : List (List Nat), joinS [] ss = ss.flatten
  | [] => rfl
  | [x] => by simp [joinS]
  | x :: y :: r => by simp [joinS, joinS_nil (y :: r)]
theorem strsOf_map (ss : List (List Nat)) : strsOf (ss.map .str) = some ss := by
  induction ss with
  | nil => rfl
  | cons s ss ih => simp [strsOf, ih]
theorem strsOf_fn {α : Type} (f : α → List Nat) (l : List α) : strsOf (l.map fun x => D.str (f x)) = some (l.map f) := by
  have := strsOf_map (l.map f)
  rwa [List.map_map] at this
theorem img_len (a b : List Nat) : ∀ w : List Nat, (img a b w).length ≤ w.length * (a.length + b.length)
  | [] => by simp [img]
  | c :: w => by
    have h := img_len a b w
    have e : img a b (c :: w) = imgC a b c ++ img a b w := rfl
    rw [e, List.length_append, List.length_cons, Nat.add_mul]
    have : (imgC a b c).length ≤ a.length + b.length := by unfold imgC; split <;> omega
    omega
theorem sum_img (a b w : List Nat) : ((w.map (imgC a b)).map List.length).sum = (img a b w).length := by
  unfold img
  rw [List.length_flatMap, List.map_map]
  rfl
def okW (w : List Nat) : Prop := ∀ c ∈ w, isC c = true
theorem isC_or {c : Nat} (h : isC c = true) : c = 97 ∨ c = 98 := by simpa [isC] using h
theorem sum_img2 {a b w : List Nat} (hl : w.length * (a.length + b.length) ≤ lim) : (List.map (List.length ∘ imgC a b) w).sum ≤ lim := by
  rw [← List.map_map, sum_img]
  exact Nat.le_trans (img_len a b w) hl
theorem flat_img (a b w : List Nat) : (List.map (imgC a b) w).flatten = img a b w := by simp [img, List.flatMap]
theorem c_rawimg (n : Nat) (a b w : List Nat) (S : Sto) (hw : okW w) (hl : w.length * (a.length + b.length) ≤ lim) (hl2 : w.length ≤ lim) : CN (n + 1) 5 [.d (.tup [.str a, .str b]), .d (.str w)] S = .ok (.d (.str (img a b w))) S := by
  rw [cn_at (F := d_raw_image.fn) rfl]
  have hc : evE (UN n) x_raw_image_1 [some (.d (.tup [.str a, .str b])), some (.d (.str w)), none] S = .ok (.d (.lst (w.map fun c => .str (imgC a b c)))) S := by
    refine (ev_comp_map (ds := w.map fun c => .str [c]) (fun x => match x with | .str [c] => .str (imgC a b c) | _ => .non) rfl (fun x hx => ?_) (by simpa using hl2)).trans (by simp)
    obtain ⟨c, hc, rfl⟩ := List.mem_map.mp hx
    refine ⟨_, rfl, ?_⟩
    rcases isC_or (hw c hc) with rfl | rfl <;> simp [x_raw_image_1e, evSs, evS, evE, evEs, evO, evC, evI, R.opt, RS.opt, setTV, setT, asBool, isTy, isTyD, cmV, dicOf, peek, peeks, cmD, biV, biD, idxV, idxD, slcV, slcD, mtV, mtApp, mtPure, mtTyp, mtD, opD, take, takes, keepS, runF, noX, wipeL, imgC, ixI]
  simp [d_raw_image, evSs, evS, evE, evEs, evO, evC, evI, R.opt, RS.opt, setTV, setT, asBool, isTy, isTyD, cmV, dicOf, peek, peeks, cmD, biV, biD, idxV, idxD, slcV, slcD, mtV, mtApp, mtPure, mtTyp, mtD, opD, take, takes, keepS, runF, noX, hc, strsOf_fn, sum_img2 hl, joinS_nil, flat_img]
theorem c_lawimg (n : Nat) (a b w : List Nat) (S : Sto) (hw : okW w) (hl : w.length * (a.length + b.length) ≤ lim) (hl2 : w.length ≤ lim) : CN (n + 1) 22 [.d (.tup [.str a, .str b]), .d (.str w)] S = .ok (.d (.str (img a b w))) S := by
  rw [cn_at (F := d_law_image.fn) rfl]
  have hc : evE (UN n) x_law_image_1 [some (.d (.tup [.str a, .str b])), some (.d (.str w)), none] S = .ok (.d (.lst (w.map fun c => .str (imgC a b c)))) S := by
    refine (ev_comp_map (ds := w.map fun c => .str [c]) (fun x => match x with | .str [c] => .str (imgC a b c) | _ => .non) rfl (fun x hx => ?_) (by simpa using hl2)).trans (by simp)
    obtain ⟨c, hc, rfl⟩ := List.mem_map.mp hx
    refine ⟨_, rfl, ?_⟩
    rcases isC_or (hw c hc) with rfl | rfl <;> simp [x_law_image_1e, evSs, evS, evE, evEs, evO, evC, evI, R.opt, RS.opt, setTV, setT, asBool, isTy, isTyD, cmV, dicOf, peek, peeks, cmD, biV, biD, idxV, idxD, slcV, slcD, mtV, mtApp, mtPure, mtTyp, mtD, opD, take, takes, keepS, runF, noX, wipeL, imgC, ixI]
  simp [d_law_image, evSs, evS, evE, evEs, evO, evC, evI, R.opt, RS.opt, setTV, setT, asBool, isTy, isTyD, cmV, dicOf, peek, peeks, cmD, biV, biD, idxV, idxD, slcV, slcD, mtV, mtApp, mtPure, mtTyp, mtD, opD, take, takes, keepS, runF, noX, hc, strsOf_fn, sum_img2 hl, joinS_nil, flat_img]
/-- a right code -/
structure Cod (a b : List Nat) : Prop where
  oa : okW a
  ob : okW b
  la : a.length ≤ 4
  lb : b.length ≤ 4
theorem okW_all {w : List Nat} (h : okW w) : w.all isC = true := by rw [List.all_eq_true]; exact h
theorem isLet_ok {w : List Nat} (h : okW w) {m : Nat} (hl : w.length ≤ m) : isLet w (m : Int) = true := by
  unfold isLet
  rw [okW_all h, Bool.and_true]
  exact decide_eq_true (by omega)
theorem Cod.is {a b : List Nat} (h : Cod a b) : isCode (.tup [.str a, .str b]) = true := by
  have h1 := isLet_ok h.oa h.la
  have h2 := isLet_ok h.ob h.lb
  have h1 : isLet a 4 = true := h1
  have h2 : isLet b 4 = true := h2
  simp [isCode, isLetD, h1, h2]
theorem Cod.small {a b : List Nat} (h : Cod a b) : smallC (.tup [.str a, .str b]) := by
  have := h.la
  have := h.lb
  intro d hd
  simp at hd
  rcases hd with rfl | rfl
  · show a.length ≤ lim; rw [lim_val]; omega
  · show b.length ≤ lim; rw [lim_val]; omega
theorem c_chkC (n : Nat) {a b : List Nat} (h : Cod a b) (S : Sto) : CN (n + 3) 4 [.d (.tup [.str a, .str b])] S = .ok (.d .non) S := by
  rw [c_chk n _ S h.small, h.is]; rfl
theorem c_wordC (n : Nat) {w : List Nat} (h : okW w) (m : Nat) (hl : w.length ≤ m) (hm : m ≤ 1000) (S : Sto) : CN (n + 2) 2 [.d (.str w), .d (.int m)] S = .ok (.d .non) S := by
  have hs : smallD (.str w) := by show w.length ≤ lim; rw [lim_val]; omega
  rw [c_word n _ m S hs]
  have := isLet_ok h hl
  simp [isLetD, this]
theorem c_image (n : Nat) {a b w : List Nat} (h : Cod a b) (hw : okW w) (hl : w.length ≤ 12) (S : Sto) : CN (n + 4) 6 [.d (.tup [.str a, .str b]), .d (.str w)] S = .ok (.d (.str (img a b w))) S := by
  rw [cn_at (F := d_image.fn) rfl]
  have h1 := h.la
  have h2 := h.lb
  have h3 : w.length * (a.length + b.length) ≤ 12 * 8 := Nat.mul_le_mul hl (by omega)
  have e1 := c_chkC n h S
  have e2 := c_wordC (n + 1) hw 12 hl (by decide) S
  have e3 := c_rawimg (n + 2) a b w S hw (by rw [lim_val]; omega) (by rw [lim_val]; omega)
  have e2 : CN (n + 3) 2 [.d (.str w), .d (.int 12)] S = .ok (.d .non) S := e2
  simp [d_image, evSs, evS, evE, evEs, evO, evC, evI, R.opt, RS.opt, setTV, setT, asBool, isTy, isTyD, cmV, dicOf, peek, peeks, cmD, biV, biD, idxV, idxD, slcV, slcD, mtV, mtApp, mtPure, mtTyp, mtD, opD, take, takes, keepS, runF, noX, e1, e2, e3]
end K66
end

section
set_option Elab.async false
set_option linter.all false
set_option maxRecDepth 100000
set_option maxHeartbeats 4000000
namespace K66
open PySem EV
/-! ### slices, places -/
theorem cut_sl {t : List Nat} {j m : Nat} (h : j + m ≤ t.length) : cut t (some (j : Int)) (some ((j : Int) + m)) = (t.drop j).take m := by
  have e1 : ¬ ((j : Int) < 0) := by omega
  have e2 : ¬ ((j : Int) + m < 0) := by omega
  have e3 : ((j : Int) + m).toNat = j + m := by omega
  simp only [cut, loI, hiI, clip, if_neg e1, if_neg e2, e3, Int.toNat_natCast]
  rw [Nat.min_eq_left (by omega), Nat.min_eq_left (by omega)]
  congr 1
  omega
theorem ixI_nat {n j : Nat} (h : j < n) : ixI n (j : Int) = some j := by
  unfold ixI
  rw [if_pos (by omega), if_pos (by omega)]
  simp
theorem ixI_last {n : Nat} : ixI (n + 1) (-1) = some n := by
  unfold ixI
  rw [if_neg (by omega), if_pos (by omega)]
  congr 1
  omega
/-! ### the tables -/
def cand (t p : List Nat) (k : Nat) : Bool := decide (p ≠ []) && decide (p.length ≤ k) && decide ((t.drop (k - p.length)).take p.length = p)
def cnd (B : List (Option (List Nat))) (t p : List Nat) (c k : Nat) : Option (List Nat) := if cand t p k then ((B[k - p.length]?).getD none).map (· ++ [c]) else none
def ltW (x y : List Nat) : Bool := if x.length = y.length then ltS x y else decide (x.length < y.length)
def comb : Option (List Nat) → Option (List Nat) → Option (List Nat)
  | some x, some y => if ltW y x then some y else some x
  | some x, none => some x
  | none, o => o
def bst (t a b : List Nat) : Nat → List (Option (List Nat))
  | 0 => [some []]
  | k + 1 => bst t a b k ++ [comb (cnd (bst t a b k) t a 97 (k + 1)) (cnd (bst t a b k) t b 98 (k + 1))]
theorem bst_len (t a b : List Nat) : ∀ k, (bst t a b k).length = k + 1
  | 0 => rfl
  | k + 1 => by simp [bst, bst_len t a b k]
def optD : Option (List Nat) → D
  | some w => .str w
  | none => .non
def wD (w : List Nat) : D := .tup [.int w.length, .str w]
def oL : Option (List Nat) → List D
  | some w => [wD w]
  | none => []
theorem lt_w (x y : List Nat) : ltD (wD x) (wD y) = some (ltW x y) := by
  unfold wD ltW
  simp only [ltD, ltDs, eqD]
  by_cases h : x.length = y.length
  · have h' : ((x.length : Int) == (y.length : Int)) = true := by rw [beq_iff_eq]; exact_mod_cast h
    simp only [h', if_true, if_pos h]
    by_cases e : x = y
    · subst e
      have : ltS x x = false := by unfold ltS; exact decide_eq_false (List.lt_irrefl _)
      simp [this]
    · have e' : (x == y) = false := by simpa using e
      simp [e']
  · have h' : ((x.length : Int) == (y.length : Int)) = false := by
      rw [beq_eq_false_iff_ne]; intro z; exact h (by exact_mod_cast z)
    simp only [h', if_neg h]
    simp
/-- all words that stand in the table are short -/
def shortB (m : Nat) (B : List (Option (List Nat))) : Prop := ∀ w, some w ∈ B → w.length ≤ m
theorem rb_in (n : Nat) {t p : List Nat} {c k r q : Nat} {B : List (Option (List Nat))} {F L : List D} {St : Sto} {v0 : Option Vl} {o7 : Option Vl} (hr : (St : List Cell)[r]? = some (.lst (B.map optD ++ F))) (hq : (St : List Cell)[q]? = some (.lst L)) (hk : k ≤ t.length) (hB : k ≤ B.length) (ht : t.length ≤ 1000) (hp : p.length ≤ 1000) (hs : shortB 1000 B) (hL : L.length ≤ 1000) :
    ∃ o7', evSs (UN n) f_read_back_1 [v0, some (.d (.str t)), some (.ref r), some (.d (.int k)), some (.ref q), some (.d (.str [c])), some (.d (.str p)), o7] St =
      .nx [v0, some (.d (.str t)), some (.ref r), some (.d (.int k)), some (.ref q), some (.d (.str [c])), some (.d (.str p)), o7'] (St.set q (.lst (L ++ oL (cnd B t p c k)))) := by
  have hpl : p.length ≤ lim := by rw [lim_val]; omega
  have htl : t.length ≤ lim := by rw [lim_val]; omega
  have hself : St.set q (.lst L) = St := by
    refine List.ext_getElem? fun i => ?_
    by_cases hi : q = i
    · subst hi
      rw [List.getElem?_set_self (List.getElem?_eq_some_iff.mp hq).1, hq]
    · rw [List.getElem?_set_ne hi]
  by_cases h1 : p = []
  · subst h1
    refine ⟨some (.d (.int k)), ?_⟩
    simp [f_read_back_1, evSs, evS, evE, evEs, evO, evC, evI, R.opt, RS.opt, setTV, setT, asBool, isTy, isTyD, cmV, dicOf, peek, peeks, cmD, biV, biD, idxV, idxD, slcV, slcD, mtV, mtApp, mtPure, mtTyp, mtD, opD, take, takes, keepS, runF, noX, cnd, cand, oL, hself, eqD, dep, biD]
  · by_cases h2 : p.length ≤ k
    · obtain ⟨j, rfl⟩ : ∃ j, k = j + p.length := ⟨k - p.length, by omega⟩
      have e1 : (((j + p.length : Nat) : Int)) - (p.length : Int) = (j : Int) := by omega
      have e1' : (j : Int) + (p.length : Int) - (p.length : Int) = (j : Int) := by omega
      have e2 : ¬ ((j : Int) < 0) := by omega
      have hc := cut_sl (t := t) (j := j) (m := p.length) hk
      have pos : 0 < p.length := List.length_pos_iff.mpr h1
      have hjB : j < B.length := by omega
      have hjE : (B.map optD ++ F)[j]? = some (optD B[j]) := by
        rw [List.getElem?_append_left (by simpa using hjB), List.getElem?_map, List.getElem?_eq_getElem hjB]; rfl
      have hix : ixI (B.map optD ++ F).length (j : Int) = some j := ixI_nat (by simp; omega)
      have hix' : ixI (B.length + F.length) (j : Int) = some j := ixI_nat (by omega)
      by_cases h3 : (t.drop j).take p.length = p
      · have hcand : cand t p (j + p.length) = true := by
          simp [cand, h1, h3]
        cases hb : B[j] with
        | none =>
          refine ⟨some (.d (.int j)), ?_⟩
          have hcn : cnd B t p c (j + p.length) = none := by
            simp [cnd, hcand, List.getElem?_eq_getElem hjB, hb]
          rw [hb] at hjE
          simp [f_read_back_1, evSs, evS, evE, evEs, evO, evC, evI, R.opt, RS.opt, setTV, setT, asBool, isTy, isTyD, cmV, dicOf, peek, peeks, cmD, biV, biD, idxV, idxD, slcV, slcD, mtV, mtApp, mtPure, mtTyp, mtD, opD, take, takes, keepS, runF, noX, hcn, oL, hself, eqD, dep, hpl, htl, h1, e1, e1', e2, hc, h3, hr, hix, hix', hjE, optD]
        | some w =>
          refine ⟨some (.d (.int j)), ?_⟩
          have hcn : cnd B t p c (j + p.length) = some (w ++ [c]) := by
            simp [cnd, hcand, List.getElem?_eq_getElem hjB, hb]
          rw [hb] at hjE
          have hw := hs w (hb ▸ List.getElem_mem hjB)
          have hwl : w.length ≤ lim := by rw [lim_val]; omega
          have hwl1 : w.length + 1 ≤ lim := by rw [lim_val]; omega
          have hLl : L.length < lim := by rw [lim_val]; omega
          simp [f_read_back_1, evSs, evS, evE, evEs, evO, evC, evI, R.opt, RS.opt, setTV, setT, asBool, isTy, isTyD, cmV, dicOf, peek, peeks, cmD, biV, biD, idxV, idxD, slcV, slcD, mtV, mtApp, mtPure, mtTyp, mtD, opD, take, takes, keepS, runF, noX, hcn, oL, wD, eqD, dep, hpl, htl, h1, e1, e1', e2, hc, h3, hr, hq, hix, hix', hjE, optD, hwl, hwl1, hLl]
      · have hcn : cnd B t p c (j + p.length) = none := by
          simp [cnd, cand, h3]
        refine ⟨some (.d (.int j)), ?_⟩
        simp [f_read_back_1, evSs, evS, evE, evEs, evO, evC, evI, R.opt, RS.opt, setTV, setT, asBool, isTy, isTyD, cmV, dicOf, peek, peeks, cmD, biV, biD, idxV, idxD, slcV, slcD, mtV, mtApp, mtPure, mtTyp, mtD, opD, take, takes, keepS, runF, noX, hcn, oL, hself, eqD, dep, hpl, htl, h1, e1, e1', e2, hc, h3]
    · have hcn : cnd B t p c k = none := by simp [cnd, cand, h2]
      have e3 : ¬ ((0 : Int) ≤ (k : Int) - (p.length : Int)) := by omega
      refine ⟨some (.d (.int ((k : Int) - p.length))), ?_⟩
      simp [f_read_back_1, evSs, evS, evE, evEs, evO, evC, evI, R.opt, RS.opt, setTV, setT, asBool, isTy, isTyD, cmV, dicOf, peek, peeks, cmD, biV, biD, idxV, idxD, slcV, slcD, mtV, mtApp, mtPure, mtTyp, mtD, opD, take, takes, keepS, runF, noX, hcn, oL, hself, eqD, dep, hpl, h1, h2]
end K66
end

section
set_option Elab.async false
set_option linter.all false
set_option maxRecDepth 100000
set_option maxHeartbeats 4000000
namespace K66
open PySem EV
theorem set_last {α : Type} (S : List α) (c d : α) : (S ++ [c]).set S.length d = S ++ [d] := set_at S [] c d
theorem get_last {α : Type} (S : List α) (c : α) : (S ++ [c])[S.length]? = some c := get_at S [] c
theorem forGo_two {t : LT} {b : EV.Loc → Sto → RS} {x y : D} {l l1 l2 l3 l4 : EV.Loc} {S S1 S2 : Sto} (h1 : setT t x l = some l1) (h2 : b l1 S = .nx l2 S1) (h3 : setT t y l2 = some l3) (h4 : b l3 S1 = .nx l4 S2) : forGo t b [x, y] l S = .nx l4 S2 := by
  simp only [forGo, h1, h2, h3, h4]
def minS (c1 c2 : Option (List Nat)) : D := optD (comb c1 c2)
theorem oL_one (w : List Nat) : alikes [wD w] = true ∧ deps [wD w] ≤ 60 ∧ notLst (wD w) = true := by
  refine ⟨by simp [alikes, wD, likeD, likeDs], by simp [wD, dep, deps], rfl⟩
theorem oL_two (w x : List Nat) : alikes [wD w, wD x] = true ∧ deps [wD w, wD x] ≤ 60 := by
  refine ⟨by simp [alikes, wD, likeD, likeDs], by simp [wD, dep, deps]⟩
theorem biMin1 (w : List Nat) : biD .min [.lst [wD w]] = some (wD w) := by
  obtain ⟨h1, h2, h3⟩ := oL_one w
  show (if (alikes [wD w] && decide (deps [wD w] ≤ 60) && notLst (wD w)) = true then leastD (wD w) [] else none) = _
  rw [if_pos (by simp [h1, h2, h3])]
  rfl
theorem biMin2 (w x : List Nat) : biD .min [.lst [wD w, wD x]] = some (if ltW x w then wD x else wD w) := by
  obtain ⟨h1, h2⟩ := oL_two w x
  show (if (alikes [wD w, wD x] && decide (deps [wD w, wD x] ≤ 60) && notLst (wD w)) = true then leastD (wD w) [wD x] else none) = _
  rw [if_pos (by simp [h1, h2]; rfl)]
  simp only [leastD, lt_w]
  cases ltW x w <;> rfl
theorem ev_ife_t {V : EV.Env} {c a b : LE} {l : EV.Loc} {S : Sto} (h : evE V c l S = .ok (.d (.bl true)) S) : evE V (.ife c a b) l S = evE V a l S := by simp only [evE, h, R.bind_ok, asBool, R.opt_some, if_true]
theorem ev_ife_f {V : EV.Env} {c a b : LE} {l : EV.Loc} {S : Sto} (h : evE V c l S = .ok (.d (.bl false)) S) : evE V (.ife c a b) l S = evE V b l S := by simp only [evE, h, R.bind_ok, asBool, R.opt_some]; rfl
theorem ev_min1 (V : EV.Env) {l : EV.Loc} {St : Sto} {q : Nat} {L : List D} {w : List Nat} (h4 : l[4]? = some (some (.ref q))) (hq : (St : List Cell)[q]? = some (.lst L)) (hm : biD .min [.lst L] = some (wD w)) : evE V (.idx (.bi .min (.cons (.var 4) .nil)) (.lit (.int 1))) l St = .ok (.d (.str w)) St := by
  have b : biV .min [.ref q] St = some (wD w) := by
    rw [← hm]
    simp only [biV, dicOf, hq, peeks, peek, Option.bind_some]
  simp only [evE, evEs, h4, R.bind_ok, b, R.opt_some, idxV, dicOf, peek, wD, idxD]
  rfl
theorem ev_sub {V : EV.Env} {e : LE} {i j n m : Nat} {k : Int} {l : EV.Loc} {S : Sto} {x : D} {ds : List D} (he : evE V e l S = .ok (.d x) S) (h1 : l[i]? = some (some (.ref n))) (h2 : l[j]? = some (some (.d (.int k)))) (hn : (S : List Cell)[n]? = some (.lst ds)) (hk : ixI ds.length k = some m) :
    evS V (.sub (.var i) (.var j) e) l S = .nx l (S.set n (.lst (ds.set m x))) := by
  simp only [evS, he, R.st_ok]
  simp only [evE, h1, h2, R.st_ok, take, RS.opt_some, subC, hn, hk]
/-- best[end] = .. -/
theorem rb_min (V : EV.Env) {l : EV.Loc} {St : Sto} {q : Nat} {c1 c2 : Option (List Nat)} (h4 : l[4]? = some (some (.ref q))) (hq : (St : List Cell)[q]? = some (.lst (oL c1 ++ oL c2))) :
    evE V (.ife (.cmp .gt (.bi .len (.cons (.var 4) .nil)) (.lit (.int 0))) (.idx (.bi .min (.cons (.var 4) .nil)) (.lit (.int 1))) (.lit (.non))) l St = .ok (.d (optD (comb c1 c2))) St := by
  cases c1 with
  | none =>
    cases c2 with
    | none =>
      have hq : (St : List Cell)[q]? = some (.lst []) := hq
      simp [evE, evEs, h4, biV, dicOf, peek, peeks, hq, biD, cmV, cmD, asBool, comb, optD]
    | some y =>
      have hq : (St : List Cell)[q]? = some (.lst [wD y]) := hq
      refine (ev_ife_t ?_).trans (ev_min1 V h4 hq (biMin1 y))
      simp [evE, evEs, h4, biV, dicOf, peek, peeks, hq, biD, cmV, cmD]
  | some x =>
    cases c2 with
    | none =>
      have hq : (St : List Cell)[q]? = some (.lst [wD x]) := hq
      refine (ev_ife_t ?_).trans (ev_min1 V h4 hq (biMin1 x))
      simp [evE, evEs, h4, biV, dicOf, peek, peeks, hq, biD, cmV, cmD]
    | some y =>
      have hq : (St : List Cell)[q]? = some (.lst [wD x, wD y]) := hq
      have hm : biD .min [.lst [wD x, wD y]] = some (wD (if ltW y x then y else x)) := by
        rw [biMin2]
        cases ltW y x <;> rfl
      refine (ev_ife_t ?_).trans ((ev_min1 V h4 hq hm).trans ?_)
      · simp [evE, evEs, h4, biV, dicOf, peek, peeks, hq, biD, cmV, cmD]
      · simp only [comb]
        cases ltW y x <;> rfl
theorem rb_out (n : Nat) {t a b : List Nat} {m : Nat} {B : List (Option (List Nat))} {F : List D} {S G : Sto} {o4 o5 o6 o7 : Option Vl} (h : Cod a b) (hm : B.length = m) (hk : m ≤ t.length) (ht : t.length ≤ 1000) (hs : shortB 1000 B) :
    ∃ o4' o5' o6' o7' G', evSs (UN n) f_read_back_2 [some (.d (.tup [.str a, .str b])), some (.d (.str t)), some (.ref S.length), some (.d (.int m)), o4, o5, o6, o7] (S ++ .lst (B.map optD ++ .non :: F) :: G) =
      .nx [some (.d (.tup [.str a, .str b])), some (.d (.str t)), some (.ref S.length), some (.d (.int m)), o4', o5', o6', o7'] (S ++ .lst ((B ++ [comb (cnd B t a 97 m) (cnd B t b 98 m)]).map optD ++ F) :: G') := by
  have la := h.la
  have lb := h.lb
  obtain ⟨St, hSt⟩ : ∃ St, St = S ++ .lst (B.map optD ++ .non :: F) :: G := ⟨_, rfl⟩
  have hr0 : (St : List Cell)[S.length]? = some (.lst (B.map optD ++ .non :: F)) := by rw [hSt]; exact get_at _ _ _
  have hlt : S.length < St.length := (List.getElem?_eq_some_iff.mp hr0).1
  have hr1 : ∀ L : List D, ((St ++ [Cell.lst L] : Sto) : List Cell)[S.length]? = some (.lst (B.map optD ++ .non :: F)) := fun L => by
    rw [List.getElem?_append_left hlt]; exact hr0
  obtain ⟨o7a, h1⟩ := rb_in n (t := t) (p := a) (c := 97) (k := m) (B := B) (F := .non :: F) (L := []) (St := St ++ [.lst []]) (r := S.length) (q := St.length) (v0 := some (.d (.tup [.str a, .str b]))) (o7 := o7) (hr1 _) (get_last _ _) hk (by omega) ht (by omega) hs (by simp)
  rw [set_last, List.nil_append] at h1
  obtain ⟨o7b, h2⟩ := rb_in n (t := t) (p := b) (c := 98) (k := m) (B := B) (F := .non :: F) (L := oL (cnd B t a 97 m)) (St := St ++ [.lst (oL (cnd B t a 97 m))]) (r := S.length) (q := St.length) (v0 := some (.d (.tup [.str a, .str b]))) (o7 := o7a) (hr1 _) (get_last _ _) hk (by omega) ht (by omega) hs (by cases cnd B t a 97 m <;> simp [oL])
  rw [set_last] at h2
  have h3 : forGo (.tp (.nm 5) (.nm 6)) (evSs (UN n) f_read_back_1) [.tup [.str [97], .str a], .tup [.str [98], .str b]] [some (.d (.tup [.str a, .str b])), some (.d (.str t)), some (.ref S.length), some (.d (.int m)), some (.ref St.length), o5, o6, o7] (St ++ [.lst []]) = _ := forGo_two rfl h1 rfl h2
  have h4 := rb_min (UN n) (l := [some (.d (.tup [.str a, .str b])), some (.d (.str t)), some (.ref S.length), some (.d (.int m)), some (.ref St.length), some (.d (.str [98])), some (.d (.str b)), o7b]) (St := St ++ [.lst (oL (cnd B t a 97 m) ++ oL (cnd B t b 98 m))]) (q := St.length) rfl (get_last _ _)
  have hix : ixI (B.map optD ++ D.non :: F).length (m : Int) = some m := ixI_nat (by simp; omega)
  have hset : (B.map optD ++ D.non :: F).set m (optD (comb (cnd B t a 97 m) (cnd B t b 98 m))) = (B ++ [comb (cnd B t a 97 m) (cnd B t b 98 m)]).map optD ++ F := by
    have e : (B.map optD).length = m := by simpa using hm
    rw [← e, set_at]
    simp
  refine ⟨some (.ref St.length), some (.d (.str [98])), some (.d (.str b)), o7b, G ++ [.lst (oL (cnd B t a 97 m) ++ oL (cnd B t b 98 m))], ?_⟩
  have hfin : (St ++ [Cell.lst (oL (cnd B t a 97 m) ++ oL (cnd B t b 98 m))]).set S.length (.lst ((B ++ [comb (cnd B t a 97 m) (cnd B t b 98 m)]).map optD ++ F)) = S ++ .lst ((B ++ [comb (cnd B t a 97 m) (cnd B t b 98 m)]).map optD ++ F) :: (G ++ [.lst (oL (cnd B t a 97 m) ++ oL (cnd B t b 98 m))]) := by
    rw [hSt, List.append_assoc, List.cons_append, set_at]
  rw [← hSt, ← hfin]
  have a1 : evS (UN n) (.asg (.nm 4) (.thaw (.lst .nil))) [some (.d (.tup [.str a, .str b])), some (.d (.str t)), some (.ref S.length), some (.d (.int m)), o4, o5, o6, o7] St = .nx [some (.d (.tup [.str a, .str b])), some (.d (.str t)), some (.ref S.length), some (.d (.int m)), some (.ref St.length), o5, o6, o7] (St ++ [.lst []]) := by
    simp [evSs, evS, evE, evEs, evO, evC, evI, R.opt, RS.opt, setTV, setT, asBool, isTy, isTyD, cmV, dicOf, peek, peeks, cmD, biV, biD, idxV, idxD, slcV, slcD, mtV, mtApp, mtPure, mtTyp, mtD, opD, take, takes, keepS, runF, noX]
  have a2 : evS (UN n) (.for_ (.tp (.nm 5) (.nm 6)) (.zip (.glob "LETTERS" (.d (.str [97, 98]))) (.var 0)) f_read_back_1) [some (.d (.tup [.str a, .str b])), some (.d (.str t)), some (.ref S.length), some (.d (.int m)), some (.ref St.length), o5, o6, o7] (St ++ [.lst []]) = .nx [some (.d (.tup [.str a, .str b])), some (.d (.str t)), some (.ref S.length), some (.d (.int m)), some (.ref St.length), some (.d (.str [98])), some (.d (.str b)), o7b] (St ++ [.lst (oL (cnd B t a 97 m) ++ oL (cnd B t b 98 m))]) := by
    rw [← h3]
    simp [evSs, evS, evE, evEs, evO, evC, evI, R.opt, RS.opt, setTV, setT, asBool, isTy, isTyD, cmV, dicOf, peek, peeks, cmD, biV, biD, idxV, idxD, slcV, slcD, mtV, mtApp, mtPure, mtTyp, mtD, opD, take, takes, keepS, runF, noX, seqD, zipD, forR]
  have a3 : evS (UN n) (.sub (.var 2) (.var 3) (.ife (.cmp .gt (.bi .len (.cons (.var 4) .nil)) (.lit (.int 0))) (.idx (.bi .min (.cons (.var 4) .nil)) (.lit (.int 1))) (.lit (.non)))) [some (.d (.tup [.str a, .str b])), some (.d (.str t)), some (.ref S.length), some (.d (.int m)), some (.ref St.length), some (.d (.str [98])), some (.d (.str b)), o7b] (St ++ [.lst (oL (cnd B t a 97 m) ++ oL (cnd B t b 98 m))]) = .nx [some (.d (.tup [.str a, .str b])), some (.d (.str t)), some (.ref S.length), some (.d (.int m)), some (.ref St.length), some (.d (.str [98])), some (.d (.str b)), o7b] ((St ++ [Cell.lst (oL (cnd B t a 97 m) ++ oL (cnd B t b 98 m))]).set S.length (.lst ((B ++ [comb (cnd B t a 97 m) (cnd B t b 98 m)]).map optD ++ F))) := by
    rw [← hset]
    exact ev_sub h4 rfl rfl (hr1 _) hix
  show evSs (UN n) (.cons _ (.cons _ (.cons _ .nil))) _ _ = _
  simp only [evSs, a1, a2, a3]
end K66
end

section
set_option Elab.async false
set_option linter.all false
set_option maxRecDepth 100000
set_option maxHeartbeats 4000000
namespace K66
set_option profiler true
set_option profiler.threshold 2000
open PySem EV
theorem cnd_short {B : List (Option (List Nat))} {t p w : List Nat} {c k m : Nat} (hs : shortB m B) (h : cnd B t p c k = some w) : w.length ≤ m + 1 := by
  unfold cnd at h
  split at h
  · rw [Option.map_eq_some_iff] at h
    obtain ⟨u, hu, rfl⟩ := h
    cases hb : B[k - p.length]? with
    | none => rw [hb] at hu; cases hu
    | some o =>
      rw [hb] at hu
      have hu : o = some u := hu
      subst hu
      have := hs u (List.mem_of_getElem? hb)
      simp
      exact this
  · cases h
theorem bst_short (t a b : List Nat) : ∀ k, shortB k (bst t a b k)
  | 0 => fun w h => by simp [bst] at h; simp [h]
  | k + 1 => fun w h => by
    have ih := bst_short t a b k
    rcases List.mem_append.mp h with h | h
    · exact Nat.le_succ_of_le (ih w h)
    · have h : some w = comb (cnd (bst t a b k) t a 97 (k + 1)) (cnd (bst t a b k) t b 98 (k + 1)) := by simpa using h
      cases h1 : cnd (bst t a b k) t a 97 (k + 1) with
      | none =>
        rw [h1] at h
        exact cnd_short ih (h.symm)
      | some x =>
        have lx := cnd_short ih h1
        rw [h1] at h
        cases h2 : cnd (bst t a b k) t b 98 (k + 1) with
        | none => rw [h2] at h; cases h; exact lx
        | some y =>
          have ly := cnd_short ih h2
          rw [h2] at h
          simp only [comb] at h
          split at h <;> (cases h; assumption)
def rbL (t a b : List Nat) : Option (List Nat) := (bst t a b t.length).getD t.length none
theorem range_at {n i : Nat} {x : D} (h : (rangeD 1 ((n : Int) + 1))[i]? = some x) : i < n ∧ x = .int ((i + 1 : Nat) : Int) := by
  unfold rangeD at h
  rw [List.getElem?_map, Option.map_eq_some_iff] at h
  obtain ⟨j, hj, rfl⟩ := h
  have e : ((n : Int) + 1 - 1).toNat = n := by omega
  rw [e] at hj
  obtain ⟨h1, h2⟩ := List.getElem?_eq_some_iff.mp hj
  simp at h1 h2
  subst h2
  refine ⟨h1, ?_⟩
  congr 1
  omega
theorem range_len (n : Nat) : (rangeD 1 ((n : Int) + 1)).length = n := by
  unfold rangeD
  rw [List.length_map, List.length_range]
  omega
theorem flat_rep (n : Nat) : (List.replicate n [D.non]).flatten = List.replicate n D.non := by
  induction n with
  | zero => rfl
  | succ n ih => rw [List.replicate_succ, List.flatten_cons, ih, List.replicate_succ]; rfl
theorem run_d {V : EV.Env} {F : Fn} {vs : List Vl} {S S' : Sto} {x : D} (h0 : vs.length = F.np) (h : evSs V F.body (vs.map some ++ List.replicate (F.nl - F.np) none) S = .ret (.d x) S') (h1 : S'.take S.length = S) : runF V F vs S = .ok (.d x) S := by
  unfold runF
  rw [if_pos h0, h]
  simp only [keepS, h1]
theorem c_readback (n : Nat) {a b t : List Nat} (h : Cod a b) (hw : okW t) (hl : t.length ≤ 40) (S : Sto) : CN (n + 4) 9 [.d (.tup [.str a, .str b]), .d (.str t)] S = .ok (.d (optD (rbL t a b))) S := by
  rw [cn_at (F := d_read_back.fn) rfl]
  have e1 := c_chkC n h S
  have e2 : CN (n + 3) 2 [.d (.str t), .d (.int 40)] S = .ok (.d .non) S := c_wordC (n + 1) hw 40 hl (by decide) S
  obtain ⟨l', S', f1, f2⟩ := forGo_inv (t := .nm 3) (b := evSs (UN (n + 3)) f_read_back_2) (xs := rangeD 1 ((t.length : Int) + 1)) (k := 0) (l := [some (.d (.tup [.str a, .str b])), some (.d (.str t)), some (.ref S.length), none, none, none, none, none]) (S := S ++ [.lst ((bst t a b 0).map optD ++ List.replicate (t.length - 0) .non)])
    (fun k l S' => ∃ o3 o4 o5 o6 o7 G, l = [some (.d (.tup [.str a, .str b])), some (.d (.str t)), some (.ref S.length), o3, o4, o5, o6, o7] ∧ S' = S ++ .lst ((bst t a b k).map optD ++ List.replicate (t.length - k) .non) :: G)
    ⟨none, none, none, none, none, [], rfl, rfl⟩ (fun i x l S' hx hI => by
      obtain ⟨o3, o4, o5, o6, o7, G, rfl, rfl⟩ := hI
      obtain ⟨hi, rfl⟩ := range_at hx
      rw [Nat.zero_add]
      have hF : List.replicate (t.length - i) D.non = .non :: List.replicate (t.length - (i + 1)) .non := by
        rw [show t.length - i = (t.length - (i + 1)) + 1 by omega, List.replicate_succ]
      obtain ⟨o4', o5', o6', o7', G', hb⟩ := rb_out (n + 3) (t := t) (m := i + 1) (B := bst t a b i) (F := List.replicate (t.length - (i + 1)) .non) (S := S) (G := G) (o4 := o4) (o5 := o5) (o6 := o6) (o7 := o7) h (bst_len t a b i) (by omega) (by omega) (fun w hw => Nat.le_trans (bst_short t a b i w hw) (by omega))
      rw [hF]
      exact ⟨_, _, _, rfl, hb, some (.d (.int ((i + 1 : Nat) : Int))), o4', o5', o6', o7', G', rfl, rfl⟩)
  obtain ⟨o3, o4, o5, o6, o7, G, rfl, rfl⟩ := f2
  rw [Nat.zero_add, range_len, Nat.sub_self, List.replicate_zero, List.append_nil] at f1
  have hlen : (bst t a b t.length).length = t.length + 1 := bst_len t a b _
  have hres : (bst t a b t.length)[t.length]? = some (rbL t a b) := by
    unfold rbL
    rw [List.getD_eq_getElem?_getD, List.getElem?_eq_getElem (by omega)]
    rfl
  have hix : ixI ((bst t a b t.length).map optD).length (-1) = some t.length := by
    rw [List.length_map, hlen]; exact ixI_last
  have hlim : t.length ≤ lim := by rw [lim_val]; omega
  have hlim1 : 1 + t.length ≤ lim := by rw [lim_val]; omega
  have hwide : wideI ((t.length : Int) + 1) = true := by simp [wideI]; omega
  have hw1 : wideI 1 = true := by decide
  have hm : opD .mul (.lst [.non]) (.int t.length) = some (.lst (List.replicate t.length .non)) := by
    simp only [opD]
    rw [if_pos ⟨by omega, by omega, by simpa using hlim⟩, Int.toNat_natCast, flat_rep]
  have ha : opD .add (.lst [.str []]) (.lst (List.replicate t.length .non)) = some (.lst (.str [] :: List.replicate t.length .non)) := by
    simp only [opD]
    rw [if_pos (by simpa using hlim1)]
    rfl
  have b0 : biV .len [.d (.str t)] S = some (.int t.length) := by simp only [biV, dicOf, peeks, peek, Option.bind_some, biD, if_pos hlim]
  have b1 : ∀ S1, biV .len [.d (.str t)] S1 = some (.int t.length) := fun S1 => by simp only [biV, dicOf, peeks, peek, Option.bind_some, biD, if_pos hlim]
  have s3 : evS (UN (n + 3)) (.asg (.nm 2) (.thaw (.op .add (.lst (.cons (.lit (.str [])) .nil)) (.op .mul (.lst (.cons (.lit (.non)) .nil)) (.bi .len (.cons (.var 1) .nil)))))) [some (.d (.tup [.str a, .str b])), some (.d (.str t)), none, none, none, none, none, none] S = .nx [some (.d (.tup [.str a, .str b])), some (.d (.str t)), some (.ref S.length), none, none, none, none, none] (S ++ [.lst (.str [] :: List.replicate t.length .non)]) := by
    have bl : biD .len [.str t] = some (.int t.length) := by simp only [biD, if_pos hlim]
    exact ev_asgD (ev_thaw (ev_op (ev_lst1 ev_lit) (ev_op (ev_lst1 ev_lit) (ev_bi1 (ev_var rfl) bl) hm) ha))
  have s4 : evS (UN (n + 3)) (.for_ (.nm 3) (.rng2 (.lit (.int 1)) (.op .add (.bi .len (.cons (.var 1) .nil)) (.lit (.int 1)))) f_read_back_2) [some (.d (.tup [.str a, .str b])), some (.d (.str t)), some (.ref S.length), none, none, none, none, none] (S ++ [.lst (.str [] :: List.replicate t.length .non)]) = .nx [some (.d (.tup [.str a, .str b])), some (.d (.str t)), some (.ref S.length), o3, o4, o5, o6, o7] (S ++ Cell.lst (List.map optD (bst t a b t.length)) :: G) := by
    have bl : biD .len [.str t] = some (.int t.length) := by simp only [biD, if_pos hlim]
    refine (ev_for (ev_rng2 ev_lit (ev_op (ev_bi1 (ev_var rfl) bl) ev_lit (opD_addI _ _)) hw1 hwide)).trans f1
  have s5 : evS (UN (n + 3)) (.ret (.idx (.var 2) (.neg (.lit (.int 1))))) [some (.d (.tup [.str a, .str b])), some (.d (.str t)), some (.ref S.length), o3, o4, o5, o6, o7] (S ++ Cell.lst (List.map optD (bst t a b t.length)) :: G) = .ret (.d (optD (rbL t a b))) (S ++ Cell.lst (List.map optD (bst t a b t.length)) :: G) := by
    have i1 : idxV (.ref S.length) (.d (.int (-1))) (S ++ Cell.lst (List.map optD (bst t a b t.length)) :: G) = some (optD (rbL t a b)) := by
      simp only [idxV, dicOf, get_at, peek, idxD, hix, Option.bind_some, List.getElem?_map, hres, Option.map_some]
    simp [evS, evE, i1, take]
  have s1 : evS (UN (n + 3)) (.ex (.call 4 "check_code" (.cons (.var 0) .nil))) [some (.d (.tup [.str a, .str b])), some (.d (.str t)), none, none, none, none, none, none] S = .nx [some (.d (.tup [.str a, .str b])), some (.d (.str t)), none, none, none, none, none, none] S := by
    simp [evS, evE, evEs, e1]
  have s2 : evS (UN (n + 3)) (.ex (.call 2 "check_word" (.cons (.var 1) (.cons (.glob "MOST_READ" (.d (.int 40))) .nil)))) [some (.d (.tup [.str a, .str b])), some (.d (.str t)), none, none, none, none, none, none] S = .nx [some (.d (.tup [.str a, .str b])), some (.d (.str t)), none, none, none, none, none, none] S := by
    simp [evS, evE, evEs, e2]
  have body : evSs (UN (n + 3)) d_read_back.fn.body [some (.d (.tup [.str a, .str b])), some (.d (.str t)), none, none, none, none, none, none] S = .ret (.d (optD (rbL t a b))) (S ++ Cell.lst (List.map optD (bst t a b t.length)) :: G) := by
    show evSs (UN (n + 3)) (.cons _ (.cons _ (.cons _ (.cons _ (.cons _ .nil))))) _ _ = _
    simp only [evSs, s1, s2, s3, s4, s5]
  exact run_d rfl body (take_at _ _)
end K66
end

section
set_option Elab.async false
set_option linter.all false
set_option maxRecDepth 100000
set_option maxHeartbeats 4000000
namespace K66
open PySem EV
/-! ### all words that are put so, the least, how many -/
def part (R : List (List (List Nat))) (t p : List Nat) (c k : Nat) : List (List Nat) := if cand t p k then (R.getD (k - p.length) []).map (· ++ [c]) else []
def rws (t a b : List Nat) : Nat → List (List (List Nat))
  | 0 => [[[]]]
  | k + 1 => rws t a b k ++ [part (rws t a b k) t a 97 (k + 1) ++ part (rws t a b k) t b 98 (k + 1)]
def cnn (C : List Nat) (t p : List Nat) (k : Nat) : Nat := if cand t p k then C.getD (k - p.length) 0 else 0
def cts (t a b : List Nat) : Nat → List Nat
  | 0 => [1]
  | k + 1 => cts t a b k ++ [cnn (cts t a b k) t a (k + 1) + cnn (cts t a b k) t b (k + 1)]
theorem rws_len (t a b : List Nat) : ∀ k, (rws t a b k).length = k + 1
  | 0 => rfl
  | k + 1 => by simp [rws, rws_len t a b k]
theorem cts_len (t a b : List Nat) : ∀ k, (cts t a b k).length = k + 1
  | 0 => rfl
  | k + 1 => by simp [cts, cts_len t a b k]
/-! the order -/
theorem ltS_irr (x : List Nat) : ltS x x = false := decide_eq_false (List.lt_irrefl _)
theorem ltW_irr (x : List Nat) : ltW x x = false := by simp [ltW, ltS_irr]
theorem ltW_tot {x y : List Nat} (h1 : ltW x y = false) (h2 : ltW y x = false) : x = y := by
  unfold ltW at h1 h2
  by_cases h : x.length = y.length
  · rw [if_pos h] at h1
    rw [if_pos h.symm] at h2
    have h1 := of_decide_eq_false h1
    have h2 := of_decide_eq_false h2
    exact List.le_antisymm h2 h1
  · rw [if_neg h] at h1
    rw [if_neg (Ne.symm h)] at h2
    have h1 := of_decide_eq_false h1
    have h2 := of_decide_eq_false h2
    omega
theorem ltW_trans {x y z : List Nat} (h1 : ltW x y = true) (h2 : ltW y z = true) : ltW x z = true := by
  unfold ltW at h1 h2 ⊢
  by_cases h : x.length = y.length
  · rw [if_pos h] at h1
    by_cases h' : y.length = z.length
    · rw [if_pos h'] at h2
      rw [if_pos (h.trans h')]
      exact decide_eq_true (List.lt_trans (of_decide_eq_true h1) (of_decide_eq_true h2))
    · rw [if_neg h'] at h2
      have := of_decide_eq_true h2
      rw [if_neg (by omega)]
      exact decide_eq_true (by omega)
  · rw [if_neg h] at h1
    have h1 := of_decide_eq_true h1
    by_cases h' : y.length = z.length
    · rw [if_neg (by omega)]
      exact decide_eq_true (by omega)
    · rw [if_neg h'] at h2
      have := of_decide_eq_true h2
      rw [if_neg (by omega)]
      exact decide_eq_true (by omega)
theorem lt_snoc : ∀ {x y : List Nat} {c : Nat}, x.length = y.length → ((x ++ [c] < y ++ [c]) ↔ x < y)
  | [], [], c, _ => by simp
  | [], _ :: _, _, h => by simp at h
  | _ :: _, [], _, h => by simp at h
  | a :: x, b :: y, c, h => by
    rw [List.cons_append, List.cons_append, List.cons_lt_cons_iff, List.cons_lt_cons_iff, lt_snoc (by simpa using h)]
theorem ltW_snoc (x y : List Nat) (c : Nat) : ltW (x ++ [c]) (y ++ [c]) = ltW x y := by
  unfold ltW
  by_cases h : x.length = y.length
  · rw [if_pos h, if_pos (by simp [h])]
    unfold ltS
    exact decide_eq_decide.mpr (lt_snoc h)
  · rw [if_neg h, if_neg (by simpa using h)]
    simp
/-- the least of them, if one is there -/
def isMin (l : List (List Nat)) : Option (List Nat) → Prop
  | none => l = []
  | some m => m ∈ l ∧ ∀ y ∈ l, ltW y m = false
theorem isMin_uniq {l : List (List Nat)} {o o' : Option (List Nat)} (h : isMin l o) (h' : isMin l o') : o = o' := by
  cases o with
  | none =>
    have h : l = [] := h
    subst h
    cases o' with
    | none => rfl
    | some m => exact absurd h'.1 (by simp)
  | some m =>
    cases o' with
    | none =>
      have h' : l = [] := h'
      subst h'
      exact absurd h.1 (by simp)
    | some m' => rw [ltW_tot (h'.2 _ h.1) (h.2 _ h'.1)]
theorem isMin_map {l : List (List Nat)} {o : Option (List Nat)} (c : Nat) (h : isMin l o) : isMin (l.map (· ++ [c])) (o.map (· ++ [c])) := by
  cases o with
  | none =>
    have h : l = [] := h
    subst h
    rfl
  | some m =>
    refine ⟨List.mem_map.mpr ⟨m, h.1, rfl⟩, fun y hy => ?_⟩
    obtain ⟨z, hz, rfl⟩ := List.mem_map.mp hy
    show ltW (z ++ [c]) (m ++ [c]) = false
    rw [ltW_snoc]
    exact h.2 z hz
theorem isMin_app {l r : List (List Nat)} {o o' : Option (List Nat)} (h : isMin l o) (h' : isMin r o') : isMin (l ++ r) (comb o o') := by
  cases o with
  | none =>
    have h : l = [] := h
    subst h
    exact h'
  | some m =>
    cases o' with
    | none =>
      have h' : r = [] := h'
      subst h'
      rw [List.append_nil]
      exact h
    | some m' =>
      simp only [comb]
      cases hc : ltW m' m with
      | true =>
        rw [if_pos rfl]
        refine ⟨List.mem_append_right _ h'.1, fun y hy => ?_⟩
        rcases List.mem_append.mp hy with hy | hy
        · cases hq : ltW y m' with
          | false => rfl
          | true =>
            have := ltW_trans hq hc
            rw [h.2 y hy] at this
            cases this
        · exact h'.2 y hy
      | false =>
        rw [if_neg (by simp)]
        refine ⟨List.mem_append_left _ h.1, fun y hy => ?_⟩
        rcases List.mem_append.mp hy with hy | hy
        · exact h.2 y hy
        · cases hq : ltW y m with
          | false => rfl
          | true =>
            have k1 := h'.2 y hy
            cases hq2 : ltW m' y with
            | true =>
              have := ltW_trans hq2 hq
              rw [hc] at this
              cases this
            | false =>
              have e := ltW_tot k1 hq2
              subst e
              rw [hc] at hq
              cases hq
/-! the tables hold what they should -/
theorem tab_ok (t a b : List Nat) : ∀ k, ∀ i, i ≤ k → isMin ((rws t a b k).getD i []) ((bst t a b k).getD i none) ∧ (cts t a b k).getD i 0 = ((rws t a b k).getD i []).length ∧ ((rws t a b k).getD i []).length ≤ 2 ^ i ∧ ∀ w ∈ (rws t a b k).getD i [], w.length ≤ i
  | 0, i, hi => by
    have e : i = 0 := by omega
    subst e
    exact ⟨⟨by simp [rws], fun y hy => by simp [rws] at hy; subst hy; exact ltW_irr _⟩, rfl, by simp [rws], by simp [rws]⟩
  | k + 1, i, hi => by
    have ih := tab_ok t a b k
    have l1 := rws_len t a b k
    have l2 := bst_len t a b k
    have l3 := cts_len t a b k
    by_cases h : i ≤ k
    · obtain ⟨h1, h2, h3, h4⟩ := ih i h
      have e1 : (rws t a b (k + 1)).getD i [] = (rws t a b k).getD i [] := by
        simp only [rws, List.getD_eq_getElem?_getD]
        rw [List.getElem?_append_left (by omega)]
      have e2 : (bst t a b (k + 1)).getD i none = (bst t a b k).getD i none := by
        simp only [bst, List.getD_eq_getElem?_getD]
        rw [List.getElem?_append_left (by omega)]
      have e3 : (cts t a b (k + 1)).getD i 0 = (cts t a b k).getD i 0 := by
        simp only [cts, List.getD_eq_getElem?_getD]
        rw [List.getElem?_append_left (by omega)]
      rw [e1, e2, e3]
      exact ⟨h1, h2, h3, h4⟩
    · have e : i = k + 1 := by omega
      subst e
      have e1 : (rws t a b (k + 1)).getD (k + 1) [] = part (rws t a b k) t a 97 (k + 1) ++ part (rws t a b k) t b 98 (k + 1) := by
        simp only [rws, List.getD_eq_getElem?_getD]
        rw [List.getElem?_append_right (by omega), l1]
        simp
      have e2 : (bst t a b (k + 1)).getD (k + 1) none = comb (cnd (bst t a b k) t a 97 (k + 1)) (cnd (bst t a b k) t b 98 (k + 1)) := by
        simp only [bst, List.getD_eq_getElem?_getD]
        rw [List.getElem?_append_right (by omega), l2]
        simp
      have e3 : (cts t a b (k + 1)).getD (k + 1) 0 = cnn (cts t a b k) t a (k + 1) + cnn (cts t a b k) t b (k + 1) := by
        simp only [cts, List.getD_eq_getElem?_getD]
        rw [List.getElem?_append_right (by omega), l3]
        simp
      have one : ∀ (p : List Nat) (c : Nat), isMin (part (rws t a b k) t p c (k + 1)) (cnd (bst t a b k) t p c (k + 1)) ∧ cnn (cts t a b k) t p (k + 1) = (part (rws t a b k) t p c (k + 1)).length ∧ (part (rws t a b k) t p c (k + 1)).length ≤ 2 ^ k ∧ ∀ w ∈ part (rws t a b k) t p c (k + 1), w.length ≤ k + 1 := fun p c => by
        unfold part cnd cnn
        cases hc : cand t p (k + 1) with
        | false => exact ⟨rfl, rfl, by simp, by simp⟩
        | true =>
          simp only [if_true]
          have hp : p ≠ [] ∧ p.length ≤ k + 1 := by
            unfold cand at hc
            simp only [Bool.and_eq_true, decide_eq_true_eq] at hc
            exact hc.1
          have pos : 0 < p.length := List.length_pos_iff.mpr hp.1
          obtain ⟨h1, h2, h3, h4⟩ := ih (k + 1 - p.length) (by omega)
          rw [← List.getD_eq_getElem?_getD]
          refine ⟨isMin_map c h1, by rw [h2, List.length_map], ?_, fun w hw => ?_⟩
          · rw [List.length_map]
            exact Nat.le_trans h3 (Nat.pow_le_pow_right (by decide) (by omega))
          · obtain ⟨z, hz, rfl⟩ := List.mem_map.mp hw
            have := h4 z hz
            simp
            omega
      rw [e1, e2, e3]
      obtain ⟨a1, a2, a3, a4⟩ := one a 97
      obtain ⟨b1, b2, b3, b4⟩ := one b 98
      refine ⟨isMin_app a1 b1, by rw [a2, b2, List.length_append], ?_, fun w hw => ?_⟩
      · rw [List.length_append, Nat.pow_succ]
        omega
      · rcases List.mem_append.mp hw with hw | hw
        · exact a4 w hw
        · exact b4 w hw
/-! sorting -/
def insW (x : List Nat) : List (List Nat) → List (List Nat)
  | [] => [x]
  | y :: ys => if ltW y x then y :: insW x ys else x :: y :: ys
def srtW : List (List Nat) → List (List Nat)
  | [] => []
  | x :: xs => insW x (srtW xs)
theorem insW_D (x : List Nat) : ∀ ys, sortD.insFront (wD x) (ys.map wD) = some ((insW x ys).map wD)
  | [] => rfl
  | y :: ys => by
    simp only [List.map_cons, sortD.insFront, lt_w, insW]
    cases ltW y x with
    | true => simp [insW_D x ys]
    | false => simp
theorem srtW_D : ∀ ws, sortD (ws.map wD) = some ((srtW ws).map wD)
  | [] => rfl
  | x :: xs => by
    simp only [List.map_cons, sortD, srtW_D xs, srtW]
    exact insW_D x _
theorem insW_len (x : List Nat) : ∀ ys, (insW x ys).length = ys.length + 1
  | [] => rfl
  | y :: ys => by
    simp only [insW]
    split
    · simp [insW_len x ys]
    · simp
theorem srtW_len : ∀ ws, (srtW ws).length = ws.length
  | [] => rfl
  | x :: xs => by simp [srtW, insW_len, srtW_len xs]
theorem insW_min {x : List Nat} {ys l : List (List Nat)} (h : isMin l ys.head?) : isMin (x :: l) (insW x ys).head? := by
  cases ys with
  | nil =>
    have h : l = [] := h
    subst h
    exact ⟨by simp, fun y hy => by simp at hy; subst hy; exact ltW_irr _⟩
  | cons y ys =>
    have h : y ∈ l ∧ ∀ z ∈ l, ltW z y = false := h
    simp only [insW]
    cases hc : ltW y x with
    | true =>
      rw [if_pos rfl]
      refine ⟨List.mem_cons_of_mem _ h.1, fun z hz => ?_⟩
      rcases List.mem_cons.mp hz with rfl | hz
      · cases hq : ltW z y with
        | false => rfl
        | true =>
          have := ltW_trans hc hq
          rw [ltW_irr] at this
          cases this
      · exact h.2 z hz
    | false =>
      rw [if_neg (by simp)]
      refine ⟨List.mem_cons_self, fun z hz => ?_⟩
      rcases List.mem_cons.mp hz with rfl | hz
      · exact ltW_irr _
      · cases hq : ltW z x with
        | false => rfl
        | true =>
          have k1 := h.2 z hz
          cases hq2 : ltW y z with
          | true =>
            have := ltW_trans hq2 hq
            rw [hc] at this
            cases this
          | false =>
            have e := ltW_tot k1 hq2
            subst e
            rw [hc] at hq
            cases hq
theorem srtW_min : ∀ ws, isMin ws (srtW ws).head?
  | [] => rfl
  | x :: xs => insW_min (srtW_min xs)
end K66
end

section
set_option Elab.async false
set_option linter.all false
set_option maxRecDepth 100000
set_option maxHeartbeats 4000000
namespace K66
open PySem EV
theorem set_self {St : Sto} {q : Nat} {x : Cell} (hq : (St : List Cell)[q]? = some x) : St.set q x = St := by
  refine List.ext_getElem? fun i => ?_
  by_cases hi : q = i
  · subst hi
    rw [List.getElem?_set_self (List.getElem?_eq_some_iff.mp hq).1, hq]
  · rw [List.getElem?_set_ne hi]
theorem cb_in (n : Nat) {t p : List Nat} {k r : Nat} {m : Int} {C : List Nat} {St : Sto} {v0 : Option Vl} (hr : (St : List Cell)[r]? = some (.lst (C.map fun x => .int (x : Nat)))) (hk : k ≤ t.length) (hC : k ≤ C.length) (ht : t.length ≤ 1000) (hp : p.length ≤ 1000) :
    evSs (UN n) f_counts_back_1 [v0, some (.d (.str t)), some (.ref r), some (.d (.int k)), some (.d (.int m)), some (.d (.str p))] St =
      .nx [v0, some (.d (.str t)), some (.ref r), some (.d (.int k)), some (.d (.int (m + (cnn C t p k : Nat)))), some (.d (.str p))] St := by
  have hpl : p.length ≤ lim := by rw [lim_val]; omega
  have htl : t.length ≤ lim := by rw [lim_val]; omega
  by_cases h1 : p = []
  · subst h1
    simp [f_counts_back_1, evSs, evS, evE, evEs, evO, evC, evI, R.opt, RS.opt, setTV, setT, asBool, isTy, isTyD, cmV, dicOf, peek, peeks, cmD, biV, biD, idxV, idxD, slcV, slcD, mtV, mtApp, mtPure, mtTyp, mtD, opD, take, takes, keepS, runF, noX, cnn, cand, eqD, dep, biD]
  · by_cases h2 : p.length ≤ k
    · obtain ⟨j, rfl⟩ : ∃ j, k = j + p.length := ⟨k - p.length, by omega⟩
      have e1' : (j : Int) + (p.length : Int) - (p.length : Int) = (j : Int) := by omega
      have he : (p.length : Int) ≤ (j : Int) + (p.length : Int) := by omega
      have hc := cut_sl (t := t) (j := j) (m := p.length) hk
      have pos : 0 < p.length := List.length_pos_iff.mpr h1
      have hjC : j < C.length := by omega
      have hix' : ixI C.length (j : Int) = some j := ixI_nat hjC
      by_cases h3 : (t.drop j).take p.length = p
      · have hcand : cand t p (j + p.length) = true := by simp [cand, h1, h3]
        have hcn : cnn C t p (j + p.length) = C[j] := by
          simp [cnn, hcand, List.getD_eq_getElem?_getD, List.getElem?_eq_getElem hjC]
        simp [f_counts_back_1, evSs, evS, evE, evEs, evO, evC, evI, R.opt, RS.opt, setTV, setT, asBool, isTy, isTyD, cmV, dicOf, peek, peeks, cmD, biV, biD, idxV, idxD, slcV, slcD, mtV, mtApp, mtPure, mtTyp, mtD, opD, take, takes, keepS, runF, noX, hcn, eqD, dep, hpl, htl, h1, e1', he, hc, h3, hr, hix', List.getElem?_eq_getElem hjC]
      · have hcn : cnn C t p (j + p.length) = 0 := by simp [cnn, cand, h3]
        simp [f_counts_back_1, evSs, evS, evE, evEs, evO, evC, evI, R.opt, RS.opt, setTV, setT, asBool, isTy, isTyD, cmV, dicOf, peek, peeks, cmD, biV, biD, idxV, idxD, slcV, slcD, mtV, mtApp, mtPure, mtTyp, mtD, opD, take, takes, keepS, runF, noX, hcn, eqD, dep, hpl, htl, h1, e1', he, hc, h3]
    · have hcn : cnn C t p k = 0 := by simp [cnn, cand, h2]
      simp [f_counts_back_1, evSs, evS, evE, evEs, evO, evC, evI, R.opt, RS.opt, setTV, setT, asBool, isTy, isTyD, cmV, dicOf, peek, peeks, cmD, biV, biD, idxV, idxD, slcV, slcD, mtV, mtApp, mtPure, mtTyp, mtD, opD, take, takes, keepS, runF, noX, hcn, eqD, dep, hpl, h1, h2]
theorem cb_out (n : Nat) {t a b : List Nat} {m : Nat} {C : List Nat} {S : Sto} {o4 o5 : Option Vl} (h : Cod a b) (hm : C.length = m) (hk : m ≤ t.length) (ht : t.length ≤ 1000) :
    ∃ o4' o5', evSs (UN n) f_counts_back_2 [some (.d (.tup [.str a, .str b])), some (.d (.str t)), some (.ref S.length), some (.d (.int m)), o4, o5] (S ++ [.lst (C.map fun x => .int (x : Nat))]) =
      .nx [some (.d (.tup [.str a, .str b])), some (.d (.str t)), some (.ref S.length), some (.d (.int m)), o4', o5'] (S ++ [.lst ((C ++ [cnn C t a m + cnn C t b m]).map fun x => .int (x : Nat))]) := by
  have la := h.la
  have lb := h.lb
  have hr : ((S ++ [.lst (C.map fun x => .int (x : Nat))] : Sto) : List Cell)[S.length]? = some (.lst (C.map fun x => .int (x : Nat))) := get_last _ _
  have h1 := cb_in n (t := t) (p := a) (k := m) (m := 0) (C := C) (v0 := some (.d (.tup [.str a, .str b]))) hr hk (by omega) ht (by omega)
  have h2 := cb_in n (t := t) (p := b) (k := m) (m := 0 + (cnn C t a m : Nat)) (C := C) (v0 := some (.d (.tup [.str a, .str b]))) hr hk (by omega) ht (by omega)
  have e : (0 : Int) + (cnn C t a m : Nat) + (cnn C t b m : Nat) = ((cnn C t a m + cnn C t b m : Nat) : Int) := by omega
  rw [e] at h2
  refine ⟨some (.d (.int ((cnn C t a m + cnn C t b m : Nat) : Int))), some (.d (.str b)), ?_⟩
  have a1 : evS (UN n) (.asg (.nm 4) (.lit (.int 0))) [some (.d (.tup [.str a, .str b])), some (.d (.str t)), some (.ref S.length), some (.d (.int m)), o4, o5] (S ++ [.lst (C.map fun x => .int (x : Nat))]) = .nx [some (.d (.tup [.str a, .str b])), some (.d (.str t)), some (.ref S.length), some (.d (.int m)), some (.d (.int 0)), o5] (S ++ [.lst (C.map fun x => .int (x : Nat))]) := ev_asgD ev_lit
  have hi : evI (UN n) (.val (.var 0)) [some (.d (.tup [.str a, .str b])), some (.d (.str t)), some (.ref S.length), some (.d (.int m)), some (.d (.int 0)), o5] (S ++ [.lst (C.map fun x => .int (x : Nat))]) = .ok (.items [.str a, .str b]) (S ++ [.lst (C.map fun x => .int (x : Nat))]) := rfl
  have a2 := (ev_for (t := .nm 5) (b := f_counts_back_1) hi).trans (forGo_two rfl h1 rfl h2)
  have hl : (C.map fun x => D.int (x : Nat)).length < lim := by rw [List.length_map, lim_val]; omega
  have a3 : evS (UN n) (.ex (.mt .append (.var 2) (.cons (.var 4) .nil))) [some (.d (.tup [.str a, .str b])), some (.d (.str t)), some (.ref S.length), some (.d (.int m)), some (.d (.int ((cnn C t a m + cnn C t b m : Nat) : Int))), some (.d (.str b))] (S ++ [.lst (C.map fun x => .int (x : Nat))]) = .nx [some (.d (.tup [.str a, .str b])), some (.d (.str t)), some (.ref S.length), some (.d (.int m)), some (.d (.int ((cnn C t a m + cnn C t b m : Nat) : Int))), some (.d (.str b))] (S ++ [.lst ((C ++ [cnn C t a m + cnn C t b m]).map fun x => .int (x : Nat))]) := by
    have ty : isTy (mtTyp .append) (.ref S.length) (S ++ [.lst (C.map fun x => .int (x : Nat))]) = some true := by
      show (match ((S ++ [.lst (C.map fun x => .int (x : Nat))] : Sto) : List Cell)[S.length]? with
        | some (.lst _) => some (decide (Ty.lst = .lst))
        | some (.fzn _) => some (decide (Ty.lst = .lst))
        | some (.dic _) => some (decide (Ty.lst = .dic))
        | none => none) = some true
      rw [hr]; rfl
    simp only [evS, evE, evEs, List.getElem?_cons_succ, List.getElem?_cons_zero, R.bind_ok, ty, if_true, mtV, mtApp, take, R.opt_some, hr, if_pos hl, R.st_ok, set_last]
    simp
  show evSs (UN n) (.cons _ (.cons _ (.cons _ .nil))) _ _ = _
  simp only [evSs, a1, a2, a3]
theorem c_counts (n : Nat) {a b t : List Nat} (h : Cod a b) (hl : t.length ≤ 40) (S : Sto) : CN (n + 1) 7 [.d (.tup [.str a, .str b]), .d (.str t)] S = .ok (.d (.lst ((cts t a b t.length).map fun x => .int (x : Nat)))) S := by
  rw [cn_at (F := d_counts_back.fn) rfl]
  obtain ⟨l', S', f1, f2⟩ := forGo_inv (t := .nm 3) (b := evSs (UN n) f_counts_back_2) (xs := rangeD 1 ((t.length : Int) + 1)) (k := 0) (l := [some (.d (.tup [.str a, .str b])), some (.d (.str t)), some (.ref S.length), none, none, none]) (S := S ++ [.lst ((cts t a b 0).map fun x => .int (x : Nat))])
    (fun k l S' => ∃ o3 o4 o5, l = [some (.d (.tup [.str a, .str b])), some (.d (.str t)), some (.ref S.length), o3, o4, o5] ∧ S' = S ++ [.lst ((cts t a b k).map fun x => .int (x : Nat))])
    ⟨none, none, none, rfl, rfl⟩ (fun i x l S' hx hI => by
      obtain ⟨o3, o4, o5, rfl, rfl⟩ := hI
      obtain ⟨hi, rfl⟩ := range_at hx
      rw [Nat.zero_add]
      obtain ⟨o4', o5', hb⟩ := cb_out n (t := t) (m := i + 1) (C := cts t a b i) (S := S) (o4 := o4) (o5 := o5) h (cts_len t a b i) (by omega) (by omega)
      exact ⟨_, _, _, rfl, hb, some (.d (.int ((i + 1 : Nat) : Int))), o4', o5', rfl, rfl⟩)
  obtain ⟨o3, o4, o5, rfl, rfl⟩ := f2
  rw [Nat.zero_add, range_len] at f1
  have hlim : t.length ≤ lim := by rw [lim_val]; omega
  have hwide : wideI ((t.length : Int) + 1) = true := by simp [wideI]; omega
  have hw1 : wideI 1 = true := by decide
  have bl : biD .len [.str t] = some (.int t.length) := by simp only [biD, if_pos hlim]
  have s3 : evS (UN n) (.asg (.nm 2) (.thaw (.lst (.cons (.lit (.int 1)) .nil)))) [some (.d (.tup [.str a, .str b])), some (.d (.str t)), none, none, none, none] S = .nx [some (.d (.tup [.str a, .str b])), some (.d (.str t)), some (.ref S.length), none, none, none] (S ++ [.lst [.int 1]]) := ev_asgD (ev_thaw (ev_lst1 ev_lit))
  have s4 : evS (UN n) (.for_ (.nm 3) (.rng2 (.lit (.int 1)) (.op .add (.bi .len (.cons (.var 1) .nil)) (.lit (.int 1)))) f_counts_back_2) [some (.d (.tup [.str a, .str b])), some (.d (.str t)), some (.ref S.length), none, none, none] (S ++ [.lst [.int 1]]) = .nx [some (.d (.tup [.str a, .str b])), some (.d (.str t)), some (.ref S.length), o3, o4, o5] (S ++ [.lst ((cts t a b t.length).map fun x => .int (x : Nat))]) :=
    (ev_for (ev_rng2 ev_lit (ev_op (ev_bi1 (ev_var rfl) bl) ev_lit (opD_addI _ _)) hw1 hwide)).trans f1
  have s5 : evS (UN n) (.ret (.var 2)) [some (.d (.tup [.str a, .str b])), some (.d (.str t)), some (.ref S.length), o3, o4, o5] (S ++ [.lst ((cts t a b t.length).map fun x => .int (x : Nat))]) = .ret (.d (.lst ((cts t a b t.length).map fun x => .int (x : Nat)))) (S ++ [.fzn ((cts t a b t.length).map fun x => .int (x : Nat))]) := by
    simp only [evS, evE, List.getElem?_cons_succ, List.getElem?_cons_zero, R.st_ok, take, get_last, RS.opt_some, set_last]
  have body : evSs (UN n) d_counts_back.fn.body [some (.d (.tup [.str a, .str b])), some (.d (.str t)), none, none, none, none] S = .ret (.d (.lst ((cts t a b t.length).map fun x => .int (x : Nat)))) (S ++ [.fzn ((cts t a b t.length).map fun x => .int (x : Nat))]) := by
    show evSs (UN n) (.cons _ (.cons _ (.cons _ .nil))) _ _ = _
    simp only [evSs, s3, s4, s5]
  exact run_d rfl body (take_at _ _)
def lastC (t a b : List Nat) : Nat := (cts t a b t.length).getD t.length 0
def mbD (t a b : List Nat) : D := if 0 < lastC t a b ∧ (a = [] ∨ b = []) then .non else .int (lastC t a b : Nat)
theorem c_manyback (n : Nat) {a b t : List Nat} (h : Cod a b) (hw : okW t) (hl : t.length ≤ 40) (S : Sto) : CN (n + 4) 8 [.d (.tup [.str a, .str b]), .d (.str t)] S = .ok (.d (mbD t a b)) S := by
  rw [cn_at (F := d_many_back.fn) rfl]
  have e1 := c_chkC n h S
  have e2 : CN (n + 3) 2 [.d (.str t), .d (.int 40)] S = .ok (.d .non) S := c_wordC (n + 1) hw 40 hl (by decide) S
  have e3 := c_counts (n + 2) h hl S
  have hlen : (cts t a b t.length).length = t.length + 1 := cts_len t a b _
  have hres : (cts t a b t.length)[t.length]? = some (lastC t a b) := by
    unfold lastC
    rw [List.getD_eq_getElem?_getD, List.getElem?_eq_getElem (by omega)]
    rfl
  have hix : ixI ((cts t a b t.length).map fun x => D.int (x : Nat)).length (-1) = some t.length := by
    rw [List.length_map, hlen]; exact ixI_last
  have hix' : ixI (cts t a b t.length).length (-1) = some t.length := by rw [hlen]; exact ixI_last
  have hin : inD (.str []) [.str a, .str b] = decide (a = [] ∨ b = []) := by
    simp only [inD, List.any_cons, List.any_nil, Bool.or_false, eqD]
    by_cases ha : a = [] <;> by_cases hb : b = [] <;> simp [ha, hb]
  unfold mbD
  by_cases hpos : 0 < lastC t a b
  · by_cases hab : a = [] ∨ b = []
    · simp [d_many_back, evSs, evS, evE, evEs, evO, evC, evI, R.opt, RS.opt, setTV, setT, asBool, isTy, isTyD, cmV, dicOf, peek, peeks, cmD, biV, biD, idxV, idxD, slcV, slcD, mtV, mtApp, mtPure, mtTyp, mtD, opD, take, takes, keepS, runF, noX, e1, e2, e3, hix', hres, hpos, hin, hab, dep]
    · simp [d_many_back, evSs, evS, evE, evEs, evO, evC, evI, R.opt, RS.opt, setTV, setT, asBool, isTy, isTyD, cmV, dicOf, peek, peeks, cmD, biV, biD, idxV, idxD, slcV, slcD, mtV, mtApp, mtPure, mtTyp, mtD, opD, take, takes, keepS, runF, noX, e1, e2, e3, hix', hres, hpos, hin, hab, dep]
  · have hz : lastC t a b = 0 := by omega
    simp [d_many_back, evSs, evS, evE, evEs, evO, evC, evI, R.opt, RS.opt, setTV, setT, asBool, isTy, isTyD, cmV, dicOf, peek, peeks, cmD, biV, biD, idxV, idxD, slcV, slcD, mtV, mtApp, mtPure, mtTyp, mtD, opD, take, takes, keepS, runF, noX, e1, e2, e3, hix', hres, hz]
end K66
end

section
set_option Elab.async false
set_option linter.all false
set_option maxRecDepth 100000
set_option maxHeartbeats 4000000
namespace K66
open PySem EV
def rowD (ws : List (List Nat)) : D := .lst (ws.map .str)
def prt (a b : List Nat) : List D := (if a = [] then [] else [.tup [.str [97], .str a]]) ++ (if b = [] then [] else [.tup [.str [98], .str b]])
theorem lb_prt (n : Nat) (a b t : List Nat) (S : Sto) : evE (UN n) x_law_backs_5 [some (.d (.tup [.str a, .str b])), some (.d (.str t)), none, none, none, none, none, none, none, none] S = .ok (.d (.lst (prt a b))) S := by
  refine (ev_comp_fm (ds := [.tup [.str [97], .str a], .tup [.str [98], .str b]]) (fun x => match x with | .tup [_, .str s] => !(s == []) | _ => false) (fun x => x) rfl (fun x hx => ?_) (by show 2 ≤ lim; decide)).trans ?_
  · simp at hx
    rcases hx with rfl | rfl
    · exact ⟨_, rfl, by simp [evSs, evS, evE, evEs, evO, evC, evI, R.opt, RS.opt, setTV, setT, asBool, isTy, isTyD, cmV, dicOf, peek, peeks, cmD, biV, biD, idxV, idxD, slcV, slcD, mtV, mtApp, mtPure, mtTyp, mtD, opD, take, takes, keepS, runF, noX, wipeL, eqD, dep], fun _ => by simp [x_law_backs_5e, evSs, evS, evE, evEs, evO, evC, evI, R.opt, RS.opt, setTV, setT, asBool, isTy, isTyD, cmV, dicOf, peek, peeks, cmD, biV, biD, idxV, idxD, slcV, slcD, mtV, mtApp, mtPure, mtTyp, mtD, opD, take, takes, keepS, runF, noX, wipeL]⟩
    · exact ⟨_, rfl, by simp [evSs, evS, evE, evEs, evO, evC, evI, R.opt, RS.opt, setTV, setT, asBool, isTy, isTyD, cmV, dicOf, peek, peeks, cmD, biV, biD, idxV, idxD, slcV, slcD, mtV, mtApp, mtPure, mtTyp, mtD, opD, take, takes, keepS, runF, noX, wipeL, eqD, dep], fun _ => by simp [x_law_backs_5e, evSs, evS, evE, evEs, evO, evC, evI, R.opt, RS.opt, setTV, setT, asBool, isTy, isTyD, cmV, dicOf, peek, peeks, cmD, biV, biD, idxV, idxD, slcV, slcD, mtV, mtApp, mtPure, mtTyp, mtD, opD, take, takes, keepS, runF, noX, wipeL]⟩
  · by_cases ha : a = [] <;> by_cases hb : b = [] <;> simp [prt, ha, hb]
theorem lb_in (n : Nat) {t p : List Nat} {c k r : Nat} {H : List (List Nat)} {Z : List (List (List Nat))} {St : Sto} {v0 v2 v5 : Option Vl} (hp0 : p ≠ []) (hr : (St : List Cell)[r]? = some (.lst (Z.map rowD))) (hk : k ≤ t.length) (hR : k ≤ Z.length) (ht : t.length ≤ 1000) (hp : p.length ≤ 1000)
    (hs : ∀ i, (Z.getD i []).length ≤ 1048576 ∧ ∀ w ∈ Z.getD i [], w.length ≤ 1000) (hH : H.length ≤ 2097152) :
    evSs (UN n) f_law_backs_3 [v0, some (.d (.str t)), v2, some (.ref r), some (.d (.int k)), v5, some (.d (.lst (H.map .str))), some (.d (.str [c])), some (.d (.str p)), none] St =
      .nx [v0, some (.d (.str t)), v2, some (.ref r), some (.d (.int k)), v5, some (.d (.lst ((H ++ part Z t p c k).map .str))), some (.d (.str [c])), some (.d (.str p)), none] St := by
  have hpl : p.length ≤ lim := by rw [lim_val]; omega
  have htl : t.length ≤ lim := by rw [lim_val]; omega
  by_cases h2 : p.length ≤ k
  · obtain ⟨j, rfl⟩ : ∃ j, k = j + p.length := ⟨k - p.length, by omega⟩
    have e1' : (j : Int) + (p.length : Int) - (p.length : Int) = (j : Int) := by omega
    have he : (p.length : Int) ≤ (j : Int) + (p.length : Int) := by omega
    have hc := cut_sl (t := t) (j := j) (m := p.length) hk
    have pos : 0 < p.length := List.length_pos_iff.mpr hp0
    have hjR : j < Z.length := by omega
    have hix : ixI (Z.map rowD).length (j : Int) = some j := by rw [List.length_map]; exact ixI_nat hjR
    by_cases h3 : (t.drop j).take p.length = p
    · have hcand : cand t p (j + p.length) = true := by simp [cand, hp0, h3]
      have hgd : Z.getD j [] = Z[j] := by rw [List.getD_eq_getElem?_getD, List.getElem?_eq_getElem hjR]; rfl
      have hpt : part Z t p c (j + p.length) = Z[j].map (· ++ [c]) := by
        simp [part, hcand, List.getElem?_eq_getElem hjR]
      obtain ⟨s1, s2⟩ := hs j
      rw [hgd] at s1 s2
      have bl : biD .len [.str p] = some (.int p.length) := by simp only [biD, if_pos hpl]
      have hidx : evE (UN n) (.idx (.var 3) (.op .sub (.var 4) (.bi .len (.cons (.var 8) .nil)))) [v0, some (.d (.str t)), v2, some (.ref r), some (.d (.int ((j + p.length : Nat) : Int))), v5, some (.d (.lst (H.map .str))), some (.d (.str [c])), some (.d (.str p)), none] St = .ok (.d (rowD Z[j])) St := by
        have e : evE (UN n) (.op .sub (.var 4) (.bi .len (.cons (.var 8) .nil))) [v0, some (.d (.str t)), v2, some (.ref r), some (.d (.int ((j + p.length : Nat) : Int))), v5, some (.d (.lst (H.map .str))), some (.d (.str [c])), some (.d (.str p)), none] St = .ok (.d (.int (j : Int))) St := by
          have e2 := opD_subI ((j + p.length : Nat) : Int) (p.length : Int)
          rw [show (((j + p.length : Nat) : Int)) - (p.length : Int) = (j : Int) by omega] at e2
          exact ev_op (ev_var rfl) (ev_bi1 (ev_var rfl) bl) e2
        have i1 : idxV (.ref r) (.d (.int (j : Int))) St = some (rowD Z[j]) := by
          simp only [idxV, dicOf, hr, peek, idxD, hix, Option.bind_some, List.getElem?_map, List.getElem?_eq_getElem hjR, Option.map_some]
        show (evE (UN n) (.var 3) _ St).bind _ = _
        rw [ev_var (v := .ref r) rfl]
        simp only [R.bind_ok, e, i1, R.opt_some]
      have hcomp : evE (UN n) x_law_backs_2 [v0, some (.d (.str t)), v2, some (.ref r), some (.d (.int ((j + p.length : Nat) : Int))), v5, some (.d (.lst (H.map .str))), some (.d (.str [c])), some (.d (.str p)), none] St = .ok (.d (.lst ((Z[j].map (· ++ [c])).map .str))) St := by
        refine (ev_comp_map (ds := Z[j].map .str) (fun x => match x with | .str w => .str (w ++ [c]) | _ => .non) ?_ (fun x hx => ?_) (by rw [List.length_map, lim_val]; omega)).trans ?_
        · show (evE (UN n) (.idx (.var 3) (.op .sub (.var 4) (.bi .len (.cons (.var 8) .nil)))) _ St).bind _ = _
          rw [hidx]
          rfl
        · obtain ⟨w, hw, rfl⟩ := List.mem_map.mp hx
          have hwl := s2 w hw
          have ha : opD .add (.str w) (.str [c]) = some (.str (w ++ [c])) := by
            simp only [opD]
            rw [if_pos (by rw [lim_val]; simp; omega)]
          exact ⟨_, rfl, ev_op (ev_var rfl) (ev_var rfl) ha⟩
        · simp [List.map_map, Function.comp_def]
      have hadd : opD .add (.lst (H.map .str)) (.lst ((Z[j].map (· ++ [c])).map .str)) = some (.lst ((H ++ Z[j].map (· ++ [c])).map .str)) := by
        simp only [opD]
        rw [if_pos (by simp only [List.length_map, lim_val]; omega), List.map_append]
      have hcond : evE (UN n) (.and (.cmp .le (.bi .len (.cons (.var 8) .nil)) (.var 4)) (.cmp .eq (.slc (.var 1) (.yes (.op .sub (.var 4) (.bi .len (.cons (.var 8) .nil)))) (.yes (.var 4))) (.var 8))) [v0, some (.d (.str t)), v2, some (.ref r), some (.d (.int ((j + p.length : Nat) : Int))), v5, some (.d (.lst (H.map .str))), some (.d (.str [c])), some (.d (.str p)), none] St = .ok (.d (.bl true)) St := by
        simp [evSs, evS, evE, evEs, evO, evC, evI, R.opt, RS.opt, setTV, setT, asBool, isTy, isTyD, cmV, dicOf, peek, peeks, cmD, biV, biD, idxV, idxD, slcV, slcD, mtV, mtApp, mtPure, mtTyp, mtD, opD, take, takes, keepS, runF, noX, eqD, dep, hpl, htl, e1', he, hc, h3]
      have hasg := ev_asgD (i := 6) (ev_op (V := UN n) (a := .var 6) (b := x_law_backs_2) (l := [v0, some (.d (.str t)), v2, some (.ref r), some (.d (.int ((j + p.length : Nat) : Int))), v5, some (.d (.lst (H.map .str))), some (.d (.str [c])), some (.d (.str p)), none]) (ev_var rfl) hcomp hadd)
      show evSs (UN n) (.cons (.ife _ (.cons _ .nil) .nil) .nil) _ _ = _
      simp only [evSs]
      rw [show evS (UN n) (.ife (.and (.cmp .le (.bi .len (.cons (.var 8) .nil)) (.var 4)) (.cmp .eq (.slc (.var 1) (.yes (.op .sub (.var 4) (.bi .len (.cons (.var 8) .nil)))) (.yes (.var 4))) (.var 8))) (.cons (.asg (.nm 6) (.op .add (.var 6) x_law_backs_2)) .nil) .nil) _ St = _ from ev_if_t hcond]
      simp only [evSs, hasg, hpt]
      rfl
    · have hpt : part Z t p c (j + p.length) = [] := by simp [part, cand, h3]
      have hcond : evE (UN n) (.and (.cmp .le (.bi .len (.cons (.var 8) .nil)) (.var 4)) (.cmp .eq (.slc (.var 1) (.yes (.op .sub (.var 4) (.bi .len (.cons (.var 8) .nil)))) (.yes (.var 4))) (.var 8))) [v0, some (.d (.str t)), v2, some (.ref r), some (.d (.int ((j + p.length : Nat) : Int))), v5, some (.d (.lst (H.map .str))), some (.d (.str [c])), some (.d (.str p)), none] St = .ok (.d (.bl false)) St := by
        simp [evSs, evS, evE, evEs, evO, evC, evI, R.opt, RS.opt, setTV, setT, asBool, isTy, isTyD, cmV, dicOf, peek, peeks, cmD, biV, biD, idxV, idxD, slcV, slcD, mtV, mtApp, mtPure, mtTyp, mtD, opD, take, takes, keepS, runF, noX, eqD, dep, hpl, htl, e1', he, hc, h3]
      show evSs (UN n) (.cons (.ife _ (.cons _ .nil) .nil) .nil) _ _ = _
      simp only [evSs]
      rw [show evS (UN n) (.ife (.and (.cmp .le (.bi .len (.cons (.var 8) .nil)) (.var 4)) (.cmp .eq (.slc (.var 1) (.yes (.op .sub (.var 4) (.bi .len (.cons (.var 8) .nil)))) (.yes (.var 4))) (.var 8))) (.cons (.asg (.nm 6) (.op .add (.var 6) x_law_backs_2)) .nil) .nil) _ St = _ from ev_if_f hcond]
      simp only [evSs, hpt, List.append_nil]
  · have hpt : part Z t p c k = [] := by simp [part, cand, h2]
    have hcond : evE (UN n) (.and (.cmp .le (.bi .len (.cons (.var 8) .nil)) (.var 4)) (.cmp .eq (.slc (.var 1) (.yes (.op .sub (.var 4) (.bi .len (.cons (.var 8) .nil)))) (.yes (.var 4))) (.var 8))) [v0, some (.d (.str t)), v2, some (.ref r), some (.d (.int k)), v5, some (.d (.lst (H.map .str))), some (.d (.str [c])), some (.d (.str p)), none] St = .ok (.d (.bl false)) St := by
      simp [evSs, evS, evE, evEs, evO, evC, evI, R.opt, RS.opt, setTV, setT, asBool, isTy, isTyD, cmV, dicOf, peek, peeks, cmD, biV, biD, idxV, idxD, slcV, slcD, mtV, mtApp, mtPure, mtTyp, mtD, opD, take, takes, keepS, runF, noX, eqD, dep, hpl, h2]
    show evSs (UN n) (.cons (.ife _ (.cons _ .nil) .nil) .nil) _ _ = _
    simp only [evSs]
    rw [show evS (UN n) (.ife (.and (.cmp .le (.bi .len (.cons (.var 8) .nil)) (.var 4)) (.cmp .eq (.slc (.var 1) (.yes (.op .sub (.var 4) (.bi .len (.cons (.var 8) .nil)))) (.yes (.var 4))) (.var 8))) (.cons (.asg (.nm 6) (.op .add (.var 6) x_law_backs_2)) .nil) .nil) _ St = _ from ev_if_f hcond]
    simp only [evSs, hpt, List.append_nil]
end K66
end

section
set_option Elab.async false
set_option linter.all false
set_option maxRecDepth 100000
set_option maxHeartbeats 4000000
namespace K66
open PySem EV
theorem forGo_nil {t : LT} {b : EV.Loc → Sto → RS} {l : EV.Loc} {S : Sto} : forGo t b [] l S = .nx l S := rfl
theorem forGo_one {t : LT} {b : EV.Loc → Sto → RS} {x : D} {l l1 l2 : EV.Loc} {S S1 : Sto} (h1 : setT t x l = some l1) (h2 : b l1 S = .nx l2 S1) : forGo t b [x] l S = .nx l2 S1 := by
  simp only [forGo, h1, h2]
theorem part_nil (Z : List (List (List Nat))) (t : List Nat) (c k : Nat) : part Z t [] c k = [] := by simp [part, cand]
theorem ev_append {V : EV.Env} {i : Nat} {e : LE} {l : EV.Loc} {S : Sto} {n : Nat} {ds : List D} {x : D} (hi : l[i]? = some (some (.ref n))) (hS : (S : List Cell)[n]? = some (.lst ds)) (he : evE V e l S = .ok (.d x) S) (hl : ds.length < lim) :
    evS V (.ex (.mt .append (.var i) (.cons e .nil))) l S = .nx l (S.set n (.lst (ds ++ [x]))) := by
  have ty : isTy (mtTyp .append) (.ref n) S = some true := by
    show (match (S : List Cell)[n]? with
      | some (.lst _) => some (decide (Ty.lst = .lst))
      | some (.fzn _) => some (decide (Ty.lst = .lst))
      | some (.dic _) => some (decide (Ty.lst = .dic))
      | none => none) = some true
    rw [hS]; rfl
  simp only [evS, evE, evEs, hi, R.bind_ok, ty, if_true, he, mtV, mtApp, take, R.opt_some, hS, if_pos hl, R.st_ok]
theorem lb_out (n : Nat) {t a b : List Nat} {m : Nat} {Z : List (List (List Nat))} {S : Sto} {o5 o6 o7 o8 : Option Vl} (h : Cod a b) (hm : Z.length = m) (hk : m ≤ t.length) (ht : t.length ≤ 1000) (hs : ∀ i, (Z.getD i []).length ≤ 1048576 ∧ ∀ w ∈ Z.getD i [], w.length ≤ 1000) (hab : (part Z t a 97 m).length ≤ 1048576) :
    ∃ o6' o7' o8', evSs (UN n) f_law_backs_4 [some (.d (.tup [.str a, .str b])), some (.d (.str t)), some (.d (.lst (prt a b))), some (.ref S.length), some (.d (.int m)), o5, o6, o7, o8, none] (S ++ [.lst (Z.map rowD)]) =
      .nx [some (.d (.tup [.str a, .str b])), some (.d (.str t)), some (.d (.lst (prt a b))), some (.ref S.length), some (.d (.int m)), o5, o6', o7', o8', none] (S ++ [.lst ((Z ++ [part Z t a 97 m ++ part Z t b 98 m]).map rowD)]) := by
  have la := h.la
  have lb := h.lb
  have hr : ((S ++ [.lst (Z.map rowD)] : Sto) : List Cell)[S.length]? = some (.lst (Z.map rowD)) := get_last _ _
  have a1 : evS (UN n) (.asg (.nm 6) (.lst .nil)) [some (.d (.tup [.str a, .str b])), some (.d (.str t)), some (.d (.lst (prt a b))), some (.ref S.length), some (.d (.int m)), o5, o6, o7, o8, none] (S ++ [.lst (Z.map rowD)]) = .nx [some (.d (.tup [.str a, .str b])), some (.d (.str t)), some (.d (.lst (prt a b))), some (.ref S.length), some (.d (.int m)), o5, some (.d (.lst (([] : List (List Nat)).map .str))), o7, o8, none] (S ++ [.lst (Z.map rowD)]) := by
    simp [evS, evE, evEs, takes, setTV]
  have hi : evI (UN n) (.val (.var 2)) [some (.d (.tup [.str a, .str b])), some (.d (.str t)), some (.d (.lst (prt a b))), some (.ref S.length), some (.d (.int m)), o5, some (.d (.lst (([] : List (List Nat)).map .str))), o7, o8, none] (S ++ [.lst (Z.map rowD)]) = .ok (.items (prt a b)) (S ++ [.lst (Z.map rowD)]) := rfl
  have a2 : ∃ o7' o8', evS (UN n) (.for_ (.tp (.nm 7) (.nm 8)) (.val (.var 2)) f_law_backs_3) [some (.d (.tup [.str a, .str b])), some (.d (.str t)), some (.d (.lst (prt a b))), some (.ref S.length), some (.d (.int m)), o5, some (.d (.lst (([] : List (List Nat)).map .str))), o7, o8, none] (S ++ [.lst (Z.map rowD)]) = .nx [some (.d (.tup [.str a, .str b])), some (.d (.str t)), some (.d (.lst (prt a b))), some (.ref S.length), some (.d (.int m)), o5, some (.d (.lst ((part Z t a 97 m ++ part Z t b 98 m).map .str))), o7', o8', none] (S ++ [.lst (Z.map rowD)]) := by
    rw [ev_for hi]
    by_cases ha : a = []
    · subst ha
      by_cases hb : b = []
      · subst hb
        refine ⟨o7, o8, ?_⟩
        rw [show prt [] [] = [] from rfl, part_nil, part_nil]
        exact forGo_nil
      · have h2 := lb_in n (t := t) (p := b) (c := 98) (k := m) (H := []) (Z := Z) (v0 := some (.d (.tup [.str [], .str b]))) (v2 := some (.d (.lst (prt [] b)))) (v5 := o5) hb hr hk (by omega) ht (by omega) hs (by simp)
        refine ⟨some (.d (.str [98])), some (.d (.str b)), ?_⟩
        · rw [List.nil_append] at h2
          rw [part_nil, List.nil_append]
          have e : prt [] b = [.tup [.str [98], .str b]] := by simp [prt, hb]
          conv => lhs; arg 3; rw [e]
          exact forGo_one rfl h2
    · by_cases hb : b = []
      · subst hb
        have h1 := lb_in n (t := t) (p := a) (c := 97) (k := m) (H := []) (Z := Z) (v0 := some (.d (.tup [.str a, .str []]))) (v2 := some (.d (.lst (prt a [])))) (v5 := o5) ha hr hk (by omega) ht (by omega) hs (by simp)
        refine ⟨some (.d (.str [97])), some (.d (.str a)), ?_⟩
        · rw [List.nil_append] at h1
          rw [part_nil, List.append_nil]
          have e : prt a [] = [.tup [.str [97], .str a]] := by simp [prt, ha]
          conv => lhs; arg 3; rw [e]
          exact forGo_one rfl h1
      · have h1 := lb_in n (t := t) (p := a) (c := 97) (k := m) (H := []) (Z := Z) (v0 := some (.d (.tup [.str a, .str b]))) (v2 := some (.d (.lst (prt a b)))) (v5 := o5) ha hr hk (by omega) ht (by omega) hs (by simp)
        have h2 := lb_in n (t := t) (p := b) (c := 98) (k := m) (H := [] ++ part Z t a 97 m) (Z := Z) (v0 := some (.d (.tup [.str a, .str b]))) (v2 := some (.d (.lst (prt a b)))) (v5 := o5) hb hr hk (by omega) ht (by omega) hs (by simp; omega)
        refine ⟨some (.d (.str [98])), some (.d (.str b)), ?_⟩
        · rw [List.nil_append] at h2
          have e : prt a b = [.tup [.str [97], .str a], .tup [.str [98], .str b]] := by simp [prt, ha, hb]
          conv => lhs; arg 3; rw [e]
          exact forGo_two rfl h1 rfl h2
  obtain ⟨o7', o8', a2⟩ := a2
  have a3 := ev_append (V := UN n) (i := 3) (e := .var 6) (l := [some (.d (.tup [.str a, .str b])), some (.d (.str t)), some (.d (.lst (prt a b))), some (.ref S.length), some (.d (.int m)), o5, some (.d (.lst ((part Z t a 97 m ++ part Z t b 98 m).map .str))), o7', o8', none]) rfl hr (ev_var rfl) (by rw [List.length_map, lim_val]; omega)
  refine ⟨some (.d (.lst ((part Z t a 97 m ++ part Z t b 98 m).map .str))), o7', o8', ?_⟩
  show evSs (UN n) (.cons _ (.cons _ (.cons _ .nil))) _ _ = _
  simp only [evSs, a1, a2, a3]
  have e : (Z ++ [part Z t a 97 m ++ part Z t b 98 m]).map rowD = Z.map rowD ++ [.lst ((part Z t a 97 m ++ part Z t b 98 m).map .str)] := by rw [List.map_append]; rfl
  rw [set_last, e]
def lbD (t a b : List Nat) : D := match srtW ((rws t a b t.length).getD t.length []) with
  | [] => .tup [.non, .int 0]
  | w :: r => .tup [.str w, if a ≠ [] ∧ b ≠ [] then .int ((r.length + 1 : Nat) : Int) else .non]
theorem c_lawbacks (n : Nat) {a b t : List Nat} (h : Cod a b) (hl : t.length ≤ 20) (S : Sto) : CN (n + 1) 23 [.d (.tup [.str a, .str b]), .d (.str t)] S = .ok (.d (lbD t a b)) S := by
  rw [cn_at (F := d_law_backs.fn) rfl]
  have sz : ∀ k, k ≤ 20 → ∀ i, ((rws t a b k).getD i []).length ≤ 1048576 ∧ ∀ w ∈ (rws t a b k).getD i [], w.length ≤ 1000 := fun k hk i => by
    by_cases hi : i ≤ k
    · obtain ⟨_, _, q1, q2⟩ := tab_ok t a b k i hi
      refine ⟨Nat.le_trans q1 ?_, fun w hw => Nat.le_trans (q2 w hw) (by omega)⟩
      exact Nat.le_trans (Nat.pow_le_pow_right (by decide) (show i ≤ 20 by omega)) (by decide)
    · have : (rws t a b k).getD i [] = [] := by
        rw [List.getD_eq_getElem?_getD, List.getElem?_eq_none_iff.mpr (by rw [rws_len]; omega)]; rfl
      rw [this]
      simp
  have psz : ∀ k p c m, k ≤ 20 → (part (rws t a b k) t p c m).length ≤ 1048576 := fun k p c m hk => by
    unfold part
    split
    · rw [List.length_map]; exact (sz k hk _).1
    · simp
  obtain ⟨l', S', f1, f2⟩ := forGo_inv (t := .nm 4) (b := evSs (UN n) f_law_backs_4) (xs := rangeD 1 ((t.length : Int) + 1)) (k := 0) (l := [some (.d (.tup [.str a, .str b])), some (.d (.str t)), some (.d (.lst (prt a b))), some (.ref S.length), none, none, none, none, none, none]) (S := S ++ [.lst ((rws t a b 0).map rowD)])
    (fun k l S' => ∃ o4 o6 o7 o8, l = [some (.d (.tup [.str a, .str b])), some (.d (.str t)), some (.d (.lst (prt a b))), some (.ref S.length), o4, none, o6, o7, o8, none] ∧ S' = S ++ [.lst ((rws t a b k).map rowD)])
    ⟨none, none, none, none, rfl, rfl⟩ (fun i x l S' hx hI => by
      obtain ⟨o4, o6, o7, o8, rfl, rfl⟩ := hI
      obtain ⟨hi, rfl⟩ := range_at hx
      rw [Nat.zero_add]
      obtain ⟨o6', o7', o8', hb⟩ := lb_out n (t := t) (m := i + 1) (Z := rws t a b i) (S := S) (o5 := none) (o6 := o6) (o7 := o7) (o8 := o8) h (rws_len t a b i) (by omega) (by omega) (sz i (by omega)) (psz _ _ _ _ (by omega))
      exact ⟨_, _, _, rfl, hb, some (.d (.int ((i + 1 : Nat) : Int))), o6', o7', o8', rfl, rfl⟩)
  obtain ⟨o4, o6, o7, o8, rfl, rfl⟩ := f2
  rw [Nat.zero_add, range_len] at f1
  obtain ⟨W, hW⟩ : ∃ W, W = (rws t a b t.length).getD t.length [] := ⟨_, rfl⟩
  have hlim : t.length ≤ lim := by rw [lim_val]; omega
  have hwide : wideI ((t.length : Int) + 1) = true := by simp [wideI]; omega
  have hw1 : wideI 1 = true := by decide
  have bl : biD .len [.str t] = some (.int t.length) := by simp only [biD, if_pos hlim]
  obtain ⟨z1, z2⟩ := sz t.length hl t.length
  rw [← hW] at z1 z2
  have s2 : evS (UN n) (.asg (.nm 2) x_law_backs_5) [some (.d (.tup [.str a, .str b])), some (.d (.str t)), none, none, none, none, none, none, none, none] S = .nx [some (.d (.tup [.str a, .str b])), some (.d (.str t)), some (.d (.lst (prt a b))), none, none, none, none, none, none, none] S := ev_asgD (lb_prt n a b t S)
  have s3 : evS (UN n) (.asg (.nm 3) (.thaw (.lst (.cons (.lst (.cons (.lit (.str [])) .nil)) .nil)))) [some (.d (.tup [.str a, .str b])), some (.d (.str t)), some (.d (.lst (prt a b))), none, none, none, none, none, none, none] S = .nx [some (.d (.tup [.str a, .str b])), some (.d (.str t)), some (.d (.lst (prt a b))), some (.ref S.length), none, none, none, none, none, none] (S ++ [.lst [.lst [.str []]]]) := ev_asgD (ev_thaw (ev_lst1 (ev_lst1 ev_lit)))
  have s4 : evS (UN n) (.for_ (.nm 4) (.rng2 (.lit (.int 1)) (.op .add (.bi .len (.cons (.var 1) .nil)) (.lit (.int 1)))) f_law_backs_4) [some (.d (.tup [.str a, .str b])), some (.d (.str t)), some (.d (.lst (prt a b))), some (.ref S.length), none, none, none, none, none, none] (S ++ [.lst [.lst [.str []]]]) = .nx [some (.d (.tup [.str a, .str b])), some (.d (.str t)), some (.d (.lst (prt a b))), some (.ref S.length), o4, none, o6, o7, o8, none] (S ++ [.lst ((rws t a b t.length).map rowD)]) :=
    (ev_for (ev_rng2 ev_lit (ev_op (ev_bi1 (ev_var rfl) bl) ev_lit (opD_addI _ _)) hw1 hwide)).trans f1
  have hr : ((S ++ [.lst ((rws t a b t.length).map rowD)] : Sto) : List Cell)[S.length]? = some (.lst ((rws t a b t.length).map rowD)) := get_last _ _
  have hix : ixI ((rws t a b t.length).map rowD).length (-1) = some t.length := by
    rw [List.length_map, rws_len]; exact ixI_last
  have hel : ((rws t a b t.length).map rowD)[t.length]? = some (rowD W) := by
    rw [List.getElem?_map, hW, List.getD_eq_getElem?_getD, List.getElem?_eq_getElem (by rw [rws_len]; omega)]
    rfl
  have hcomp : evE (UN n) x_law_backs_1 [some (.d (.tup [.str a, .str b])), some (.d (.str t)), some (.d (.lst (prt a b))), some (.ref S.length), o4, none, o6, o7, o8, none] (S ++ [.lst ((rws t a b t.length).map rowD)]) = .ok (.d (.lst (W.map wD))) (S ++ [.lst ((rws t a b t.length).map rowD)]) := by
    refine (ev_comp_map (ds := W.map .str) (fun x => match x with | .str w => wD w | _ => .non) ?_ (fun x hx => ?_) (by rw [List.length_map, lim_val]; omega)).trans ?_
    · have i1 : idxV (.ref S.length) (.d (.int (-1))) (S ++ [.lst ((rws t a b t.length).map rowD)]) = some (rowD W) := by
        simp only [idxV, dicOf, hr, peek, idxD, hix, Option.bind_some, hel]
      have e : evE (UN n) (.idx (.var 3) (.neg (.lit (.int 1)))) [some (.d (.tup [.str a, .str b])), some (.d (.str t)), some (.d (.lst (prt a b))), some (.ref S.length), o4, none, o6, o7, o8, none] (S ++ [.lst ((rws t a b t.length).map rowD)]) = .ok (.d (rowD W)) (S ++ [.lst ((rws t a b t.length).map rowD)]) := by
        simp only [evE, List.getElem?_cons_succ, List.getElem?_cons_zero, R.bind_ok, i1, R.opt_some]
      show (evE (UN n) (.idx (.var 3) (.neg (.lit (.int 1)))) _ _).bind _ = _
      rw [e]
      rfl
    · obtain ⟨w, hw, rfl⟩ := List.mem_map.mp hx
      have hwl := z2 w hw
      have b2 : biD .len [.str w] = some (.int w.length) := by simp only [biD]; rw [if_pos (by rw [lim_val]; omega)]
      refine ⟨_, rfl, ?_⟩
      have e1 : ∀ l : EV.Loc, l[9]? = some (some (.d (.str w))) → evE (UN n) x_law_backs_1e l (S ++ [.lst ((rws t a b t.length).map rowD)]) = .ok (.d (wD w)) (S ++ [.lst ((rws t a b t.length).map rowD)]) := fun l hl9 => by
        have e2 : evE (UN n) (.bi .len (.cons (.var 9) .nil)) l (S ++ [.lst ((rws t a b t.length).map rowD)]) = .ok (.d (.int w.length)) (S ++ [.lst ((rws t a b t.length).map rowD)]) := ev_bi1 (ev_var hl9) b2
        have e3 : evE (UN n) (.var 9) l (S ++ [.lst ((rws t a b t.length).map rowD)]) = .ok (.d (.str w)) (S ++ [.lst ((rws t a b t.length).map rowD)]) := ev_var hl9
        show (evEs (UN n) (.cons (.bi .len (.cons (.var 9) .nil)) (.cons (.var 9) .nil)) l _).bind _ = _
        unfold evEs
        rw [e2]
        simp only [R.bind_ok, evEs, e3, takes, take, R.opt_some]
        rfl
      exact e1 _ rfl
    · simp [List.map_map, Function.comp_def]
  have hsort : biD .sorted [.lst (W.map wD)] = some (.lst ((srtW W).map wD)) := by
    have k1 : alikes (W.map wD) = true := by
      unfold alikes
      simp only [List.all_eq_true]
      intro x hx y hy
      obtain ⟨u, _, rfl⟩ := List.mem_map.mp hx
      obtain ⟨v, _, rfl⟩ := List.mem_map.mp hy
      simp [wD, likeD, likeDs]
    have k2 : deps (W.map wD) ≤ 60 := by
      have : ∀ l : List (List Nat), deps (l.map wD) ≤ 60 := fun l => by
        induction l with
        | nil => simp [deps]
        | cons x l ih =>
          simp only [List.map_cons, deps]
          have : dep (wD x) ≤ 60 := by simp [wD, dep, deps]
          omega
      exact this W
    have k3 : srtB (W.map wD) = true := by
      unfold srtB
      rw [Bool.or_eq_true]
      left
      rw [List.all_eq_true]
      intro x hx
      obtain ⟨u, _, rfl⟩ := List.mem_map.mp hx
      rfl
    show (if (alikes (W.map wD) && decide (deps (W.map wD) ≤ 60) && srtB (W.map wD)) = true then (sortD (W.map wD)).map D.lst else none) = _
    rw [if_pos (by simp [k1, k2, k3]), srtW_D]
    rfl
  have s5 : evS (UN n) (.asg (.nm 5) (.bi .sorted (.cons x_law_backs_1 .nil))) [some (.d (.tup [.str a, .str b])), some (.d (.str t)), some (.d (.lst (prt a b))), some (.ref S.length), o4, none, o6, o7, o8, none] (S ++ [.lst ((rws t a b t.length).map rowD)]) = .nx [some (.d (.tup [.str a, .str b])), some (.d (.str t)), some (.d (.lst (prt a b))), some (.ref S.length), o4, some (.d (.lst ((srtW W).map wD))), o6, o7, o8, none] (S ++ [.lst ((rws t a b t.length).map rowD)]) := ev_asgD (ev_bi1 hcomp hsort)
  have pl : (prt a b).length = 2 ↔ (a ≠ [] ∧ b ≠ []) := by
    unfold prt
    by_cases ha : a = [] <;> by_cases hb : b = [] <;> simp [ha, hb]
  have body : evSs (UN n) d_law_backs.fn.body [some (.d (.tup [.str a, .str b])), some (.d (.str t)), none, none, none, none, none, none, none, none] S = .ret (.d (lbD t a b)) (S ++ [.lst ((rws t a b t.length).map rowD)]) := by
    show evSs (UN n) (.cons _ (.cons _ (.cons _ (.cons _ (.cons _ (.cons _ .nil)))))) _ _ = _
    simp only [evSs, s2, s3, s4, s5]
    unfold lbD
    rw [← hW]
    cases hs : srtW W with
    | nil => simp [evSs, evS, evE, evEs, evO, evC, evI, R.opt, RS.opt, setTV, setT, asBool, isTy, isTyD, cmV, dicOf, peek, peeks, cmD, biV, biD, idxV, idxD, slcV, slcD, mtV, mtApp, mtPure, mtTyp, mtD, opD, take, takes, keepS, runF, noX, eqD, dep]
    | cons w r =>
      by_cases hab : a ≠ [] ∧ b ≠ []
      · have p2 := pl.mpr hab
        have hne : ¬ ((r.length : Int) + 1 = 0) := by omega
        simp [evSs, evS, evE, evEs, evO, evC, evI, R.opt, RS.opt, setTV, setT, asBool, isTy, isTyD, cmV, dicOf, peek, peeks, cmD, biV, biD, idxV, idxD, slcV, slcD, mtV, mtApp, mtPure, mtTyp, mtD, opD, take, takes, keepS, runF, noX, eqD, dep, wD, p2, hab, ixI, hne]
      · have p2 : ¬ (prt a b).length = 2 := fun z => hab (pl.mp z)
        have p3 : ¬ ((prt a b).length : Int) = 2 := by omega
        have hne : ¬ ((r.length : Int) + 1 = 0) := by omega
        simp [evSs, evS, evE, evEs, evO, evC, evI, R.opt, RS.opt, setTV, setT, asBool, isTy, isTyD, cmV, dicOf, peek, peeks, cmD, biV, biD, idxV, idxD, slcV, slcD, mtV, mtApp, mtPure, mtTyp, mtD, opD, take, takes, keepS, runF, noX, eqD, dep, wD, p3, ixI, hne]
        simp at hab
        by_cases ha : a = []
        · simp [ha]
        · simp [ha, hab ha]
  exact run_d rfl body (take_at _ _)
/-- the answers are the own ones -/
theorem lb_eq (t a b : List Nat) : lbD t a b = .tup [optD (rbL t a b), mbD t a b] := by
  obtain ⟨h1, h2, _, _⟩ := tab_ok t a b t.length t.length (Nat.le_refl _)
  have h3 := srtW_min ((rws t a b t.length).getD t.length [])
  have e := isMin_uniq h1 h3
  have e2 : rbL t a b = (srtW ((rws t a b t.length).getD t.length [])).head? := e
  have e3 : lastC t a b = (srtW ((rws t a b t.length).getD t.length [])).length := by rw [srtW_len]; exact h2
  unfold lbD mbD
  rw [e2, e3]
  cases srtW ((rws t a b t.length).getD t.length []) with
  | nil => simp [optD]
  | cons w r =>
    by_cases ha : a = [] <;> by_cases hb : b = [] <;> simp [optD, ha, hb]
end K66
end

section
set_option Elab.async false
set_option linter.all false
set_option maxRecDepth 100000
set_option maxHeartbeats 4000000
namespace K66
open PySem EV
theorem run_ret {V : EV.Env} {F : Fn} {vs : List Vl} {S S' : Sto} {x : D} (h0 : vs.length = F.np) (h : evSs V F.body (vs.map some ++ List.replicate (F.nl - F.np) none) S = .ret (.d x) S') : runF V F vs S = .ok (.d x) (S'.take S.length) := by
  unfold runF
  rw [if_pos h0, h]
  rfl
theorem c_draw (n : Nat) {r : Nat} {St : Sto} {hd : List D} {many : Int} (hr : (St : List Cell)[r]? = some (.lst hd)) (hH : Hd hd) (hm : 1 ≤ many) (hm2 : many < 1073741824) :
    ∃ d hd', 0 ≤ d ∧ d < many ∧ Hd hd' ∧ CN (n + 1) 17 [.ref r, .d (.int many)] St = .ok (.d (.int d)) (St.set r (.lst hd')) := by
  obtain ⟨d, hd', h1, h2, h3, h4⟩ := draw_ok (V := UN n) hr hH hm hm2
  refine ⟨d, hd', h1, h2, h3, ?_⟩
  rw [cn_at (F := d_law_draw.fn) rfl]
  have h4 : evSs (UN n) d_law_draw.fn.body (([.ref r, .d (.int many)] : List Vl).map some ++ List.replicate (d_law_draw.fn.nl - d_law_draw.fn.np) none) St = .ret (.d (.int d)) (St.set r (.lst hd')) := h4
  rw [run_ret rfl h4, List.take_of_length_le (by simp)]
theorem c_any (n : Nat) {r : Nat} {St : Sto} {hd : List D} {xs : List D} (hr : (St : List Cell)[r]? = some (.lst hd)) (hH : Hd hd) (hx : xs ≠ []) (hx2 : xs.length ≤ 1000) :
    ∃ k, ∃ hk : k < xs.length, ∃ hd', Hd hd' ∧ CN (n + 2) 18 [.ref r, .d (.lst xs)] St = .ok (.d xs[k]) (St.set r (.lst hd')) := by
  have pos : 0 < xs.length := List.length_pos_iff.mpr hx
  obtain ⟨d, hd', h1, h2, h3, h4⟩ := c_draw n (many := (xs.length : Nat)) hr hH (by omega) (by omega)
  obtain ⟨k, rfl⟩ : ∃ k : Nat, d = (k : Int) := ⟨d.toNat, by omega⟩
  have hk : k < xs.length := by omega
  refine ⟨k, hk, hd', h3, ?_⟩
  rw [cn_at (F := d_law_any.fn) rfl]
  have e : evE (UN (n + 1)) (.idx (.var 1) (.call 17 "_law_draw" (.cons (.var 0) (.cons (.bi .len (.cons (.var 1) .nil)) .nil)))) [some (.ref r), some (.d (.lst xs))] St = .ok (.d xs[k]) (St.set r (.lst hd')) := by
    have b : biV .len [.d (.lst xs)] St = some (.int xs.length) := rfl
    have i1 : idxV (.d (.lst xs)) (.d (.int (k : Int))) (St.set r (.lst hd')) = some xs[k] := by
      simp only [idxV, dicOf, peek, idxD, ixI_nat hk, Option.bind_some, List.getElem?_eq_getElem hk]
    simp only [evE, evEs, List.getElem?_cons_succ, List.getElem?_cons_zero, R.bind_ok, b, R.opt_some, h4, i1]
  have body : evSs (UN (n + 1)) d_law_any.fn.body (([.ref r, .d (.lst xs)] : List Vl).map some ++ List.replicate (d_law_any.fn.nl - d_law_any.fn.np) none) St = .ret (.d xs[k]) (St.set r (.lst hd')) := evSs_ret (ev_ret e)
  rw [run_ret rfl body, List.take_of_length_le (by simp)]
/-! ### the law's comparison: a thing is itself -/
mutual
theorem eqD_refl : ∀ x : D, eqD x x = true
  | .non => rfl
  | .bl b => by simp [eqD]
  | .int i => by simp [eqD]
  | .str s => by simp [eqD]
  | .tup ds => by simp only [eqD]; exact eqDs_refl ds
  | .lst ds => by simp only [eqD]; exact eqDs_refl ds
theorem eqDs_refl : ∀ xs : List D, eqDs xs xs = true
  | [] => rfl
  | x :: xs => by simp only [eqDs, eqD_refl x, eqDs_refl xs, Bool.and_self]
end
mutual
def narrow : D → Prop
  | .tup ds => ds.length ≤ 1000 ∧ narrows ds
  | .lst ds => ds.length ≤ 1000 ∧ narrows ds
  | _ => True
def narrows : List D → Prop
  | [] => True
  | d :: ds => narrow d ∧ narrows ds
end
theorem narrows_mem : ∀ {ds : List D} {d : D}, narrows ds → d ∈ ds → narrow d
  | _ :: ds, d, h, m => by
    rcases List.mem_cons.mp m with rfl | m
    · exact h.1
    · exact narrows_mem h.2 m
theorem deps_mem : ∀ {ds : List D} {d : D}, d ∈ ds → dep d ≤ deps ds
  | x :: ds, d, m => by
    simp only [deps]
    rcases List.mem_cons.mp m with rfl | m
    · exact Nat.le_max_left _ _
    · exact Nat.le_trans (deps_mem m) (Nat.le_max_right _ _)
theorem zipD_self : ∀ ds : List D, zipD ds ds = ds.map fun d => .tup [d, d]
  | [] => rfl
  | d :: ds => by simp [zipD, zipD_self ds]
theorem is_comp (V : EV.Env) {ds : List D} {x : D} {S : Sto} (hx : seqD x = some ds) (hl : ds.length ≤ 1000) (h : ∀ d ∈ ds, V.cf 19 [.d d, .d d] S = .ok (.d (.bl true)) S) : evE V x_law_is_1 [some (.d x), some (.d x), none, none] S = .ok (.d (.lst (ds.map fun _ => .bl true))) S := by
  refine (ev_comp_map (ds := ds.map fun d => .tup [d, d]) (fun _ => .bl true) ?_ (fun y hy => ?_) (by rw [List.length_map, lim_val]; omega)).trans ?_
  · simp only [evI, evE, List.getElem?_cons_succ, List.getElem?_cons_zero, R.bind_ok, hx, R.opt_some, zipD_self]
  · obtain ⟨d, hd, rfl⟩ := List.mem_map.mp hy
    refine ⟨_, rfl, ?_⟩
    show (evEs V _ _ S).bind _ = _
    exact h d hd
  · rw [List.map_map]; rfl
theorem all_true (ds : List D) : biD .all [.lst (ds.map fun _ => D.bl true)] = some (.bl true) := by
  show (bitsOf (ds.map fun _ => D.bl true)).map (fun bs => D.bl (bs.all id)) = _
  have : bitsOf (ds.map fun _ => D.bl true) = some (ds.map fun _ => true) := bitsOf_fn' (fun _ => true) ds
  rw [this]
  simp
theorem c_is (n : Nat) : ∀ (m : Nat) (x : D) (S : Sto), dep x ≤ m → narrow x → CN (n + m + 1) 19 [.d x, .d x] S = .ok (.d (.bl true)) S := by
  intro m
  induction m with
  | zero =>
    intro x S hd hx
    rw [cn_at (F := d_law_is.fn) rfl]
    cases x with
    | tup ds => simp [dep] at hd
    | lst ds => simp [dep] at hd
    | non => simp [d_law_is, evSs, evS, evE, evEs, evO, evC, evI, R.opt, RS.opt, setTV, setT, asBool, isTy, isTyD, cmV, dicOf, peek, peeks, cmD, biV, biD, idxV, idxD, slcV, slcD, mtV, mtApp, mtPure, mtTyp, mtD, opD, take, takes, keepS, runF, noX]
    | bl b => simp [d_law_is, evSs, evS, evE, evEs, evO, evC, evI, R.opt, RS.opt, setTV, setT, asBool, isTy, isTyD, cmV, dicOf, peek, peeks, cmD, biV, biD, idxV, idxD, slcV, slcD, mtV, mtApp, mtPure, mtTyp, mtD, opD, take, takes, keepS, runF, noX, eqD, dep]
    | int i => simp [d_law_is, evSs, evS, evE, evEs, evO, evC, evI, R.opt, RS.opt, setTV, setT, asBool, isTy, isTyD, cmV, dicOf, peek, peeks, cmD, biV, biD, idxV, idxD, slcV, slcD, mtV, mtApp, mtPure, mtTyp, mtD, opD, take, takes, keepS, runF, noX, eqD, dep]
    | str s => simp [d_law_is, evSs, evS, evE, evEs, evO, evC, evI, R.opt, RS.opt, setTV, setT, asBool, isTy, isTyD, cmV, dicOf, peek, peeks, cmD, biV, biD, idxV, idxD, slcV, slcD, mtV, mtApp, mtPure, mtTyp, mtD, opD, take, takes, keepS, runF, noX, eqD, dep]
  | succ m ih =>
    intro x S hd hx
    rw [cn_at (F := d_law_is.fn) rfl]
    cases x with
    | tup ds =>
      have hl : ds.length ≤ 1000 := hx.1
      have hc := is_comp (UN (n + (m + 1))) (ds := ds) (x := .tup ds) (S := S) rfl hl fun d hd' => ih d S (by have := deps_mem hd'; simp only [dep] at hd; omega) (narrows_mem hx.2 hd')
      have ha : bitsOf (ds.map fun _ => D.bl true) = some (ds.map fun _ => true) := bitsOf_fn' (fun _ => true) ds
      simp [d_law_is, evSs, evS, evE, evEs, evO, evC, evI, R.opt, RS.opt, setTV, setT, asBool, isTy, isTyD, cmV, dicOf, peek, peeks, cmD, biV, biD, idxV, idxD, slcV, slcD, mtV, mtApp, mtPure, mtTyp, mtD, opD, take, takes, keepS, runF, noX, eqD, dep, hc, ha]
    | lst ds =>
      have hl : ds.length ≤ 1000 := hx.1
      have hc := is_comp (UN (n + (m + 1))) (ds := ds) (x := .lst ds) (S := S) rfl hl fun d hd' => ih d S (by have := deps_mem hd'; simp only [dep] at hd; omega) (narrows_mem hx.2 hd')
      have ha : bitsOf (ds.map fun _ => D.bl true) = some (ds.map fun _ => true) := bitsOf_fn' (fun _ => true) ds
      simp [d_law_is, evSs, evS, evE, evEs, evO, evC, evI, R.opt, RS.opt, setTV, setT, asBool, isTy, isTyD, cmV, dicOf, peek, peeks, cmD, biV, biD, idxV, idxD, slcV, slcD, mtV, mtApp, mtPure, mtTyp, mtD, opD, take, takes, keepS, runF, noX, eqD, dep, hc, ha]
    | non => simp [d_law_is, evSs, evS, evE, evEs, evO, evC, evI, R.opt, RS.opt, setTV, setT, asBool, isTy, isTyD, cmV, dicOf, peek, peeks, cmD, biV, biD, idxV, idxD, slcV, slcD, mtV, mtApp, mtPure, mtTyp, mtD, opD, take, takes, keepS, runF, noX]
    | bl b => simp [d_law_is, evSs, evS, evE, evEs, evO, evC, evI, R.opt, RS.opt, setTV, setT, asBool, isTy, isTyD, cmV, dicOf, peek, peeks, cmD, biV, biD, idxV, idxD, slcV, slcD, mtV, mtApp, mtPure, mtTyp, mtD, opD, take, takes, keepS, runF, noX, eqD, dep]
    | int i => simp [d_law_is, evSs, evS, evE, evEs, evO, evC, evI, R.opt, RS.opt, setTV, setT, asBool, isTy, isTyD, cmV, dicOf, peek, peeks, cmD, biV, biD, idxV, idxD, slcV, slcD, mtV, mtApp, mtPure, mtTyp, mtD, opD, take, takes, keepS, runF, noX, eqD, dep]
    | str s => simp [d_law_is, evSs, evS, evE, evEs, evO, evC, evI, R.opt, RS.opt, setTV, setT, asBool, isTy, isTyD, cmV, dicOf, peek, peeks, cmD, biV, biD, idxV, idxD, slcV, slcD, mtV, mtApp, mtPure, mtTyp, mtD, opD, take, takes, keepS, runF, noX, eqD, dep]
end K66
end

section
set_option Elab.async false
set_option linter.all false
set_option maxRecDepth 100000
set_option maxHeartbeats 4000000
namespace K66
open PySem EV
abbrev TWO : D := .str [116, 119, 111]
abbrev SURE : D := .str [115, 117, 114, 101]
def sureD (a b : List Nat) : D := if a = [] then .tup [TWO, .str [], .str [97]] else if b = [] then .tup [TWO, .str [], .str [98]] else if a ++ b = b ++ a then .tup [TWO, .str [97, 98], .str [98, 97]] else .tup [SURE]
theorem c_rawsure (n : Nat) {a b : List Nat} (h : Cod a b) (S : Sto) : CN (n + 1) 10 [.d (.tup [.str a, .str b])] S = .ok (.d (sureD a b)) S := by
  rw [cn_at (F := d_raw_sure.fn) rfl]
  have la := h.la
  have lb := h.lb
  have hl : a.length + b.length ≤ lim := by rw [lim_val]; omega
  have hl2 : b.length + a.length ≤ lim := by rw [lim_val]; omega
  have h2 : (2 : Nat) ≤ lim := by rw [lim_val]; omega
  unfold sureD
  by_cases ha : a = []
  · simp [d_raw_sure, evSs, evS, evE, evEs, evO, evC, evI, R.opt, RS.opt, setTV, setT, asBool, isTy, isTyD, cmV, dicOf, peek, peeks, cmD, biV, biD, idxV, idxD, slcV, slcD, mtV, mtApp, mtPure, mtTyp, mtD, opD, take, takes, keepS, runF, noX, eqD, dep, ixI, ha, h2]
  · by_cases hb : b = []
    · simp [d_raw_sure, evSs, evS, evE, evEs, evO, evC, evI, R.opt, RS.opt, setTV, setT, asBool, isTy, isTyD, cmV, dicOf, peek, peeks, cmD, biV, biD, idxV, idxD, slcV, slcD, mtV, mtApp, mtPure, mtTyp, mtD, opD, take, takes, keepS, runF, noX, eqD, dep, ixI, ha, hb, h2]
    · by_cases hab : a ++ b = b ++ a
      · simp [d_raw_sure, evSs, evS, evE, evEs, evO, evC, evI, R.opt, RS.opt, setTV, setT, asBool, isTy, isTyD, cmV, dicOf, peek, peeks, cmD, biV, biD, idxV, idxD, slcV, slcD, mtV, mtApp, mtPure, mtTyp, mtD, opD, take, takes, keepS, runF, noX, eqD, dep, ixI, ha, hb, hl, hl2, hab, revD, h2]
      · simp [d_raw_sure, evSs, evS, evE, evEs, evO, evC, evI, R.opt, RS.opt, setTV, setT, asBool, isTy, isTyD, cmV, dicOf, peek, peeks, cmD, biV, biD, idxV, idxD, slcV, slcD, mtV, mtApp, mtPure, mtTyp, mtD, opD, take, takes, keepS, runF, noX, eqD, dep, ixI, ha, hb, hl, hl2, hab]
theorem c_suretold (n : Nat) {a b : List Nat} (h : Cod a b) (S : Sto) : CN (n + 4) 11 [.d (.tup [.str a, .str b])] S = .ok (.d (sureD a b)) S := by
  rw [cn_at (F := d_sure_told.fn) rfl]
  have e1 := c_chkC n h S
  have e2 := c_rawsure (n + 2) h S
  simp [d_sure_told, evSs, evS, evE, evEs, evO, evC, evI, R.opt, RS.opt, setTV, setT, asBool, isTy, isTyD, cmV, dicOf, peek, peeks, cmD, biV, biD, idxV, idxD, slcV, slcD, mtV, mtApp, mtPure, mtTyp, mtD, opD, take, takes, keepS, runF, noX, e1, e2]
theorem c_joined (n : Nat) {a b x y : List Nat} (h : Cod a b) (h' : Cod x y) (S : Sto) : CN (n + 4) 13 [.d (.tup [.str a, .str b]), .d (.tup [.str x, .str y])] S =
    if (img x y a).length ≤ 4 ∧ (img x y b).length ≤ 4 then .ok (.d (.tup [.str (img x y a), .str (img x y b)])) S else .exc 2 [] S := by
  rw [cn_at (F := d_joined_codes.fn) rfl]
  have la := h.la
  have lb := h.lb
  have lx := h'.la
  have ly := h'.lb
  have p1 : a.length * (x.length + y.length) ≤ 4 * 8 := Nat.mul_le_mul la (by omega)
  have p2 : b.length * (x.length + y.length) ≤ 4 * 8 := Nat.mul_le_mul lb (by omega)
  have e1 := c_chkC n h S
  have e2 := c_chkC n h' S
  have e3 := c_rawimg (n + 2) x y a S h.oa (by rw [lim_val]; omega) (by rw [lim_val]; omega)
  have e4 := c_rawimg (n + 2) x y b S h.ob (by rw [lim_val]; omega) (by rw [lim_val]; omega)
  have okimg : ∀ w : List Nat, okW (img x y w) := fun w c hc => by
    obtain ⟨d, _, hd⟩ := List.mem_flatMap.mp hc
    unfold imgC at hd
    split at hd
    · exact h'.oa c hd
    · exact h'.ob c hd
  have i1 := img_len x y a
  have i2 := img_len x y b
  have sm : smallC (.tup [.str (img x y a), .str (img x y b)]) := by
    intro d hd
    simp at hd
    rcases hd with rfl | rfl
    · show (img x y a).length ≤ lim; rw [lim_val]; omega
    · show (img x y b).length ≤ lim; rw [lim_val]; omega
  have e5 := c_code (n + 1) _ S sm
  have q1 : isLet (img x y a) 4 = decide ((img x y a).length ≤ 4) := by
    unfold isLet
    rw [okW_all (okimg a), Bool.and_true]
    exact decide_eq_decide.mpr (by omega)
  have q2 : isLet (img x y b) 4 = decide ((img x y b).length ≤ 4) := by
    unfold isLet
    rw [okW_all (okimg b), Bool.and_true]
    exact decide_eq_decide.mpr (by omega)
  have e6 : isCode (.tup [.str (img x y a), .str (img x y b)]) = (decide ((img x y a).length ≤ 4) && decide ((img x y b).length ≤ 4)) := by
    simp only [isCode, isLetD, q1, q2]
  rw [e6] at e5
  by_cases k1 : (img x y a).length ≤ 4
  · by_cases k2 : (img x y b).length ≤ 4
    · simp [d_joined_codes, evSs, evS, evE, evEs, evO, evC, evI, R.opt, RS.opt, setTV, setT, asBool, isTy, isTyD, cmV, dicOf, peek, peeks, cmD, biV, biD, idxV, idxD, slcV, slcD, mtV, mtApp, mtPure, mtTyp, mtD, opD, take, takes, keepS, runF, noX, ixI, e1, e2, e3, e4, e5, k1, k2]
    · simp [d_joined_codes, evSs, evS, evE, evEs, evO, evC, evI, R.opt, RS.opt, setTV, setT, asBool, isTy, isTyD, cmV, dicOf, peek, peeks, cmD, biV, biD, idxV, idxD, slcV, slcD, mtV, mtApp, mtPure, mtTyp, mtD, opD, take, takes, keepS, runF, noX, ixI, e1, e2, e3, e4, e5, k1, k2]
  · simp [d_joined_codes, evSs, evS, evE, evEs, evO, evC, evI, R.opt, RS.opt, setTV, setT, asBool, isTy, isTyD, cmV, dicOf, peek, peeks, cmD, biV, biD, idxV, idxD, slcV, slcD, mtV, mtApp, mtPure, mtTyp, mtD, opD, take, takes, keepS, runF, noX, ixI, e1, e2, e3, e4, e5, k1]
/-! ### what begins alike -/
def pre : List Nat → List Nat → Nat
  | x :: xs, y :: ys => if x = y then pre xs ys + 1 else 0
  | _, _ => 0
theorem pre_le : ∀ a b : List Nat, pre a b ≤ a.length ∧ pre a b ≤ b.length
  | [], b => by simp [pre]
  | x :: xs, [] => by simp [pre]
  | x :: xs, y :: ys => by
    have := pre_le xs ys
    simp only [pre]
    split <;> simp <;> omega
theorem pre_in : ∀ (a b : List Nat) (s : Nat), s < pre a b → ∃ c, a[s]? = some c ∧ b[s]? = some c
  | [], b, s, h => by simp [pre] at h
  | x :: xs, [], s, h => by simp [pre] at h
  | x :: xs, y :: ys, s, h => by
    simp only [pre] at h
    split at h
    · rename_i e
      subst e
      cases s with
      | zero => exact ⟨x, rfl, rfl⟩
      | succ s => simpa using pre_in xs ys s (by omega)
    · omega
theorem pre_out : ∀ (a b : List Nat), pre a b = a.length ∨ pre a b = b.length ∨ ∃ c d, a[pre a b]? = some c ∧ b[pre a b]? = some d ∧ c ≠ d
  | [], b => .inl (by simp [pre])
  | x :: xs, [] => .inr (.inl (by simp [pre]))
  | x :: xs, y :: ys => by
    simp only [pre]
    by_cases e : x = y
    · rw [if_pos e]
      rcases pre_out xs ys with h | h | ⟨c, d, h1, h2, h3⟩
      · exact .inl (by simp [h])
      · exact .inr (.inl (by simp [h]))
      · exact .inr (.inr ⟨c, d, by simpa using h1, by simpa using h2, h3⟩)
    · rw [if_neg e]
      exact .inr (.inr ⟨x, y, rfl, rfl, e⟩)
theorem cut_take {t : List Nat} (k : Nat) : cut t none (some (k : Int)) = t.take k := by
  have e : ¬ ((k : Int) < 0) := by omega
  simp only [cut, loI, hiI, clip, if_neg e, Int.toNat_natCast, List.drop_zero, Nat.sub_zero]
  rcases Nat.le_total k t.length with h | h
  · rw [Nat.min_eq_left h]
  · rw [Nat.min_eq_right h, List.take_of_length_le (Nat.le_refl _), List.take_of_length_le h]
theorem mi2 (i j : Nat) : biD .min [.int i, .int j] = some (.int ((min i j : Nat) : Int)) := by
  show some (D.int (if (j : Int) < i then j else i)) = _
  congr 2
  by_cases h : j < i
  · rw [if_pos (by omega), Nat.min_eq_right (by omega)]
  · rw [if_neg (by omega), Nat.min_eq_left (by omega)]
theorem ba_len (V : EV.Env) {a b : List Nat} (h : Cod a b) (o : Option Vl) (S : Sto) : evE V (.bi .min (.cons (.bi .len (.cons (.idx (.var 0) (.lit (.int 0))) .nil)) (.cons (.bi .len (.cons (.idx (.var 0) (.lit (.int 1))) .nil)) .nil))) [some (.d (.tup [.str a, .str b])), o] S = .ok (.d (.int ((min a.length b.length : Nat) : Int))) S := by
  have la := h.la
  have lb := h.lb
  have hl : a.length ≤ lim := by rw [lim_val]; omega
  have hl2 : b.length ≤ lim := by rw [lim_val]; omega
  have i1 : evE V (.bi .len (.cons (.idx (.var 0) (.lit (.int 0))) .nil)) [some (.d (.tup [.str a, .str b])), o] S = .ok (.d (.int a.length)) S := by simp [evSs, evS, evE, evEs, evO, evC, evI, R.opt, RS.opt, setTV, setT, asBool, isTy, isTyD, cmV, dicOf, peek, peeks, cmD, biV, biD, idxV, idxD, slcV, slcD, mtV, mtApp, mtPure, mtTyp, mtD, opD, take, takes, keepS, runF, noX, ixI, hl]
  have i2 : evE V (.bi .len (.cons (.idx (.var 0) (.lit (.int 1))) .nil)) [some (.d (.tup [.str a, .str b])), o] S = .ok (.d (.int b.length)) S := by simp [evSs, evS, evE, evEs, evO, evC, evI, R.opt, RS.opt, setTV, setT, asBool, isTy, isTyD, cmV, dicOf, peek, peeks, cmD, biV, biD, idxV, idxD, slcV, slcD, mtV, mtApp, mtPure, mtTyp, mtD, opD, take, takes, keepS, runF, noX, ixI, hl2]
  show (evEs V _ _ S).bind _ = _
  have : evEs V (.cons (.bi .len (.cons (.idx (.var 0) (.lit (.int 0))) .nil)) (.cons (.bi .len (.cons (.idx (.var 0) (.lit (.int 1))) .nil)) .nil)) [some (.d (.tup [.str a, .str b])), o] S = .ok [.d (.int a.length), .d (.int b.length)] S := by
    unfold evEs
    rw [i1]
    simp only [R.bind_ok]
    unfold evEs
    rw [i2]
    simp only [R.bind_ok, evEs]
  rw [this]
  simp only [R.bind_ok, biV, peeks, peek, Option.bind_some, mi2, R.opt_some]
theorem ba_loop (V : EV.Env) {a b : List Nat} (h : Cod a b) (S : Sto) : ∀ (m s f : Nat), s + m = pre a b → m < f → whileGo (fun l S => (evE V c_begins_alike_1 l S).bind fun v S1 => R.opt (asBool v) fun k => .ok k S1) (evSs V w_begins_alike_2) f [some (.d (.tup [.str a, .str b])), some (.d (.int s))] S = .nx [some (.d (.tup [.str a, .str b])), some (.d (.int (pre a b : Nat)))] S := by
  intro m
  have la := h.la
  have lb := h.lb
  have hl : a.length ≤ lim := by rw [lim_val]; omega
  have hl2 : b.length ≤ lim := by rw [lim_val]; omega
  have pl := pre_le a b
  induction m with
  | zero =>
    intro s f hs hf
    have e : s = pre a b := by omega
    obtain ⟨f, rfl⟩ : ∃ g, f = g + 1 := ⟨f - 1, by omega⟩
    have c : evE V c_begins_alike_1 [some (.d (.tup [.str a, .str b])), some (.d (.int s))] S = .ok (.d (.bl false)) S := by
      by_cases hm : s < min a.length b.length
      · have h1 := ev_cmp (o := .lt) (a := .var 1) (ev_var rfl) (ba_len V h (some (.d (.int s))) S) (r := true) (by show some (decide ((s : Int) < ((min a.length b.length : Nat) : Int))) = _; rw [decide_eq_true (by omega)])
        rcases pre_out a b with k | k | ⟨c, d, k1, k2, k3⟩
        · omega
        · omega
        · rw [← e] at k1 k2
          refine ev_and_t h1 ?_
          have y1 : (s : Int) < a.length := by omega
          have y2 : (s : Int) < b.length := by omega
          simp [evSs, evS, evE, evEs, evO, evC, evI, R.opt, RS.opt, setTV, setT, asBool, isTy, isTyD, cmV, dicOf, peek, peeks, cmD, biV, biD, idxV, idxD, slcV, slcD, mtV, mtApp, mtPure, mtTyp, mtD, opD, take, takes, keepS, runF, noX, ixI, hl, hl2, y1, y2, k1, k2, k3, eqD, dep]
      · exact ev_and_f (ev_cmp (o := .lt) (a := .var 1) (ev_var rfl) (ba_len V h (some (.d (.int s))) S) (r := false) (by show some (decide ((s : Int) < ((min a.length b.length : Nat) : Int))) = _; rw [decide_eq_false (by omega)]))
    simp only [whileGo, c, R.bind_ok, asBool, R.opt_some, R.st_ok]
    rw [e]
    rfl
  | succ m ih =>
    intro s f hs hf
    obtain ⟨f, rfl⟩ : ∃ g, f = g + 1 := ⟨f - 1, by omega⟩
    obtain ⟨c0, k1, k2⟩ := pre_in a b s (by omega)
    have c : evE V c_begins_alike_1 [some (.d (.tup [.str a, .str b])), some (.d (.int s))] S = .ok (.d (.bl true)) S := by
      have h1 := ev_cmp (o := .lt) (a := .var 1) (ev_var rfl) (ba_len V h (some (.d (.int s))) S) (r := true) (by show some (decide ((s : Int) < ((min a.length b.length : Nat) : Int))) = _; rw [decide_eq_true (by omega)])
      refine ev_and_t h1 ?_
      have y1 : (s : Int) < a.length := by omega
      have y2 : (s : Int) < b.length := by omega
      simp [evSs, evS, evE, evEs, evO, evC, evI, R.opt, RS.opt, setTV, setT, asBool, isTy, isTyD, cmV, dicOf, peek, peeks, cmD, biV, biD, idxV, idxD, slcV, slcD, mtV, mtApp, mtPure, mtTyp, mtD, opD, take, takes, keepS, runF, noX, ixI, hl, hl2, y1, y2, k1, k2, eqD, dep]
    have st : evSs V w_begins_alike_2 [some (.d (.tup [.str a, .str b])), some (.d (.int s))] S = .nx [some (.d (.tup [.str a, .str b])), some (.d (.int ((s + 1 : Nat) : Int)))] S := by
      refine (evSs_cons (ev_asgD (ev_op (ev_var rfl) ev_lit (opD_addI _ _)))).trans ?_
      rfl
    simp only [whileGo, c, R.bind_ok, asBool, R.opt_some, R.st_ok, if_true, st]
    exact ih (s + 1) f (by omega) (by omega)
theorem c_begins (n : Nat) {a b : List Nat} (h : Cod a b) (S : Sto) : CN (n + 4) 14 [.d (.tup [.str a, .str b])] S = .ok (.d (.str (a.take (pre a b)))) S := by
  rw [cn_at (F := d_begins_alike.fn) rfl]
  have la := h.la
  have hl : a.length ≤ lim := by rw [lim_val]; omega
  have e1 := c_chkC n h S
  have pl := pre_le a b
  have s1 : evS (UN (n + 3)) (.ex (.call 4 "check_code" (.cons (.var 0) .nil))) [some (.d (.tup [.str a, .str b])), none] S = .nx [some (.d (.tup [.str a, .str b])), none] S := by simp [evS, evE, evEs, e1]
  have s2 : evS (UN (n + 3)) (.asg (.nm 1) (.lit (.int 0))) [some (.d (.tup [.str a, .str b])), none] S = .nx [some (.d (.tup [.str a, .str b])), some (.d (.int ((0 : Nat) : Int)))] S := ev_asgD ev_lit
  have s3 : evS (UN (n + 3)) (.while_ c_begins_alike_1 w_begins_alike_2) [some (.d (.tup [.str a, .str b])), some (.d (.int ((0 : Nat) : Int)))] S = .nx [some (.d (.tup [.str a, .str b])), some (.d (.int (pre a b : Nat)))] S := by
    simp only [evS]
    exact ba_loop (UN (n + 3)) h S (pre a b) 0 100 (by omega) (by omega)
  have s4 : evS (UN (n + 3)) (.ret (.slc (.idx (.var 0) (.lit (.int 0))) .no (.yes (.var 1)))) [some (.d (.tup [.str a, .str b])), some (.d (.int (pre a b : Nat)))] S = .ret (.d (.str (a.take (pre a b)))) S := by
    refine ev_ret ?_
    simp [evSs, evS, evE, evEs, evO, evC, evI, R.opt, RS.opt, setTV, setT, asBool, isTy, isTyD, cmV, dicOf, peek, peeks, cmD, biV, biD, idxV, idxD, slcV, slcD, mtV, mtApp, mtPure, mtTyp, mtD, opD, take, takes, keepS, runF, noX, ixI, hl, cut_take]
  exact run_d rfl ((evSs_cons s1).trans ((evSs_cons s2).trans ((evSs_cons s3).trans (evSs_ret s4)))) (by simp)
theorem c_once (n : Nat) {a b : List Nat} (h : Cod a b) (S : Sto) : CN (n + 4) 15 [.d (.tup [.str a, .str b])] S = .ok (.d (.bl (decide (a.take (min a.length b.length) ≠ b.take (min a.length b.length))))) S := by
  rw [cn_at (F := d_told_at_once.fn) rfl]
  have la := h.la
  have lb := h.lb
  have hl : a.length ≤ lim := by rw [lim_val]; omega
  have hl2 : b.length ≤ lim := by rw [lim_val]; omega
  have e1 := c_chkC n h S
  have s1 : evS (UN (n + 3)) (.ex (.call 4 "check_code" (.cons (.var 0) .nil))) [some (.d (.tup [.str a, .str b])), none] S = .nx [some (.d (.tup [.str a, .str b])), none] S := by simp [evS, evE, evEs, e1]
  have s2 := ev_asgD (i := 1) (ba_len (UN (n + 3)) h none S)
  have s3 : evS (UN (n + 3)) (.ret (.cmp .ne (.slc (.idx (.var 0) (.lit (.int 0))) .no (.yes (.var 1))) (.slc (.idx (.var 0) (.lit (.int 1))) .no (.yes (.var 1))))) [some (.d (.tup [.str a, .str b])), some (.d (.int ((min a.length b.length : Nat) : Int)))] S = .ret (.d (.bl (decide (a.take (min a.length b.length) ≠ b.take (min a.length b.length))))) S := by
    refine ev_ret ?_
    obtain ⟨k, hk⟩ : ∃ k, k = min a.length b.length := ⟨_, rfl⟩
    rw [← hk]
    refine ev_cmp (x := .str (a.take k)) (y := .str (b.take k)) (S1 := S) ?_ ?_ ?_
    · simp [evSs, evS, evE, evEs, evO, evC, evI, R.opt, RS.opt, setTV, setT, asBool, isTy, isTyD, cmV, dicOf, peek, peeks, cmD, biV, biD, idxV, idxD, slcV, slcD, mtV, mtApp, mtPure, mtTyp, mtD, opD, take, takes, keepS, runF, noX, ixI, hl, cut_take]
    · simp [evSs, evS, evE, evEs, evO, evC, evI, R.opt, RS.opt, setTV, setT, asBool, isTy, isTyD, cmV, dicOf, peek, peeks, cmD, biV, biD, idxV, idxD, slcV, slcD, mtV, mtApp, mtPure, mtTyp, mtD, opD, take, takes, keepS, runF, noX, ixI, hl2, cut_take]
    · show (if min 0 0 ≤ 60 then some (!(a.take k == b.take k)) else none) = _
      rw [if_pos (by decide)]
      congr 1
      by_cases e : a.take k = b.take k <;> simp [e]
  exact run_d rfl ((evSs_cons s1).trans ((evSs_cons s2).trans (evSs_ret s3))) (by simp)
end K66
end

section
set_option Elab.async false
set_option linter.all false
set_option maxRecDepth 100000
set_option maxHeartbeats 4000000
namespace K66
open PySem EV
/-- things that the law tells -/
inductive Sh : D → Prop
  | non : Sh .non
  | tup0 : Sh (.tup [])
  | str (s : List Nat) : Sh (.str s)
  | lst (ds : List D) : Sh (.lst ds)
  | tup1 {s : List Nat} : s.length ≤ 1000 → Sh (.tup [.str s])
  | tupI {s : List Nat} (i : Int) : Sh (.tup [.str s, .int i])
  | tup2 {s t : List Nat} : s.length ≤ 1000 → t.length ≤ 1000 → Sh (.tup [.str s, .str t])
  | tup3 {s t u : List Nat} : s.length ≤ 1000 → t.length ≤ 1000 → u.length ≤ 1000 → Sh (.tup [.str s, .str t, .str u])
def two : List Nat := [116, 119, 111]
def sure : List Nat := [115, 117, 114, 101]
def twoD (a b : List Nat) : D → Bool
  | .tup [.str t, .str u, .str v] => (t == two) && (isLet u 12 && isLet v 12) && (!(u == v) && (img a b u == img a b v))
  | _ => false
theorem let_ok {u : List Nat} (h : isLet u 12 = true) : okW u ∧ u.length ≤ 12 := by
  unfold isLet at h
  rw [Bool.and_eq_true, List.all_eq_true] at h
  exact ⟨h.2, by have := of_decide_eq_true h.1; omega⟩
theorem cut_tail {α : Type} (x : α) (xs : List α) : cut (x :: xs) (some 1) none = xs := by
  have e : ¬ ((1 : Int) < 0) := by decide
  simp only [cut, loI, hiI, clip, if_neg e, List.length_cons]
  rw [Nat.min_eq_left (by simp)]
  simp
theorem two_comp (V : EV.Env) (c x : Option Vl) {u : List Nat} (hu : u.length ≤ 1000) (S : Sto) : evE V x_law_is_two_1 [c, x, some (.d (.str u)), none] S = .ok (.d (.lst (u.map fun c => .bl (isC c)))) S := by
  refine (ev_comp_map (ds := u.map fun c => .str [c]) (fun x => match x with | .str [c] => .bl (isC c) | _ => .non) rfl (fun x hx => ?_) (by rw [List.length_map, lim_val]; omega)).trans ?_
  · obtain ⟨c, hc, rfl⟩ := List.mem_map.mp hx
    refine ⟨_, rfl, ?_⟩
    simp [x_law_is_two_1e, evSs, evS, evE, evEs, evO, evC, evI, R.opt, RS.opt, setTV, setT, asBool, isTy, isTyD, cmV, dicOf, peek, peeks, cmD, biV, biD, idxV, idxD, slcV, slcD, mtV, mtApp, mtPure, mtTyp, mtD, opD, take, takes, keepS, runF, noX, wipeL, isC]
    rfl
  · rw [List.map_map]; rfl
theorem two_all (u : List Nat) : biD .all [.lst (u.map fun c => D.bl (isC c))] = some (.bl (u.all isC)) := by
  show (bitsOf (u.map fun c => D.bl (isC c))).map (fun bs => D.bl (bs.all id)) = _
  rw [bitsOf_fn']
  simp [List.all_map, Function.comp_def]
/-- one word of a thing -/
theorem two_in (V : EV.Env) (c x : Option Vl) {u : List Nat} (hu : u.length ≤ 1000) (S : Sto) : evSs V f_law_is_two_2 [c, x, some (.d (.str u)), none] S = if isLet u 12 then .nx [c, x, some (.d (.str u)), none] S else .ret (.d (.bl false)) S := by
  have hl : u.length ≤ lim := by rw [lim_val]; omega
  have e0 : evE V (.not (.isi (.var 2) .str)) [c, x, some (.d (.str u)), none] S = .ok (.d (.bl false)) S := by simp [evSs, evS, evE, evEs, evO, evC, evI, R.opt, RS.opt, setTV, setT, asBool, isTy, isTyD, cmV, dicOf, peek, peeks, cmD, biV, biD, idxV, idxD, slcV, slcD, mtV, mtApp, mtPure, mtTyp, mtD, opD, take, takes, keepS, runF, noX]
  have bl : biD .len [.str u] = some (.int u.length) := by simp only [biD, if_pos hl]
  have ha := two_all u
  have e2 : evE V (.not (.bi .all (.cons x_law_is_two_1 .nil))) [c, x, some (.d (.str u)), none] S = .ok (.d (.bl (!(u.all isC)))) S := ev_not (ev_bi1 (two_comp V c x hu S) ha)
  unfold isLet
  by_cases h12 : (u.length : Int) ≤ 12
  · have e1 : evE V (.cmp .gt (.bi .len (.cons (.var 2) .nil)) (.lit (.int 12))) [c, x, some (.d (.str u)), none] S = .ok (.d (.bl false)) S := ev_cmp (ev_bi1 (ev_var rfl) bl) ev_lit (by show some (decide ((12 : Int) < u.length)) = _; rw [decide_eq_false (by omega)])
    have e := ev_or_f e0 (ev_or_f e1 e2)
    rw [decide_eq_true h12, Bool.true_and]
    cases hb : u.all isC with
    | true =>
      rw [hb] at e
      rw [if_pos rfl]
      exact (evSs_cons ((ev_if_f e).trans rfl)).trans rfl
    | false =>
      rw [hb] at e
      rw [if_neg (by simp)]
      exact evSs_ret ((ev_if_t e).trans (evSs_ret (ev_ret ev_lit)))
  · have e1 : evE V (.cmp .gt (.bi .len (.cons (.var 2) .nil)) (.lit (.int 12))) [c, x, some (.d (.str u)), none] S = .ok (.d (.bl true)) S := ev_cmp (ev_bi1 (ev_var rfl) bl) ev_lit (by show some (decide ((12 : Int) < u.length)) = _; rw [decide_eq_true (by omega)])
    have e := ev_or_f e0 (ev_or_t (b := .not (.bi .all (.cons x_law_is_two_1 .nil))) e1)
    rw [decide_eq_false h12, Bool.false_and, if_neg (by simp)]
    exact evSs_ret ((ev_if_t e).trans (evSs_ret (ev_ret ev_lit)))
theorem c_istwo (n : Nat) {a b : List Nat} (h : Cod a b) {x : D} (hx : Sh x) (S : Sto) : CN (n + 2) 24 [.d (.tup [.str a, .str b]), .d x] S = .ok (.d (.bl (twoD a b x))) S := by
  rw [cn_at (F := d_law_is_two.fn) rfl]
  cases hx with
  | non => simp [d_law_is_two, evSs, evS, evE, evEs, evO, evC, evI, R.opt, RS.opt, setTV, setT, asBool, isTy, isTyD, cmV, dicOf, peek, peeks, cmD, biV, biD, idxV, idxD, slcV, slcD, mtV, mtApp, mtPure, mtTyp, mtD, opD, take, takes, keepS, runF, noX, twoD]
  | tup0 => simp [d_law_is_two, evSs, evS, evE, evEs, evO, evC, evI, R.opt, RS.opt, setTV, setT, asBool, isTy, isTyD, cmV, dicOf, peek, peeks, cmD, biV, biD, idxV, idxD, slcV, slcD, mtV, mtApp, mtPure, mtTyp, mtD, opD, take, takes, keepS, runF, noX, twoD, eqD, dep]
  | str s => simp [d_law_is_two, evSs, evS, evE, evEs, evO, evC, evI, R.opt, RS.opt, setTV, setT, asBool, isTy, isTyD, cmV, dicOf, peek, peeks, cmD, biV, biD, idxV, idxD, slcV, slcD, mtV, mtApp, mtPure, mtTyp, mtD, opD, take, takes, keepS, runF, noX, twoD]
  | lst ds => simp [d_law_is_two, evSs, evS, evE, evEs, evO, evC, evI, R.opt, RS.opt, setTV, setT, asBool, isTy, isTyD, cmV, dicOf, peek, peeks, cmD, biV, biD, idxV, idxD, slcV, slcD, mtV, mtApp, mtPure, mtTyp, mtD, opD, take, takes, keepS, runF, noX, twoD]
  | tup1 _ => simp [d_law_is_two, evSs, evS, evE, evEs, evO, evC, evI, R.opt, RS.opt, setTV, setT, asBool, isTy, isTyD, cmV, dicOf, peek, peeks, cmD, biV, biD, idxV, idxD, slcV, slcD, mtV, mtApp, mtPure, mtTyp, mtD, opD, take, takes, keepS, runF, noX, twoD, eqD, dep]
  | tupI i => simp [d_law_is_two, evSs, evS, evE, evEs, evO, evC, evI, R.opt, RS.opt, setTV, setT, asBool, isTy, isTyD, cmV, dicOf, peek, peeks, cmD, biV, biD, idxV, idxD, slcV, slcD, mtV, mtApp, mtPure, mtTyp, mtD, opD, take, takes, keepS, runF, noX, twoD, eqD, dep]
  | tup2 _ _ => simp [d_law_is_two, evSs, evS, evE, evEs, evO, evC, evI, R.opt, RS.opt, setTV, setT, asBool, isTy, isTyD, cmV, dicOf, peek, peeks, cmD, biV, biD, idxV, idxD, slcV, slcD, mtV, mtApp, mtPure, mtTyp, mtD, opD, take, takes, keepS, runF, noX, twoD, eqD, dep]
  | @tup3 t u v ht hu hv =>
    by_cases h0 : t = two
    · subst h0
      have h1 := two_in (UN (n + 1)) (some (.d (.tup [.str a, .str b]))) (some (.d (.tup [.str two, .str u, .str v]))) hu S
      have h2 := two_in (UN (n + 1)) (some (.d (.tup [.str a, .str b]))) (some (.d (.tup [.str two, .str u, .str v]))) hv S
      have hi : evI (UN (n + 1)) (.val (.slc (.var 1) (.yes (.lit (.int 1))) .no)) [some (.d (.tup [.str a, .str b])), some (.d (.tup [.str two, .str u, .str v])), none, none] S = .ok (.items [.str u, .str v]) S := by
        simp [evSs, evS, evE, evEs, evO, evC, evI, R.opt, RS.opt, setTV, setT, asBool, isTy, isTyD, cmV, dicOf, peek, peeks, cmD, biV, biD, idxV, idxD, slcV, slcD, mtV, mtApp, mtPure, mtTyp, mtD, opD, take, takes, keepS, runF, noX, seqD, cut_tail]
      have s1 : evS (UN (n + 1)) (.ife (.or (.not (.isi (.var 1) .tup)) (.or (.cmp .ne (.bi .len (.cons (.var 1) .nil)) (.lit (.int 3))) (.cmp .ne (.idx (.var 1) (.lit (.int 0))) (.lit (.str [116, 119, 111]))))) (.cons (.ret (.lit (.bl false))) .nil) .nil) [some (.d (.tup [.str a, .str b])), some (.d (.tup [.str two, .str u, .str v])), none, none] S = .nx [some (.d (.tup [.str a, .str b])), some (.d (.tup [.str two, .str u, .str v])), none, none] S := by
        simp [evSs, evS, evE, evEs, evO, evC, evI, R.opt, RS.opt, setTV, setT, asBool, isTy, isTyD, cmV, dicOf, peek, peeks, cmD, biV, biD, idxV, idxD, slcV, slcD, mtV, mtApp, mtPure, mtTyp, mtD, opD, take, takes, keepS, runF, noX, eqD, dep, ixI, two]
      have la := h.la
      have lb := h.lb
      by_cases hu1 : isLet u 12 = true
      · by_cases hv1 : isLet v 12 = true
        · rw [if_pos hu1] at h1
          rw [if_pos hv1] at h2
          have s2 := (ev_for (t := .nm 2) (b := f_law_is_two_2) hi).trans (forGo_two rfl h1 rfl h2)
          obtain ⟨u1, u2⟩ := let_ok hu1
          obtain ⟨v1, v2⟩ := let_ok hv1
          have p1 : u.length * (a.length + b.length) ≤ 12 * 8 := Nat.mul_le_mul u2 (by omega)
          have p2 : v.length * (a.length + b.length) ≤ 12 * 8 := Nat.mul_le_mul v2 (by omega)
          have e3 := c_lawimg n a b u S u1 (by rw [lim_val]; omega) (by rw [lim_val]; omega)
          have e4 := c_lawimg n a b v S v1 (by rw [lim_val]; omega) (by rw [lim_val]; omega)
          have s3 : evS (UN (n + 1)) (.ret (.and (.cmp .ne (.idx (.var 1) (.lit (.int 1))) (.idx (.var 1) (.lit (.int 2)))) (.cmp .eq (.call 22 "_law_image" (.cons (.var 0) (.cons (.idx (.var 1) (.lit (.int 1))) .nil))) (.call 22 "_law_image" (.cons (.var 0) (.cons (.idx (.var 1) (.lit (.int 2))) .nil)))))) [some (.d (.tup [.str a, .str b])), some (.d (.tup [.str two, .str u, .str v])), some (.d (.str v)), none] S = .ret (.d (.bl (twoD a b (.tup [.str two, .str u, .str v])))) S := by
            refine ev_ret ?_
            by_cases huv : u = v
            · simp [evSs, evS, evE, evEs, evO, evC, evI, R.opt, RS.opt, setTV, setT, asBool, isTy, isTyD, cmV, dicOf, peek, peeks, cmD, biV, biD, idxV, idxD, slcV, slcD, mtV, mtApp, mtPure, mtTyp, mtD, opD, take, takes, keepS, runF, noX, eqD, dep, ixI, e3, e4, twoD, huv]
            · simp [evSs, evS, evE, evEs, evO, evC, evI, R.opt, RS.opt, setTV, setT, asBool, isTy, isTyD, cmV, dicOf, peek, peeks, cmD, biV, biD, idxV, idxD, slcV, slcD, mtV, mtApp, mtPure, mtTyp, mtD, opD, take, takes, keepS, runF, noX, eqD, dep, ixI, e3, e4, twoD, huv, hu1, hv1]
          exact run_d rfl ((evSs_cons s1).trans ((evSs_cons s2).trans (evSs_ret s3))) (by simp)
        · rw [if_pos hu1] at h1
          rw [if_neg hv1] at h2
          have s2 : evS (UN (n + 1)) (.for_ (.nm 2) (.val (.slc (.var 1) (.yes (.lit (.int 1))) .no)) f_law_is_two_2) [some (.d (.tup [.str a, .str b])), some (.d (.tup [.str two, .str u, .str v])), none, none] S = .ret (.d (.bl false)) S := by
            rw [ev_for hi]
            simp only [forGo]
            show (match evSs (UN (n + 1)) f_law_is_two_2 [some (.d (.tup [.str a, .str b])), some (.d (.tup [.str two, .str u, .str v])), some (.d (.str u)), none] S with | .nx l2 S2 => _ | .ct l2 S2 => _ | .bk l2 S2 => _ | r => r) = _
            rw [h1]
            show (match evSs (UN (n + 1)) f_law_is_two_2 [some (.d (.tup [.str a, .str b])), some (.d (.tup [.str two, .str u, .str v])), some (.d (.str v)), none] S with | .nx l2 S2 => _ | .ct l2 S2 => _ | .bk l2 S2 => _ | r => r) = _
            rw [h2]
          have hz : twoD a b (.tup [.str two, .str u, .str v]) = false := by simp [twoD, hv1]
          rw [hz]
          exact run_d rfl ((evSs_cons s1).trans (evSs_ret s2)) (by simp)
      · rw [if_neg hu1] at h1
        have s2 : evS (UN (n + 1)) (.for_ (.nm 2) (.val (.slc (.var 1) (.yes (.lit (.int 1))) .no)) f_law_is_two_2) [some (.d (.tup [.str a, .str b])), some (.d (.tup [.str two, .str u, .str v])), none, none] S = .ret (.d (.bl false)) S := by
          rw [ev_for hi]
          simp only [forGo]
          show (match evSs (UN (n + 1)) f_law_is_two_2 [some (.d (.tup [.str a, .str b])), some (.d (.tup [.str two, .str u, .str v])), some (.d (.str u)), none] S with | .nx l2 S2 => _ | .ct l2 S2 => _ | .bk l2 S2 => _ | r => r) = _
          rw [h1]
        have hz : twoD a b (.tup [.str two, .str u, .str v]) = false := by simp [twoD, hu1]
        rw [hz]
        exact run_d rfl ((evSs_cons s1).trans (evSs_ret s2)) (by simp)
    · have hne : ¬ t = [116, 119, 111] := h0
      have hz : twoD a b (.tup [.str t, .str u, .str v]) = false := by simp [twoD, h0]
      rw [hz]
      simp [d_law_is_two, evSs, evS, evE, evEs, evO, evC, evI, R.opt, RS.opt, setTV, setT, asBool, isTy, isTyD, cmV, dicOf, peek, peeks, cmD, biV, biD, idxV, idxD, slcV, slcD, mtV, mtApp, mtPure, mtTyp, mtD, opD, take, takes, keepS, runF, noX, eqD, dep, ixI, hne]
end K66
end

section
set_option Elab.async false
set_option linter.all false
set_option maxRecDepth 100000
set_option maxHeartbeats 4000000
namespace K66
open PySem EV
def isSure (a b : List Nat) : Bool := decide (a ≠ []) && (decide (b ≠ []) && decide (a ++ b ≠ b ++ a))
theorem sure_eq (a b : List Nat) : eqD (sureD a b) (.tup [.str sure]) = isSure a b := by
  unfold sureD isSure
  by_cases ha : a = []
  · simp [ha, eqD, eqDs, sure]
  · by_cases hb : b = []
    · simp [ha, hb, eqD, eqDs, sure]
    · by_cases hab : a ++ b = b ++ a
      · simp [ha, hb, hab, eqD, eqDs, sure]
      · simp [ha, hb, hab, eqD, eqDs, sure]
theorem sureD_dep (a b : List Nat) : dep (sureD a b) = 1 := by
  unfold sureD
  split
  · rfl
  · split
    · rfl
    · split <;> rfl
def isD (a b : List Nat) : D → Bool
  | .tup [.str s] => (s == sure) && isSure a b
  | x => twoD a b x
theorem str_comp (V : EV.Env) (c : Option Vl) (ds : List D) (hl : ds.length ≤ 1000) (S : Sto) : evE V x_is_sure_told_2 [c, some (.d (.tup ds)), none] S = .ok (.d (.lst (ds.map fun d => .bl (isTyD .str d)))) S := by
  refine ev_comp_map (ds := ds) (fun d => .bl (isTyD .str d)) rfl (fun x hx => ⟨_, rfl, ?_⟩) (by rw [lim_val]; omega)
  simp [x_is_sure_told_2e, evE, wipeL, isTy]
theorem str_all (ds : List D) : biD .all [.lst (ds.map fun d => D.bl (isTyD .str d))] = some (.bl (ds.all (isTyD .str))) := by
  show (bitsOf (ds.map fun d => D.bl (isTyD .str d))).map (fun bs => D.bl (bs.all id)) = _
  rw [bitsOf_fn']
  simp [List.all_map, Function.comp_def]
theorem let_comp (n : Nat) (c : Option Vl) {t u v : List Nat} (hu : u.length ≤ 1000) (hv : v.length ≤ 1000) (S : Sto) : evE (UN (n + 1)) x_is_sure_told_1 [c, some (.d (.tup [.str t, .str u, .str v])), none] S = .ok (.d (.lst [.bl (isLet u 12), .bl (isLet v 12)])) S := by
  refine (ev_comp_map (ds := [.str u, .str v]) (fun d => .bl (isLetD d 12)) ?_ (fun x hx => ⟨_, rfl, ?_⟩) (by show 2 ≤ lim; rw [lim_val]; omega)).trans rfl
  · simp [evSs, evS, evE, evEs, evO, evC, evI, R.opt, RS.opt, setTV, setT, asBool, isTy, isTyD, cmV, dicOf, peek, peeks, cmD, biV, biD, idxV, idxD, slcV, slcD, mtV, mtApp, mtPure, mtTyp, mtD, opD, take, takes, keepS, runF, noX, seqD, cut_tail]
  · have hs : smallD x := by
      simp at hx
      rcases hx with rfl | rfl
      · show u.length ≤ lim; rw [lim_val]; omega
      · show v.length ≤ lim; rw [lim_val]; omega
    have e := c_letters n x 12 S hs
    simp [x_is_sure_told_1e, evE, evEs, wipeL, e]
theorem c_issure (n : Nat) {a b : List Nat} (h : Cod a b) {x : D} (hx : Sh x) (S : Sto) : CN (n + 4) 12 [.d (.tup [.str a, .str b]), .d x] S = .ok (.d (.bl (isD a b x))) S := by
  rw [cn_at (F := d_is_sure_told.fn) rfl]
  have e1 := c_chkC n h S
  have e2 := c_rawsure (n + 2) h S
  have s1 : ∀ x : D, evS (UN (n + 3)) (.ex (.call 4 "check_code" (.cons (.var 0) .nil))) [some (.d (.tup [.str a, .str b])), some (.d x), none] S = .nx [some (.d (.tup [.str a, .str b])), some (.d x), none] S := fun x => by simp [evS, evE, evEs, e1]
  have nt : ∀ x : D, isTyD .tup x = false → CN (n + 4) 12 [.d (.tup [.str a, .str b]), .d x] S = .ok (.d (.bl false)) S := fun x ht => by
    rw [cn_at (F := d_is_sure_told.fn) rfl]
    refine run_d rfl ((evSs_cons (s1 x)).trans (evSs_ret ((ev_if_t (ev_or_t (ev_not (r := false) ?_))).trans (evSs_ret (ev_ret ev_lit))))) (by simp)
    simp [evE, isTy, ht]
  -- a tuple: what the first look says
  have first : ∀ ds : List D, ds.length ≤ 1000 → evE (UN (n + 3)) (.or (.not (.isi (.var 1) .tup)) (.not (.bi .all (.cons x_is_sure_told_2 .nil)))) [some (.d (.tup [.str a, .str b])), some (.d (.tup ds)), none] S = .ok (.d (.bl (!(ds.all (isTyD .str))))) S := fun ds hl => by
    refine ev_or_f (ev_not (r := true) ?_) (ev_not (ev_bi1 (str_comp _ _ ds hl S) (str_all ds)))
    simp [evE, isTy, isTyD]
  have eqS : ∀ ds : List D, evE (UN (n + 3)) (.cmp .eq (.var 1) (.tup (.cons (.glob "SURE" (.d (.str [115, 117, 114, 101]))) .nil))) [some (.d (.tup [.str a, .str b])), some (.d (.tup ds)), none] S = .ok (.d (.bl (eqDs ds [.str sure]))) S := fun ds => by
    refine ev_cmp (x := .tup ds) (y := .tup [.str sure]) (S1 := S) (ev_var rfl) ?_ ?_
    · simp [evE, evEs, takes, take, sure]
    · show (if min (dep (.tup ds)) (dep (.tup [.str sure])) ≤ 60 then some (eqD (.tup ds) (.tup [.str sure])) else none) = _
      rw [if_pos (Nat.le_trans (Nat.min_le_right _ _) (by decide))]
      simp only [eqD]
  -- all are texts, not ('sure',), not three of them
  have short : ∀ ds : List D, ds.length ≤ 1000 → ds.all (isTyD .str) = true → eqDs ds [.str sure] = false → ds.length ≠ 3 → CN (n + 4) 12 [.d (.tup [.str a, .str b]), .d (.tup ds)] S = .ok (.d (.bl false)) S := fun ds hl h1 h2 h3 => by
    rw [cn_at (F := d_is_sure_told.fn) rfl]
    have f := first ds hl
    rw [h1] at f
    have g := eqS ds
    rw [h2] at g
    have k : evE (UN (n + 3)) (.cmp .ne (.bi .len (.cons (.var 1) .nil)) (.lit (.int 3))) [some (.d (.tup [.str a, .str b])), some (.d (.tup ds)), none] S = .ok (.d (.bl true)) S := by
      refine ev_cmp (x := .int ds.length) (y := .int 3) (ev_bi1 (ev_var rfl) rfl) ev_lit ?_
      show (if min 0 0 ≤ 60 then some (!((ds.length : Int) == 3)) else none) = _
      rw [if_pos (by decide)]
      congr 1
      rw [Bool.not_eq_true', beq_eq_false_iff_ne]
      omega
    exact run_d rfl ((evSs_cons (s1 _)).trans ((evSs_cons ((ev_if_f f).trans rfl)).trans ((evSs_cons ((ev_if_f g).trans rfl)).trans (evSs_ret ((ev_if_t (ev_or_t k)).trans (evSs_ret (ev_ret ev_lit))))))) (by simp)
  rw [← cn_at (n := n + 3) (f := 12) (F := d_is_sure_told.fn) rfl]
  cases hx with
  | non => exact nt _ rfl
  | tup0 => exact short [] (by simp) rfl rfl (by simp)
  | str s => exact nt _ rfl
  | lst ds => exact nt _ rfl
  | @tup1 s hs =>
    by_cases e : s = sure
    · subst e
      rw [cn_at (F := d_is_sure_told.fn) rfl]
      have f := first [.str sure] (by simp)
      have g := eqS [.str sure]
      have g : evE (UN (n + 3)) (.cmp .eq (.var 1) (.tup (.cons (.glob "SURE" (.d (.str [115, 117, 114, 101]))) .nil))) [some (.d (.tup [.str a, .str b])), some (.d (.tup [.str sure])), none] S = .ok (.d (.bl true)) S := g
      have r : evE (UN (n + 3)) (.cmp .eq (.call 10 "raw_sure" (.cons (.var 0) .nil)) (.tup (.cons (.glob "SURE" (.d (.str [115, 117, 114, 101]))) .nil))) [some (.d (.tup [.str a, .str b])), some (.d (.tup [.str sure])), none] S = .ok (.d (.bl (isSure a b))) S := by
        refine ev_cmp (x := sureD a b) (y := .tup [.str sure]) (S1 := S) ?_ ?_ ?_
        · simp [evE, evEs, e2]
        · simp [evE, evEs, takes, take, sure]
        · show (if min (dep (sureD a b)) (dep (.tup [.str sure])) ≤ 60 then some (eqD (sureD a b) (.tup [.str sure])) else none) = _
          rw [if_pos (Nat.le_trans (Nat.min_le_right _ _) (by decide)), sure_eq]
      have e : isD a b (.tup [.str sure]) = isSure a b := by simp [isD]
      rw [e]
      exact run_d rfl ((evSs_cons (s1 _)).trans ((evSs_cons ((ev_if_f f).trans rfl)).trans (evSs_ret ((ev_if_t g).trans (evSs_ret (ev_ret r)))))) (by simp)
    · have e' : isD a b (.tup [.str s]) = false := by simp [isD, e]
      rw [e']
      exact short [.str s] (by simp) rfl (by simp [eqDs, eqD, e]) (by simp)
  | @tupI s i =>
    rw [cn_at (F := d_is_sure_told.fn) rfl]
    have f := first [.str s, .int i] (by simp)
    exact run_d rfl ((evSs_cons (s1 _)).trans (evSs_ret ((ev_if_t f).trans (evSs_ret (ev_ret ev_lit))))) (by simp)
  | @tup2 s t hs ht => exact short [.str s, .str t] (by simp) rfl (by simp [eqDs]) (by simp)
  | @tup3 t u v ht hu hv =>
    rw [cn_at (F := d_is_sure_told.fn) rfl]
    have f := first [.str t, .str u, .str v] (by simp)
    have g := eqS [.str t, .str u, .str v]
    have g : evE (UN (n + 3)) (.cmp .eq (.var 1) (.tup (.cons (.glob "SURE" (.d (.str [115, 117, 114, 101]))) .nil))) [some (.d (.tup [.str a, .str b])), some (.d (.tup [.str t, .str u, .str v])), none] S = .ok (.d (.bl false)) S := by
      refine g.trans ?_
      simp [eqDs]
    have k3 : evE (UN (n + 3)) (.cmp .ne (.bi .len (.cons (.var 1) .nil)) (.lit (.int 3))) [some (.d (.tup [.str a, .str b])), some (.d (.tup [.str t, .str u, .str v])), none] S = .ok (.d (.bl false)) S := by simp [evSs, evS, evE, evEs, evO, evC, evI, R.opt, RS.opt, setTV, setT, asBool, isTy, isTyD, cmV, dicOf, peek, peeks, cmD, biV, biD, idxV, idxD, slcV, slcD, mtV, mtApp, mtPure, mtTyp, mtD, opD, take, takes, keepS, runF, noX, eqD, dep]
    have lc := let_comp (n + 2) (some (.d (.tup [.str a, .str b]))) (t := t) hu hv S
    have la : evE (UN (n + 3)) (.not (.bi .all (.cons x_is_sure_told_1 .nil))) [some (.d (.tup [.str a, .str b])), some (.d (.tup [.str t, .str u, .str v])), none] S = .ok (.d (.bl (!(isLet u 12 && isLet v 12)))) S := ev_not (ev_bi1 lc (by simp [biD, bitsOf]))
    show _ = EV.R.ok (Vl.d (.bl (twoD a b (.tup [.str t, .str u, .str v])))) S
    by_cases ht2 : t = two
    · have kt : evE (UN (n + 3)) (.cmp .ne (.idx (.var 1) (.lit (.int 0))) (.glob "TWO" (.d (.str [116, 119, 111])))) [some (.d (.tup [.str a, .str b])), some (.d (.tup [.str t, .str u, .str v])), none] S = .ok (.d (.bl false)) S := by
        subst ht2
        simp [evSs, evS, evE, evEs, evO, evC, evI, R.opt, RS.opt, setTV, setT, asBool, isTy, isTyD, cmV, dicOf, peek, peeks, cmD, biV, biD, idxV, idxD, slcV, slcD, mtV, mtApp, mtPure, mtTyp, mtD, opD, take, takes, keepS, runF, noX, eqD, dep, ixI, two]
      have c4 := ev_or_f k3 (ev_or_f kt la)
      by_cases hl : (isLet u 12 && isLet v 12) = true
      · rw [hl] at c4
        rw [Bool.and_eq_true] at hl
        obtain ⟨u1, u2⟩ := let_ok hl.1
        obtain ⟨v1, v2⟩ := let_ok hl.2
        have lA := h.la
        have lB := h.lb
        have p1 : u.length * (a.length + b.length) ≤ 12 * 8 := Nat.mul_le_mul u2 (by omega)
        have p2 : v.length * (a.length + b.length) ≤ 12 * 8 := Nat.mul_le_mul v2 (by omega)
        have e3 := c_rawimg (n + 2) a b u S u1 (by rw [lim_val]; omega) (by rw [lim_val]; omega)
        have e4 := c_rawimg (n + 2) a b v S v1 (by rw [lim_val]; omega) (by rw [lim_val]; omega)
        have s5 : evS (UN (n + 3)) (.ret (.and (.cmp .ne (.idx (.var 1) (.lit (.int 1))) (.idx (.var 1) (.lit (.int 2)))) (.cmp .eq (.call 5 "raw_image" (.cons (.var 0) (.cons (.idx (.var 1) (.lit (.int 1))) .nil))) (.call 5 "raw_image" (.cons (.var 0) (.cons (.idx (.var 1) (.lit (.int 2))) .nil)))))) [some (.d (.tup [.str a, .str b])), some (.d (.tup [.str t, .str u, .str v])), none] S = .ret (.d (.bl (twoD a b (.tup [.str t, .str u, .str v])))) S := by
          refine ev_ret ?_
          by_cases huv : u = v
          · simp [evSs, evS, evE, evEs, evO, evC, evI, R.opt, RS.opt, setTV, setT, asBool, isTy, isTyD, cmV, dicOf, peek, peeks, cmD, biV, biD, idxV, idxD, slcV, slcD, mtV, mtApp, mtPure, mtTyp, mtD, opD, take, takes, keepS, runF, noX, eqD, dep, ixI, e3, e4, twoD, huv]
          · simp [evSs, evS, evE, evEs, evO, evC, evI, R.opt, RS.opt, setTV, setT, asBool, isTy, isTyD, cmV, dicOf, peek, peeks, cmD, biV, biD, idxV, idxD, slcV, slcD, mtV, mtApp, mtPure, mtTyp, mtD, opD, take, takes, keepS, runF, noX, eqD, dep, ixI, e3, e4, twoD, huv, hl.1, hl.2, ht2]
        exact run_d rfl ((evSs_cons (s1 _)).trans ((evSs_cons ((ev_if_f f).trans rfl)).trans ((evSs_cons ((ev_if_f g).trans rfl)).trans ((evSs_cons ((ev_if_f c4).trans rfl)).trans (evSs_ret s5))))) (by simp)
      · have hl' : (isLet u 12 && isLet v 12) = false := by simpa using hl
        rw [hl'] at c4
        have hz : twoD a b (.tup [.str t, .str u, .str v]) = false := by simp only [twoD, hl', Bool.and_false, Bool.false_and]
        rw [hz]
        exact run_d rfl ((evSs_cons (s1 _)).trans ((evSs_cons ((ev_if_f f).trans rfl)).trans ((evSs_cons ((ev_if_f g).trans rfl)).trans (evSs_ret ((ev_if_t c4).trans (evSs_ret (ev_ret ev_lit))))))) (by simp)
    · have kt : evE (UN (n + 3)) (.cmp .ne (.idx (.var 1) (.lit (.int 0))) (.glob "TWO" (.d (.str [116, 119, 111])))) [some (.d (.tup [.str a, .str b])), some (.d (.tup [.str t, .str u, .str v])), none] S = .ok (.d (.bl true)) S := by
        have hne : ¬ t = [116, 119, 111] := ht2
        simp [evSs, evS, evE, evEs, evO, evC, evI, R.opt, RS.opt, setTV, setT, asBool, isTy, isTyD, cmV, dicOf, peek, peeks, cmD, biV, biD, idxV, idxD, slcV, slcD, mtV, mtApp, mtPure, mtTyp, mtD, opD, take, takes, keepS, runF, noX, eqD, dep, ixI, hne]
      have hz : twoD a b (.tup [.str t, .str u, .str v]) = false := by simp [twoD, ht2]
      rw [hz]
      exact run_d rfl ((evSs_cons (s1 _)).trans ((evSs_cons ((ev_if_f f).trans rfl)).trans ((evSs_cons ((ev_if_f g).trans rfl)).trans (evSs_ret ((ev_if_t (ev_or_f k3 (ev_or_t kt))).trans (evSs_ret (ev_ret ev_lit))))))) (by simp)
end K66
end

section
set_option Elab.async false
set_option linter.all false
set_option maxRecDepth 100000
set_option maxHeartbeats 4000000
namespace K66
open PySem EV
def noCode : List Nat := [33, 78, 111, 67, 111, 100, 101]
def noWord : List Nat := [33, 78, 111, 87, 111, 114, 100]
theorem ev_callv {V : EV.Env} {l : EV.Loc} {S : Sto} {fl : Nat} {cs : List Vl} (h : l[0]? = some (some (.clo fl cs))) : evE V (.callv 0 .nil) l S = V.cf fl cs S := by
  simp only [evE, h, evEs, R.bind_ok, List.all_nil, if_true, List.append_nil]
theorem c_wordOk (n : Nat) {fl : Nat} {cs : List Vl} {x : D} {S : Sto} (h : CN n fl cs S = .ok (.d x) S) : CN (n + 1) 20 [.clo fl cs] S = .ok (.d x) S := by
  rw [cn_at (F := d_law_word.fn) rfl]
  have e : evE (UN n) (.callv 0 .nil) [some (.clo fl cs), some (.d (.str [33, 111, 116, 104, 101, 114])), none, none] S = .ok (.d x) S := (ev_callv rfl).trans h
  have b : evSs (UN n) (.cons (.asg (.nm 1) (.callv 0 .nil)) .nil) [some (.clo fl cs), some (.d (.str [33, 111, 116, 104, 101, 114])), none, none] S = .nx [some (.clo fl cs), some (.d x), none, none] S := evSs_cons (ev_asgD e)
  refine run_d (S' := S) rfl ((evSs_cons (ev_asgD ev_lit)).trans ((evSs_cons (l1 := [some (.clo fl cs), some (.d x), none, none]) (S1 := S) ?_).trans (evSs_ret (ev_ret (ev_var rfl))))) (by simp)
  show evS (UN n) (.try_ (.cons (.asg (.nm 1) (.callv 0 .nil)) .nil) 0 "SayError" 2 _) [some (.clo fl cs), some (.d (.str [33, 111, 116, 104, 101, 114])), none, none] S = _
  simp only [evS, b]
theorem c_wordExc (n : Nat) {fl k : Nat} {cs : List Vl} {S : Sto} (hk : k = 1 ∨ k = 2) (h : CN n fl cs S = .exc k [] S) : CN (n + 1) 20 [.clo fl cs] S = .ok (.d (.str (if k = 2 then noCode else noWord))) S := by
  rw [cn_at (F := d_law_word.fn) rfl]
  have e : evE (UN n) (.callv 0 .nil) [some (.clo fl cs), some (.d (.str [33, 111, 116, 104, 101, 114])), none, none] S = .exc k [] S := (ev_callv rfl).trans h
  have b : evSs (UN n) (.cons (.asg (.nm 1) (.callv 0 .nil)) .nil) [some (.clo fl cs), some (.d (.str [33, 111, 116, 104, 101, 114])), none, none] S = .exc k [] [some (.clo fl cs), some (.d (.str [33, 111, 116, 104, 101, 114])), none, none] S := by
    simp only [evSs, evS, e, R.st_exc]
  have s0 : T.sub 1 0 = some true := by decide +kernel
  have s1 : T.sub 2 0 = some true := by decide +kernel
  have s2 : T.sub 1 2 = some false := by decide +kernel
  have s3 : T.sub 1 1 = some true := by decide +kernel
  have s4 : T.sub 2 2 = some true := by decide +kernel
  have s5 : T.sub 2 1 = some false := by decide +kernel
  have s6 : T.sub 1 3 = some true := by decide +kernel
  have s7 : T.sub 2 3 = some true := by decide +kernel
  rcases hk with rfl | rfl
  · refine run_d (S' := S) rfl ((evSs_cons (ev_asgD ev_lit)).trans ((evSs_cons (l1 := [some (.clo fl cs), some (.d (.str noWord)), none, some (.d (.lst [.bl false, .bl true]))]) (S1 := S) ?_).trans (evSs_ret (ev_ret (ev_var rfl))))) (by simp)
    show evS (UN n) (.try_ (.cons (.asg (.nm 1) (.callv 0 .nil)) .nil) 0 "SayError" 2 _) [some (.clo fl cs), some (.d (.str [33, 111, 116, 104, 101, 114])), none, none] S = _
    simp only [evS, b, s0]
    simp [evSs, evS, evE, evEs, evO, evC, evI, R.opt, RS.opt, setTV, setT, asBool, isTy, isTyD, cmV, dicOf, peek, peeks, cmD, biV, biD, idxV, idxD, slcV, slcD, mtV, mtApp, mtPure, mtTyp, mtD, opD, take, takes, keepS, runF, noX, s2, s3, s6, eqD, dep, ixI, noXl, noX, List.findIdx?_cons, noWord]
  · refine run_d (S' := S) rfl ((evSs_cons (ev_asgD ev_lit)).trans ((evSs_cons (l1 := [some (.clo fl cs), some (.d (.str noCode)), none, some (.d (.lst [.bl true, .bl false]))]) (S1 := S) ?_).trans (evSs_ret (ev_ret (ev_var rfl))))) (by simp)
    show evS (UN n) (.try_ (.cons (.asg (.nm 1) (.callv 0 .nil)) .nil) 0 "SayError" 2 _) [some (.clo fl cs), some (.d (.str [33, 111, 116, 104, 101, 114])), none, none] S = _
    simp only [evS, b, s1]
    simp [evSs, evS, evE, evEs, evO, evC, evI, R.opt, RS.opt, setTV, setT, asBool, isTy, isTyD, cmV, dicOf, peek, peeks, cmD, biV, biD, idxV, idxD, slcV, slcD, mtV, mtApp, mtPure, mtTyp, mtD, opD, take, takes, keepS, runF, noX, s4, s5, s7, eqD, dep, ixI, noXl, noX, List.findIdx?_cons, noCode]
/-! ### lambdas -/
theorem run_lamD {V : EV.Env} {F : Fn} {vs : List Vl} {S : Sto} {e : LE} {x : D} (h0 : vs.length = F.np) (hb : F.body = .cons (.ret e) .nil) (h : evE V e (vs.map some ++ List.replicate (F.nl - F.np) none) S = .ok (.d x) S) : runF V F vs S = .ok (.d x) S := by
  refine run_d h0 (S' := S) ?_ (by simp)
  rw [hb]
  exact evSs_ret (ev_ret h)
theorem run_lamX {V : EV.Env} {F : Fn} {vs : List Vl} {S : Sto} {e : LE} {k : Nat} (h0 : vs.length = F.np) (hb : F.body = .cons (.ret e) .nil) (h : evE V e (vs.map some ++ List.replicate (F.nl - F.np) none) S = .exc k [] S) : runF V F vs S = .exc k [] S := by
  unfold runF
  rw [if_pos h0, hb]
  simp only [evSs, evS, h, R.st_exc]
  simp
theorem ev_call2 {V : EV.Env} {f : Nat} {x : String} {a b : LE} {l : EV.Loc} {S : Sto} {u v : Vl} (h1 : evE V a l S = .ok u S) (h2 : evE V b l S = .ok v S) : evE V (.call f x (.cons a (.cons b .nil))) l S = V.cf f [u, v] S := by
  simp only [evE, evEs, h1, h2, R.bind_ok]
theorem ev_call1 {V : EV.Env} {f : Nat} {x : String} {a : LE} {l : EV.Loc} {S S1 : Sto} {u : Vl} (h1 : evE V a l S = .ok u S1) : evE V (.call f x (.cons a .nil)) l S = V.cf f [u] S1 := by
  simp only [evE, evEs, h1, R.bind_ok]
theorem ev_tup2 {V : EV.Env} {a b : LE} {l : EV.Loc} {S S1 S2 : Sto} {x y : D} (h1 : evE V a l S = .ok (.d x) S1) (h2 : evE V b l S1 = .ok (.d y) S2) : evE V (.tup (.cons a (.cons b .nil))) l S = .ok (.d (.tup [x, y])) S2 := by
  simp only [evE, evEs, h1, h2, R.bind_ok, takes, take, R.opt_some]
theorem ev_lst2 {V : EV.Env} {a b : LE} {l : EV.Loc} {S S1 S2 : Sto} {x y : D} (h1 : evE V a l S = .ok (.d x) S1) (h2 : evE V b l S1 = .ok (.d y) S2) : evE V (.lst (.cons a (.cons b .nil))) l S = .ok (.d (.lst [x, y])) S2 := by
  simp only [evE, evEs, h1, h2, R.bind_ok, takes, take, R.opt_some]
/-! ### words drawn -/
theorem ev_join {V : EV.Env} {e : LE} {l : EV.Loc} {S S1 : Sto} {ws : List (List Nat)} (h : evE V e l S = .ok (.d (.lst (ws.map .str))) S1) (hl : (ws.map List.length).sum ≤ lim) : evE V (.mt .join (.lit (.str [])) (.cons e .nil)) l S = .ok (.d (.str ws.flatten)) S1 := by
  have hj : mtD .join (.str []) [.lst (ws.map .str)] = some (.str ws.flatten) := by
    show ((strsOf (ws.map .str)).bind fun ss => if (ss.map List.length).sum + ss.length * ([] : List Nat).length ≤ lim then some (D.str (joinS [] ss)) else none) = _
    rw [strsOf_map, Option.bind_some, if_pos (by simpa using hl), joinS_nil]
  have ty : isTy (mtTyp .join) (.d (.str [])) S = some true := rfl
  simp only [evE, R.bind_ok, ty, if_true, evEs, h, mtV, mtPure, peek, peeks, hj, R.opt_some]
theorem letters_of {ys : List D} (h : ∀ y ∈ ys, ∃ c, isC c = true ∧ y = .str [c]) : ∃ w : List Nat, okW w ∧ w.length = ys.length ∧ ys = (w.map fun c => [c]).map .str := by
  induction ys with
  | nil => exact ⟨[], (fun c hc => by cases hc), rfl, rfl⟩
  | cons y ys ih =>
    obtain ⟨c, hc, rfl⟩ := h y List.mem_cons_self
    obtain ⟨w, h1, h2, h3⟩ := ih fun z hz => h z (List.mem_cons_of_mem _ hz)
    refine ⟨c :: w, fun d hd => ?_, by simp [h2], by simp [← h3]⟩
    rcases List.mem_cons.mp hd with rfl | hd
    · exact hc
    · exact h1 d hd
theorem flat_one (w : List Nat) : (w.map fun c => [c]).flatten = w := by
  induction w with
  | nil => rfl
  | cons c w ih => simp [ih]
theorem sum_one (w : List Nat) : ((w.map fun c => [c]).map List.length).sum = w.length := by
  induction w with
  | nil => rfl
  | cons c w ih => simp at ih ⊢; omega
theorem word_draw (n : Nat) {l : EV.Loc} {s r m : Nat} {S : Sto} {hd : List D} (hl : l[0]? = some (some (.ref r))) (hs : s ≠ 0) (hr : (S : List Cell)[r]? = some (.lst hd)) (hH : Hd hd) (hm : 1 ≤ m) (hm2 : m ≤ 100) :
    ∃ w hd', okW w ∧ w.length < m ∧ Hd hd' ∧ evE (UN (n + 2)) (.mt .join (.lit (.str [])) (.cons (.comp (.call 18 "_law_any" (.cons (.var 0) (.cons (.lst (.cons (.lit (.str [97])) (.cons (.lit (.str [98])) .nil))) .nil))) (.rng1 (.call 17 "_law_draw" (.cons (.var 0) (.cons (.lit (.int m)) .nil)))) (.nm s) .no [s]) .nil)) l S = .ok (.d (.str w)) (S.set r (.lst hd')) := by
  have hlt := (List.getElem?_eq_some_iff.mp hr).1
  obtain ⟨d, hd1, d1, d2, H1, dr⟩ := c_draw (n + 1) (many := m) hr hH (by omega) (by omega)
  have hd0 : evE (UN (n + 2)) (.call 17 "_law_draw" (.cons (.var 0) (.cons (.lit (.int m)) .nil))) l S = .ok (.d (.int d)) (S.set r (.lst hd1)) := (ev_call2 (ev_var hl) ev_lit).trans dr
  have hw : wideI d = true := by
    unfold wideI
    rw [Bool.and_eq_true]
    exact ⟨decide_eq_true (by omega), decide_eq_true (by omega)⟩
  have hlen : (rangeD 0 d).length = d.toNat := by unfold rangeD; simp
  obtain ⟨ys, S', q1, q2, q3, hd2, H2, rfl⟩ := ev_comp_inv (V := UN (n + 2)) (elt := .call 18 "_law_any" (.cons (.var 0) (.cons (.lst (.cons (.lit (.str [97])) (.cons (.lit (.str [98])) .nil))) .nil))) (t := .nm s) (own := [s]) (I := fun S' => ∃ hd', Hd hd' ∧ S' = S.set r (.lst hd')) (P := fun y => ∃ c, isC c = true ∧ y = .str [c]) (ev_rng1 hd0 hw) ⟨hd1, H1, rfl⟩ (fun x hx S' hI => by
    obtain ⟨hd', H', rfl⟩ := hI
    have hr' : ((S.set r (.lst hd') : Sto) : List Cell)[r]? = some (.lst hd') := List.getElem?_set_self hlt
    obtain ⟨k, hk, hd'', H'', ha⟩ := c_any n (xs := [.str [97], .str [98]]) hr' H' (by simp) (by simp)
    rw [List.set_set] at ha
    have hl0 : ((wipeL l [s]).set s (some (.d x)))[0]? = some (some (.ref r)) := by
      simp only [wipeL]
      rw [List.getElem?_set_ne hs, List.getElem?_set_ne hs]
      exact hl
    refine ⟨(wipeL l [s]).set s (some (.d x)), [D.str [97], D.str [98]][k], S.set r (.lst hd''), rfl, (ev_call2 (ev_var hl0) (ev_lst2 ev_lit ev_lit)).trans ha, ⟨hd'', H'', rfl⟩, ?_⟩
    have hk2 : k < 2 := hk
    match k, hk2 with
    | 0, _ => exact ⟨97, rfl, rfl⟩
    | 1, _ => exact ⟨98, rfl, rfl⟩) (by rw [hlen, lim_val]; omega)
  obtain ⟨w, w1, w2, rfl⟩ := letters_of q3
  refine ⟨w, hd2, w1, by rw [w2, q2, hlen]; omega, H2, ?_⟩
  refine (ev_join q1 ?_).trans ?_
  · rw [sum_one, w2, q2, hlen, lim_val]; omega
  · rw [flat_one]
theorem ev_append2 {V : EV.Env} {i : Nat} {e : LE} {l : EV.Loc} {S S1 : Sto} {n : Nat} {ds0 ds : List D} {x : D} (hi : l[i]? = some (some (.ref n))) (hS : (S : List Cell)[n]? = some (.lst ds0)) (he : evE V e l S = .ok (.d x) S1) (hS1 : (S1 : List Cell)[n]? = some (.lst ds)) (hl : ds.length < lim) :
    evS V (.ex (.mt .append (.var i) (.cons e .nil))) l S = .nx l (S1.set n (.lst (ds ++ [x]))) := by
  have ty : isTy (mtTyp .append) (.ref n) S = some true := by
    show (match (S : List Cell)[n]? with
      | some (.lst _) => some (decide (Ty.lst = .lst))
      | some (.fzn _) => some (decide (Ty.lst = .lst))
      | some (.dic _) => some (decide (Ty.lst = .dic))
      | none => none) = some true
    rw [hS]; rfl
  simp only [evS, evE, evEs, hi, R.bind_ok, ty, if_true, he, mtV, mtApp, take, R.opt_some, hS1, if_pos hl, R.st_ok]
theorem c_lawcode (n : Nat) {r : Nat} {S : Sto} {hd : List D} (hr : (S : List Cell)[r]? = some (.lst hd)) (hH : Hd hd) : ∃ a b hd', Cod a b ∧ Hd hd' ∧ CN (n + 3) 21 [.ref r] S = .ok (.d (.tup [.str a, .str b])) (S.set r (.lst hd')) := by
  have hlt := (List.getElem?_eq_some_iff.mp hr).1
  have at_r : ∀ (hd' : List D) (c : Cell), ((S.set r (.lst hd') ++ [c] : Sto) : List Cell)[r]? = some (.lst hd') := fun hd' c => by
    rw [List.getElem?_append_left (by simpa using hlt)]; exact List.getElem?_set_self hlt
  have at_q : ∀ (hd' : List D) (c : Cell), ((S.set r (.lst hd') ++ [c] : Sto) : List Cell)[S.length]? = some c := fun hd' c => by
    have := get_last (S.set r (.lst hd')) c
    rwa [List.length_set] at this
  have set_r : ∀ (hd' hd'' : List D) (c : Cell), (S.set r (.lst hd') ++ [c] : Sto).set r (.lst hd'') = S.set r (.lst hd'') ++ [c] := fun hd' hd'' c => by
    rw [List.set_append_left _ _ (by simpa using hlt), List.set_set]
  have set_q : ∀ (hd' : List D) (c c' : Cell), (S.set r (.lst hd') ++ [c] : Sto).set S.length c' = S.set r (.lst hd') ++ [c'] := fun hd' c c' => by
    have := set_last (S.set r (.lst hd')) c c'
    rwa [List.length_set] at this
  have s0 : S.set r (.lst hd) = S := set_self hr
  have a1 : evS (UN (n + 2)) (.asg (.nm 1) (.thaw (.lst .nil))) [some (.ref r), none, none, none, none, none] S = .nx [some (.ref r), some (.ref S.length), none, none, none, none] (S.set r (.lst hd) ++ [.lst []]) := by
    rw [s0]
    simp [evSs, evS, evE, evEs, evO, evC, evI, R.opt, RS.opt, setTV, setT, asBool, isTy, isTyD, cmV, dicOf, peek, peeks, cmD, biV, biD, idxV, idxD, slcV, slcD, mtV, mtApp, mtPure, mtTyp, mtD, opD, take, takes, keepS, runF, noX]
  obtain ⟨l', S', f1, f2⟩ := forGo_inv (t := .nm 2) (b := evSs (UN (n + 2)) f_law_code_2) (xs := rangeD 0 2) (k := 0) (l := [some (.ref r), some (.ref S.length), none, none, none, none]) (S := S.set r (.lst hd) ++ [.lst []])
    (fun k l S' => ∃ (o2 : Option Vl) (hd' : List D) (ws : List (List Nat)), Hd hd' ∧ ws.length = k ∧ k ≤ 2 ∧ (∀ w ∈ ws, okW w ∧ w.length < 4) ∧ l = [some (.ref r), some (.ref S.length), o2, none, none, none] ∧ S' = S.set r (.lst hd') ++ [.lst (ws.map .str)])
    ⟨none, hd, [], hH, rfl, by omega, by simp, rfl, rfl⟩ (fun i x l S' hx hI => by
      obtain ⟨o2, hd', ws, H', e1, e2, e3, rfl, rfl⟩ := hI
      have hi : i < 2 := by
        have := (List.getElem?_eq_some_iff.mp hx).1
        simpa [rangeD] using this
      obtain ⟨w, hd'', w1, w2, H'', hj⟩ := word_draw n (l := [some (.ref r), some (.ref S.length), some (.d x), none, none, none]) (s := 5) (m := 4) (r := r) rfl (by decide) (at_r hd' (.lst (ws.map .str))) H' (by decide) (by decide)
      rw [set_r] at hj
      have ap := ev_append2 (V := UN (n + 2)) (i := 1) (l := [some (.ref r), some (.ref S.length), some (.d x), none, none, none]) rfl (at_q hd' (.lst (ws.map .str))) hj (at_q hd'' (.lst (ws.map .str))) (by rw [List.length_map, lim_val]; omega)
      rw [set_q] at ap
      refine ⟨_, _, _, rfl, evSs_cons ap, some (.d x), hd'', ws ++ [w], H'', by simp [e1], by omega, fun z hz => ?_, rfl, by simp⟩
      rcases List.mem_append.mp hz with hz | hz
      · exact e3 z hz
      · have : z = w := by simpa using hz
        subst this
        exact ⟨w1, w2⟩)
  obtain ⟨o2, hd1, ws, H1, e1, e2, e3, rfl, rfl⟩ := f2
  have a2 := (ev_for (t := .nm 2) (b := f_law_code_2) (ev_rng1 (V := UN (n + 2)) (l := [some (.ref r), some (.ref S.length), none, none, none, none]) (S := S.set r (.lst hd) ++ [.lst []]) (ev_lit (d := .int 2)) (by decide))).trans f1
  have hl2 : ws.length = 2 := e1.trans (by decide)
  obtain ⟨w0, w1, rfl⟩ : ∃ w0 w1, ws = [w0, w1] := by
    match ws, hl2 with
    | [x, y], _ => exact ⟨x, y, rfl⟩
  obtain ⟨o0, l0⟩ := e3 w0 (by simp)
  obtain ⟨o1, l1⟩ := e3 w1 (by simp)
  obtain ⟨k, hk, hd2, H2, ha⟩ := c_any n (xs := [.str [97], .str [97, 98], .str [98]]) (at_r hd1 (.lst ([w0, w1].map .str))) H1 (by simp) (by simp)
  rw [set_r] at ha
  obtain ⟨rt, hrt, hrt2, hrt3⟩ : ∃ rt : List Nat, [D.str [97], D.str [97, 98], D.str [98]][k] = .str rt ∧ okW rt ∧ rt.length ≤ 2 := by
    have hk3 : k < 3 := hk
    match k, hk3 with
    | 0, _ => exact ⟨[97], rfl, by intro c hc; simp at hc; subst hc; rfl, by decide⟩
    | 1, _ => exact ⟨[97, 98], rfl, by intro c hc; simp at hc; rcases hc with rfl | rfl <;> rfl, by decide⟩
    | 2, _ => exact ⟨[98], rfl, by intro c hc; simp at hc; subst hc; rfl, by decide⟩
  rw [hrt] at ha
  have ev3 : evE (UN (n + 2)) (.lst (.cons (.lit (.str [97])) (.cons (.lit (.str [97, 98])) (.cons (.lit (.str [98])) .nil)))) [some (.ref r), some (.ref S.length), o2, none, none, none] (S.set r (.lst hd1) ++ [.lst ([w0, w1].map .str)]) = .ok (.d (.lst [.str [97], .str [97, 98], .str [98]])) (S.set r (.lst hd1) ++ [.lst ([w0, w1].map .str)]) := by simp [evE, evEs, takes, take]
  have a3 := ev_asgD (i := 3) ((ev_call2 (V := UN (n + 2)) (f := 18) (x := "_law_any") (ev_var (i := 0) rfl) ev3).trans ha)
  have q2 := at_q hd2 (.lst ([w0, w1].map .str))
  have hlim : rt.length + rt.length ≤ lim := by rw [lim_val]; omega
  have a4 : evS (UN (n + 2)) (.asg (.nm 4) (.lst (.cons (.bi .tup (.cons (.var 1) .nil)) (.cons (.bi .tup (.cons (.var 1) .nil)) (.cons (.tup (.cons (.var 3) (.cons (.op .add (.var 3) (.var 3)) .nil))) (.cons (.tup (.cons (.idx (.var 1) (.lit (.int 0))) (.cons (.idx (.var 1) (.lit (.int 0))) .nil))) (.cons (.tup (.cons (.lit (.str [])) (.cons (.idx (.var 1) (.lit (.int 1))) .nil))) .nil))))))) [some (.ref r), some (.ref S.length), o2, some (.d (.str rt)), none, none] (S.set r (.lst hd2) ++ [.lst ([w0, w1].map .str)]) = .nx [some (.ref r), some (.ref S.length), o2, some (.d (.str rt)), some (.d (.lst [.tup [.str w0, .str w1], .tup [.str w0, .str w1], .tup [.str rt, .str (rt ++ rt)], .tup [.str w0, .str w0], .tup [.str [], .str w1]])), none] (S.set r (.lst hd2) ++ [.lst ([w0, w1].map .str)]) := by
    have q2' : ((S.set r (.lst hd2) ++ [.lst [.str w0, .str w1]] : Sto) : List Cell)[S.length]? = some (.lst [.str w0, .str w1]) := q2
    simp only [List.map_cons, List.map_nil]
    simp [evS, evE, evEs, biV, dicOf, peek, peeks, q2', biD, idxV, idxD, ixI, takes, take, setTV, opD, hlim]
  obtain ⟨k2, hk2, hd3, H3, ha2⟩ := c_any n (xs := [.tup [.str w0, .str w1], .tup [.str w0, .str w1], .tup [.str rt, .str (rt ++ rt)], .tup [.str w0, .str w0], .tup [.str [], .str w1]]) (at_r hd2 (.lst ([w0, w1].map .str))) H2 (by simp) (by simp)
  rw [set_r] at ha2
  have okrr : okW (rt ++ rt) := fun c hc => by
    rcases List.mem_append.mp hc with hc | hc <;> exact hrt2 c hc
  obtain ⟨a, b, hab, hC⟩ : ∃ a b : List Nat, [D.tup [.str w0, .str w1], .tup [.str w0, .str w1], .tup [.str rt, .str (rt ++ rt)], .tup [.str w0, .str w0], .tup [.str [], .str w1]][k2] = .tup [.str a, .str b] ∧ Cod a b := by
    have hk5 : k2 < 5 := hk2
    match k2, hk5 with
    | 0, _ => exact ⟨w0, w1, rfl, o0, o1, by omega, by omega⟩
    | 1, _ => exact ⟨w0, w1, rfl, o0, o1, by omega, by omega⟩
    | 2, _ => exact ⟨rt, rt ++ rt, rfl, hrt2, okrr, by omega, by simp; omega⟩
    | 3, _ => exact ⟨w0, w0, rfl, o0, o0, by omega, by omega⟩
    | 4, _ => exact ⟨[], w1, rfl, (fun c hc => by cases hc), o1, by simp, by omega⟩
  rw [hab] at ha2
  refine ⟨a, b, hd3, hC, H3, ?_⟩
  rw [cn_at (F := d_law_code.fn) rfl]
  have a5 := ev_ret ((ev_call2 (V := UN (n + 2)) (f := 18) (x := "_law_any") (l := [some (.ref r), some (.ref S.length), o2, some (.d (.str rt)), some (.d (.lst [.tup [.str w0, .str w1], .tup [.str w0, .str w1], .tup [.str rt, .str (rt ++ rt)], .tup [.str w0, .str w0], .tup [.str [], .str w1]])), none]) (ev_var (i := 0) rfl) (ev_var (i := 4) rfl)).trans ha2)
  refine (run_ret rfl ((evSs_cons a1).trans ((evSs_cons a2).trans ((evSs_cons a3).trans ((evSs_cons a4).trans (evSs_ret a5)))))).trans ?_
  have e : (S.set r (.lst hd3) ++ [Cell.lst ([w0, w1].map .str)]).take S.length = S.set r (.lst hd3) := by
    rw [List.take_append_of_le_length (by simp), List.take_of_length_le (by simp)]
  rw [e]
end K66
end

section
set_option Elab.async false
set_option linter.all false
set_option maxRecDepth 100000
set_option maxHeartbeats 4000000
namespace K66
open PySem EV
theorem sure_sh (a b : List Nat) : Sh (sureD a b) := by
  unfold sureD
  split
  · exact .tup3 (by decide) (by decide) (by decide)
  · split
    · exact .tup3 (by decide) (by decide) (by decide)
    · split
      · exact .tup3 (by decide) (by decide) (by decide)
      · exact .tup1 (by decide)
theorem img_one (a b : List Nat) : img a b [97] = a ∧ img a b [98] = b ∧ img a b [97, 98] = a ++ b ∧ img a b [98, 97] = b ++ a ∧ img a b [] = [] := by
  refine ⟨?_, ?_, ?_, ?_, rfl⟩ <;> simp [img, imgC]
theorem sure_no {a b : List Nat} (h : isSure a b = false) : twoD a b (sureD a b) = true := by
  obtain ⟨i1, i2, i3, i4, i5⟩ := img_one a b
  unfold sureD
  by_cases ha : a = []
  · rw [if_pos ha]
    have e : isLet [] 12 = true := by decide
    have e2 : isLet [97] 12 = true := by decide
    subst ha
    simp [twoD, two, e, e2, i1, i5]
  · rw [if_neg ha]
    by_cases hb : b = []
    · rw [if_pos hb]
      have e : isLet [] 12 = true := by decide
      have e2 : isLet [98] 12 = true := by decide
      subst hb
      simp [twoD, two, e, e2, i2, i5]
    · rw [if_neg hb]
      by_cases hab : a ++ b = b ++ a
      · rw [if_pos hab]
        have e : isLet [97, 98] 12 = true := by decide
        have e2 : isLet [98, 97] 12 = true := by decide
        simp [twoD, two, e, e2, i3, i4, hab]
      · exfalso
        simp [isSure, ha, hb, hab] at h
theorem sure_yes {a b : List Nat} (h : isSure a b = true) : sureD a b = .tup [.str sure] := by
  unfold isSure at h
  simp only [Bool.and_eq_true, decide_eq_true_eq] at h
  unfold sureD
  rw [if_neg h.1, if_neg h.2.1, if_neg h.2.2]
  rfl
/-- one thing -/
theorem sr_in (n : Nat) {a b : List Nat} (h : Cod a b) {x : D} (hx : Sh x) {l0 l3 l4 l5 l6 l8 l9 l10 : Option Vl} (S : Sto) :
    ∃ l10', evSs (UN (n + 4)) f_law_sure_right_1 [l0, some (.d (.tup [.str a, .str b])), some (.d (.bl (isSure a b))), l3, l4, l5, l6, some (.d x), l8, l9, l10] S = .nx [l0, some (.d (.tup [.str a, .str b])), some (.d (.bl (isSure a b))), l3, l4, l5, l6, some (.d x), l8, l9, l10'] S := by
  have e1 := c_istwo (n + 2) h hx S
  have e2 := c_issure n h hx S
  have flag : evE (UN (n + 4)) (.ife (.and (.isi (.var 7) .tup) (.cmp .eq (.var 7) (.tup (.cons (.lit (.str [115, 117, 114, 101])) .nil)))) (.var 2) (.call 24 "_law_is_two" (.cons (.var 1) (.cons (.var 7) .nil)))) [l0, some (.d (.tup [.str a, .str b])), some (.d (.bl (isSure a b))), l3, l4, l5, l6, some (.d x), l8, l9, l10] S = .ok (.d (.bl (isD a b x))) S := by
    cases hx with
    | non => simp [evSs, evS, evE, evEs, evO, evC, evI, R.opt, RS.opt, setTV, setT, asBool, isTy, isTyD, cmV, dicOf, peek, peeks, cmD, biV, biD, idxV, idxD, slcV, slcD, mtV, mtApp, mtPure, mtTyp, mtD, opD, take, takes, keepS, runF, noX, e1, isD]
    | tup0 => simp [evSs, evS, evE, evEs, evO, evC, evI, R.opt, RS.opt, setTV, setT, asBool, isTy, isTyD, cmV, dicOf, peek, peeks, cmD, biV, biD, idxV, idxD, slcV, slcD, mtV, mtApp, mtPure, mtTyp, mtD, opD, take, takes, keepS, runF, noX, e1, isD, eqD, eqDs, dep, deps]
    | str s => simp [evSs, evS, evE, evEs, evO, evC, evI, R.opt, RS.opt, setTV, setT, asBool, isTy, isTyD, cmV, dicOf, peek, peeks, cmD, biV, biD, idxV, idxD, slcV, slcD, mtV, mtApp, mtPure, mtTyp, mtD, opD, take, takes, keepS, runF, noX, e1, isD]
    | lst ds => simp [evSs, evS, evE, evEs, evO, evC, evI, R.opt, RS.opt, setTV, setT, asBool, isTy, isTyD, cmV, dicOf, peek, peeks, cmD, biV, biD, idxV, idxD, slcV, slcD, mtV, mtApp, mtPure, mtTyp, mtD, opD, take, takes, keepS, runF, noX, e1, isD]
    | @tup1 s hs =>
      by_cases e : s = sure
      · subst e
        simp [evSs, evS, evE, evEs, evO, evC, evI, R.opt, RS.opt, setTV, setT, asBool, isTy, isTyD, cmV, dicOf, peek, peeks, cmD, biV, biD, idxV, idxD, slcV, slcD, mtV, mtApp, mtPure, mtTyp, mtD, opD, take, takes, keepS, runF, noX, isD, eqD, eqDs, dep, deps, sure]
      · have e' : ¬ s = [115, 117, 114, 101] := e
        have hz : twoD a b (.tup [.str s]) = false := rfl
        rw [hz] at e1
        simp [evSs, evS, evE, evEs, evO, evC, evI, R.opt, RS.opt, setTV, setT, asBool, isTy, isTyD, cmV, dicOf, peek, peeks, cmD, biV, biD, idxV, idxD, slcV, slcD, mtV, mtApp, mtPure, mtTyp, mtD, opD, take, takes, keepS, runF, noX, e1, isD, eqD, eqDs, dep, deps, e', sure]
    | tupI i => simp [evSs, evS, evE, evEs, evO, evC, evI, R.opt, RS.opt, setTV, setT, asBool, isTy, isTyD, cmV, dicOf, peek, peeks, cmD, biV, biD, idxV, idxD, slcV, slcD, mtV, mtApp, mtPure, mtTyp, mtD, opD, take, takes, keepS, runF, noX, e1, isD, eqD, eqDs, dep, deps]
    | tup2 _ _ => simp [evSs, evS, evE, evEs, evO, evC, evI, R.opt, RS.opt, setTV, setT, asBool, isTy, isTyD, cmV, dicOf, peek, peeks, cmD, biV, biD, idxV, idxD, slcV, slcD, mtV, mtApp, mtPure, mtTyp, mtD, opD, take, takes, keepS, runF, noX, e1, isD, eqD, eqDs, dep, deps]
    | tup3 _ _ _ => simp [evSs, evS, evE, evEs, evO, evC, evI, R.opt, RS.opt, setTV, setT, asBool, isTy, isTyD, cmV, dicOf, peek, peeks, cmD, biV, biD, idxV, idxD, slcV, slcD, mtV, mtApp, mtPure, mtTyp, mtD, opD, take, takes, keepS, runF, noX, e1, isD, eqD, eqDs, dep, deps]
  refine ⟨some (.d (.bl (isD a b x))), ?_⟩
  refine (evSs_cons (ev_asgD flag)).trans ((evSs_cons ((ev_if_f (ev_not (r := true) ?_)).trans rfl)).trans rfl)
  have c := c_is (n + 3) 0 (.bl (isD a b x)) S (by simp [dep]) True.intro
  refine (ev_call2 (V := UN (n + 4)) (u := .d (.bl (isD a b x))) (v := .d (.bl (isD a b x))) ?_ (ev_var rfl)).trans c
  exact (ev_call2 (V := UN (n + 4)) (ev_var (i := 1) rfl) (ev_var (i := 7) rfl)).trans e2
def words : List D := [.str [], .str [97], .str [98], .str [97, 98], .str [98, 97], .str [97, 97, 98], .str [97, 98, 97], .str [97, 98, 98], .str [98, 97, 98]]
theorem words_at {k : Nat} (hk : k < words.length) : ∃ w : List Nat, words[k] = .str w ∧ w.length ≤ 1000 := by
  have hk9 : k < 9 := hk
  match k, hk9 with
  | 0, _ => exact ⟨_, rfl, by decide⟩
  | 1, _ => exact ⟨_, rfl, by decide⟩
  | 2, _ => exact ⟨_, rfl, by decide⟩
  | 3, _ => exact ⟨_, rfl, by decide⟩
  | 4, _ => exact ⟨_, rfl, by decide⟩
  | 5, _ => exact ⟨_, rfl, by decide⟩
  | 6, _ => exact ⟨_, rfl, by decide⟩
  | 7, _ => exact ⟨_, rfl, by decide⟩
  | 8, _ => exact ⟨_, rfl, by decide⟩
theorem c_sureright (n : Nat) {r : Nat} {S : Sto} {hd : List D} {a b : List Nat} (h : Cod a b) (hr : (S : List Cell)[r]? = some (.lst hd)) (hH : Hd hd) : ∃ hd', Hd hd' ∧ CN (n + 5) 25 [.ref r, .d (.tup [.str a, .str b])] S = .ok (.d (.bl true)) (S.set r (.lst hd')) := by
  have hlt := (List.getElem?_eq_some_iff.mp hr).1
  have at_r : ∀ (hd' : List D) (c : Cell), ((S.set r (.lst hd') ++ [c] : Sto) : List Cell)[r]? = some (.lst hd') := fun hd' c => by
    rw [List.getElem?_append_left (by simpa using hlt)]; exact List.getElem?_set_self hlt
  have at_q : ∀ (hd' : List D) (c : Cell), ((S.set r (.lst hd') ++ [c] : Sto) : List Cell)[S.length]? = some c := fun hd' c => by
    have := get_last (S.set r (.lst hd')) c
    rwa [List.length_set] at this
  have set_r : ∀ (hd' hd'' : List D) (c : Cell), (S.set r (.lst hd') ++ [c] : Sto).set r (.lst hd'') = S.set r (.lst hd'') ++ [c] := fun hd' hd'' c => by
    rw [List.set_append_left _ _ (by simpa using hlt), List.set_set]
  have set_q : ∀ (hd' : List D) (c c' : Cell), (S.set r (.lst hd') ++ [c] : Sto).set S.length c' = S.set r (.lst hd') ++ [c'] := fun hd' c c' => by
    have := set_last (S.set r (.lst hd')) c c'
    rwa [List.length_set] at this
  have s0 : S.set r (.lst hd) = S := set_self hr
  have la := h.la
  have lb := h.lb
  obtain ⟨C, hC⟩ : ∃ C : Option Vl, C = some (.d (.tup [.str a, .str b])) := ⟨_, rfl⟩
  have hl : a.length + b.length ≤ lim := by rw [lim_val]; omega
  have hl2 : b.length + a.length ≤ lim := by rw [lim_val]; omega
  have e11 := c_suretold n h S
  have eT := c_istwo (n + 2) h (sure_sh a b) S
  have a1 : evS (UN (n + 4)) (.asg (.tp (.nm 8) (.nm 9)) (.var 1)) [some (.ref r), some (.d (.tup [.str a, .str b])), none, none, none, none, none, none, none, none, none] S = .nx [some (.ref r), some (.d (.tup [.str a, .str b])), none, none, none, none, none, none, some (.d (.str a)), some (.d (.str b)), none] S := by simp [evS, evE, setTV, setT]
  have a2 : evS (UN (n + 4)) (.asg (.nm 2) (.and (.cmp .ne (.var 8) (.lit (.str []))) (.and (.cmp .ne (.var 9) (.lit (.str []))) (.cmp .ne (.op .add (.var 8) (.var 9)) (.op .add (.var 9) (.var 8)))))) [some (.ref r), some (.d (.tup [.str a, .str b])), none, none, none, none, none, none, some (.d (.str a)), some (.d (.str b)), none] S = .nx [some (.ref r), some (.d (.tup [.str a, .str b])), some (.d (.bl (isSure a b))), none, none, none, none, none, some (.d (.str a)), some (.d (.str b)), none] S := by
    refine ev_asgD (v := .d (.bl (isSure a b))) ?_
    unfold isSure
    by_cases ha : a = []
    · simp [evSs, evS, evE, evEs, evO, evC, evI, R.opt, RS.opt, setTV, setT, asBool, isTy, isTyD, cmV, dicOf, peek, peeks, cmD, biV, biD, idxV, idxD, slcV, slcD, mtV, mtApp, mtPure, mtTyp, mtD, opD, take, takes, keepS, runF, noX, eqD, dep, ha]
    · by_cases hb : b = []
      · simp [evSs, evS, evE, evEs, evO, evC, evI, R.opt, RS.opt, setTV, setT, asBool, isTy, isTyD, cmV, dicOf, peek, peeks, cmD, biV, biD, idxV, idxD, slcV, slcD, mtV, mtApp, mtPure, mtTyp, mtD, opD, take, takes, keepS, runF, noX, eqD, dep, ha, hb]
      · by_cases hab : a ++ b = b ++ a
        · simp [evSs, evS, evE, evEs, evO, evC, evI, R.opt, RS.opt, setTV, setT, asBool, isTy, isTyD, cmV, dicOf, peek, peeks, cmD, biV, biD, idxV, idxD, slcV, slcD, mtV, mtApp, mtPure, mtTyp, mtD, opD, take, takes, keepS, runF, noX, eqD, dep, ha, hb, hl, hl2, hab]
        · simp [evSs, evS, evE, evEs, evO, evC, evI, R.opt, RS.opt, setTV, setT, asBool, isTy, isTyD, cmV, dicOf, peek, peeks, cmD, biV, biD, idxV, idxD, slcV, slcD, mtV, mtApp, mtPure, mtTyp, mtD, opD, take, takes, keepS, runF, noX, eqD, dep, ha, hb, hl, hl2, hab]
  have a3 := ev_asgD (i := 3) ((ev_call1 (V := UN (n + 4)) (f := 11) (x := "sure_told") (l := [some (.ref r), some (.d (.tup [.str a, .str b])), some (.d (.bl (isSure a b))), none, none, none, none, none, some (.d (.str a)), some (.d (.str b)), none]) (ev_var (i := 1) rfl)).trans e11)
  have lit1 : evE (UN (n + 4)) (.tup (.cons (.lit (.str [115, 117, 114, 101])) .nil)) [some (.ref r), some (.d (.tup [.str a, .str b])), some (.d (.bl (isSure a b))), some (.d (sureD a b)), none, none, none, none, some (.d (.str a)), some (.d (.str b)), none] S = .ok (.d (.tup [.str sure])) S := by simp [evE, evEs, takes, take, sure]
  have a4 : evE (UN (n + 4)) (.or (.and (.var 2) (.cmp .ne (.var 3) (.tup (.cons (.lit (.str [115, 117, 114, 101])) .nil)))) (.and (.not (.var 2)) (.not (.call 24 "_law_is_two" (.cons (.var 1) (.cons (.var 3) .nil)))))) [some (.ref r), some (.d (.tup [.str a, .str b])), some (.d (.bl (isSure a b))), some (.d (sureD a b)), none, none, none, none, some (.d (.str a)), some (.d (.str b)), none] S = .ok (.d (.bl false)) S := by
    cases hs : isSure a b with
    | true =>
      have e := sure_yes hs
      have k : evE (UN (n + 4)) (.cmp .ne (.var 3) (.tup (.cons (.lit (.str [115, 117, 114, 101])) .nil))) [some (.ref r), some (.d (.tup [.str a, .str b])), some (.d (.bl true)), some (.d (sureD a b)), none, none, none, none, some (.d (.str a)), some (.d (.str b)), none] S = .ok (.d (.bl false)) S := by
        rw [hs] at lit1
        refine ev_cmp (x := sureD a b) (ev_var rfl) lit1 ?_
        rw [e]
        rfl
      refine ev_or_f (ev_and_t (ev_var rfl) k) (ev_and_f (ev_not (r := true) (ev_var rfl)))
    | false =>
      have e := sure_no hs
      rw [e] at eT
      exact ev_or_f (ev_and_f (ev_var rfl)) (ev_and_t (ev_not (r := false) (ev_var rfl)) (ev_not (r := true) ((ev_call2 (V := UN (n + 4)) (ev_var (i := 1) rfl) (ev_var (i := 3) rfl)).trans eT)))
  have a5 : evS (UN (n + 4)) (.asg (.nm 4) (.lst (.cons (.lit (.str [])) (.cons (.lit (.str [97])) (.cons (.lit (.str [98])) (.cons (.lit (.str [97, 98])) (.cons (.lit (.str [98, 97])) (.cons (.lit (.str [97, 97, 98])) (.cons (.lit (.str [97, 98, 97])) (.cons (.lit (.str [97, 98, 98])) (.cons (.lit (.str [98, 97, 98])) .nil))))))))))) [some (.ref r), some (.d (.tup [.str a, .str b])), some (.d (.bl (isSure a b))), some (.d (sureD a b)), none, none, none, none, some (.d (.str a)), some (.d (.str b)), none] S = .nx [some (.ref r), some (.d (.tup [.str a, .str b])), some (.d (.bl (isSure a b))), some (.d (sureD a b)), some (.d (.lst words)), none, none, none, some (.d (.str a)), some (.d (.str b)), none] S := by
    simp [evS, evE, evEs, takes, take, setTV, words]
  obtain ⟨t0, ht0⟩ : ∃ t0 : List D, t0 = [sureD a b, .non, .tup [], .str sure, .lst [.str sure], .tup [.str sure], .tup [.str sure, .int 0], .tup [.str two, .str [97]], .tup [.str two, .str [99], .str [97]]] := ⟨_, rfl⟩
  have a6 : evS (UN (n + 4)) (.asg (.nm 5) (.thaw (.lst (.cons (.var 3) (.cons (.lit (.non)) (.cons (.tup .nil) (.cons (.lit (.str [115, 117, 114, 101])) (.cons (.lst (.cons (.lit (.str [115, 117, 114, 101])) .nil)) (.cons (.tup (.cons (.lit (.str [115, 117, 114, 101])) .nil)) (.cons (.tup (.cons (.lit (.str [115, 117, 114, 101])) (.cons (.lit (.int 0)) .nil))) (.cons (.tup (.cons (.lit (.str [116, 119, 111])) (.cons (.lit (.str [97])) .nil))) (.cons (.tup (.cons (.lit (.str [116, 119, 111])) (.cons (.lit (.str [99])) (.cons (.lit (.str [97])) .nil)))) .nil)))))))))))) [some (.ref r), some (.d (.tup [.str a, .str b])), some (.d (.bl (isSure a b))), some (.d (sureD a b)), some (.d (.lst words)), none, none, none, some (.d (.str a)), some (.d (.str b)), none] S = .nx [some (.ref r), some (.d (.tup [.str a, .str b])), some (.d (.bl (isSure a b))), some (.d (sureD a b)), some (.d (.lst words)), some (.ref S.length), none, none, some (.d (.str a)), some (.d (.str b)), none] (S.set r (.lst hd) ++ [.lst t0]) := by
    rw [s0, ht0]
    simp [evS, evE, evEs, takes, take, setTV, sure, two]
  obtain ⟨t1, ht1⟩ : ∃ t1 : List D, t1 = t0 ++ [.tup [.str two, .str [63], .str []]] := ⟨_, rfl⟩
  have a7 : evS (UN (n + 4)) (.ex (.mt .append (.var 5) (.cons (.tup (.cons (.lit (.str [116, 119, 111])) (.cons (.lit (.str [63])) (.cons (.lit (.str [])) .nil)))) .nil))) [some (.ref r), some (.d (.tup [.str a, .str b])), some (.d (.bl (isSure a b))), some (.d (sureD a b)), some (.d (.lst words)), some (.ref S.length), none, none, some (.d (.str a)), some (.d (.str b)), none] (S.set r (.lst hd) ++ [.lst t0]) = .nx [some (.ref r), some (.d (.tup [.str a, .str b])), some (.d (.bl (isSure a b))), some (.d (sureD a b)), some (.d (.lst words)), some (.ref S.length), none, none, some (.d (.str a)), some (.d (.str b)), none] (S.set r (.lst hd) ++ [.lst t1]) := by
    have q := ev_append2 (V := UN (n + 4)) (i := 5) (e := .tup (.cons (.lit (.str [116, 119, 111])) (.cons (.lit (.str [63])) (.cons (.lit (.str [])) .nil)))) (x := .tup [.str two, .str [63], .str []]) (l := [some (.ref r), some (.d (.tup [.str a, .str b])), some (.d (.bl (isSure a b))), some (.d (sureD a b)), some (.d (.lst words)), some (.ref S.length), none, none, some (.d (.str a)), some (.d (.str b)), none]) rfl (at_q hd (.lst t0)) (by simp [evE, evEs, takes, take, two]) (at_q hd (.lst t0)) (by rw [ht0, lim_val]; simp)
    rw [set_q, ← ht1] at q
    exact q
  have sh1 : ∀ x ∈ t1, Sh x := by
    rw [ht1, ht0]
    intro x hx
    simp at hx
    rcases hx with rfl | rfl | rfl | rfl | rfl | rfl | rfl | rfl | rfl | rfl
    · exact sure_sh a b
    · exact .non
    · exact .tup0
    · exact .str _
    · exact .lst _
    · exact .tup1 (by decide)
    · exact .tupI 0
    · exact .tup2 (by decide) (by decide)
    · exact .tup3 (by decide) (by decide) (by decide)
    · exact .tup3 (by decide) (by decide) (by decide)
  have len1 : t1.length = 10 := by rw [ht1, ht0]; rfl
  obtain ⟨l', S', f1, f2⟩ := forGo_inv (t := .nm 6) (b := evSs (UN (n + 4)) f_law_sure_right_2) (xs := rangeD 0 5) (k := 0) (l := [some (.ref r), some (.d (.tup [.str a, .str b])), some (.d (.bl (isSure a b))), some (.d (sureD a b)), some (.d (.lst words)), some (.ref S.length), none, none, some (.d (.str a)), some (.d (.str b)), none]) (S := S.set r (.lst hd) ++ [.lst t1])
    (fun k l S' => ∃ (o6 : Option Vl) (hd' ts : List D), Hd hd' ∧ ts.length = 10 + k ∧ k ≤ 5 ∧ (∀ x ∈ ts, Sh x) ∧ l = [some (.ref r), some (.d (.tup [.str a, .str b])), some (.d (.bl (isSure a b))), some (.d (sureD a b)), some (.d (.lst words)), some (.ref S.length), o6, none, some (.d (.str a)), some (.d (.str b)), none] ∧ S' = S.set r (.lst hd') ++ [.lst ts])
    ⟨none, hd, t1, hH, by rw [len1], by omega, sh1, rfl, rfl⟩ (fun i x l S' hx hI => by
      obtain ⟨o6, hd', ts, H', e1, e2, e3, rfl, rfl⟩ := hI
      have hi : i < 5 := by
        have := (List.getElem?_eq_some_iff.mp hx).1
        simpa [rangeD] using this
      obtain ⟨k1, hk1, hd2, H2, y1⟩ := c_any (n + 2) (xs := words) (at_r hd' (.lst ts)) H' (by decide) (by decide)
      rw [set_r] at y1
      obtain ⟨k2, hk2, hd3, H3, y2⟩ := c_any (n + 2) (xs := words) (at_r hd2 (.lst ts)) H2 (by decide) (by decide)
      rw [set_r] at y2
      obtain ⟨u, hu, lu⟩ := words_at hk1
      obtain ⟨v, hv, lv⟩ := words_at hk2
      rw [hu] at y1
      rw [hv] at y2
      have z1 := (ev_call2 (V := UN (n + 4)) (f := 18) (x := "_law_any") (l := [some (.ref r), some (.d (.tup [.str a, .str b])), some (.d (.bl (isSure a b))), some (.d (sureD a b)), some (.d (.lst words)), some (.ref S.length), some (.d x), none, some (.d (.str a)), some (.d (.str b)), none]) (ev_var (i := 0) rfl) (ev_var (i := 4) rfl)).trans y1
      have z2 := (ev_call2 (V := UN (n + 4)) (f := 18) (x := "_law_any") (l := [some (.ref r), some (.d (.tup [.str a, .str b])), some (.d (.bl (isSure a b))), some (.d (sureD a b)), some (.d (.lst words)), some (.ref S.length), some (.d x), none, some (.d (.str a)), some (.d (.str b)), none]) (ev_var (i := 0) rfl) (ev_var (i := 4) rfl)).trans y2
      have z3 : evE (UN (n + 4)) (.tup (.cons (.lit (.str [116, 119, 111])) (.cons (.call 18 "_law_any" (.cons (.var 0) (.cons (.var 4) .nil))) (.cons (.call 18 "_law_any" (.cons (.var 0) (.cons (.var 4) .nil))) .nil)))) [some (.ref r), some (.d (.tup [.str a, .str b])), some (.d (.bl (isSure a b))), some (.d (sureD a b)), some (.d (.lst words)), some (.ref S.length), some (.d x), none, some (.d (.str a)), some (.d (.str b)), none] (S.set r (.lst hd') ++ [.lst ts]) = .ok (.d (.tup [.str two, .str u, .str v])) (S.set r (.lst hd3) ++ [.lst ts]) := by
        show (evEs (UN (n + 4)) (.cons _ (.cons _ (.cons _ .nil))) _ _).bind _ = _
        unfold evEs
        rw [ev_lit]
        simp only [R.bind_ok]
        unfold evEs
        rw [z1]
        simp only [R.bind_ok]
        unfold evEs
        rw [z2]
        simp only [R.bind_ok, evEs, takes, take, R.opt_some]
        rfl
      have q := ev_append2 (V := UN (n + 4)) (i := 5) (l := [some (.ref r), some (.d (.tup [.str a, .str b])), some (.d (.bl (isSure a b))), some (.d (sureD a b)), some (.d (.lst words)), some (.ref S.length), some (.d x), none, some (.d (.str a)), some (.d (.str b)), none]) rfl (at_q hd' (.lst ts)) z3 (at_q hd3 (.lst ts)) (by rw [lim_val]; omega)
      rw [set_q] at q
      refine ⟨_, _, _, rfl, evSs_cons q, some (.d x), hd3, ts ++ [.tup [.str two, .str u, .str v]], H3, by simp [e1]; omega, by omega, fun z hz => ?_, rfl, rfl⟩
      rcases List.mem_append.mp hz with hz | hz
      · exact e3 z hz
      · have : z = .tup [.str two, .str u, .str v] := by simpa using hz
        subst this
        exact .tup3 (by decide) lu lv)
  obtain ⟨o6, hd1, ts, H1, e1, e2, e3, rfl, rfl⟩ := f2
  have a8 := (ev_for (t := .nm 6) (b := f_law_sure_right_2) (ev_rng1 (V := UN (n + 4)) (l := [some (.ref r), some (.d (.tup [.str a, .str b])), some (.d (.bl (isSure a b))), some (.d (sureD a b)), some (.d (.lst words)), some (.ref S.length), none, none, some (.d (.str a)), some (.d (.str b)), none]) (S := S.set r (.lst hd) ++ [.lst t1]) (ev_lit (d := .int 5)) (by decide))).trans f1
  have hi : evI (UN (n + 4)) (.val (.frz (.var 5))) [some (.ref r), some (.d (.tup [.str a, .str b])), some (.d (.bl (isSure a b))), some (.d (sureD a b)), some (.d (.lst words)), some (.ref S.length), o6, none, some (.d (.str a)), some (.d (.str b)), none] (S.set r (.lst hd1) ++ [.lst ts]) = .ok (.items ts) (S.set r (.lst hd1) ++ [.fzn ts]) := by
    have q := at_q hd1 (.lst ts)
    simp only [evI, evE, List.getElem?_cons_succ, List.getElem?_cons_zero, R.bind_ok, take, q, R.opt_some, seqD, set_q]
  obtain ⟨l2, S2, g1, g2⟩ := forGo_inv (t := .nm 7) (b := evSs (UN (n + 4)) f_law_sure_right_1) (xs := ts) (k := 0) (l := [some (.ref r), some (.d (.tup [.str a, .str b])), some (.d (.bl (isSure a b))), some (.d (sureD a b)), some (.d (.lst words)), some (.ref S.length), o6, none, some (.d (.str a)), some (.d (.str b)), none]) (S := S.set r (.lst hd1) ++ [.fzn ts])
    (fun k l S' => ∃ (o7 o10 : Option Vl), l = [some (.ref r), some (.d (.tup [.str a, .str b])), some (.d (.bl (isSure a b))), some (.d (sureD a b)), some (.d (.lst words)), some (.ref S.length), o6, o7, some (.d (.str a)), some (.d (.str b)), o10] ∧ S' = S.set r (.lst hd1) ++ [.fzn ts])
    ⟨none, none, rfl, rfl⟩ (fun i x l S' hx hI => by
      obtain ⟨o7, o10, rfl, rfl⟩ := hI
      obtain ⟨o10', hb⟩ := sr_in n h (e3 x (List.mem_of_getElem? hx)) (l0 := some (.ref r)) (l3 := some (.d (sureD a b))) (l4 := some (.d (.lst words))) (l5 := some (.ref S.length)) (l6 := o6) (l8 := some (.d (.str a))) (l9 := some (.d (.str b))) (l10 := o10) (S.set r (.lst hd1) ++ [.fzn ts])
      exact ⟨_, _, _, rfl, hb, some (.d x), o10', rfl, rfl⟩)
  obtain ⟨o7, o10, rfl, rfl⟩ := g2
  have a9 := (ev_for (t := .nm 7) (b := f_law_sure_right_1) hi).trans g1
  refine ⟨hd1, H1, ?_⟩
  rw [cn_at (F := d_law_sure_right.fn) rfl]
  refine (run_ret rfl ((evSs_cons a1).trans ((evSs_cons a2).trans ((evSs_cons a3).trans ((evSs_cons ((ev_if_f a4).trans rfl)).trans ((evSs_cons a5).trans ((evSs_cons a6).trans ((evSs_cons a7).trans ((evSs_cons a8).trans ((evSs_cons a9).trans (evSs_ret (ev_ret ev_lit)))))))))))).trans ?_
  have e : (S.set r (.lst hd1) ++ [Cell.fzn ts]).take S.length = S.set r (.lst hd1) := by
    rw [List.take_append_of_le_length (by simp), List.take_of_length_le (by simp)]
  rw [e]
end K66
end

section
set_option Elab.async false
set_option linter.all false
set_option maxRecDepth 100000
set_option maxHeartbeats 4000000
namespace K66
open PySem EV
theorem cut_all {α : Type} (xs : List α) {k : Int} (h : (xs.length : Int) ≤ k) : cut xs none (some k) = xs := by
  unfold cut
  have e1 : loI xs.length none = 0 := rfl
  have e2 : hiI xs.length (some k) = xs.length := by show clip xs.length k = _; unfold clip; split <;> omega
  rw [e1, e2]; simp
theorem ev_retk {V : EV.Env} {e : LE} {l : EV.Loc} {S S1 : Sto} {v : Vl} (h : evE V e l S = .ok v S1) : evS V (.retk e) l S = .ret v S1 := by simp only [evS, h, R.st_ok]
theorem evEs_nil {V : EV.Env} {l : EV.Loc} {S : Sto} : evEs V .nil l S = .ok [] S := by simp only [evEs]
theorem evEs_cons {V : EV.Env} {e : LE} {es : LEs} {l : EV.Loc} {S S1 S2 : Sto} {v : Vl} {vs : List Vl} (h1 : evE V e l S = .ok v S1) (h2 : evEs V es l S1 = .ok vs S2) : evEs V (.cons e es) l S = .ok (v :: vs) S2 := by
  simp only [evEs, h1, h2, R.bind_ok]
theorem takes_d (ds : List D) (S : Sto) : takes S (ds.map .d) = some (ds, S) := by
  induction ds with
  | nil => rfl
  | cons d ds ih => simp [takes, take, ih]
theorem ev_lstN {V : EV.Env} {es : LEs} {l : EV.Loc} {S S1 : Sto} {ds : List D} (h : evEs V es l S = .ok (ds.map .d) S1) : evE V (.lst es) l S = .ok (.d (.lst ds)) S1 := by
  simp only [evE, h, R.bind_ok, takes_d, R.opt_some]
theorem ev_tupN {V : EV.Env} {es : LEs} {l : EV.Loc} {S S1 : Sto} {ds : List D} (h : evEs V es l S = .ok (ds.map .d) S1) : evE V (.tup es) l S = .ok (.d (.tup ds)) S1 := by
  simp only [evE, h, R.bind_ok, takes_d, R.opt_some]
theorem c_lawhand (n : Nat) (ns : List Int) (h : ns.length ≤ 63) : ∃ hd, Hd hd ∧ CN (n + 1) 16 [.scr (ns.map .int)] [] = .ok (.ref 0) [.lst hd] := by
  obtain ⟨cs, hcs⟩ : ∃ cs : List Int, cs = ns.map fun i => if i < 0 then -i else i := ⟨_, rfl⟩
  have hlen : cs.length ≤ 63 := by rw [hcs, List.length_map]; exact h
  have c1 : evE (UN n) x_law_hand_1 [some (.scr (ns.map .int)), none, none] [] = .ok (.d (.lst (cs.map .int))) [] := by
    refine (ev_comp_map (ds := ns.map .int) (fun x => match x with | .int i => .int (if i < 0 then -i else i) | x => x) ?_ (fun x hx => ?_) (by rw [List.length_map, lim_val]; omega)).trans ?_
    · have e : cut (ns.map D.int) none (some 63) = ns.map .int := cut_all _ (by rw [List.length_map]; omega)
      simp only [evI, evE, evO, evE, List.getElem?_cons_zero, R.bind_ok, slcV, R.opt_some, seqD]
      simp [e, seqD]
    · obtain ⟨i, hi, rfl⟩ := List.mem_map.mp hx
      refine ⟨_, rfl, ?_⟩
      exact ev_bi1 (ev_bi1 (ev_var rfl) rfl) rfl
    · rw [hcs]; simp
  have hlim : cs.length ≤ lim := by rw [lim_val]; omega
  refine ⟨[.lst (cs.map .int), .int 0, .int 0, .int (97 + 13 * (cs.length : Int)), .int 0], ⟨⟨cs, 0, 0, _, 0, rfl, by omega, by omega⟩⟩, ?_⟩
  rw [cn_at (F := d_law_hand.fn) rfl]
  have hb : biD .len [.lst (cs.map .int)] = some (.int cs.length) := by
    simp only [biD]
    simp [hlim]
  have e1 : evE (UN n) (.op .add (.lit (.int 97)) (.op .mul (.lit (.int 13)) (.bi .len (.cons (.var 1) .nil)))) [some (.scr (ns.map .int)), some (.d (.lst (cs.map .int))), none] [] = .ok (.d (.int (97 + 13 * (cs.length : Int)))) [] :=
    ev_op ev_lit (ev_op ev_lit (ev_bi1 (ev_var rfl) hb) (opD_mul' (by decide))) (opD_addI _ _)
  have e2 : evE (UN n) (.thaw (.lst (.cons (.var 1) (.cons (.lit (.int 0)) (.cons (.lit (.int 0)) (.cons (.op .add (.lit (.int 97)) (.op .mul (.lit (.int 13)) (.bi .len (.cons (.var 1) .nil)))) (.cons (.lit (.int 0)) .nil))))))) [some (.scr (ns.map .int)), some (.d (.lst (cs.map .int))), none] [] = .ok (.ref 0) [.lst [.lst (cs.map .int), .int 0, .int 0, .int (97 + 13 * (cs.length : Int)), .int 0]] := by
    exact ev_thaw (S1 := []) (ev_lstN (ds := [.lst (cs.map .int), .int 0, .int 0, .int (97 + 13 * (cs.length : Int)), .int 0]) (evEs_cons (ev_var rfl) (evEs_cons ev_lit (evEs_cons ev_lit (evEs_cons e1 (evEs_cons ev_lit evEs_nil))))))
  unfold runF
  rw [if_pos (show [Vl.scr (ns.map D.int)].length = d_law_hand.fn.np from rfl)]
  have hbody : evSs (UN n) d_law_hand.fn.body ([Vl.scr (ns.map .int)].map some ++ List.replicate (d_law_hand.fn.nl - d_law_hand.fn.np) none) [] = .ret (.ref 0) [.lst [.lst (cs.map .int), .int 0, .int 0, .int (97 + 13 * (cs.length : Int)), .int 0]] := by
    exact (evSs_cons (ev_asgD c1)).trans (evSs_ret (ev_retk e2))
  rw [hbody]
  rfl
/-! ### one case -/
theorem optD_flat (o : Option (List Nat)) : dep (optD o) = 0 ∧ narrow (optD o) := by cases o <;> exact ⟨rfl, True.intro⟩
theorem mbD_flat (t a b : List Nat) : dep (mbD t a b) = 0 ∧ narrow (mbD t a b) := by
  unfold mbD
  split <;> exact ⟨rfl, True.intro⟩
theorem cr3 (n : Nat) {a b t : List Nat} (h : Cod a b) (ht : okW t) (hl : t.length ≤ 20) {l0 l1 l2 l3 l4 l5 l7 l8 l9 l11 l12 l13 l14 l15 : Option Vl} (S : Sto) :
    ∃ l13' l14', evSs (UN (n + 6)) f_law_case_right_3 [l0, l1, l2, l3, l4, l5, some (.d (.tup [.str a, .str b])), l7, l8, l9, some (.d (.str t)), l11, l12, l13, l14, l15] S = .nx [l0, l1, l2, l3, l4, l5, some (.d (.tup [.str a, .str b])), l7, l8, l9, some (.d (.str t)), l11, l12, l13', l14', l15] S := by
  have e1 := c_lawbacks (n + 5) h hl S
  rw [lb_eq] at e1
  have e2 := c_readback (n + 2) h ht (by omega) S
  have e3 := c_manyback (n + 2) h ht (by omega) S
  obtain ⟨f1, f2⟩ := optD_flat (rbL t a b)
  obtain ⟨f3, f4⟩ := mbD_flat t a b
  have e4 := c_is (n + 4) 1 (.lst [optD (rbL t a b), mbD t a b]) S (by simp [dep, deps, f1, f3]) ⟨by simp, f2, f4, True.intro⟩
  generalize optD (rbL t a b) = u at *
  generalize mbD t a b = v at *
  refine ⟨some (.d u), some (.d v), ?_⟩
  have a1 : evS (UN (n + 6)) (.asg (.tp (.nm 13) (.nm 14)) (.call 23 "_law_backs" (.cons (.var 6) (.cons (.var 10) .nil)))) [l0, l1, l2, l3, l4, l5, some (.d (.tup [.str a, .str b])), l7, l8, l9, some (.d (.str t)), l11, l12, l13, l14, l15] S = .nx [l0, l1, l2, l3, l4, l5, some (.d (.tup [.str a, .str b])), l7, l8, l9, some (.d (.str t)), l11, l12, some (.d u), some (.d v), l15] S := by
    simp [evS, evE, evEs, setTV, setT, e1]
  refine (evSs_cons a1).trans ((evSs_cons ((ev_if_f (ev_not (r := true) ?_)).trans rfl)).trans rfl)
  exact (ev_call2 (V := UN (n + 6)) (ev_lst2 ((ev_call2 (V := UN (n + 6)) (ev_var (i := 6) rfl) (ev_var (i := 10) rfl)).trans e2) ((ev_call2 (V := UN (n + 6)) (ev_var (i := 6) rfl) (ev_var (i := 10) rfl)).trans e3)) (ev_lst2 (ev_var (i := 13) rfl) (ev_var (i := 14) rfl))).trans e4
/-- one turn -/
theorem cr5 (n : Nat) {a b : List Nat} {r : Nat} {hd : List D} {S : Sto} (h : Cod a b) (hr : (S : List Cell)[r]? = some (.lst hd)) (hH : Hd hd) {l1 l2 l3 l4 l5 l7 l8 l9 l10 l11 l12 l13 l14 l15 : Option Vl} :
    ∃ l8' l9' l10' l13' l14' l15' hd', Hd hd' ∧ evSs (UN (n + 6)) f_law_case_right_5 [some (.ref r), l1, l2, l3, l4, l5, some (.d (.tup [.str a, .str b])), l7, l8, l9, l10, l11, l12, l13, l14, l15] S = .nx [some (.ref r), l1, l2, l3, l4, l5, some (.d (.tup [.str a, .str b])), l7, l8', l9', l10', l11, l12, l13', l14', l15'] (S.set r (.lst hd')) := by
  obtain ⟨w, hd', w1, w2, H', hj⟩ := word_draw (n + 4) (l := [some (.ref r), l1, l2, l3, l4, l5, some (.d (.tup [.str a, .str b])), l7, l8, l9, l10, l11, l12, l13, l14, l15]) (s := 15) (m := 6) (r := r) rfl (by decide) hr hH (by decide) (by decide)
  have la := h.la
  have lb := h.lb
  have pl : w.length * (a.length + b.length) ≤ 5 * 8 := Nat.mul_le_mul (by omega) (by omega)
  have il : (img a b w).length ≤ 20 := by
    have : (img a b w).length ≤ w.length * 4 := by
      clear pl w1 w2 hj
      induction w with
      | nil => simp [img]
      | cons c w ih =>
        have e : img a b (c :: w) = imgC a b c ++ img a b w := rfl
        rw [e, List.length_append, List.length_cons]
        have : (imgC a b c).length ≤ 4 := by unfold imgC; split <;> assumption
        omega
    omega
  have okimg : okW (img a b w) := fun c hc => by
    obtain ⟨d, _, hd⟩ := List.mem_flatMap.mp hc
    unfold imgC at hd
    split at hd
    · exact h.oa c hd
    · exact h.ob c hd
  have e1 := c_lawimg (n + 5) a b w (S.set r (.lst hd')) w1 (by rw [lim_val]; omega) (by rw [lim_val]; omega)
  have e2 := c_image (n + 2) h w1 (by omega) (S.set r (.lst hd'))
  have e3 := c_is (n + 5) 0 (.str (img a b w)) (S.set r (.lst hd')) (by simp [dep]) True.intro
  obtain ⟨p, q, k1⟩ := cr3 n h okimg il (l0 := some (.ref r)) (l1 := l1) (l2 := l2) (l3 := l3) (l4 := l4) (l5 := l5) (l7 := l7) (l8 := some (.d (.str w))) (l9 := some (.d (.str (img a b w)))) (l11 := l11) (l12 := l12) (l13 := l13) (l14 := l14) (l15 := l15) (S.set r (.lst hd'))
  obtain ⟨p', q', k2⟩ := cr3 n h w1 (by omega) (l0 := some (.ref r)) (l1 := l1) (l2 := l2) (l3 := l3) (l4 := l4) (l5 := l5) (l7 := l7) (l8 := some (.d (.str w))) (l9 := some (.d (.str (img a b w)))) (l11 := l11) (l12 := l12) (l13 := p) (l14 := q) (l15 := l15) (S.set r (.lst hd'))
  refine ⟨some (.d (.str w)), some (.d (.str (img a b w))), some (.d (.str w)), p', q', l15, hd', H', (evSs_cons (ev_asgD hj)).trans ((evSs_cons (ev_asgD ((ev_call2 (V := UN (n + 6)) (ev_var (i := 6) rfl) (ev_var (i := 8) rfl)).trans e1))).trans ((evSs_cons ((ev_if_f (ev_not (r := true) ((ev_call2 (V := UN (n + 6)) ((ev_call2 (V := UN (n + 6)) (ev_var (i := 6) rfl) (ev_var (i := 8) rfl)).trans e2) (ev_var (i := 9) rfl)).trans e3))).trans rfl)).trans ((evSs_cons ((ev_for (S1 := S.set r (.lst hd')) (t := .nm 10) (b := f_law_case_right_3) (ds := [.str (img a b w), .str w]) ?_).trans ?_)).trans rfl)))⟩
  · simp only [evI, evE, evEs, List.set_cons_succ, List.set_cons_zero, List.getElem?_cons_succ, List.getElem?_cons_zero, R.bind_ok, takes, take, R.opt_some, seqD]
  · simp only [List.set_cons_succ, List.set_cons_zero, forGo, setT, k1, k2]
end K66
end

section
set_option Elab.async false
set_option linter.all false
set_option maxRecDepth 100000
set_option maxHeartbeats 4000000
namespace K66
open PySem EV
theorem ev_biN {V : EV.Env} {b : Bi} {es : LEs} {l : EV.Loc} {S S1 : Sto} {ds : List D} {z : D} (h : evEs V es l S = .ok (ds.map .d) S1) (hz : biD b ds = some z) : evE V (.bi b es) l S = .ok (.d z) S1 := by
  have pk : peeks S1 (ds.map .d) = some ds := by
    clear h hz
    induction ds with
    | nil => rfl
    | cons d ds ih => simp [peeks, peek, ih]
  have e : biV b (ds.map .d) S1 = some z := by
    unfold biV
    split
    · rename_i v hv
      match ds, hv with
      | [], hv => cases hv
      | [d], hv =>
        cases hv
        simp [dicOf, peeks, peek, hz]
      | _ :: _ :: _, hv => cases hv
    · rw [pk, Option.bind_some, hz]
  simp only [evE, h, R.bind_ok, e, R.opt_some]
theorem take_eq : ∀ (a b : List Nat) (k : Nat), k ≤ a.length → k ≤ b.length → (a.take k = b.take k ↔ k ≤ pre a b)
  | _, _, 0, _, _ => by simp
  | [], _, k + 1, h, _ => by simp at h
  | _ :: _, [], k + 1, _, h => by simp at h
  | x :: a, y :: b, k + 1, h, h' => by
    simp only [List.take_succ_cons, List.cons.injEq, pre]
    have ih := take_eq a b k (by simpa using h) (by simpa using h')
    by_cases e : x = y
    · rw [if_pos e]; simp [e, ih]
    · rw [if_neg e]; simp [e]
theorem flag_eq (a b : List Nat) : (a.take b.length ≠ b ∧ b.take a.length ≠ a) ↔ a.take (min a.length b.length) ≠ b.take (min a.length b.length) := by
  rcases Nat.le_total a.length b.length with h | h
  · rw [Nat.min_eq_left h, List.take_of_length_le h, List.take_of_length_le (Nat.le_refl a.length)]
    constructor
    · exact fun ⟨_, q⟩ e => q e.symm
    · refine fun q => ⟨fun e => q ?_, fun e => q e.symm⟩
      rw [e, List.take_of_length_le (Nat.le_refl _)]
  · rw [Nat.min_eq_right h, List.take_of_length_le h, List.take_of_length_le (Nat.le_refl b.length)]
    constructor
    · exact fun ⟨q, _⟩ e => q e
    · refine fun q => ⟨fun e => q e, fun e => q ?_⟩
      rw [e, List.take_of_length_le (Nat.le_refl _)]
/-- the due thing for joined codes -/
def dueD (a b x y : List Nat) : D := if (img x y a).length ≤ 4 ∧ (img x y b).length ≤ 4 then .tup [.str (img x y a), .str (img x y b)] else .str noCode
theorem c_due (n : Nat) {a b x y : List Nat} (h : Cod a b) (h' : Cod x y) (S : Sto) : CN (n + 6) 20 [.clo 28 [.d (.tup [.str a, .str b]), .d (.tup [.str x, .str y])]] S = .ok (.d (dueD a b x y)) S := by
  have j := c_joined n h h' S
  have body : evE (UN (n + 4)) (.call 13 "joined_codes" (.cons (.var 0) (.cons (.var 1) .nil))) ([Vl.d (.tup [.str a, .str b]), .d (.tup [.str x, .str y])].map some ++ List.replicate 0 none) S = CN (n + 4) 13 [.d (.tup [.str a, .str b]), .d (.tup [.str x, .str y])] S := ev_call2 (V := UN (n + 4)) (ev_var (i := 0) rfl) (ev_var (i := 1) rfl)
  have at28 : T.fs[28]? = some (LamD.fn ⟨[], 2, (.call 13 "joined_codes" (.cons (.var 0) (.cons (.var 1) .nil)))⟩) := rfl
  unfold dueD
  by_cases e : (img x y a).length ≤ 4 ∧ (img x y b).length ≤ 4
  · rw [if_pos e] at j
    rw [if_pos e]
    refine c_wordOk (n + 5) ?_
    rw [cn_at at28]
    exact run_lamD rfl rfl (body.trans j)
  · rw [if_neg e] at j
    rw [if_neg e]
    refine (c_wordExc (n + 5) (k := 2) (Or.inr rfl) ?_).trans (by rw [if_pos rfl])
    rw [cn_at at28]
    exact run_lamX rfl rfl (body.trans j)
theorem dueD_flat (a b x y : List Nat) : dep (dueD a b x y) ≤ 1 ∧ narrow (dueD a b x y) := by
  unfold dueD
  split
  · exact ⟨by simp [dep, deps], by simp, True.intro, True.intro, True.intro⟩
  · exact ⟨by simp [dep], True.intro⟩
/-- the law's own `same` -/
theorem same_loop (V : EV.Env) {a b : List Nat} (h : Cod a b) (S : Sto) {l0 l1 l3 l4 l5 l6 l7 l8 l9 l10 l13 l14 l15 : Option Vl} :
    ∃ l3', evS V (.for_ (.nm 3) (.rng1 (.bi .min (.cons (.bi .len (.cons (.var 11) .nil)) (.cons (.bi .len (.cons (.var 12) .nil)) .nil)))) f_law_case_right_2) [l0, l1, some (.d (.str [])), l3, l4, l5, l6, l7, l8, l9, l10, some (.d (.str a)), some (.d (.str b)), l13, l14, l15] S = .nx [l0, l1, some (.d (.str (a.take (pre a b)))), l3', l4, l5, l6, l7, l8, l9, l10, some (.d (.str a)), some (.d (.str b)), l13, l14, l15] S := by
  have la := h.la
  have lb := h.lb
  have hl : a.length ≤ lim := by rw [lim_val]; omega
  have hl2 : b.length ≤ lim := by rw [lim_val]; omega
  obtain ⟨m, hm⟩ : ∃ m, m = min a.length b.length := ⟨_, rfl⟩
  have mn : (if (b.length : Int) < (a.length : Int) then (b.length : Int) else (a.length : Int)) = (m : Nat) := by
    rw [hm]; split <;> omega
  have len1 : ∀ (i : Nat) (s : List Nat) (l : EV.Loc), l[i]? = some (some (.d (.str s))) → s.length ≤ lim → evE V (.bi .len (.cons (.var i) .nil)) l S = .ok (.d (.int s.length)) S := fun i s l hi hs => ev_bi1 (ev_var hi) (by simp only [biD]; rw [if_pos hs])
  have g1 : evI V (.rng1 (.bi .min (.cons (.bi .len (.cons (.var 11) .nil)) (.cons (.bi .len (.cons (.var 12) .nil)) .nil)))) [l0, l1, some (.d (.str [])), l3, l4, l5, l6, l7, l8, l9, l10, some (.d (.str a)), some (.d (.str b)), l13, l14, l15] S = .ok (.items (rangeD 0 (m : Nat))) S := by
    refine ev_rng1 ?_ (by unfold wideI; rw [Bool.and_eq_true]; exact ⟨decide_eq_true (by omega), decide_eq_true (by omega)⟩)
    have b1 : biD .min [.int a.length, .int b.length] = some (.int (m : Nat)) := by simp only [biD]; rw [mn]
    exact ev_biN (ds := [.int a.length, .int b.length]) (evEs_cons (len1 11 a _ rfl hl) (evEs_cons (len1 12 b _ rfl hl2) evEs_nil)) b1
  have pl := pre_le a b
  obtain ⟨l', S', f1, f2⟩ := forGo_inv (t := .nm 3) (b := evSs V f_law_case_right_2) (xs := rangeD 0 (m : Nat)) (k := 0) (l := [l0, l1, some (.d (.str [])), l3, l4, l5, l6, l7, l8, l9, l10, some (.d (.str a)), some (.d (.str b)), l13, l14, l15]) (S := S)
    (fun k l S' => ∃ l3', l = [l0, l1, some (.d (.str (a.take (min k (pre a b))))), l3', l4, l5, l6, l7, l8, l9, l10, some (.d (.str a)), some (.d (.str b)), l13, l14, l15] ∧ S' = S)
    ⟨l3, by simp, rfl⟩ (fun i x l S' hx hI => by
      obtain ⟨l3', rfl, rfl⟩ := hI
      obtain ⟨hi, rfl⟩ : i < m ∧ x = .int (i : Nat) := by
        unfold rangeD at hx
        rw [List.getElem?_map, Option.map_eq_some_iff] at hx
        obtain ⟨j, hj, rfl⟩ := hx
        obtain ⟨hj1, hj2⟩ := List.getElem?_eq_some_iff.mp hj
        simp at hj1 hj2
        exact ⟨by omega, by rw [← hj2]; simp⟩
      have s11 : ∀ (o2 : Option Vl) (i : Nat), evE V (.slc (.var 11) .no (.yes (.op .add (.var 3) (.lit (.int 1))))) [l0, l1, o2, some (.d (.int (i : Nat))), l4, l5, l6, l7, l8, l9, l10, some (.d (.str a)), some (.d (.str b)), l13, l14, l15] S' = .ok (.d (.str (a.take (i + 1)))) S' := fun o2 i => by
        have e := cut_take (t := a) (i + 1)
        simp [evSs, evS, evE, evEs, evO, evC, evI, R.opt, RS.opt, setTV, setT, asBool, isTy, isTyD, cmV, dicOf, peek, peeks, cmD, biV, biD, idxV, idxD, slcV, slcD, mtV, mtApp, mtPure, mtTyp, mtD, opD, take, takes, keepS, runF, noX, hl]
        simpa using e
      have s12 : ∀ (o2 : Option Vl) (i : Nat), evE V (.slc (.var 12) .no (.yes (.op .add (.var 3) (.lit (.int 1))))) [l0, l1, o2, some (.d (.int (i : Nat))), l4, l5, l6, l7, l8, l9, l10, some (.d (.str a)), some (.d (.str b)), l13, l14, l15] S' = .ok (.d (.str (b.take (i + 1)))) S' := fun o2 i => by
        have e := cut_take (t := b) (i + 1)
        simp [evSs, evS, evE, evEs, evO, evC, evI, R.opt, RS.opt, setTV, setT, asBool, isTy, isTyD, cmV, dicOf, peek, peeks, cmD, biV, biD, idxV, idxD, slcV, slcD, mtV, mtApp, mtPure, mtTyp, mtD, opD, take, takes, keepS, runF, noX, hl2]
        simpa using e
      have tk := take_eq a b (i + 1) (by omega) (by omega)
      refine ⟨_, [l0, l1, some (.d (.str (a.take (min (i + 1) (pre a b))))), some (.d (.int (i : Nat))), l4, l5, l6, l7, l8, l9, l10, some (.d (.str a)), some (.d (.str b)), l13, l14, l15], S', rfl, ?_, some (.d (.int (i : Nat))), by rw [Nat.zero_add], rfl⟩
      rw [Nat.zero_add]
      have c1 : evE V (.cmp .eq (.slc (.var 11) .no (.yes (.op .add (.var 3) (.lit (.int 1))))) (.slc (.var 12) .no (.yes (.op .add (.var 3) (.lit (.int 1)))))) [l0, l1, some (.d (.str (a.take (min i (pre a b))))), some (.d (.int (i : Nat))), l4, l5, l6, l7, l8, l9, l10, some (.d (.str a)), some (.d (.str b)), l13, l14, l15] S' = .ok (.d (.bl (decide (i + 1 ≤ pre a b)))) S' := by
        refine ev_cmp (s11 _ i) (s12 _ i) ?_
        show (if min 0 0 ≤ 60 then some (a.take (i + 1) == b.take (i + 1)) else none) = _
        rw [if_pos (by decide)]
        congr 1
        rw [Bool.eq_iff_iff]
        simp [tk]
      refine (evSs_cons (ev_asgD (v := .d (.str (a.take (min (i + 1) (pre a b))))) ?_)).trans rfl
      by_cases e : i + 1 ≤ pre a b
      · rw [decide_eq_true e] at c1
        have q := s11 (some (.d (.str (a.take (min i (pre a b)))))) i
        rw [Nat.min_eq_left e]
        exact (ev_ife_t c1).trans q
      · rw [decide_eq_false e] at c1
        have : min (i + 1) (pre a b) = min i (pre a b) := by omega
        rw [this]
        exact (ev_ife_f c1).trans (ev_var rfl))
  obtain ⟨l3', rfl, rfl⟩ := f2
  have hlen : (rangeD 0 (m : Nat)).length = m := by unfold rangeD; simp
  rw [hlen, Nat.zero_add, Nat.min_eq_right (by omega)] at f1
  exact ⟨l3', (ev_for g1).trans f1⟩
end K66
end

section
set_option Elab.async false
set_option linter.all false
set_option maxRecDepth 100000
set_option maxHeartbeats 4000000
namespace K66
open PySem EV
theorem max_two (i j : Nat) : biD .max [.lst [.int i, .int j]] = some (.int ((max i j : Nat) : Int)) := by
  show mostD (.int i) [.int j] = _
  simp only [mostD, ltD]
  by_cases h : (i : Int) < j
  · simp only [h, decide_true]; rw [Nat.max_eq_right (by omega)]
  · simp only [h, decide_false]; rw [Nat.max_eq_left (by omega)]
theorem c_case (n : Nat) {r : Nat} {S : Sto} {hd : List D} (hr : (S : List Cell)[r]? = some (.lst hd)) (hH : Hd hd) : ∃ hd', Hd hd' ∧ CN (n + 7) 26 [.ref r] S = .ok (.d (.bl true)) (S.set r (.lst hd')) := by
  have hlt := (List.getElem?_eq_some_iff.mp hr).1
  have at_r : ∀ (hd' : List D), ((S.set r (.lst hd') : Sto) : List Cell)[r]? = some (.lst hd') := fun hd' => List.getElem?_set_self hlt
  have set_r : ∀ (hd' hd'' : List D), (S.set r (.lst hd') : Sto).set r (.lst hd'') = S.set r (.lst hd'') := fun hd' hd'' => List.set_set ..
  obtain ⟨a, b, hd1, h, H1, c1⟩ := c_lawcode (n + 3) hr hH
  obtain ⟨x, y, hd2, h', H2, c2⟩ := c_lawcode (n + 3) (at_r hd1) H1
  rw [set_r] at c2
  have la := h.la
  have lb := h.lb
  have hl : a.length ≤ lim := by rw [lim_val]; omega
  have hl2 : b.length ≤ lim := by rw [lim_val]; omega
  have a1 : evS (UN (n + 6)) (.asg (.tp (.nm 6) (.nm 7)) (.tup (.cons (.call 21 "_law_code" (.cons (.var 0) .nil)) (.cons (.call 21 "_law_code" (.cons (.var 0) .nil)) .nil)))) [some (.ref r), none, none, none, none, none, none, none, none, none, none, none, none, none, none, none] S = .nx [some (.ref r), none, none, none, none, none, some (.d (.tup [.str a, .str b])), some (.d (.tup [.str x, .str y])), none, none, none, none, none, none, none, none] (S.set r (.lst hd2)) := by
    have q := ev_tup2 ((ev_call1 (V := UN (n + 6)) (f := 21) (x := "_law_code") (l := [some (.ref r), none, none, none, none, none, none, none, none, none, none, none, none, none, none, none]) (ev_var (i := 0) rfl)).trans c1) ((ev_call1 (V := UN (n + 6)) (f := 21) (x := "_law_code") (ev_var (i := 0) rfl)).trans c2)
    simp only [evS, q, R.st_ok]
    simp [setTV, setT]
  obtain ⟨l', S', f1, f2⟩ := forGo_inv (t := .nm 1) (b := evSs (UN (n + 6)) f_law_case_right_5) (xs := rangeD 0 5) (k := 0) (l := [some (.ref r), none, none, none, none, none, some (.d (.tup [.str a, .str b])), some (.d (.tup [.str x, .str y])), none, none, none, none, none, none, none, none]) (S := S.set r (.lst hd2))
    (fun k l S' => ∃ (o1 o8 o9 o10 o13 o14 o15 : Option Vl) (hd' : List D), Hd hd' ∧ l = [some (.ref r), o1, none, none, none, none, some (.d (.tup [.str a, .str b])), some (.d (.tup [.str x, .str y])), o8, o9, o10, none, none, o13, o14, o15] ∧ S' = S.set r (.lst hd'))
    ⟨none, none, none, none, none, none, none, hd2, H2, rfl, rfl⟩ (fun i z l S' hx hI => by
      obtain ⟨o1, o8, o9, o10, o13, o14, o15, hd', H', rfl, rfl⟩ := hI
      obtain ⟨p8, p9, p10, p13, p14, p15, hd'', H'', hb⟩ := cr5 n h (at_r hd') H' (l1 := some (.d z)) (l2 := none) (l3 := none) (l4 := none) (l5 := none) (l7 := some (.d (.tup [.str x, .str y]))) (l8 := o8) (l9 := o9) (l10 := o10) (l11 := none) (l12 := none) (l13 := o13) (l14 := o14) (l15 := o15)
      rw [set_r] at hb
      exact ⟨_, _, _, rfl, hb, some (.d z), p8, p9, p10, p13, p14, p15, hd'', H'', rfl, rfl⟩)
  obtain ⟨o1, o8, o9, o10, o13, o14, o15, hd3, H3, rfl, rfl⟩ := f2
  have a2 := (ev_for (t := .nm 1) (b := f_law_case_right_5) (ev_rng1 (V := UN (n + 6)) (l := [some (.ref r), none, none, none, none, none, some (.d (.tup [.str a, .str b])), some (.d (.tup [.str x, .str y])), none, none, none, none, none, none, none, none]) (S := S.set r (.lst hd2)) (ev_lit (d := .int 5)) (by decide))).trans f1
  obtain ⟨S3, hS3⟩ : ∃ S3, S3 = S.set r (.lst hd3) := ⟨_, rfl⟩
  rw [← hS3] at a2
  have a3 : evS (UN (n + 6)) (.asg (.tp (.nm 11) (.nm 12)) (.var 6)) [some (.ref r), o1, none, none, none, none, some (.d (.tup [.str a, .str b])), some (.d (.tup [.str x, .str y])), o8, o9, o10, none, none, o13, o14, o15] S3 = .nx [some (.ref r), o1, none, none, none, none, some (.d (.tup [.str a, .str b])), some (.d (.tup [.str x, .str y])), o8, o9, o10, some (.d (.str a)), some (.d (.str b)), o13, o14, o15] S3 := by simp [evS, evE, setTV, setT]
  obtain ⟨l3, a5⟩ := same_loop (UN (n + 6)) h S3 (l0 := some (.ref r)) (l1 := o1) (l3 := none) (l4 := none) (l5 := none) (l6 := some (.d (.tup [.str a, .str b]))) (l7 := some (.d (.tup [.str x, .str y]))) (l8 := o8) (l9 := o9) (l10 := o10) (l13 := o13) (l14 := o14) (l15 := o15)
  obtain ⟨fl, hfl⟩ : ∃ fl : Bool, fl = decide (a.take (min a.length b.length) ≠ b.take (min a.length b.length)) := ⟨_, rfl⟩
  have len1 : ∀ (i : Nat) (s : List Nat) (l : EV.Loc), l[i]? = some (some (.d (.str s))) → s.length ≤ lim → evE (UN (n + 6)) (.bi .len (.cons (.var i) .nil)) l S3 = .ok (.d (.int s.length)) S3 := fun i s l hi hs => ev_bi1 (ev_var hi) (by simp only [biD]; rw [if_pos hs])
  have slc1 : ∀ (i j : Nat) (s t : List Nat) (l : EV.Loc), l[i]? = some (some (.d (.str s))) → l[j]? = some (some (.d (.str t))) → s.length ≤ lim → t.length ≤ lim → evE (UN (n + 6)) (.slc (.var i) .no (.yes (.bi .len (.cons (.var j) .nil)))) l S3 = .ok (.d (.str (s.take t.length))) S3 := fun i j s t l hi hj hs ht => by
    have e := len1 j t l hj ht
    have ec := cut_take (t := s) t.length
    simp only [evE] at e
    simp only [evE, hi, R.bind_ok, evO, e, slcV, peek, Option.bind_some, slcD, if_pos hs, R.opt_some]
    rw [ec]
  have a6 : evS (UN (n + 6)) (.asg (.nm 4) (.and (.cmp .ne (.slc (.var 11) .no (.yes (.bi .len (.cons (.var 12) .nil)))) (.var 12)) (.cmp .ne (.slc (.var 12) .no (.yes (.bi .len (.cons (.var 11) .nil)))) (.var 11)))) [some (.ref r), o1, some (.d (.str (a.take (pre a b)))), l3, none, none, some (.d (.tup [.str a, .str b])), some (.d (.tup [.str x, .str y])), o8, o9, o10, some (.d (.str a)), some (.d (.str b)), o13, o14, o15] S3 = .nx [some (.ref r), o1, some (.d (.str (a.take (pre a b)))), l3, some (.d (.bl fl)), none, some (.d (.tup [.str a, .str b])), some (.d (.tup [.str x, .str y])), o8, o9, o10, some (.d (.str a)), some (.d (.str b)), o13, o14, o15] S3 := by
    refine ev_asgD (v := .d (.bl fl)) ?_
    have ne : ∀ s t : List Nat, cmD .ne (.str s) (.str t) = some (decide (s ≠ t)) := fun s t => by
      show (if min 0 0 ≤ 60 then some (!(s == t)) else none) = _
      rw [if_pos (by decide)]
      congr 1
      rw [Bool.eq_iff_iff]
      simp
    have q1 := ev_cmp (slc1 11 12 a b [some (.ref r), o1, some (.d (.str (a.take (pre a b)))), l3, none, none, some (.d (.tup [.str a, .str b])), some (.d (.tup [.str x, .str y])), o8, o9, o10, some (.d (.str a)), some (.d (.str b)), o13, o14, o15] rfl rfl hl hl2) (ev_var (i := 12) rfl) (ne (a.take b.length) b)
    have q2 := ev_cmp (slc1 12 11 b a [some (.ref r), o1, some (.d (.str (a.take (pre a b)))), l3, none, none, some (.d (.tup [.str a, .str b])), some (.d (.tup [.str x, .str y])), o8, o9, o10, some (.d (.str a)), some (.d (.str b)), o13, o14, o15] rfl rfl hl2 hl) (ev_var (i := 11) rfl) (ne (b.take a.length) a)
    have fe := flag_eq a b
    by_cases w1 : a.take b.length ≠ b
    · rw [decide_eq_true w1] at q1
      have e : decide (b.take a.length ≠ a) = fl := by
        rw [hfl]
        exact decide_eq_decide.mpr ⟨fun q => fe.mp ⟨w1, q⟩, fun q => (fe.mpr q).2⟩
      rw [e] at q2
      exact ev_and_t q1 q2
    · rw [decide_eq_false w1] at q1
      have e : fl = false := by
        rw [hfl]
        exact decide_eq_false fun q => w1 (fe.mpr q).1
      rw [e]
      exact ev_and_f q1
  have e14 := c_begins (n + 2) h S3
  have e15 := c_once (n + 2) h S3
  rw [← hfl] at e15
  have e19 := c_is (n + 4) 1 (.lst [.str (a.take (pre a b)), .bl fl]) S3 (by simp [dep, deps]) ⟨by simp, True.intro, True.intro, True.intro⟩
  have a7 := ev_lst2 ((ev_call1 (V := UN (n + 6)) (f := 14) (x := "begins_alike") (l := [some (.ref r), o1, some (.d (.str (a.take (pre a b)))), l3, some (.d (.bl fl)), none, some (.d (.tup [.str a, .str b])), some (.d (.tup [.str x, .str y])), o8, o9, o10, some (.d (.str a)), some (.d (.str b)), o13, o14, o15]) (ev_var (i := 6) rfl)).trans e14) ((ev_call1 (V := UN (n + 6)) (f := 15) (x := "told_at_once") (ev_var (i := 6) rfl)).trans e15)
  have a8 := ev_not ((ev_call2 (V := UN (n + 6)) (f := 19) (x := "_law_is") a7 (ev_lst2 (ev_var (i := 2) rfl) (ev_var (i := 4) rfl))).trans e19)
  have lx := h'.la
  have ly := h'.lb
  have p1 : a.length * (x.length + y.length) ≤ 4 * 8 := Nat.mul_le_mul la (by omega)
  have p2 : b.length * (x.length + y.length) ≤ 4 * 8 := Nat.mul_le_mul lb (by omega)
  have e22a := c_lawimg (n + 5) x y a S3 h.oa (by rw [lim_val]; omega) hl
  have e22b := c_lawimg (n + 5) x y b S3 h.ob (by rw [lim_val]; omega) hl2
  have a9 := ev_asgD (i := 5) (ev_tup2 ((ev_call2 (V := UN (n + 6)) (f := 22) (x := "_law_image") (l := [some (.ref r), o1, some (.d (.str (a.take (pre a b)))), l3, some (.d (.bl fl)), none, some (.d (.tup [.str a, .str b])), some (.d (.tup [.str x, .str y])), o8, o9, o10, some (.d (.str a)), some (.d (.str b)), o13, o14, o15]) (ev_var (i := 7) rfl) (ev_var (i := 11) rfl)).trans e22a) ((ev_call2 (V := UN (n + 6)) (f := 22) (x := "_law_image") (ev_var (i := 7) rfl) (ev_var (i := 12) rfl)).trans e22b))
  have i1 := img_len x y a
  have i2 := img_len x y b
  have hmx : evE (UN (n + 6)) x_law_case_right_1 [some (.ref r), o1, some (.d (.str (a.take (pre a b)))), l3, some (.d (.bl fl)), some (.d (.tup [.str (img x y a), .str (img x y b)])), some (.d (.tup [.str a, .str b])), some (.d (.tup [.str x, .str y])), o8, o9, o10, some (.d (.str a)), some (.d (.str b)), o13, o14, o15] S3 = .ok (.d (.lst [.int (img x y a).length, .int (img x y b).length])) S3 := by
    refine (ev_comp_map (ds := [.str (img x y a), .str (img x y b)]) (fun d => match d with | .str s => .int s.length | d => d) ?_ (fun d hd => ?_) (by simp [lim_val])).trans rfl
    · simp only [evI, evE, List.getElem?_cons_succ, List.getElem?_cons_zero, R.bind_ok, seqD, R.opt_some]
    · simp at hd
      rcases hd with rfl | rfl
      · exact ⟨_, rfl, len1 15 _ _ rfl (by rw [lim_val]; omega)⟩
      · exact ⟨_, rfl, len1 15 _ _ rfl (by rw [lim_val]; omega)⟩
  have hcm := ev_cmp (o := .gt) (ev_bi1 hmx (max_two _ _)) (ev_lit (d := .int 4)) (r := decide (¬ ((img x y a).length ≤ 4 ∧ (img x y b).length ≤ 4))) (by
    show some (decide ((4 : Int) < ((max (img x y a).length (img x y b).length : Nat) : Int))) = _
    congr 1
    exact decide_eq_decide.mpr (by omega))
  have a10 : evS (UN (n + 6)) (.asg (.nm 5) (.ife (.cmp .gt (.bi .max (.cons x_law_case_right_1 .nil)) (.lit (.int 4))) (.lit (.str [33, 78, 111, 67, 111, 100, 101])) (.var 5))) [some (.ref r), o1, some (.d (.str (a.take (pre a b)))), l3, some (.d (.bl fl)), some (.d (.tup [.str (img x y a), .str (img x y b)])), some (.d (.tup [.str a, .str b])), some (.d (.tup [.str x, .str y])), o8, o9, o10, some (.d (.str a)), some (.d (.str b)), o13, o14, o15] S3 = .nx [some (.ref r), o1, some (.d (.str (a.take (pre a b)))), l3, some (.d (.bl fl)), some (.d (dueD a b x y)), some (.d (.tup [.str a, .str b])), some (.d (.tup [.str x, .str y])), o8, o9, o10, some (.d (.str a)), some (.d (.str b)), o13, o14, o15] S3 := by
    refine ev_asgD (v := .d (dueD a b x y)) ?_
    unfold dueD
    by_cases e : (img x y a).length ≤ 4 ∧ (img x y b).length ≤ 4
    · rw [if_pos e]
      rw [decide_eq_false (not_not_intro e)] at hcm
      exact (ev_ife_f hcm).trans (ev_var rfl)
    · rw [if_neg e]
      rw [decide_eq_true e] at hcm
      exact (ev_ife_t hcm).trans ev_lit
  have e20 := c_due n h h' S3
  obtain ⟨dd, dn⟩ := dueD_flat a b x y
  have e19b := c_is (n + 4) 1 (dueD a b x y) S3 dd dn
  obtain ⟨hd4, H4, e25⟩ := c_sureright (n + 1) h (r := r) (S := S3) (by rw [hS3]; exact at_r hd3) H3
  rw [hS3, set_r, ← hS3] at e25
  have lam : evE (UN (n + 6)) (.call 20 "_law_word" (.cons (.lam 28 [6, 7]) .nil)) [some (.ref r), o1, some (.d (.str (a.take (pre a b)))), l3, some (.d (.bl fl)), some (.d (dueD a b x y)), some (.d (.tup [.str a, .str b])), some (.d (.tup [.str x, .str y])), o8, o9, o10, some (.d (.str a)), some (.d (.str b)), o13, o14, o15] S3 = .ok (.d (dueD a b x y)) S3 :=
    (ev_call1 (V := UN (n + 6)) (u := .clo 28 [.d (.tup [.str a, .str b]), .d (.tup [.str x, .str y])]) (by simp [evE, capsOf, plainV, R.opt])).trans e20
  have a11 := ev_ret (ev_and_t ((ev_call2 (V := UN (n + 6)) (f := 19) (x := "_law_is") lam (ev_var (i := 5) rfl)).trans e19b) ((ev_call2 (V := UN (n + 6)) (f := 25) (x := "_law_sure_right") (ev_var (i := 0) rfl) (ev_var (i := 6) rfl)).trans e25))
  refine ⟨hd4, H4, ?_⟩
  rw [cn_at (F := d_law_case_right.fn) rfl]
  refine (run_ret rfl ((evSs_cons a1).trans ((evSs_cons a2).trans ((evSs_cons a3).trans ((evSs_cons (ev_asgD ev_lit)).trans ((evSs_cons a5).trans ((evSs_cons a6).trans ((evSs_cons ((ev_if_f a8).trans rfl)).trans ((evSs_cons a9).trans ((evSs_cons a10).trans (evSs_ret a11))))))))))).trans ?_
  rw [List.take_of_length_le (by simp)]
end K66
end

section
set_option Elab.async false
set_option linter.all false
set_option maxRecDepth 100000
set_option maxHeartbeats 4000000
namespace K66
open PySem EV
theorem cod_ab : Cod [97] [98] := ⟨by intro c hc; simp at hc; subst hc; rfl, by intro c hc; simp at hc; subst hc; rfl, by decide, by decide⟩
theorem w_ok {w : List Nat} (h : w.all isC = true) : okW w := by rw [List.all_eq_true] at h; exact h
/-- joined with what is no code -/
theorem c_joinX (n : Nat) (z : D) (S : Sto) (h1 : smallC z) (h2 : isCode z = false) : CN (n + 4) 13 [.d (.tup [.str [97], .str [98]]), .d z] S = .exc 2 [] S := by
  rw [cn_at (F := d_joined_codes.fn) rfl]
  have e1 := c_chkC n cod_ab S
  have e2 := c_chk n z S h1
  rw [h2] at e2
  simp [d_joined_codes, evSs, evS, evE, evEs, evO, evC, evI, R.opt, RS.opt, setTV, setT, asBool, isTy, isTyD, cmV, dicOf, peek, peeks, cmD, biV, biD, idxV, idxD, slcV, slcD, mtV, mtApp, mtPure, mtTyp, mtD, opD, take, takes, keepS, runF, noX, e1, e2]
theorem c_imgX (n : Nat) (z : D) (S : Sto) (h1 : smallC z) (h2 : isCode z = false) : CN (n + 4) 6 [.d z, .d .non] S = .exc 2 [] S := by
  rw [cn_at (F := d_image.fn) rfl]
  have e2 := c_chk n z S h1
  rw [h2] at e2
  simp [d_image, evSs, evS, evE, evEs, evO, evC, evI, R.opt, RS.opt, setTV, setT, asBool, isTy, isTyD, cmV, dicOf, peek, peeks, cmD, biV, biD, idxV, idxD, slcV, slcD, mtV, mtApp, mtPure, mtTyp, mtD, opD, take, takes, keepS, runF, noX, e2]
theorem c_imgW (n : Nat) (S : Sto) : CN (n + 4) 6 [.d (.tup [.str [97], .str [98]]), .d (.str [97, 98, 99])] S = .exc 1 [] S := by
  rw [cn_at (F := d_image.fn) rfl]
  have e1 := c_chkC n cod_ab S
  have e2 := c_word (n + 1) (.str [97, 98, 99]) 12 S (by show 3 ≤ lim; decide)
  have e3 : isLetD (.str [97, 98, 99]) 12 = false := by decide
  rw [e3] at e2
  simp [d_image, evSs, evS, evE, evEs, evO, evC, evI, R.opt, RS.opt, setTV, setT, asBool, isTy, isTyD, cmV, dicOf, peek, peeks, cmD, biV, biD, idxV, idxD, slcV, slcD, mtV, mtApp, mtPure, mtTyp, mtD, opD, take, takes, keepS, runF, noX, e1, e2]
theorem c_bad31 (n : Nat) (z : D) (S : Sto) (h1 : smallC z) (h2 : isCode z = false) : CN (n + 6) 20 [.clo 31 [.d z]] S = .ok (.d (.str noCode)) S := by
  refine (c_wordExc (n + 5) (k := 2) (Or.inr rfl) ?_).trans (by rw [if_pos rfl])
  rw [cn_at (F := LamD.fn ⟨[], 1, (.call 6 "image" (.cons (.var 0) (.cons (.lit (.non)) .nil)))⟩) rfl]
  exact run_lamX rfl rfl ((ev_call2 (V := UN (n + 4)) (ev_var (i := 0) rfl) ev_lit).trans (c_imgX n z S h1 h2))
theorem c_bad30 (n : Nat) (S : Sto) : CN (n + 6) 20 [.clo 30 []] S = .ok (.d (.str noWord)) S := by
  refine (c_wordExc (n + 5) (k := 1) (Or.inl rfl) ?_).trans (by rw [if_neg (by decide)])
  rw [cn_at (F := LamD.fn ⟨[], 0, (.call 6 "image" (.cons (.tup (.cons (.lit (.str [97])) (.cons (.lit (.str [98])) .nil))) (.cons (.lit (.str [97, 98, 99])) .nil)))⟩) rfl]
  exact run_lamX rfl rfl ((ev_call2 (V := UN (n + 4)) (ev_tup2 ev_lit ev_lit) ev_lit).trans (c_imgW n S))
theorem c_bad29 (n : Nat) (z : D) (S : Sto) (h1 : smallC z) (h2 : isCode z = false) : CN (n + 6) 20 [.clo 29 [.d z]] S = .ok (.d (.str noCode)) S := by
  refine (c_wordExc (n + 5) (k := 2) (Or.inr rfl) ?_).trans (by rw [if_pos rfl])
  rw [cn_at (F := LamD.fn ⟨[], 1, (.call 13 "joined_codes" (.cons (.tup (.cons (.lit (.str [97])) (.cons (.lit (.str [98])) .nil))) (.cons (.var 0) .nil)))⟩) rfl]
  exact run_lamX rfl rfl ((ev_call2 (V := UN (n + 4)) (ev_tup2 ev_lit ev_lit) (ev_var (i := 0) rfl)).trans (c_joinX n z S h1 h2))
def bads : List D := [.non, .tup [], .tup [.str [97]], .lst [.str [97], .str [98]], .tup [.str [97, 98, 98, 97, 98], .str [97]], .tup [.str [99], .str [97]], .tup [.str [97], .int 5], .str [97, 98]]
theorem bads_at {k : Nat} (hk : k < bads.length) : smallC bads[k] ∧ isCode bads[k] = false := by
  have hk8 : k < 8 := hk
  match k, hk8 with
  | 0, _ => exact ⟨True.intro, rfl⟩
  | 1, _ => exact ⟨(fun d hd => absurd hd (by simp)), rfl⟩
  | 2, _ => exact ⟨by intro d hd; simp at hd; subst hd; show 1 ≤ lim; decide, rfl⟩
  | 3, _ => exact ⟨True.intro, rfl⟩
  | 4, _ => exact ⟨by intro d hd; simp at hd; rcases hd with rfl | rfl <;> (show _ ≤ lim; decide), rfl⟩
  | 5, _ => exact ⟨by intro d hd; simp at hd; rcases hd with rfl | rfl <;> (show _ ≤ lim; decide), rfl⟩
  | 6, _ => exact ⟨by intro d hd; simp at hd; rcases hd with rfl | rfl <;> first | exact True.intro | (show _ ≤ lim; decide), rfl⟩
  | 7, _ => exact ⟨True.intro, rfl⟩
end K66
end

section
set_option Elab.async false
set_option linter.all false
set_option maxRecDepth 100000
set_option maxHeartbeats 4000000
namespace K66
open PySem EV
theorem evs_call {V : EV.Env} {f : Nat} {x : String} {es : LEs} {l : EV.Loc} {S S1 : Sto} {vs : List Vl} (h : evEs V es l S = .ok vs S1) : evE V (.call f x es) l S = V.cf f vs S1 := by
  simp only [evE, h, R.bind_ok]
theorem cn_call2 {n f : Nat} {x : String} {a b : LE} {l : EV.Loc} {S : Sto} {u v : Vl} {r : EV.R Vl} (h1 : evE (UN n) a l S = .ok u S) (h2 : evE (UN n) b l S = .ok v S) (h : CN n f [u, v] S = r) : evE (UN n) (.call f x (.cons a (.cons b .nil))) l S = r := (ev_call2 h1 h2).trans h
theorem cn_call1 {n f : Nat} {x : String} {a : LE} {l : EV.Loc} {S S1 : Sto} {u : Vl} {r : EV.R Vl} (h1 : evE (UN n) a l S = .ok u S1) (h : CN n f [u] S1 = r) : evE (UN n) (.call f x (.cons a .nil)) l S = r := (ev_call1 h1).trans h
theorem ev_if_g {V : EV.Env} {c : LE} {a b : LSs} {l : EV.Loc} {S S1 : Sto} (h : evE V c l S = .ok (.d (.bl false)) S1) : evS V (.ife c a b) l S = evSs V b l S1 := by simp only [evS, h, R.st_ok, asBool, RS.opt_some]; rfl
theorem v_img : img [97, 98] [98] [97, 97, 98] = [97, 98, 97, 98, 98] := by decide
theorem v_rb : optD (rbL [97, 98, 98] [97, 98] [98]) = .str [97, 98] := rfl
theorem v_mb : mbD [97, 97, 97] [97] [97, 97] = .int 3 := rfl
theorem v_mb2 : mbD [98] [] [98] = .non := rfl
theorem c_law (n : Nat) (ns : List Int) (h1 : ns.length ≤ 63) : ∃ S', CN (n + 8) 27 [.scr (ns.map .int)] [] = .ok (.d (.bl true)) S' := by
  obtain ⟨hd, H0, c0⟩ := c_lawhand (n + 6) ns h1
  have A : ∀ w : List Nat, w.all isC = true → okW w := fun w h => w_ok h
  obtain ⟨S1, hS1⟩ : ∃ S1 : Sto, S1 = [.lst hd] := ⟨_, rfl⟩
  have e1 := c_image (n + 3) (a := [97, 98]) (b := [98]) (w := [97, 97, 98]) ⟨A _ rfl, A _ rfl, by decide, by decide⟩ (A _ rfl) (by decide) [.lst hd]
  rw [v_img] at e1
  have e2 := c_readback (n + 3) (a := [97, 98]) (b := [98]) (t := [97, 98, 98]) ⟨A _ rfl, A _ rfl, by decide, by decide⟩ (A _ rfl) (by decide) [.lst hd]
  rw [v_rb] at e2
  have e3 := c_manyback (n + 3) (a := [97]) (b := [97, 97]) (t := [97, 97, 97]) ⟨A _ rfl, A _ rfl, by decide, by decide⟩ (A _ rfl) (by decide) [.lst hd]
  rw [v_mb] at e3
  have e4 := c_manyback (n + 3) (a := []) (b := [98]) (t := [98]) ⟨A _ rfl, A _ rfl, by decide, by decide⟩ (A _ rfl) (by decide) [.lst hd, .lst [.str [97, 98, 97, 98, 98], .str [97, 98], .int 3]]
  rw [v_mb2] at e4
  have a1 : evS (UN (n + 7)) (.asg (.nm 1) (.call 16 "_law_hand" (.cons (.var 0) .nil))) [some (.scr (ns.map .int)), none, none, none, none, none] [] = .nx [some (.scr (ns.map .int)), some (.ref 0), none, none, none, none] [.lst hd] :=
    ev_asgD (cn_call1 (n := n + 7) (ev_var (i := 0) rfl) c0)
  have p2 : ∀ (s t : List Nat) (l : EV.Loc) (S : Sto), evE (UN (n + 7)) (.tup (.cons (.lit (.str s)) (.cons (.lit (.str t)) .nil))) l S = .ok (.d (.tup [.str s, .str t])) S := fun s t l S => ev_tup2 ev_lit ev_lit
  have z1 : evE (UN (n + 7)) (.call 6 "image" (.cons (.tup (.cons (.lit (.str [97, 98])) (.cons (.lit (.str [98])) .nil))) (.cons (.lit (.str [97, 97, 98])) .nil))) [some (.scr (ns.map .int)), some (.ref 0), none, none, none, none] [.lst hd] = .ok (.d (.str [97, 98, 97, 98, 98])) [.lst hd] := cn_call2 (p2 _ _ _ _) ev_lit e1
  have z2 : evE (UN (n + 7)) (.call 9 "read_back" (.cons (.tup (.cons (.lit (.str [97, 98])) (.cons (.lit (.str [98])) .nil))) (.cons (.lit (.str [97, 98, 98])) .nil))) [some (.scr (ns.map .int)), some (.ref 0), none, none, none, none] [.lst hd] = .ok (.d (.str [97, 98])) [.lst hd] := cn_call2 (p2 _ _ _ _) ev_lit e2
  have z3 : evE (UN (n + 7)) (.call 8 "many_back" (.cons (.tup (.cons (.lit (.str [97])) (.cons (.lit (.str [97, 97])) .nil))) (.cons (.lit (.str [97, 97, 97])) .nil))) [some (.scr (ns.map .int)), some (.ref 0), none, none, none, none] [.lst hd] = .ok (.d (.int 3)) [.lst hd] := cn_call2 (p2 _ _ _ _) ev_lit e3
  have z4 : evE (UN (n + 7)) (.call 8 "many_back" (.cons (.tup (.cons (.lit (.str [])) (.cons (.lit (.str [98])) .nil))) (.cons (.lit (.str [98])) .nil))) [some (.scr (ns.map .int)), some (.ref 0), some (.ref 1), none, none, none] [.lst hd, .lst [.str [97, 98, 97, 98, 98], .str [97, 98], .int 3]] = .ok (.d (.non)) [.lst hd, .lst [.str [97, 98, 97, 98, 98], .str [97, 98], .int 3]] := cn_call2 (p2 _ _ _ _) ev_lit e4
  have zz : evE (UN (n + 7)) (.lst (.cons (.call 6 "image" (.cons (.tup (.cons (.lit (.str [97, 98])) (.cons (.lit (.str [98])) .nil))) (.cons (.lit (.str [97, 97, 98])) .nil))) (.cons (.call 9 "read_back" (.cons (.tup (.cons (.lit (.str [97, 98])) (.cons (.lit (.str [98])) .nil))) (.cons (.lit (.str [97, 98, 98])) .nil))) (.cons (.call 8 "many_back" (.cons (.tup (.cons (.lit (.str [97])) (.cons (.lit (.str [97, 97])) .nil))) (.cons (.lit (.str [97, 97, 97])) .nil))) .nil)))) [some (.scr (ns.map .int)), some (.ref 0), none, none, none, none] [.lst hd] = .ok (.d (.lst [.str [97, 98, 97, 98, 98], .str [97, 98], .int 3])) [.lst hd] := ev_lstN (ds := [.str [97, 98, 97, 98, 98], .str [97, 98], .int 3]) (evEs_cons z1 (evEs_cons z2 (evEs_cons z3 evEs_nil)))
  have a2 := ev_asgD (i := 2) (ev_thaw zz)
  have a3 := ev_append2 (V := UN (n + 7)) (i := 2) (l := [some (.scr (ns.map .int)), some (.ref 0), some (.ref 1), none, none, none]) (S := [.lst hd, .lst [.str [97, 98, 97, 98, 98], .str [97, 98], .int 3]]) (S1 := [.lst hd, .lst [.str [97, 98, 97, 98, 98], .str [97, 98], .int 3]]) (n := 1) rfl rfl z4 rfl (by rw [lim_val]; decide)
  have e5 := c_is (n + 5) 1 (.lst [.str [97, 98, 97, 98, 98], .str [97, 98], .int 3, .non]) [.lst hd, .fzn [.str [97, 98, 97, 98, 98], .str [97, 98], .int 3, .non]] (by decide) ⟨by decide, True.intro, True.intro, True.intro, True.intro, True.intro⟩
  have a4 : evE (UN (n + 7)) (.call 19 "_law_is" (.cons (.frz (.var 2)) (.cons (.lst (.cons (.lit (.str [97, 98, 97, 98, 98])) (.cons (.lit (.str [97, 98])) (.cons (.lit (.int 3)) (.cons (.lit (.non)) .nil))))) .nil))) [some (.scr (ns.map .int)), some (.ref 0), some (.ref 1), none, none, none] [.lst hd, .lst [.str [97, 98, 97, 98, 98], .str [97, 98], .int 3, .non]] = .ok (.d (.bl true)) [.lst hd, .fzn [.str [97, 98, 97, 98, 98], .str [97, 98], .int 3, .non]] := by
    refine (evs_call (V := UN (n + 7)) (vs := [.d (.lst [.str [97, 98, 97, 98, 98], .str [97, 98], .int 3, .non]), .d (.lst [.str [97, 98, 97, 98, 98], .str [97, 98], .int 3, .non])]) (evEs_cons (S1 := [.lst hd, .fzn [.str [97, 98, 97, 98, 98], .str [97, 98], .int 3, .non]]) ?_ (evEs_cons (ev_lstN (ds := [.str [97, 98, 97, 98, 98], .str [97, 98], .int 3, .non]) (evEs_cons ev_lit (evEs_cons ev_lit (evEs_cons ev_lit (evEs_cons ev_lit evEs_nil))))) evEs_nil))).trans e5
    simp [evE, take, R.opt]
  have a4' := ev_not a4
  obtain ⟨S4, hS4⟩ : ∃ S4 : Sto, S4 = [.lst hd, .fzn [.str [97, 98, 97, 98, 98], .str [97, 98], .int 3, .non]] := ⟨_, rfl⟩
  obtain ⟨k, hk, hd1, H1, e6⟩ := c_any (n + 5) (r := 0) (St := [.lst hd, .fzn [.str [97, 98, 97, 98, 98], .str [97, 98], .int 3, .non]]) (xs := bads) rfl H0 (by decide) (by decide)
  obtain ⟨b1, b2⟩ := bads_at hk
  generalize bads[k] = z at *
  have a5 := ev_asgD (i := 3) (cn_call2 (n := n + 7) (f := 18) (x := "_law_any") (l := [some (.scr (ns.map .int)), some (.ref 0), some (.ref 1), none, none, none]) (ev_var (i := 1) rfl) (ev_lstN (ds := bads) (evEs_cons ev_lit (evEs_cons (ev_tupN (ds := []) evEs_nil) (evEs_cons (ev_tupN (ds := [.str [97]]) (evEs_cons ev_lit evEs_nil)) (evEs_cons (ev_lst2 ev_lit ev_lit) (evEs_cons (ev_tup2 ev_lit ev_lit) (evEs_cons (ev_tup2 ev_lit ev_lit) (evEs_cons (ev_tup2 ev_lit ev_lit) (evEs_cons ev_lit evEs_nil))))))))) e6)
  have lamE : ∀ (f : Nat) (S : Sto), evE (UN (n + 7)) (.lam f [3]) [some (.scr (ns.map .int)), some (.ref 0), some (.ref 1), some (.d z), none, none] S = .ok (.clo f [.d z]) S := fun f S => by simp [evE, capsOf, plainV, R.opt]
  have lamE' : ∀ (f : Nat) (S : Sto), evE (UN (n + 7)) (.lam f [3]) [some (.scr (ns.map .int)), some (.ref 0), some (.ref 1), some (.d z), some (.ref 2), none] S = .ok (.clo f [.d z]) S := fun f S => by simp [evE, capsOf, plainV, R.opt]
  have lamE0 : ∀ (f : Nat) (S : Sto), evE (UN (n + 7)) (.lam f []) [some (.scr (ns.map .int)), some (.ref 0), some (.ref 1), some (.d z), none, none] S = .ok (.clo f []) S := fun f S => by simp [evE, capsOf, plainV, R.opt]
  have a6 := ev_asgD (i := 4) (ev_thaw (ev_lst2 (cn_call1 (n := n + 7) (f := 20) (x := "_law_word") (lamE 31 [.lst hd1, .fzn [.str [97, 98, 97, 98, 98], .str [97, 98], .int 3, .non]]) (c_bad31 (n + 1) z _ b1 b2)) (cn_call1 (n := n + 7) (f := 20) (x := "_law_word") (lamE0 30 _) (c_bad30 (n + 1) _))))
  have a7 := ev_append2 (V := UN (n + 7)) (i := 4) (l := [some (.scr (ns.map .int)), some (.ref 0), some (.ref 1), some (.d z), some (.ref 2), none]) (S := [.lst hd1, .fzn [.str [97, 98, 97, 98, 98], .str [97, 98], .int 3, .non], .lst [.str noCode, .str noWord]]) rfl rfl (cn_call1 (n := n + 7) (f := 20) (x := "_law_word") (lamE' 29 _) (c_bad29 (n + 1) z _ b1 b2)) rfl (by simp [lim_val])
  have a8 : evE (UN (n + 7)) (.cmp .ne (.var 4) (.lst (.cons (.lit (.str [33, 78, 111, 67, 111, 100, 101])) (.cons (.lit (.str [33, 78, 111, 87, 111, 114, 100])) (.cons (.lit (.str [33, 78, 111, 67, 111, 100, 101])) .nil))))) [some (.scr (ns.map .int)), some (.ref 0), some (.ref 1), some (.d z), some (.ref 2), none] [.lst hd1, .fzn [.str [97, 98, 97, 98, 98], .str [97, 98], .int 3, .non], .lst [.str noCode, .str noWord, .str noCode]] = .ok (.d (.bl false)) [.lst hd1, .fzn [.str [97, 98, 97, 98, 98], .str [97, 98], .int 3, .non], .lst [.str noCode, .str noWord, .str noCode]] := by
    simp [evSs, evS, evE, evEs, evO, evC, evI, R.opt, RS.opt, setTV, setT, asBool, isTy, isTyD, cmV, dicOf, peek, peeks, cmD, biV, biD, idxV, idxD, slcV, slcD, mtV, mtApp, mtPure, mtTyp, mtD, opD, take, takes, keepS, runF, noX, noCode, noWord, eqD, eqDs, dep, deps]
  obtain ⟨ys, S', q1, q2, q3, hd2, H2, rfl⟩ := ev_comp_inv (V := UN (n + 7)) (elt := x_law_1e) (t := .nm 5) (own := [5]) (l := [some (.scr (ns.map .int)), some (.ref 0), some (.ref 1), some (.d z), some (.ref 2), none]) (S := [.lst hd1, .fzn [.str [97, 98, 97, 98, 98], .str [97, 98], .int 3, .non], .lst [.str noCode, .str noWord, .str noCode]]) (I := fun S' => ∃ hd', Hd hd' ∧ S' = [.lst hd', .fzn [.str [97, 98, 97, 98, 98], .str [97, 98], .int 3, .non], .lst [.str noCode, .str noWord, .str noCode]]) (P := fun y => y = .bl true) (ev_rng1 (ev_lit (d := .int 4)) (by decide)) ⟨hd1, H1, rfl⟩ (fun x hx S' hI => by
    obtain ⟨hd', H', rfl⟩ := hI
    obtain ⟨hd'', H'', ha⟩ := c_case n (r := 0) (S := [.lst hd', .fzn [.str [97, 98, 97, 98, 98], .str [97, 98], .int 3, .non], .lst [.str noCode, .str noWord, .str noCode]]) rfl H'
    exact ⟨_, _, _, rfl, cn_call1 (n := n + 7) (ev_var (i := 1) rfl) ha, ⟨hd'', H'', rfl⟩, rfl⟩) (by decide)
  have ys4 : ys = [.bl true, .bl true, .bl true, .bl true] := by
    have q4 : ys.length = 4 := q2.trans rfl
    match ys, q4, q3 with
    | [a, b, c, d], _, q3 =>
      simp at q3
      obtain ⟨rfl, rfl, rfl, rfl⟩ := q3
      rfl
  subst ys4
  refine ⟨[], ?_⟩
  rw [cn_at (F := d_law.fn) rfl]
  exact run_ret rfl ((evSs_cons a1).trans ((evSs_cons a2).trans ((evSs_cons a3).trans ((evSs_cons ((ev_if_g a4').trans rfl)).trans ((evSs_cons a5).trans ((evSs_cons a6).trans ((evSs_cons a7).trans ((evSs_cons ((ev_if_f a8).trans rfl)).trans (evSs_ret (ev_ret (ev_bi1 q1 rfl)))))))))))
theorem plain : Plain 40 := ⟨100, fun ns h1 _ => c_law 33 ns h1⟩
end K66
end

theorem PySem.Challenge.cw_placesayings_k66_whole_codes_put_and_rea_holds : PySem.Challenge.rw_placesayings_k66_whole_codes_put_and_rea.Holds := by
  exact k66_end K66.plain
